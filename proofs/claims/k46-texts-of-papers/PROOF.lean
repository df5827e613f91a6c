import PyProof.Rows.All
import Wide.All
import OpenK.AllK
import Wide.FinOn
import HandS.ForMost
import HandS.Deep
import HandS.NoneIn
import HandS.Style
import HandS.Flow
import HandS.Star
import HandS.TupSets
import HandS.SetFor
import HandS.CallLocal
import HandS.Ends
import HandS.Dict
import PySem.Challenge.RW_cutandlaid_k46_texts_of_papers
set_option Elab.async false
set_option linter.all false
set_option maxRecDepth 100000
/-! DLa: data by value. A heap G that never changes (shared data), a heap H with lists of one's own. -/
namespace DL
open PySem PySem.Spec PyProof.Rows L2
abbrev St := L2.St

abbrev D := PyData
/-- what a slot holds: nothing told, shared data, a list of one's own, a raw value -/
inductive Slot where
  | no | val (d : D) | own (ds : List D) | raw (v : V)
abbrev En := List Slot

/-- from (G, H) to (G', H'): nothing tracked was changed, what was one's own in H did not come into G -/
structure Ext (G H G' H' : Hp) : Prop where
  h : Same H H'
  g : Same G G'
  s : Same G' H'
  n : ∀ a o, H a = some o → G a = none → G' a = none
theorem Ext.refl {G H : Hp} (s : Same G H) : Ext G H G H := ⟨Same.refl H, Same.refl G, s, fun _ _ _ e => e⟩
theorem Ext.trans {G H G1 H1 G2 H2 : Hp} (a : Ext G H G1 H1) (b : Ext G1 H1 G2 H2) : Ext G H G2 H2 :=
  ⟨a.h.trans b.h, a.g.trans b.g, b.s, fun c o e n => b.n c o (a.h c o e) (a.n c o e n)⟩
theorem same_upd {H : Hp} {p : Addr} {o : HO} (h : H p = none) : Same H (upd H p o) := fun b x e => by
  rw [upd_ne (ne_of_none e h)]
  exact e
theorem same_upd2 {G H : Hp} {p : Addr} {o : HO} (s : Same G H) : Same (upd G p o) (upd H p o) := fun b x e => by
  by_cases hb : b = p
  · subst hb; rw [upd_same] at e ⊢; exact e
  · rw [upd_ne hb] at e ⊢; exact s b x e
/-- a new shared object -/
theorem Ext.new {G H : Hp} {p : Addr} {o : HO} (s : Same G H) (h : H p = none) : Ext G H (upd G p o) (upd H p o) :=
  ⟨same_upd h, same_upd (s.free h), same_upd2 s, fun a x e n => by rw [upd_ne (ne_of_none e h)]; exact n⟩
/-- a new object of one's own -/
theorem Ext.newOwn {G H : Hp} {p : Addr} {o : HO} (s : Same G H) (h : H p = none) : Ext G H G (upd H p o) :=
  ⟨same_upd h, Same.refl G, s.trans (same_upd h), fun _ _ _ n => n⟩
/-- one's own becomes shared -/
theorem Ext.share {G H G1 H1 : Hp} {p : Addr} {o : HO} (x : Ext G H G1 H1) (hn : H p = none) (h : H1 p = some o) (g : G1 p = none) : Ext G H (upd G1 p o) H1 :=
  ⟨x.h, x.g.trans (same_upd g), fun b y e => by
    by_cases hb : b = p
    · subst hb; rw [upd_same] at e; rw [h]; exact e
    · rw [upd_ne hb] at e; exact x.s b y e, fun a y e n => by rw [upd_ne (ne_of_none e hn)]; exact x.n a y e n⟩

theorem sameT {K : PySem.W.Frag} {H H' : Hp} {a : Addr} {xs : List V} (e : Same H H') (h : SqT K H a xs) : SqT K H' a xs := by
  rcases h with (h | ⟨o, h⟩) | h
  · exact .inl (.inl (e _ _ h))
  · exact .inl (.inr ⟨o, e _ _ h⟩)
  · exact .inr h
mutual
theorem dp_same {K : PySem.W.Frag} {H H' : Hp} (e : Same H H') : ∀ {d : D} {v : V}, Dp K H v d → Dp K H' v d
  | .none, _, h => by cases h; exact .non
  | .bool _, _, h => by cases h; exact .bl _
  | .int _, _, h => by cases h; exact .int _
  | .str _, _, h => by cases h; exact .str _
  | .list _, _, h => by
    cases h with
    | lst s a => exact .lst (e.seq s) (dps_same e a)
  | .tuple _, _, h => by
    cases h with
    | tup s a => exact .tup (sameT e s) (dps_same e a)
  | .dict _, _, h => by cases h
theorem dps_same {K : PySem.W.Frag} {H H' : Hp} (e : Same H H') : ∀ {ds : List D} {vs : List V}, DpAll K H vs ds → DpAll K H' vs ds
  | [], _, h => by cases h; exact .nil
  | _ :: _, _, h => by
    cases h with
    | cons a b => exact .cons (dp_same e a) (dps_same e b)
end
section
variable {K : PySem.W.Frag} {G : Hp}
theorem dps_len : ∀ {ds : List D} {vs : List V}, DpAll K G vs ds → vs.length = ds.length
  | [], _, h => by cases h; rfl
  | _ :: _, _, h => by
    cases h with
    | cons a b => rw [List.length_cons, List.length_cons, dps_len b]
theorem dps_get : ∀ {ds : List D} {vs : List V} {i : Nat} {d : D}, DpAll K G vs ds → ds[i]? = some d → ∃ v, vs[i]? = some v ∧ Dp K G v d
  | [], _, _, _, _, e => by simp at e
  | _ :: _, _, 0, _, h, e => by
    cases h with
    | cons a b => simp at e; subst e; exact ⟨_, rfl, a⟩
  | _ :: _, _, i + 1, _, h, e => by
    cases h with
    | cons a b =>
      obtain ⟨v, h1, h2⟩ := dps_get (i := i) b (by simpa using e)
      exact ⟨v, by simpa using h1, h2⟩
theorem dps_append : ∀ {ds : List D} {vs : List V} {es : List D} {ws : List V}, DpAll K G vs ds → DpAll K G ws es → DpAll K G (vs ++ ws) (ds ++ es)
  | [], _, _, _, h, h2 => by cases h; exact h2
  | _ :: _, _, _, _, h, h2 => by
    cases h with
    | cons a b => exact .cons a (dps_append b h2)
theorem dps_take : ∀ {ds : List D} {vs : List V} (n : Nat), DpAll K G vs ds → DpAll K G (vs.take n) (ds.take n)
  | _, _, 0, _ => by simp only [List.take_zero]; exact .nil
  | [], _, _ + 1, h => by cases h; exact .nil
  | _ :: _, _, n + 1, h => by
    cases h with
    | cons a b => exact .cons a (dps_take n b)
theorem dps_drop : ∀ {ds : List D} {vs : List V} (n : Nat), DpAll K G vs ds → DpAll K G (vs.drop n) (ds.drop n)
  | _, _, 0, h => by simpa using h
  | [], _, _ + 1, h => by cases h; exact .nil
  | _ :: _, _, n + 1, h => by
    cases h with
    | cons a b => exact dps_drop n b
theorem dps_set : ∀ {ds : List D} {vs : List V} (i : Nat) {d : D} {v : V}, DpAll K G vs ds → Dp K G v d → DpAll K G (vs.set i v) (ds.set i d)
  | [], _, _, _, _, h, _ => by cases h; exact .nil
  | _ :: _, _, 0, _, _, h, q => by
    cases h with
    | cons a b => exact .cons q b
  | _ :: _, _, i + 1, _, _, h, q => by
    cases h with
    | cons a b => exact .cons a (dps_set i b q)
theorem dps_reverse : ∀ {ds : List D} {vs : List V}, DpAll K G vs ds → DpAll K G vs.reverse ds.reverse
  | [], _, h => by cases h; exact .nil
  | _ :: _, _, h => by
    cases h with
    | cons a b => rw [List.reverse_cons, List.reverse_cons]; exact dps_append (dps_reverse b) (.cons a .nil)
theorem dps_dropLast {ds : List D} {vs : List V} (h : DpAll K G vs ds) : DpAll K G vs.dropLast ds.dropLast := by
  rw [List.dropLast_eq_take, List.dropLast_eq_take, dps_len h]
  exact dps_take _ h
theorem dps_erase : ∀ {ds : List D} {vs : List V} (i : Nat), DpAll K G vs ds → DpAll K G (vs.eraseIdx i) (ds.eraseIdx i)
  | [], _, _, h => by cases h; exact .nil
  | _ :: _, _, 0, h => by
    cases h with
    | cons a b => exact b
  | _ :: _, _, i + 1, h => by
    cases h with
    | cons a b => exact .cons a (dps_erase i b)
theorem dps_ints : ∀ (ns : List Int), DpAll K G (ns.map V.int) (ns.map PyData.int)
  | [] => .nil
  | _ :: ns => .cons (.int _) (dps_ints ns)
theorem ints_of : ∀ {ns : List Int} {vs : List V}, DpAll K G vs (ns.map PyData.int) → vs = ns.map V.int
  | [], _, h => by cases h; rfl
  | _ :: ns, _, h => by
    cases h with
    | cons a b => cases a; rw [ints_of b]; rfl
theorem strs_of : ∀ {ns : List Str} {vs : List V}, DpAll K G vs (ns.map PyData.str) → vs = ns.map V.str
  | [], _, h => by cases h; rfl
  | _ :: ns, _, h => by
    cases h with
    | cons a b => cases a; rw [strs_of b]; rfl
theorem bls_of : ∀ {ns : List Bool} {vs : List V}, DpAll K G vs (ns.map PyData.bool) → vs = ns.map V.bl
  | [], _, h => by cases h; rfl
  | _ :: ns, _, h => by
    cases h with
    | cons a b => cases a; rw [bls_of b]; rfl
theorem dps_strs : ∀ (ns : List Str), DpAll K G (ns.map V.str) (ns.map PyData.str)
  | [] => .nil
  | _ :: ns => .cons (.str _) (dps_strs ns)
end

def SlotOk (K : PySem.W.Frag) (H0 G H : Hp) (x : Option (Option V)) : Slot → Prop
  | .no => True
  | .val d => ∃ v, x = some (some v) ∧ Dp K G v d
  | .own ds => ∃ a vs, x = some (some (.ref a)) ∧ H a = some (.lst vs) ∧ G a = none ∧ H0 a = none ∧ DpAll K G vs ds
  | .raw v => x = some (some v)
/-- the slots as env tells them -/
structure StOk (K : PySem.W.Frag) (G0 H0 G H : Hp) (σ : St) (env : En) : Prop where
  ext : Ext G0 H0 G H
  len : σ.length = env.length
  ok : ∀ (i : Nat) s, env[i]? = some s → SlotOk K H0 G H σ[i]? s
  dis : ∀ (i j : Nat) a ds es, env[i]? = some (.own ds) → env[j]? = some (.own es) → σ[i]? = some (some (.ref a)) → σ[j]? = some (some (.ref a)) → i = j
section
variable {K : PySem.W.Frag} {G0 H0 G H G' H' : Hp} {σ : St} {env : En}
theorem StOk.exts (s : StOk K G0 H0 G H σ env) (x : Ext G H G' H') : StOk K G0 H0 G' H' σ env := by
  refine ⟨s.ext.trans x, s.len, fun i sl e => ?_, s.dis⟩
  have q := s.ok i sl e
  cases sl with
  | no => trivial
  | val d =>
    obtain ⟨v, e1, r⟩ := q
    exact ⟨v, e1, dp_same x.g r⟩
  | own ds =>
    obtain ⟨a, vs, e1, h, g, h0, r⟩ := q
    exact ⟨a, vs, e1, x.h _ _ h, x.n _ _ h g, h0, dps_same x.g r⟩
  | raw v => exact q
theorem StOk.sm (s : StOk K G0 H0 G H σ env) : Same G H := s.ext.s
theorem StOk.val (s : StOk K G0 H0 G H σ env) {i : Nat} {d : D} (e : env[i]? = some (.val d)) : ∃ v, σ[i]? = some (some v) ∧ Dp K G v d := s.ok i _ e
theorem StOk.own (s : StOk K G0 H0 G H σ env) {i : Nat} {ds : List D} (e : env[i]? = some (.own ds)) : ∃ a vs, σ[i]? = some (some (.ref a)) ∧ H a = some (.lst vs) ∧ G a = none ∧ H0 a = none ∧ DpAll K G vs ds := s.ok i _ e
/-- a slot stored -/
theorem StOk.set (s : StOk K G0 H0 G H σ env) (i : Nat) (sl : Slot) (x : Option V) (q : SlotOk K H0 G H (some x) sl)
    (dj : ∀ ds a, sl = .own ds → x = some (.ref a) → ∀ j es, env[j]? = some (.own es) → j ≠ i → σ[j]? ≠ some (some (.ref a))) : StOk K G0 H0 G H (σ.set i x) (env.set i sl) := by
  refine ⟨s.ext, by rw [List.length_set, List.length_set]; exact s.len, fun j t e => ?_, fun j k a ds es e1 e2 f1 f2 => ?_⟩
  · by_cases hj : j = i
    · subst hj
      have hl : j < env.length := by
        have := (List.getElem?_eq_some_iff.mp e).1
        rwa [List.length_set] at this
      rw [List.getElem?_set_self hl] at e
      cases e
      rw [List.getElem?_set_self (by rw [s.len]; exact hl)]
      exact q
    · rw [List.getElem?_set_ne (Ne.symm hj)] at e ⊢
      exact s.ok j t e
  · have lt : ∀ {j : Nat} {z : Slot}, (env.set i sl)[j]? = some z → j < env.length := fun h => by
      have := (List.getElem?_eq_some_iff.mp h).1
      rwa [List.length_set] at this
    by_cases hj : j = i
    · by_cases hk : k = i
      · rw [hj, hk]
      · exfalso
        subst hj
        have hl := lt e1
        rw [List.getElem?_set_self hl] at e1
        rw [List.getElem?_set_self (by rw [s.len]; exact hl)] at f1
        rw [List.getElem?_set_ne (Ne.symm hk)] at e2 f2
        exact dj ds a (Option.some.inj e1) (Option.some.inj f1) k es e2 hk f2
    · by_cases hk : k = i
      · exfalso
        subst hk
        have hl := lt e2
        rw [List.getElem?_set_self hl] at e2
        rw [List.getElem?_set_self (by rw [s.len]; exact hl)] at f2
        rw [List.getElem?_set_ne (Ne.symm hj)] at e1 f1
        exact dj es a (Option.some.inj e2) (Option.some.inj f2) j ds e1 hj f1
      · rw [List.getElem?_set_ne (Ne.symm hj)] at e1 f1
        rw [List.getElem?_set_ne (Ne.symm hk)] at e2 f2
        exact s.dis j k a ds es e1 e2 f1 f2
theorem StOk.setVal (s : StOk K G0 H0 G H σ env) (i : Nat) {v : V} {d : D} (r : Dp K G v d) : StOk K G0 H0 G H (σ.set i (some v)) (env.set i (.val d)) :=
  s.set i _ _ ⟨v, rfl, r⟩ fun _ _ e => nomatch e
theorem StOk.setNo (s : StOk K G0 H0 G H σ env) (i : Nat) (x : Option V) : StOk K G0 H0 G H (σ.set i x) (env.set i .no) :=
  s.set i _ _ trivial fun _ _ e => nomatch e
theorem StOk.setRaw (s : StOk K G0 H0 G H σ env) (i : Nat) (v : V) : StOk K G0 H0 G H (σ.set i (some v)) (env.set i (.raw v)) :=
  s.set i _ _ rfl fun _ _ e => nomatch e
/-- a list of one's own stored under one more name: it must be new -/
theorem StOk.setOwn (s : StOk K G0 H0 G H σ env) (i : Nat) {a : Addr} {vs : List V} {ds : List D} (x : Ext G H G' H') (n : H a = none) (h : H' a = some (.lst vs)) (g : G' a = none) (r : DpAll K G' vs ds) :
    StOk K G0 H0 G' H' (σ.set i (some (.ref a))) (env.set i (.own ds)) := by
  refine (s.exts x).set i _ _ ⟨a, vs, rfl, h, g, s.ext.h.free n, r⟩ fun ds' a' e1 e2 j es e3 hj f => ?_
  cases e2
  obtain ⟨b, ws, q1, q2, _⟩ := s.own e3
  rw [q1] at f; cases f
  rw [n] at q2; cases q2
/-- a list of one's own changed in place -/
theorem StOk.mut (s : StOk K G0 H0 G H σ env) {i : Nat} {a : Addr} {vs : List V} {ds es : List D} (e : env[i]? = some (.own ds)) (ea : σ[i]? = some (some (.ref a))) (ho : H a = some (.lst vs)) (hg : G a = none) (h0 : H0 a = none) {ws : List V} (r : DpAll K G ws es) :
    StOk K G0 H0 G (upd H a (.lst ws)) σ (env.set i (.own es)) := by
  have hl : i < env.length := (List.getElem?_eq_some_iff.mp e).1
  have keep : ∀ {b o}, G b = some o → b ≠ a := fun q => ne_of_none q hg
  have e1 : Ext G0 H0 G (upd H a (.lst ws)) := ⟨fun b o q => by rw [upd_ne (ne_of_none q h0)]; exact s.ext.h b o q, s.ext.g, fun b o q => by rw [upd_ne (keep q)]; exact s.ext.s b o q, s.ext.n⟩
  refine ⟨e1, by rw [List.length_set]; exact s.len, fun j t q => ?_, fun j k b ds' es' q1 q2 f1 f2 => ?_⟩
  · by_cases hj : j = i
    · subst hj
      rw [List.getElem?_set_self hl] at q
      cases q
      exact ⟨a, ws, ea, upd_same, hg, h0, r⟩
    · rw [List.getElem?_set_ne (Ne.symm hj)] at q
      have z := s.ok j t q
      cases t with
      | no => trivial
      | val d => exact z
      | own es' =>
        obtain ⟨b, us, f1, f2, f3, f4, f5⟩ := z
        have hb : b ≠ a := fun eb => hj (s.dis j i a es' ds q e (by rw [f1, eb]) ea)
        exact ⟨b, us, f1, by rw [upd_ne hb]; exact f2, f3, f4, f5⟩
      | raw v => exact z
  · have back : ∀ {j : Nat} {ds' : List D}, (env.set i (.own es))[j]? = some (.own ds') → ∃ ds'', env[j]? = some (.own ds'') := fun {j ds'} q => by
      by_cases hj : j = i
      · subst hj; exact ⟨_, e⟩
      · rw [List.getElem?_set_ne (Ne.symm hj)] at q; exact ⟨_, q⟩
    obtain ⟨_, g1⟩ := back q1
    obtain ⟨_, g2⟩ := back q2
    exact s.dis j k b _ _ g1 g2 f1 f2
/-- .. becomes shared -/
theorem StOk.frz (s : StOk K G0 H0 G H σ env) {i : Nat} {a : Addr} {vs : List V} {ds : List D} (e : env[i]? = some (.own ds)) (ea : σ[i]? = some (some (.ref a))) (ho : H a = some (.lst vs)) (hg : G a = none) (h0 : H0 a = none) (r : DpAll K G vs ds) :
    StOk K G0 H0 (upd G a (.lst vs)) H σ (env.set i (.val (.list ds))) := by
  have hl : i < env.length := (List.getElem?_eq_some_iff.mp e).1
  have sg : Same G (upd G a (.lst vs)) := same_upd hg
  refine ⟨s.ext.share h0 ho hg, by rw [List.length_set]; exact s.len, fun j t q => ?_, fun j k b ds' es' q1 q2 f1 f2 => ?_⟩
  · by_cases hj : j = i
    · subst hj
      rw [List.getElem?_set_self hl] at q
      cases q
      exact ⟨.ref a, ea, .lst (.inl (.inl upd_same)) (dps_same sg r)⟩
    · rw [List.getElem?_set_ne (Ne.symm hj)] at q
      have z := s.ok j t q
      cases t with
      | no => trivial
      | val d => obtain ⟨v, f1, f2⟩ := z; exact ⟨v, f1, dp_same sg f2⟩
      | own es' =>
        obtain ⟨b, us, f1, f2, f3, f4, f5⟩ := z
        have hb : b ≠ a := fun eb => hj (s.dis j i a es' ds q e (by rw [f1, eb]) ea)
        exact ⟨b, us, f1, f2, by rw [upd_ne hb]; exact f3, f4, dps_same sg f5⟩
      | raw v => exact z
  · have back : ∀ {j : Nat} {ds' : List D}, (env.set i (.val (.list ds)))[j]? = some (.own ds') → env[j]? = some (.own ds') := fun {j ds'} q => by
      by_cases hj : j = i
      · subst hj; rw [List.getElem?_set_self hl] at q; cases q
      · rw [List.getElem?_set_ne (Ne.symm hj)] at q; exact q
    exact s.dis j k b _ _ (back q1) (back q2) f1 f2
end

/-! ### the readings -/
def EV (K : PySem.W.Frag) (f : En → Option D) : TE := fun σ H Q => ∃ G0 H0 G env d, StOk K G0 H0 G H σ env ∧ f env = some d ∧ ∀ v G' H', Ext G H G' H' → Dp K G' v d → Q v H'
/-- a list that may be read (its items are shared) -/
def EL (K : PySem.W.Frag) (f : En → Option (List D)) : TE := fun σ H Q => ∃ G0 H0 G env ds, StOk K G0 H0 G H σ env ∧ f env = some ds ∧ ∀ a vs G' H', Ext G H G' H' → SqL K H' a vs → DpAll K G' vs ds → Q (.ref a) H'
/-- a new list -/
def EF (K : PySem.W.Frag) (f : En → Option (List D)) : TE := fun σ H Q => ∃ G0 H0 G env ds, StOk K G0 H0 G H σ env ∧ f env = some ds ∧ ∀ a vs G' H', Ext G H G' H' → H a = none → H' a = some (.lst vs) → G' a = none → DpAll K G' vs ds → Q (.ref a) H'
def TV (K : PySem.W.Frag) (f : En → Option Bool) : TT := fun σ H Q => ∃ G0 H0 G env b, StOk K G0 H0 G H σ env ∧ f env = some b ∧ ∀ G' H', Ext G H G' H' → Q b H'
def AV (K : PySem.W.Frag) (f : En → Option (List D)) : TA := fun σ H Q => ∃ G0 H0 G env ds, StOk K G0 H0 G H σ env ∧ f env = some ds ∧ ∀ vs G' H', Ext G H G' H' → DpAll K G' vs ds → Q vs H'
inductive Out where
  | nx (e : En) | rt (d : D) | bk (e : En) | ct (e : En)
def Fin (K : PySem.W.Frag) (G0 H0 : Hp) (D : Ends) : Out → Prop
  | .nx e => ∀ σ' G' H', StOk K G0 H0 G' H' σ' e → D.nx σ' H'
  | .rt d => ∀ v G' H', Ext G0 H0 G' H' → Dp K G' v d → D.rt v H'
  | .bk e => ∀ σ' G' H', StOk K G0 H0 G' H' σ' e → D.bk σ' H'
  | .ct e => ∀ σ' G' H', StOk K G0 H0 G' H' σ' e → D.ct σ' H'
def SV (K : PySem.W.Frag) (f : En → Option Out) : TS := fun D σ H => ∃ G0 H0 G env o, StOk K G0 H0 G H σ env ∧ f env = some o ∧ Fin K G0 H0 D o
/-- σ' is σ but for the slots ss -/
def Off (ss : List Nat) (σ σ' : St) : Prop := σ'.length = σ.length ∧ ∀ i : Nat, i ∉ ss → σ'[i]? = σ[i]?
theorem Off.refl (ss : List Nat) (σ : St) : Off ss σ σ := ⟨rfl, fun _ _ => rfl⟩
theorem Off.trans {ss ts us : List Nat} {σ σ1 σ2 : St} (a : Off ss σ σ1) (b : Off ts σ1 σ2) (h1 : ∀ i ∈ ss, i ∈ us) (h2 : ∀ i ∈ ts, i ∈ us) : Off us σ σ2 :=
  ⟨b.1.trans a.1, fun i hi => (b.2 i fun z => hi (h2 i z)).trans (a.2 i fun z => hi (h1 i z))⟩
theorem Off.set (σ : St) (i : Nat) (x : Option V) : Off [i] σ (σ.set i x) := ⟨List.length_set, fun j hj => List.getElem?_set_ne fun e => hj (by simp [e])⟩
def GV (K : PySem.W.Frag) (ss : List Nat) (g : D → En → Option En) : TG := fun v σ H Q => ∃ G0 H0 G env d env', StOk K G0 H0 G H σ env ∧ Dp K G v d ∧ g d env = some env' ∧ ∀ σ', StOk K G0 H0 G H σ' env' → Off ss σ σ' → Q σ' H
def GVs (K : PySem.W.Frag) (ss : List Nat) (g : List D → En → Option En) : TGs := fun vs σ H Q => ∃ G0 H0 G env ds env', StOk K G0 H0 G H σ env ∧ DpAll K G vs ds ∧ g ds env = some env' ∧ ∀ σ', StOk K G0 H0 G H σ' env' → Off ss σ σ' → Q σ' H

section
variable {X : Cx}
abbrev DE (X : Cx) (e : Expr) (f : En → Option D) : Prop := PE X e (EV X.K f)
abbrev DLs (X : Cx) (e : Expr) (f : En → Option (List D)) : Prop := PE X e (EL X.K f)
abbrev DF (X : Cx) (e : Expr) (f : En → Option (List D)) : Prop := PE X e (EF X.K f)
abbrev DT (X : Cx) (e : Expr) (f : En → Option Bool) : Prop := PT X e (TV X.K f)
abbrev DA (X : Cx) (es : List Expr) (f : En → Option (List D)) : Prop := PA X es (AV X.K f)
abbrev DS (X : Cx) (st : Stmt) (f : En → Option Out) : Prop := PS X st (SV X.K f)
abbrev DSs (X : Cx) (st : List Stmt) (f : En → Option Out) : Prop := PSs X st (SV X.K f)
abbrev DG (X : Cx) (e : Expr) (ss : List Nat) (g : D → En → Option En) : Prop := PG X e (GV X.K ss g)
abbrev DGs (X : Cx) (es : List Expr) (ss : List Nat) (g : List D → En → Option En) : Prop := PGs X es (GVs X.K ss g)

theorem pe_imp {e : Expr} {t t' : TE} (h : PE X e t) (i : ∀ σ H Q, t' σ H Q → t σ H Q) : PE X e t' := ⟨fun pins s σ H Q I q => h.run pins s σ H Q I (i σ H Q q)⟩
theorem pt_imp {e : Expr} {t t' : TT} (h : PT X e t) (i : ∀ σ H Q, t' σ H Q → t σ H Q) : PT X e t' := ⟨fun pins s σ H Q I q => h.run pins s σ H Q I (i σ H Q q)⟩
theorem pa_imp {e : List Expr} {t t' : TA} (h : PA X e t) (i : ∀ σ H Q, t' σ H Q → t σ H Q) : PA X e t' := ⟨fun pos pins s σ H Q I q => h.run pos pins s σ H Q I (i σ H Q q)⟩
theorem ps_imp {e : Stmt} {t t' : TS} (h : PS X e t) (i : ∀ D σ H, t' D σ H → t D σ H) : PS X e t' := ⟨fun pins s σ H D I q => h.run pins s σ H D I (i D σ H q)⟩
theorem pss_imp {e : List Stmt} {t t' : TS} (h : PSs X e t) (i : ∀ D σ H, t' D σ H → t D σ H) : PSs X e t' := ⟨fun pins s σ H D I q => h.run pins s σ H D I (i D σ H q)⟩
theorem pg_imp {e : Expr} {t t' : TG} (h : PG X e t) (i : ∀ v σ H Q, t' v σ H Q → t v σ H Q) : PG X e t' := ⟨fun pins s σ H v u Q I r q => h.run pins s σ H v u Q I r (i v σ H Q q)⟩
theorem pgs_imp {e : List Expr} {t t' : TGs} (h : PGs X e t) (i : ∀ v σ H Q, t' v σ H Q → t v σ H Q) : PGs X e t' := ⟨fun pins s σ H v u Q I r q => h.run pins s σ H v u Q I r (i v σ H Q q)⟩
theorem pi_imp {tg e : Expr} {t t' : TI} (h : PI X tg e t) (i : ∀ σ H R, t' σ H R → t σ H R) : PI X tg e t' := ⟨fun pins s σ H R I q => h.run pins s σ H R I (i σ H R q)⟩

/-! ### names, constants, conversions -/
def vn (i : Nat) : En → Option D := fun env => match env[i]? with | some (.val d) => some d | _ => none
def vnl (i : Nat) : En → Option (List D) := fun env => match env[i]? with | some (.own ds) => some ds | some (.val (.list ds)) => some ds | _ => none
def vc (d : D) : En → Option D := fun _ => some d
theorem vn_some {i : Nat} {env : En} {d : D} (h : vn i env = some d) : env[i]? = some (.val d) := by
  unfold vn at h; split at h
  · cases h; assumption
  · cases h
theorem de_name (i : Nat) {x : Str} {pos : Pos} (hN : X.N[i]? = some x := by rfl) (hv : Vis X.env.scope x := by first | exact Or.inl rfl | exact Or.inr (Or.inl rfl) | exact Or.inr (Or.inr rfl)) (hd : (x == ("__debug__" : Str)) = false := by decide)
    (hcd : (x == ("__classdict__" : Str)) = false := by decide) : DE X (.Name x pos) (vn i) := pe_imp (pv i hN hv hd hcd) fun σ H Q ⟨G0, H0, G, env, d, s, e, k⟩ => by
  obtain ⟨v, h1, h2⟩ := s.val (vn_some e)
  exact ⟨v, h1, k v G H (.refl s.sm) h2⟩
theorem dl_name (i : Nat) {x : Str} {pos : Pos} (hN : X.N[i]? = some x := by rfl) (hv : Vis X.env.scope x := by first | exact Or.inl rfl | exact Or.inr (Or.inl rfl) | exact Or.inr (Or.inr rfl)) (hd : (x == ("__debug__" : Str)) = false := by decide)
    (hcd : (x == ("__classdict__" : Str)) = false := by decide) : DLs X (.Name x pos) (vnl i) := pe_imp (pv i hN hv hd hcd) fun σ H Q ⟨G0, H0, G, env, ds, s, e, k⟩ => by
  unfold vnl at e
  split at e
  · rename_i es q
    cases e
    obtain ⟨a, vs, h1, h2, h3, h4, h5⟩ := s.own q
    exact ⟨.ref a, h1, k a vs G H (.refl s.sm) (.inl (.inl h2)) h5⟩
  · rename_i es q
    cases e
    obtain ⟨v, h1, h2⟩ := s.val q
    cases h2 with
    | lst h2 h3 => exact ⟨_, h1, k _ _ G H (.refl s.sm) (s.sm.seq h2) h3⟩
  · cases e
theorem de_int {i j pos} : DE X (.Constant (.int i) j pos) (vc (.int i)) := pe_imp pe_int fun σ H Q ⟨G0, H0, G, env, d, s, e, k⟩ => by
  cases e; exact k _ G H (.refl s.sm) (.int _)
theorem de_bool {i j pos} : DE X (.Constant (.bool i) j pos) (vc (.bool i)) := pe_imp pe_bl fun σ H Q ⟨G0, H0, G, env, d, s, e, k⟩ => by
  cases e; exact k _ G H (.refl s.sm) (.bl _)
theorem de_none {j pos} : DE X (.Constant .none j pos) (vc .none) := pe_imp pe_non fun σ H Q ⟨G0, H0, G, env, d, s, e, k⟩ => by
  cases e; exact k _ G H (.refl s.sm) .non
theorem de_str {i j pos} : DE X (.Constant (.str i) j pos) (vc (.str i)) := pe_imp pe_str fun σ H Q ⟨G0, H0, G, env, d, s, e, k⟩ => by
  cases e; exact k _ G H (.refl s.sm) (.str _)
/-- a module's constant: its value reads as data in any heap -/
theorem de_glob {x : Str} {v : V} {u : Value} {d : D} {pos : Pos} (hg : Gl X x) (hm : X.mg x = some u) (r : RelV v u) (hp : ∀ G, Dp X.K G v d) (hd : (x == ("__debug__" : Str)) = false := by decide) : DE X (.Name x pos) (vc d) :=
  pe_imp (pe_glob hg hm r hd) fun σ H Q ⟨G0, H0, G, env, d', s, e, k⟩ => by
    cases e; exact k _ G H (.refl s.sm) (hp G)
def lsOf : D → Option (List D)
  | .list ds => some ds
  | _ => none
theorem lsOf_some {d : D} {ds : List D} (h : lsOf d = some ds) : d = .list ds := by
  cases d <;> simp [lsOf] at h
  rw [h]
def loF (f : En → Option D) : En → Option (List D) := fun env => (f env).bind lsOf
theorem dl_of {e : Expr} {f : En → Option D} (h : DE X e f) : DLs X e (loF f) := pe_imp h fun σ H Q ⟨G0, H0, G, env, ds, s, e, k⟩ => by
  obtain ⟨d, e1, e2⟩ := Option.bind_eq_some_iff.mp e
  have e3 := lsOf_some e2
  subst e3
  refine ⟨G0, H0, G, env, _, s, e1, fun v G' H' x r => ?_⟩
  cases r with
  | lst h1 h2 => exact k _ _ G' H' x (x.s.seq h1) h2
theorem dl_new {e : Expr} {f : En → Option (List D)} (h : DF X e f) : DLs X e f := pe_imp h fun σ H Q ⟨G0, H0, G, env, ds, s, e, k⟩ =>
  ⟨G0, H0, G, env, ds, s, e, fun a vs G' H' x n h1 h2 h3 => k a vs G' H' x (.inl (.inl h1)) h3⟩
def toL (f : En → Option (List D)) : En → Option D := fun env => (f env).map PyData.list
theorem de_new {e : Expr} {f : En → Option (List D)} (h : DF X e f) : DE X e (toL f) := pe_imp h fun σ H Q ⟨G0, H0, G, env, d, s, e, k⟩ => by
  obtain ⟨ds, e1, rfl⟩ := Option.map_eq_some_iff.mp e
  exact ⟨G0, H0, G, env, ds, s, e1, fun a vs G' H' x n h1 h2 h3 => k _ (upd G' a (.lst vs)) H' (x.share n h1 h2) (.lst (.inl (.inl upd_same)) (dps_same (same_upd h2) h3))⟩
end
end DL

set_option Elab.async false
set_option linter.all false
set_option maxRecDepth 100000
/-! DLb: operators, subscripts, displays, calls. -/
namespace DL
open PySem PySem.Spec PyProof.Rows L2

/-! ### what the operators give -/
def mulOk (i j : Int) : Bool := decide (i.natAbs < 18446744073709551616) || decide (j.natAbs < 18446744073709551616) || decide (i.natAbs.log2 + j.natAbs.log2 < 1000000)
def divOk (j : Int) : Bool := decide (j ≠ 0) && decide (j.natAbs.log2 < 9000)
def fits (n : Nat) : Bool := decide (n ≤ 1000000)
def b2z (b : Bool) : Int := if b then 1 else 0
def dAdd : D → D → Option D
  | .int i, .int j => some (.int (i + j))
  | .str a, .str b => if fits (a.length + b.length) then some (.str (a ++ b)) else none
  | .list a, .list b => if fits (a.length + b.length) then some (.list (a ++ b)) else none
  | .tuple (x :: a), .tuple (y :: b) => if fits ((x :: a).length + (y :: b).length) then some (.tuple ((x :: a) ++ (y :: b))) else none
  | _, _ => none
def dSub : D → D → Option D
  | .int i, .int j => some (.int (i - j))
  | .bool i, .bool j => some (.int (b2z i - b2z j))
  | _, _ => none
def dMul : D → D → Option D
  | .int i, .int j => if mulOk i j then some (.int (i * j)) else none
  | _, _ => none
def dDiv : D → D → Option D
  | .int i, .int j => if divOk j then some (.int (i.fdiv j)) else none
  | _, _ => none
def dMod : D → D → Option D
  | .int i, .int j => if decide (j ≠ 0) then some (.int (i.fmod j)) else none
  | _, _ => none
def dPow : D → D → Option D
  | .int i, .int j => if decide (0 ≤ j ∧ j ≤ 100000 ∧ i.natAbs < 18446744073709551616) then some (.int (i ^ j.toNat)) else none
  | _, _ => none
def dLt : D → D → Option D
  | .int i, .int j => some (.bool (decide (i < j)))
  | _, _ => none
def dLe : D → D → Option D
  | .int i, .int j => some (.bool (decide (i ≤ j)))
  | _, _ => none
def dGt : D → D → Option D
  | .int i, .int j => some (.bool (decide (j < i)))
  | _, _ => none
def dGe : D → D → Option D
  | .int i, .int j => some (.bool (decide (j ≤ i)))
  | _, _ => none
def dEq (x y : D) : Option D := if SeqAt.shaped x && SeqAt.shaped y then some (.bool (PyData.eqv x y)) else none
def dNe (x y : D) : Option D := if SeqAt.shaped x && SeqAt.shaped y then some (.bool (!PyData.eqv x y)) else none
def isNn : D → Bool
  | .none => true
  | _ => false
def dIs : D → D → Option D
  | x, .none => some (.bool (isNn x))
  | .bool a, .bool b => some (.bool (decide (a = b)))
  | _, _ => none
def dIsNot : D → D → Option D
  | x, .none => some (.bool (!isNn x))
  | .bool a, .bool b => some (.bool (!decide (a = b)))
  | _, _ => none
/-- one sign -/
def sign1 (s : Str) : Option Nat := match s.cps.toList with
  | [c] => some c
  | _ => none
def inL (x : D) (ds : List D) : Bool := ds.any fun z => PyData.eqv z x
def dIn : D → D → Option D
  | .str a, .str b => (sign1 a).map fun c => .bool (decide (c ∈ b.cps.toList))
  | x, .list ds => if SeqAt.shaped x && SeqAt.shaped (.list ds) then some (.bool (inL x ds)) else none
  | x, .tuple ds => if SeqAt.shaped x && SeqAt.shaped (.tuple ds) then some (.bool (inL x ds)) else none
  | _, _ => none
def dNot : D → Option D
  | .bool b => some (.bool (!b))
  | _ => none
def dNotIn (x y : D) : Option D := (dIn x y).bind dNot
def dNeg : D → Option D
  | .int i => some (.int (-i))
  | _ => none
/-- truth -/
def truth : D → Option Bool
  | .none => some false
  | .bool b => some b
  | .int i => some (i != 0)
  | .str y => if decide (y.length ≤ 1000000) then some ((y.length : Int) != 0) else none
  | .list ds => some (!ds.isEmpty)
  | .tuple ds => some (!ds.isEmpty)
  | .dict _ => none
def boolOf : D → Option Bool
  | .bool b => some b
  | _ => none

/-- an operator's rule by data -/
def R2D (X : Cx) (f : Value → Value → Sem Value) (g : D → D → Option D) : Prop := ∃ r, OpR X f r ∧ ∀ (G H : Hp) (x y : V) (dx dy dz : D) (Q : VK), Same G H → Dp X.K G x dx → Dp X.K G y dy → g dx dy = some dz →
  (∀ v G' H', Ext G H G' H' → Dp X.K G' v dz → Q v H') → r x y H Q
def R1D (X : Cx) (f : Value → Sem Value) (g : D → Option D) : Prop := ∃ r, UnR X f r ∧ ∀ (G H : Hp) (x : V) (dx dz : D) (Q : VK), Same G H → Dp X.K G x dx → g dx = some dz →
  (∀ v G' H', Ext G H G' H' → Dp X.K G' v dz → Q v H') → r x H Q
def b2 (g : D → D → Option D) (f1 f2 : En → Option D) : En → Option D := fun env => (f1 env).bind fun x => (f2 env).bind fun y => g x y
def b1 (g : D → Option D) (f1 : En → Option D) : En → Option D := fun env => (f1 env).bind g

section
variable {X : Cx} {a b c : Expr} {fa fb fc : En → Option D} {pos : Pos}
theorem e2 {r : R2} {g : D → D → Option D} (h : ∀ (G H : Hp) (x y : V) (dx dy dz : D) (Q : VK), Same G H → Dp X.K G x dx → Dp X.K G y dy → g dx dy = some dz → (∀ v G' H', Ext G H G' H' → Dp X.K G' v dz → Q v H') → r x y H Q) (σ : St) (H : Hp) (Q : VK)
    (q : EV X.K (b2 g fa fb) σ H Q) : tOp r (EV X.K fa) (EV X.K fb) σ H Q := by
  obtain ⟨G0, H0, G, env, d, s, e, k⟩ := q
  obtain ⟨x, ex, e⟩ := Option.bind_eq_some_iff.mp e
  obtain ⟨y, ey, e⟩ := Option.bind_eq_some_iff.mp e
  refine ⟨G0, H0, G, env, x, s, ex, fun v G1 H1 x1 r1 => ⟨G0, H0, G1, env, y, s.exts x1, ey, fun u G2 H2 x2 r2 => ?_⟩⟩
  exact h G2 H2 v u x y d Q x2.s (dp_same x2.g r1) r2 e fun w G3 H3 x3 r3 => k w G3 H3 ((x1.trans x2).trans x3) r3
theorem de_bin {op : Operator} {g : D → D → Option D} (h : R2D X (binaryOp op) g) (ha : DE X a fa) (hb : DE X b fb) : DE X (.BinOp a op b pos) (b2 g fa fb) := by
  obtain ⟨r, ho, hr⟩ := h
  exact pe_imp (pe_op ho ha hb) (e2 hr)
theorem de_cmp {op : CmpOp} {g : D → D → Option D} (h : R2D X (compareOp op) g) (ha : DE X a fa) (hb : DE X b fb) (hm : behindInMarks op b = false := by rfl) : DE X (.Compare a [op] [b] pos) (b2 g fa fb) := by
  obtain ⟨r, ho, hr⟩ := h
  exact pe_imp (pe_cmpR ho ha hb hm) (e2 hr)
def tcF (g : D → D → Option D) (f1 f2 : En → Option D) : En → Option Bool := fun env => (b2 g f1 f2 env).bind boolOf
theorem dt_cmp {op : CmpOp} {g : D → D → Option D} (h : R2D X (compareOp op) g) (ha : DE X a fa) (hb : DE X b fb) (hm : behindInMarks op b = false := by rfl) : DT X (.Compare a [op] [b] pos) (tcF g fa fb) := by
  obtain ⟨r, ho, hr⟩ := h
  refine pt_imp (pt_cmpR ho ha hb hm) fun σ H Q ⟨G0, H0, G, env, d, s, e, k⟩ => ?_
  obtain ⟨z, ez, e⟩ := Option.bind_eq_some_iff.mp e
  refine e2 hr σ H _ ⟨G0, H0, G, env, z, s, ez, fun v G' H' x r => ?_⟩
  cases z <;> simp [boolOf] at e
  subst e
  cases r
  exact ⟨_, rfl, k G' H' x⟩
theorem de_un {op : UnaryOp} {g : D → Option D} (h : R1D X (unaryOp op) g) (ha : DE X a fa) : DE X (.UnaryOp op a pos) (b1 g fa) := by
  obtain ⟨r, ho, hr⟩ := h
  refine pe_imp (pe_un ho ha) fun σ H Q ⟨G0, H0, G, env, d, s, e, k⟩ => ?_
  obtain ⟨x, ex, e⟩ := Option.bind_eq_some_iff.mp e
  exact ⟨G0, H0, G, env, x, s, ex, fun v G1 H1 x1 r1 => hr G1 H1 v x d Q x1.s r1 e fun w G3 H3 x3 r3 => k w G3 H3 (x1.trans x3) r3⟩
theorem R2D.or {f : Value → Value → Sem Value} {g g' g2 : D → D → Option D} (h : R2D X f g) (h' : R2D X f g') (e : ∀ x y z, g2 x y = some z → g x y = some z ∨ g' x y = some z) : R2D X f g2 := by
  obtain ⟨r, ho, hr⟩ := h
  obtain ⟨r', ho', hr'⟩ := h'
  refine ⟨_, ho.or ho', fun G H x y dx dy dz Q s rx ry ez k => ?_⟩
  rcases e dx dy dz ez with q | q
  · exact .inl (hr G H x y dx dy dz Q s rx ry q k)
  · exact .inr (hr' G H x y dx dy dz Q s rx ry q k)

/-! ### the operators -/
def gI (C : Int → Int → Bool) (g : Int → Int → D) : D → D → Option D
  | .int i, .int j => if C i j then some (g i j) else none
  | _, _ => none
theorem gI_some {C : Int → Int → Bool} {g : Int → Int → D} {x y z : D} (h : gI C g x y = some z) : ∃ i j, x = .int i ∧ y = .int j ∧ C i j = true ∧ z = g i j := by
  unfold gI at h
  split at h
  · split at h
    · rename_i i j c; cases h; exact ⟨i, j, rfl, rfl, c, rfl⟩
    · cases h
  · cases h
/-- of two ints, by an int or a truth value -/
theorem r2_int {f : Value → Value → Sem Value} {C : Int → Int → Prop} {Cb : Int → Int → Bool} {g : Int → Int → V} {gd : Int → Int → D} (ho : OpR X f (rI C g)) (hc : ∀ i j, Cb i j = true → C i j) (hg : ∀ i j G, Dp X.K G (g i j) (gd i j)) : R2D X f (gI Cb gd) :=
  ⟨_, ho, fun G H x y dx dy dz Q s rx ry e k => by
    obtain ⟨i, j, rfl, rfl, c, rfl⟩ := gI_some e
    cases rx; cases ry
    exact ⟨i, j, rfl, rfl, hc i j c, k _ G H (.refl s) (hg i j G)⟩⟩
theorem r2_int0 {f : Value → Value → Sem Value} {g : Int → Int → V} {gd : Int → Int → D} (ho : OpR X f (rI0 g)) (hg : ∀ i j G, Dp X.K G (g i j) (gd i j)) : R2D X f (gI (fun _ _ => true) gd) :=
  ⟨_, ho, fun G H x y dx dy dz Q s rx ry e k => by
    obtain ⟨i, j, rfl, rfl, c, rfl⟩ := gI_some e
    cases rx; cases ry
    exact ⟨i, j, rfl, rfl, k _ G H (.refl s) (hg i j G)⟩⟩
theorem R2D.eq {f : Value → Value → Sem Value} {g g' : D → D → Option D} (h : R2D X f g) (e : ∀ x y z, g' x y = some z → g x y = some z) : R2D X f g' := by
  obtain ⟨r, ho, hr⟩ := h
  exact ⟨r, ho, fun G H x y dx dy dz Q s rx ry ez k => hr G H x y dx dy dz Q s rx ry (e _ _ _ ez) k⟩

theorem op_mulD : OpR X (binaryOp .Mult) (rI (fun i j => mulOk i j = true) fun i j => .int (i * j)) := opI fun i j _ _ _ _ _ hc q => by
  have hc : mulOk i j = true := hc
  unfold mulOk at hc
  simp only [Bool.or_eq_true, decide_eq_true_eq] at hc
  refine mul_int q ?_
  rcases hc with (hc | hc) | hc
  · exact CMul.ok (.inl ⟨by omega, by omega⟩)
  · exact CMul.ok (.inr ⟨by omega, by omega⟩)
  · have b : ∀ x : Int, Builtin.Int.intBits x ≤ x.natAbs.log2 + 1 := fun x => by
      unfold Builtin.Int.intBits
      split <;> omega
    intro z
    have h1 := b i
    have h2 := b j
    rw [Bool.and_eq_true] at z
    have z3 := of_decide_eq_true (show decide _ = true from z.2)
    have e : bitsLine = 134217728 := by decide
    rw [e] at z3
    omega
theorem op_divD : OpR X (binaryOp .FloorDiv) (rI (fun _ j => divOk j = true) fun i j => .int (i.fdiv j)) := opI fun i j _ _ _ _ _ hc q => by
  have hc : divOk j = true := hc
  unfold divOk at hc
  simp only [Bool.and_eq_true, decide_eq_true_eq] at hc
  exact floordiv_int hc.1 q (.inl (PyProof.noPylong_of_log2 hc.2))
theorem op_sub_bl : OpR X (binaryOp .Sub) (fun x y H Q => ∃ i k, x = .bl i ∧ y = .bl k ∧ Q (.int (b2z i - b2z k)) H) := by
  intro pins s σ H x y v u Q I rx ry h
  obtain ⟨i, k, rfl, rfl, q⟩ := h
  cases rx; cases ry
  exact sub_bool ⟨.int _, H, I.tok _, ⟨_, rfl⟩, q⟩
theorem lenFits {n : Nat} (h : fits n = true) : n ≤ sizeLine := by
  unfold fits at h
  have := of_decide_eq_true h
  rw [sizeLine_eq]; omega
/-- list + list, both as they may be read -/
def rCatL (K : PySem.W.Frag) : R2 := fun x y H Q => ∃ l b xs zs, x = .ref l ∧ y = .ref b ∧ SqL K H l xs ∧ SqL K H b zs ∧ xs.length + zs.length ≤ sizeLine ∧ ∀ p, H p = none → Q (.ref p) (upd H p (.lst (xs ++ zs)))
theorem op_catL : OpR X (binaryOp .Add) (rCatL X.K) := by
  intro pins s σ H x y v u Q I rx ry h
  obtain ⟨l, b, xs, zs, rfl, rfl, hH, hB, hz, q⟩ := h
  cases rx
  cases ry
  obtain ⟨its, r, p1, z1⟩ := I.list hH
  obtain ⟨its2, r2, p2, z2⟩ := I.list hB
  have hl := r.length
  have hl2 := r2.length
  obtain ⟨⟨cls, dd, data, sl⟩, n, ho, hc, hdn, hd⟩ := p1
  obtain ⟨⟨cls2, dd2, data2, sl2⟩, n2, ho2, hc2, hdn2, hd2⟩ := p2
  simp only at hc hd hc2 hd2
  subst hc hd hc2 hd2
  have ea : its.toArray ++ its2.toArray = (its ++ its2).toArray := by simp
  refine concat_meets ⟨_, ho, rfl⟩ ⟨_, ho2, rfl⟩ noFill_list_add seq_list_add PySem.F.slot_list_add PySem.F.entry_list_add (PySem.F.args_list_add_2 _ _) (list_addW l b its.toArray its2.toArray n n2 dd dd2 sl sl2 (by simp only [List.size_toArray]; omega)) ⟨ho, ho2, ?_⟩
  rw [ea]
  exact ⟨.ref _, _, I.lnew (t' := s.toks) (r.append r2) (by rw [List.length_append]; omega), rfl, q _ I.fresh⟩
end
end DL

set_option Elab.async false
set_option linter.all false
set_option maxRecDepth 100000
/-! DLc: the operators' instances, subscripts, slices, displays, calls. -/
namespace DL
open PySem PySem.Spec PyProof.Rows L2
section
variable {X : Cx} {a b c : Expr} {fa fb fc : En → Option D} {pos : Pos}
theorem units65 {k : Nat} {A : Around} (r : Room k A) : A.units + 65 < cLine := by have := r.un; omega

theorem r_addI : R2D X (binaryOp .Add) (gI (fun _ _ => true) fun i j => .int (i + j)) := r2_int0 op_add fun _ _ _ => .int _
def gS (x y : D) : Option D := match x, y with
  | .str a, .str b => if fits (a.length + b.length) then some (.str (a ++ b)) else none
  | _, _ => none
theorem r_addS : R2D X (binaryOp .Add) gS := ⟨_, op_add_str, fun G H x y dx dy dz Q s rx ry e k => by
  unfold gS at e
  split at e
  · split at e
    · rename_i a b h
      cases e; cases rx; cases ry
      exact ⟨a, b, rfl, rfl, lenFits h, k _ G H (.refl s) (.str _)⟩
    · cases e
  · cases e⟩
def gL (x y : D) : Option D := match x, y with
  | .list a, .list b => if fits (a.length + b.length) then some (.list (a ++ b)) else none
  | _, _ => none
theorem r_addL : R2D X (binaryOp .Add) gL := ⟨_, op_catL, fun G H x y dx dy dz Q s rx ry e k => by
  unfold gL at e
  split at e
  · split at e
    · rename_i a b h
      cases e
      cases rx with
      | lst h1 h2 =>
        cases ry with
        | lst h3 h4 =>
          refine ⟨_, _, _, _, rfl, rfl, s.seq h1, s.seq h3, ?_, fun p hp => ?_⟩
          · rw [dps_len h2, dps_len h4]; exact lenFits h
          · exact k _ _ _ (.new s hp) (.lst (.inl (.inl upd_same)) (dps_same (same_upd (s.free hp)) (dps_append h2 h4)))
    · cases e
  · cases e⟩
def gT (x y : D) : Option D := match x, y with
  | .tuple (x :: a), .tuple (y :: b) => if fits ((x :: a).length + (y :: b).length) then some (.tuple ((x :: a) ++ (y :: b))) else none
  | _, _ => none
theorem r_addT : R2D X (binaryOp .Add) gT := ⟨_, op_catT, fun G H x y dx dy dz Q s rx ry e k => by
  unfold gT at e
  split at e
  · split at e
    · rename_i x a y b h
      cases e
      cases rx with
      | tup h1 h2 =>
        cases ry with
        | tup h3 h4 =>
          refine ⟨_, _, _, _, rfl, rfl, sameT s h1, sameT s h3, ?_, ?_, fun z => ?_, fun z p hp => ?_⟩
          · cases h2; simp
          · rw [dps_len h2, dps_len h4]; exact lenFits h
          · subst z; cases h4
          · exact k _ _ _ (.new s hp) (.tup (.inl (.inl upd_same)) (dps_same (same_upd (s.free hp)) (dps_append h2 h4)))
    · cases e
  · cases e⟩
theorem r_add : R2D X (binaryOp .Add) dAdd :=
  (r_addI.or (r_addS.or (r_addL.or r_addT (g2 := fun x y => (gL x y).or (gT x y)) fun x y z h => Option.or_eq_some_iff.mp h |>.imp id (·.2)) (g2 := fun x y => (gS x y).or ((gL x y).or (gT x y))) fun x y z h => Option.or_eq_some_iff.mp h |>.imp id (·.2)) (g2 := dAdd) fun x y z h => by
    unfold dAdd at h
    split at h
    · exact .inl h
    · exact .inr (by simpa [gS, gL, gT] using h)
    · exact .inr (by simpa [gS, gL, gT] using h)
    · exact .inr (by simpa [gS, gL, gT] using h)
    · cases h)
theorem r_sub : R2D X (binaryOp .Sub) dSub := by
  have h1 : R2D X (binaryOp .Sub) (gI (fun _ _ => true) fun i j => .int (i - j)) := r2_int0 op_sub fun _ _ _ => .int _
  have h2 : R2D X (binaryOp .Sub) (fun x y => match x, y with | .bool i, .bool j => some (.int (b2z i - b2z j)) | _, _ => none) := ⟨_, op_sub_bl, fun G H x y dx dy dz Q s rx ry e k => by
    dsimp only at e
    split at e
    · cases e; cases rx; cases ry; exact ⟨_, _, rfl, rfl, k _ G H (.refl s) (.int _)⟩
    · cases e⟩
  refine h1.or h2 fun x y z h => ?_
  unfold dSub at h
  split at h
  · exact .inl h
  · exact .inr h
  · cases h
theorem r_mul : R2D X (binaryOp .Mult) dMul := (r2_int (Cb := mulOk) op_mulD (fun _ _ h => h) fun _ _ _ => .int _).eq fun x y z h => by
  unfold dMul at h
  split at h
  · exact h
  · cases h
theorem r_div : R2D X (binaryOp .FloorDiv) dDiv := (r2_int (Cb := fun _ j => divOk j) op_divD (fun _ _ h => h) fun _ _ _ => .int _).eq fun x y z h => by
  unfold dDiv at h
  split at h
  · exact h
  · cases h
theorem r_mod : R2D X (binaryOp .Mod) dMod := (r2_int (Cb := fun _ j => decide (j ≠ 0)) op_modN (fun _ _ h => of_decide_eq_true h) fun _ _ _ => .int _).eq fun x y z h => by
  unfold dMod at h
  split at h
  · exact h
  · cases h
theorem r_pow : R2D X (binaryOp .Pow) dPow := (r2_int (Cb := fun i j => decide (0 ≤ j ∧ j ≤ 100000 ∧ i.natAbs < 18446744073709551616)) op_pow (fun i j h => by
    have h := of_decide_eq_true h
    exact ⟨h.1, by omega, by have := h.2.2; omega⟩) fun _ _ _ => .int _).eq fun x y z h => by
  unfold dPow at h
  split at h
  · exact h
  · cases h
theorem r_lt : R2D X (compareOp .Lt) dLt := (r2_int0 op_lt fun _ _ _ => .bl _).eq fun x y z h => by
  unfold dLt at h
  split at h
  · exact h
  · cases h
theorem r_le : R2D X (compareOp .LtE) dLe := (r2_int0 op_le fun _ _ _ => .bl _).eq fun x y z h => by
  unfold dLe at h
  split at h
  · exact h
  · cases h
theorem r_gt : R2D X (compareOp .Gt) dGt := (r2_int0 op_gt fun _ _ _ => .bl _).eq fun x y z h => by
  unfold dGt at h
  split at h
  · exact h
  · cases h
theorem r_ge : R2D X (compareOp .GtE) dGe := (r2_int0 op_ge fun _ _ _ => .bl _).eq fun x y z h => by
  unfold dGe at h
  split at h
  · exact h
  · cases h
theorem r_eq {k : Nat} (hr : Room k X.A) : R2D X (compareOp .Eq) dEq := ⟨_, op_eqD hr.units, fun G H x y dx dy dz Q s rx ry e q => by
  unfold dEq at e
  split at e
  · rename_i h
    rw [Bool.and_eq_true] at h
    cases e
    exact ⟨dx, dy, dp_same s rx, dp_same s ry, h.1, h.2, q _ G H (.refl s) (.bl _)⟩
  · cases e⟩
theorem r_ne {k : Nat} (hr : Room k X.A) : R2D X (compareOp .NotEq) dNe := ⟨_, op_neD hr.units, fun G H x y dx dy dz Q s rx ry e q => by
  unfold dNe at e
  split at e
  · rename_i h
    rw [Bool.and_eq_true] at h
    cases e
    exact ⟨dx, dy, dp_same s rx, dp_same s ry, h.1, h.2, q _ G H (.refl s) (.bl _)⟩
  · cases e⟩
theorem non_of {K : PySem.W.Frag} {G : Hp} {x : V} {d : D} (r : Dp K G x d) : decide (x = .non) = isNn d := by
  cases r <;> simp [isNn]
theorem r_is : R2D X (compareOp .Is) dIs := by
  have h1 : R2D X (compareOp .Is) (fun x y => match y with | .none => some (.bool (isNn x)) | _ => none) := ⟨_, op_isN, fun G H x y dx dy dz Q s rx ry e k => by
    dsimp only at e
    split at e
    · cases e; cases ry; exact ⟨rfl, by rw [non_of rx]; exact k _ G H (.refl s) (.bl _)⟩
    · cases e⟩
  have h2 : R2D X (compareOp .Is) (fun x y => match x, y with | .bool i, .bool j => some (.bool (decide (i = j))) | _, _ => none) := ⟨_, op_isBl, fun G H x y dx dy dz Q s rx ry e k => by
    dsimp only at e
    split at e
    · cases e; cases rx; cases ry; exact ⟨_, _, rfl, rfl, k _ G H (.refl s) (.bl _)⟩
    · cases e⟩
  refine h1.or h2 fun x y z h => ?_
  unfold dIs at h
  split at h
  · exact .inl h
  · exact .inr h
  · cases h
theorem r_isnot : R2D X (compareOp .IsNot) dIsNot := by
  have h1 : R2D X (compareOp .IsNot) (fun x y => match y with | .none => some (.bool (!isNn x)) | _ => none) := ⟨_, op_notN, fun G H x y dx dy dz Q s rx ry e k => by
    dsimp only at e
    split at e
    · cases e; cases ry; exact ⟨rfl, by rw [non_of rx]; exact k _ G H (.refl s) (.bl _)⟩
    · cases e⟩
  have h2 : R2D X (compareOp .IsNot) (fun x y => match x, y with | .bool i, .bool j => some (.bool (!decide (i = j))) | _, _ => none) := ⟨_, op_notBl, fun G H x y dx dy dz Q s rx ry e k => by
    dsimp only at e
    split at e
    · cases e; cases rx; cases ry; exact ⟨_, _, rfl, rfl, k _ G H (.refl s) (.bl _)⟩
    · cases e⟩
  refine h1.or h2 fun x y z h => ?_
  unfold dIsNot at h
  split at h
  · exact .inl h
  · exact .inr h
  · cases h
def rInT (K : PySem.W.Frag) (neg : Bool) : R2 := fun x y H Q => ∃ d ds, Dp K H x d ∧ Dp K H y (.tuple ds) ∧ SeqAt.shaped d = true ∧ SeqAt.shaped (.tuple ds) = true ∧ Q (.bl (if neg then !inL d ds else inL d ds)) H
theorem op_inT (hu : X.A.units + 65 < cLine) : OpR X (compareOp .In) (rInT X.K false) := by
  intro pins s σ H x y v u Q I rx ry ⟨d, ds, hd, he, sd, se, q⟩
  obtain ⟨as, q1⟩ := Dp.reads I d x v hd rx
  obtain ⟨bs, q2⟩ := Dp.reads I (.tuple ds) y u he ry
  exact SeqAt.in_tuple_reads q2 q1 (SeqAt.canLay_of_shaped se) (SeqAt.canLay_of_shaped sd) (room_in_shaped sd hu) ⟨.bl _, H, I, rfl, q⟩
theorem op_notInT (hu : X.A.units + 65 < cLine) : OpR X (compareOp .NotIn) (rInT X.K true) := by
  intro pins s σ H x y v u Q I rx ry ⟨d, ds, hd, he, sd, se, q⟩
  obtain ⟨as, q1⟩ := Dp.reads I d x v hd rx
  obtain ⟨bs, q2⟩ := Dp.reads I (.tuple ds) y u he ry
  exact SeqAt.notIn_tuple_reads q2 q1 (SeqAt.canLay_of_shaped se) (SeqAt.canLay_of_shaped sd) (room_in_shaped sd hu) ⟨.bl _, H, I, rfl, q⟩
theorem sign1_of {a : Str} {c : Nat} (h : sign1 a = some c) : a = ⟨#[c]⟩ := by
  obtain ⟨⟨l⟩⟩ := a
  unfold sign1 at h
  cases l with
  | nil => simp at h
  | cons x r =>
    cases r with
    | nil => simp at h; subst h; rfl
    | cons y z => simp at h
theorem r_in {k : Nat} (hr : Room k X.A) : R2D X (compareOp .In) dIn := by
  have h1 : R2D X (compareOp .In) (fun x y => match x, y with | .str a, .str b => (sign1 a).map fun c => .bool (decide (c ∈ b.cps.toList)) | _, _ => none) := ⟨_, op_in_sign, fun G H x y dx dy dz Q s rx ry e q => by
    dsimp only at e
    split at e
    · rename_i a b
      obtain ⟨c, hc, rfl⟩ := Option.map_eq_some_iff.mp e
      have ha := sign1_of hc
      cases rx; cases ry
      exact ⟨c, b, by rw [ha], rfl, q _ G H (.refl s) (.bl _)⟩
    · cases e⟩
  have h2 : R2D X (compareOp .In) (fun x y => match y with | .list ds => if SeqAt.shaped x && SeqAt.shaped (.list ds) then some (.bool (inL x ds)) else none | _ => none) := ⟨_, op_inD (units65 hr), fun G H x y dx dy dz Q s rx ry e q => by
    dsimp only at e
    split at e
    · split at e
      · rename_i h
        rw [Bool.and_eq_true] at h
        cases e
        exact ⟨dx, _, dp_same s rx, dp_same s ry, h.1, h.2, q _ G H (.refl s) (.bl _)⟩
      · cases e
    · cases e⟩
  have h3 : R2D X (compareOp .In) (fun x y => match y with | .tuple ds => if SeqAt.shaped x && SeqAt.shaped (.tuple ds) then some (.bool (inL x ds)) else none | _ => none) := ⟨_, op_inT (units65 hr), fun G H x y dx dy dz Q s rx ry e q => by
    dsimp only at e
    split at e
    · split at e
      · rename_i h
        rw [Bool.and_eq_true] at h
        cases e
        exact ⟨dx, _, dp_same s rx, dp_same s ry, h.1, h.2, q _ G H (.refl s) (.bl _)⟩
      · cases e
    · cases e⟩
  refine h1.or (h2.or h3 (g2 := fun x y => match y with | .list ds => if SeqAt.shaped x && SeqAt.shaped (.list ds) then some (.bool (inL x ds)) else none | .tuple ds => if SeqAt.shaped x && SeqAt.shaped (.tuple ds) then some (.bool (inL x ds)) else none | _ => none) fun x y z h => ?_) fun x y z h => ?_
  · split at h
    · exact .inl h
    · exact .inr h
    · cases h
  · unfold dIn at h
    split at h
    · exact .inl h
    · exact .inr h
    · exact .inr h
    · cases h
theorem r_notin {k : Nat} (hr : Room k X.A) : R2D X (compareOp .NotIn) dNotIn := by
  have h1 : R2D X (compareOp .NotIn) (fun x y => match x, y with | .str a, .str b => (sign1 a).map fun c => .bool (!decide (c ∈ b.cps.toList)) | _, _ => none) := ⟨_, op_notIn_sign, fun G H x y dx dy dz Q s rx ry e q => by
    dsimp only at e
    split at e
    · rename_i a b
      obtain ⟨c, hc, rfl⟩ := Option.map_eq_some_iff.mp e
      have ha := sign1_of hc
      cases rx; cases ry
      exact ⟨c, b, by rw [ha], rfl, q _ G H (.refl s) (.bl _)⟩
    · cases e⟩
  have h2 : R2D X (compareOp .NotIn) (fun x y => match y with | .list ds => if SeqAt.shaped x && SeqAt.shaped (.list ds) then some (.bool (!inL x ds)) else none | _ => none) := ⟨_, op_notInD (units65 hr), fun G H x y dx dy dz Q s rx ry e q => by
    dsimp only at e
    split at e
    · split at e
      · rename_i h
        rw [Bool.and_eq_true] at h
        cases e
        exact ⟨dx, _, dp_same s rx, dp_same s ry, h.1, h.2, q _ G H (.refl s) (.bl _)⟩
      · cases e
    · cases e⟩
  have h3 : R2D X (compareOp .NotIn) (fun x y => match y with | .tuple ds => if SeqAt.shaped x && SeqAt.shaped (.tuple ds) then some (.bool (!inL x ds)) else none | _ => none) := ⟨_, op_notInT (units65 hr), fun G H x y dx dy dz Q s rx ry e q => by
    dsimp only at e
    split at e
    · split at e
      · rename_i h
        rw [Bool.and_eq_true] at h
        cases e
        exact ⟨dx, _, dp_same s rx, dp_same s ry, h.1, h.2, q _ G H (.refl s) (.bl _)⟩
      · cases e
    · cases e⟩
  refine h1.or (h2.or h3 (g2 := fun x y => match y with | .list ds => if SeqAt.shaped x && SeqAt.shaped (.list ds) then some (.bool (!inL x ds)) else none | .tuple ds => if SeqAt.shaped x && SeqAt.shaped (.tuple ds) then some (.bool (!inL x ds)) else none | _ => none) fun x y z h => ?_) fun x y z h => ?_
  · split at h
    · exact .inl h
    · exact .inr h
    · cases h
  · obtain ⟨t, h, hn⟩ := Option.bind_eq_some_iff.mp h
    unfold dIn at h
    split at h
    · obtain ⟨c, hc, rfl⟩ := Option.map_eq_some_iff.mp h
      cases hn
      exact .inl (by simp [hc])
    · split at h
      · rename_i hh; cases h; cases hn; exact .inr (by simp only [hh, if_true])
      · cases h
    · split at h
      · rename_i hh; cases h; cases hn; exact .inr (by simp only [hh, if_true])
      · cases h
    · cases h
theorem r_neg : R1D X (unaryOp .USub) dNeg := ⟨_, un_neg, fun G H x dx dz Q s rx e k => by
  unfold dNeg at e
  split at e
  · cases e; cases rx; exact ⟨_, rfl, k _ G H (.refl s) (.int _)⟩
  · cases e⟩

/-! ### truth -/
theorem tru_of {K : PySem.W.Frag} {H : Hp} {x : V} {d : D} {k : Bool} (r : Dp K H x d) (e : truth d = some k) : TruV K x H k := by
  cases r with
  | non => cases e; rfl
  | bl b => cases e; rfl
  | int i => cases e; rfl
  | str y =>
    unfold truth at e
    dsimp only at e
    split at e
    · rename_i h
      cases e
      have h := of_decide_eq_true h
      exact ⟨by rw [sizeLine_eq]; omega, rfl⟩
    · cases e
  | lst h1 h2 => cases e; exact .inl ⟨_, h1, by cases h2 <;> rfl⟩
  | tup h1 h2 => cases e; exact .inr (.inl ⟨_, h1, by cases h2 <;> rfl⟩)
def tvF (f : En → Option D) : En → Option Bool := fun env => (f env).bind truth
theorem dt_val (ha : DE X a fa) (he : ∀ whole, isTrue a X.env whole = (do let v ← whole; standAt a.pos; holding [v] (truthy v)) := by intro _; rfl) : DT X a (tvF fa) :=
  pt_imp (pt_truth ha he) fun σ H Q ⟨G0, H0, G, env, d, s, e, k⟩ => by
    obtain ⟨z, ez, e⟩ := Option.bind_eq_some_iff.mp e
    exact ⟨G0, H0, G, env, z, s, ez, fun v G' H' x r => ⟨d, tru_of (dp_same x.s r) e, k G' H' x⟩⟩
/-- a list's truth -/
def tlF (f : En → Option (List D)) : En → Option Bool := fun env => (f env).map fun l => !l.isEmpty
theorem dt_list {fl : En → Option (List D)} (ha : DLs X a fl) (he : ∀ whole, isTrue a X.env whole = (do let v ← whole; standAt a.pos; holding [v] (truthy v)) := by intro _; rfl) : DT X a (tlF fl) :=
  pt_imp (pt_truth ha he) fun σ H Q ⟨G0, H0, G, env, d, s, e, k⟩ => by
    obtain ⟨z, ez, rfl⟩ := Option.map_eq_some_iff.mp e
    exact ⟨G0, H0, G, env, z, s, ez, fun v vs G' H' x h1 r => ⟨_, .inl ⟨vs, h1, by cases r <;> rfl⟩, k G' H' x⟩⟩
def ntF (f : En → Option Bool) : En → Option Bool := fun env => (f env).map (!·)
theorem dt_not {f : En → Option Bool} (ha : DT X a f) : DT X (.UnaryOp .Not a pos) (ntF f) :=
  pt_imp (pt_not ha) fun σ H Q ⟨G0, H0, G, env, d, s, e, k⟩ => by
    obtain ⟨z, ez, rfl⟩ := Option.map_eq_some_iff.mp e
    exact ⟨G0, H0, G, env, z, s, ez, k⟩
def nvF (f : En → Option D) : En → Option D := fun env => ((f env).bind truth).map fun b => .bool (!b)
/-- .. of any expression as a value -/
theorem de_not (ha : DE X a fa) : DE X (.UnaryOp .Not a pos) (nvF fa) :=
  pe_imp (pe_notT ha) fun σ H Q ⟨G0, H0, G, env, d, s, e, k⟩ => by
    obtain ⟨z, ez, rfl⟩ := Option.map_eq_some_iff.mp e
    obtain ⟨w, ew, ez⟩ := Option.bind_eq_some_iff.mp ez
    exact ⟨G0, H0, G, env, w, s, ew, fun v G' H' x r => ⟨z, tru_of (dp_same x.s r) ez, k _ G' H' x (.bl _)⟩⟩
abbrev DW (X : Cx) (e : Expr) (f : En → Option Bool) : Prop := PW X e (TV X.K f)
theorem pw_imp {e : Expr} {t t' : TT} (h : PW X e t) (i : ∀ σ H Q, t' σ H Q → t σ H Q) : PW X e t' := ⟨fun wh pins s σ H Q I q => h.run wh pins s σ H Q I (i σ H Q q)⟩
def andF (f g : En → Option Bool) : En → Option Bool := fun env => (f env).bind fun b => if b then g env else some false
def orF (f g : En → Option Bool) : En → Option Bool := fun env => (f env).bind fun b => if b then some true else g env
theorem dw_and1 {f : En → Option Bool} (ha : DT X a f) : DW X (.BoolOp .And [a] pos) f := pw_and1 ha
theorem dw_or1 {f : En → Option Bool} (ha : DT X a f) : DW X (.BoolOp .Or [a] pos) f := pw_or1 ha
theorem dw_and {f g : En → Option Bool} {rest : List Expr} (ha : DT X a f) (hb : DW X (.BoolOp .And (b :: rest) pos) g) : DW X (.BoolOp .And (a :: b :: rest) pos) (andF f g) :=
  pw_imp (pw_and ha hb) fun σ H Q ⟨G0, H0, G, env, d, s, e, k⟩ => by
    obtain ⟨z, ez, e⟩ := Option.bind_eq_some_iff.mp e
    refine ⟨G0, H0, G, env, z, s, ez, fun G' H' x => ?_⟩
    cases z with
    | true => exact ⟨G0, H0, G', env, d, s.exts x, e, fun G2 H2 x2 => k G2 H2 (x.trans x2)⟩
    | false => cases e; exact k G' H' x
theorem dw_or {f g : En → Option Bool} {rest : List Expr} (ha : DT X a f) (hb : DW X (.BoolOp .Or (b :: rest) pos) g) : DW X (.BoolOp .Or (a :: b :: rest) pos) (orF f g) :=
  pw_imp (pw_or ha hb) fun σ H Q ⟨G0, H0, G, env, d, s, e, k⟩ => by
    obtain ⟨z, ez, e⟩ := Option.bind_eq_some_iff.mp e
    refine ⟨G0, H0, G, env, z, s, ez, fun G' H' x => ?_⟩
    cases z with
    | false => exact ⟨G0, H0, G', env, d, s.exts x, e, fun G2 H2 x2 => k G2 H2 (x.trans x2)⟩
    | true => cases e; exact k G' H' x
theorem dt_w {e : Expr} {f : En → Option Bool} (h : DW X e f) : DT X e f := h.pt
/-- and, or as values -/
def andE (f g : En → Option D) : En → Option D := fun env => (f env).bind fun d => (truth d).bind fun b => if b then g env else some d
def orE (f g : En → Option D) : En → Option D := fun env => (f env).bind fun d => (truth d).bind fun b => if b then some d else g env
theorem de_one {op} (h : DE X a fa) : DE X (.BoolOp op [a] pos) fa := pe_one h
theorem de_and {rest : List Expr} (ha : DE X a fa) (hb : DE X (.BoolOp .And (b :: rest) pos) fb) : DE X (.BoolOp .And (a :: b :: rest) pos) (andE fa fb) :=
  pe_imp (pe_andT ha hb) fun σ H Q ⟨G0, H0, G, env, d, s, e, k⟩ => by
    obtain ⟨z, ez, e⟩ := Option.bind_eq_some_iff.mp e
    obtain ⟨t, et, e⟩ := Option.bind_eq_some_iff.mp e
    refine ⟨G0, H0, G, env, z, s, ez, fun v G' H' x r => ⟨t, tru_of (dp_same x.s r) et, ?_⟩⟩
    cases t with
    | true => exact ⟨G0, H0, G', env, d, s.exts x, e, fun v2 G2 H2 x2 r2 => k v2 G2 H2 (x.trans x2) r2⟩
    | false => cases e; exact k v G' H' x r
theorem de_or {rest : List Expr} (ha : DE X a fa) (hb : DE X (.BoolOp .Or (b :: rest) pos) fb) : DE X (.BoolOp .Or (a :: b :: rest) pos) (orE fa fb) :=
  pe_imp (pe_orT ha hb) fun σ H Q ⟨G0, H0, G, env, d, s, e, k⟩ => by
    obtain ⟨z, ez, e⟩ := Option.bind_eq_some_iff.mp e
    obtain ⟨t, et, e⟩ := Option.bind_eq_some_iff.mp e
    refine ⟨G0, H0, G, env, z, s, ez, fun v G' H' x r => ⟨t, tru_of (dp_same x.s r) et, ?_⟩⟩
    cases t with
    | false => exact ⟨G0, H0, G', env, d, s.exts x, e, fun v2 G2 H2 x2 r2 => k v2 G2 H2 (x.trans x2) r2⟩
    | true => cases e; exact k v G' H' x r
def ifE (t : En → Option Bool) (f g : En → Option D) : En → Option D := fun env => (t env).bind fun b => if b then f env else g env
theorem de_if {t : En → Option Bool} (hc : DT X c t) (ha : DE X a fa) (hb : DE X b fb) : DE X (.IfExp c a b pos) (ifE t fa fb) :=
  pe_imp (pe_ifExp hc ha hb) fun σ H Q ⟨G0, H0, G, env, d, s, e, k⟩ => by
    obtain ⟨z, ez, e⟩ := Option.bind_eq_some_iff.mp e
    refine ⟨G0, H0, G, env, z, s, ez, fun G' H' x => ?_⟩
    cases z with
    | true => exact ⟨G0, H0, G', env, d, s.exts x, e, fun v2 G2 H2 x2 r2 => k v2 G2 H2 (x.trans x2) r2⟩
    | false => exact ⟨G0, H0, G', env, d, s.exts x, e, fun v2 G2 H2 x2 r2 => k v2 G2 H2 (x.trans x2) r2⟩

/-! ### subscripts -/
def ixL (ds : List D) : D → Option D
  | .int i => atI ds i
  | _ => none
def dIx : D → D → Option D
  | .list ds, i => ixL ds i
  | .tuple ds, i => ixL ds i
  | .str z, .int i => if decide (z.length ≤ 1000000) then (atI z.cps.toList i).map fun c => .str ⟨#[c]⟩ else none
  | _, _ => none
theorem dps_at {K : PySem.W.Frag} {G : Hp} {ds : List D} {vs : List V} {i : Int} {d : D} (r : DpAll K G vs ds) (h : atI ds i = some d) : ∃ v, atI vs i = some v ∧ Dp K G v d := by
  unfold atI at h ⊢
  rw [dps_len r]
  obtain ⟨j, h1, h2⟩ := Option.bind_eq_some_iff.mp h
  obtain ⟨v, e1, e2⟩ := dps_get r h2
  exact ⟨v, by rw [h1]; exact e1, e2⟩
theorem de_ix (ha : DE X a fa) (hb : DE X b fb) (hs : PlainIx b := by intro _ _; rfl) : DE X (.Subscript a b pos) (b2 dIx fa fb) :=
  pe_imp (pe_ix ix_seq ha hb hs) (e2 fun G H x y dx dy dz Q s rx ry e k => by
    unfold dIx at e
    split at e
    · unfold ixL at e
      split at e
      · cases ry
        cases rx with
        | lst h1 h2 =>
          obtain ⟨v, e1, e2⟩ := dps_at h2 e
          exact .inl ⟨_, _, _, v, rfl, rfl, s.seq h1, e1, k v G H (.refl s) e2⟩
      · cases e
    · unfold ixL at e
      split at e
      · cases ry
        cases rx with
        | tup h1 h2 =>
          obtain ⟨v, e1, e2⟩ := dps_at h2 e
          exact .inr (.inl ⟨_, _, _, v, rfl, rfl, sameT s h1, e1, k v G H (.refl s) e2⟩)
      · cases e
    · split at e
      · rename_i h
        obtain ⟨c, e1, rfl⟩ := Option.map_eq_some_iff.mp e
        cases rx; cases ry
        exact .inr (.inr ⟨_, _, c, rfl, rfl, by rw [sizeLine_eq]; have := of_decide_eq_true h; omega, e1, k _ G H (.refl s) (.str _)⟩)
      · cases e
    · cases e)
def ixF (f : En → Option (List D)) (h : En → Option D) : En → Option D := fun env => (f env).bind fun l => (h env).bind fun i => ixL l i
theorem de_ixl {fl : En → Option (List D)} (ha : DLs X a fl) (hb : DE X b fb) (hs : PlainIx b := by intro _ _; rfl) : DE X (.Subscript a b pos) (ixF fl fb) :=
  pe_imp (pe_ix ix_list ha hb hs) fun σ H Q ⟨G0, H0, G, env, d, s, e, k⟩ => by
    obtain ⟨l, el, e⟩ := Option.bind_eq_some_iff.mp e
    obtain ⟨i, ei, e⟩ := Option.bind_eq_some_iff.mp e
    refine ⟨G0, H0, G, env, l, s, el, fun p vs G1 H1 x1 h1 r1 => ⟨G0, H0, G1, env, i, s.exts x1, ei, fun u G2 H2 x2 r2 => ?_⟩⟩
    unfold ixL at e
    split at e
    · cases r2
      obtain ⟨v, e1, e2⟩ := dps_at r1 e
      exact ⟨_, _, _, v, rfl, rfl, x2.h.seq h1, e1, k v G2 H2 (x1.trans x2) (dp_same x2.g e2)⟩
    · cases e

/-! ### slices -/
def cutD {α : Type} (xs : List α) (lo hi : Option Int) : List α := (xs.drop (HT.sIx xs.length 0 lo)).take (HT.sIx xs.length xs.length hi - HT.sIx xs.length 0 lo)
theorem dps_cut {K : PySem.W.Frag} {G : Hp} {ds : List D} {vs : List V} (r : DpAll K G vs ds) (lo hi : Option Int) : DpAll K G (cutV vs lo hi) (cutD ds lo hi) := by
  unfold cutV cutD
  rw [dps_len r]
  exact dps_take _ (dps_drop _ r)
def OV (K : PySem.W.Frag) (f : En → Option (Option Int)) : TO := fun σ H Q => ∃ G0 H0 G env o, StOk K G0 H0 G H σ env ∧ f env = some o ∧ ∀ G' H', Ext G H G' H' → Q o H'
abbrev DO (X : Cx) (e : Option Expr) (f : En → Option (Option Int)) : Prop := PO X e (OV X.K f)
theorem po_imp {e : Option Expr} {t t' : TO} (h : PO X e t) (i : ∀ σ H Q, t' σ H Q → t σ H Q) : PO X e t' := ⟨fun pins s σ H Q I q => h.run pins s σ H Q I (i σ H Q q)⟩
def intOf : D → Option (Option Int)
  | .int i => some (some i)
  | _ => none
def onF : En → Option (Option Int) := fun _ => some none
def oiF (f : En → Option D) : En → Option (Option Int) := fun env => (f env).bind intOf
theorem do_none : DO X none onF := po_imp po_none fun σ H Q ⟨G0, H0, G, env, o, s, e, k⟩ => by
  cases e; exact k G H (.refl s.sm)
theorem do_some (ha : DE X a fa) : DO X (some a) (oiF fa) := po_imp (po_some ha) fun σ H Q ⟨G0, H0, G, env, o, s, e, k⟩ => by
  obtain ⟨z, ez, e⟩ := Option.bind_eq_some_iff.mp e
  refine ⟨G0, H0, G, env, z, s, ez, fun v G' H' x r => ?_⟩
  unfold intOf at e
  split at e
  · cases e; cases r; exact ⟨_, rfl, k G' H' x⟩
  · cases e
variable {lo hi : Option Expr} {fo fh : En → Option (Option Int)} {p2 : Pos}
def slF (f : En → Option (List D)) (fo fh : En → Option (Option Int)) : En → Option (List D) := fun env => (f env).bind fun l => (fo env).bind fun i => (fh env).map fun j => cutD l i j
/-- a part of a list: a new list -/
theorem df_slice {fl : En → Option (List D)} (ha : DLs X a fl) (hl : DO X lo fo) (hh : DO X hi fh) : DF X (.Subscript a (.Slice lo hi none p2) pos) (slF fl fo fh) :=
  pe_imp (pe_slice sl_list ha hl hh) fun σ H Q ⟨G0, H0, G, env, d, s, e, k⟩ => by
    obtain ⟨l, el, e⟩ := Option.bind_eq_some_iff.mp e
    obtain ⟨i, ei, e⟩ := Option.bind_eq_some_iff.mp e
    obtain ⟨j, ej, rfl⟩ := Option.map_eq_some_iff.mp e
    refine ⟨G0, H0, G, env, l, s, el, fun p vs G1 H1 x1 h1 r1 => ⟨G0, H0, G1, env, i, s.exts x1, ei, fun G2 H2 x2 => ⟨G0, H0, G2, env, j, s.exts (x1.trans x2), ej, fun G3 H3 x3 => ?_⟩⟩⟩
    have xx := (x1.trans x2).trans x3
    refine ⟨p, vs, rfl, (x2.h.trans x3.h).seq h1, fun q hq => ?_⟩
    exact k q _ G3 _ (xx.trans (.newOwn x3.s hq)) (xx.h.free hq) upd_same (x3.s.free hq) (dps_cut (dps_same (x2.g.trans x3.g) r1) i j)
/-- a part of a text or a tuple -/
def dCut (d : D) (i j : Option Int) : Option D := match d with
  | .str z => if decide (z.length ≤ 1000000) then some (.str (cutS z i j)) else none
  | .list ds => some (.list (cutD ds i j))
  | .tuple ds => if decide (HT.sIx ds.length 0 i = 0 ∧ HT.sIx ds.length ds.length j = ds.length) then none else some (.tuple (cutD ds i j))
  | _ => none
theorem sl_strtup : SlR X (fun x lo hi H Q => rSlS x lo hi H Q ∨ (rSlL X.K x lo hi H Q ∨ rSlT X.K x lo hi H Q)) := sl_str.or (sl_list.or sl_tup)
def dslF (f : En → Option D) (fo fh : En → Option (Option Int)) : En → Option D := fun env => (f env).bind fun d => (fo env).bind fun i => (fh env).bind fun j => dCut d i j
theorem de_slice (ha : DE X a fa) (hl : DO X lo fo) (hh : DO X hi fh) : DE X (.Subscript a (.Slice lo hi none p2) pos) (dslF fa fo fh) :=
  pe_imp (pe_slice sl_strtup ha hl hh) fun σ H Q ⟨G0, H0, G, env, d, s, e, k⟩ => by
    obtain ⟨l, el, e⟩ := Option.bind_eq_some_iff.mp e
    obtain ⟨i, ei, e⟩ := Option.bind_eq_some_iff.mp e
    obtain ⟨j, ej, e⟩ := Option.bind_eq_some_iff.mp e
    refine ⟨G0, H0, G, env, l, s, el, fun v G1 H1 x1 r1 => ⟨G0, H0, G1, env, i, s.exts x1, ei, fun G2 H2 x2 => ⟨G0, H0, G2, env, j, s.exts (x1.trans x2), ej, fun G3 H3 x3 => ?_⟩⟩⟩
    have xx := (x1.trans x2).trans x3
    unfold dCut at e
    split at e
    · split at e
      · rename_i h
        cases e; cases r1
        exact .inl ⟨_, rfl, by rw [sizeLine_eq]; have := of_decide_eq_true h; omega, k _ G3 H3 xx (.str _)⟩
      · cases e
    · cases e
      cases r1 with
      | lst h1 h2 =>
        refine .inr (.inl ⟨_, _, rfl, (x2.h.trans x3.h).seq (x1.s.seq h1), fun q hq => ?_⟩)
        exact k _ _ _ (xx.trans (.new x3.s hq)) (.lst (.inl (.inl upd_same)) (dps_same (same_upd (x3.s.free hq)) (dps_cut (dps_same (x2.g.trans x3.g) h2) i j)))
    · split at e
      · cases e
      · rename_i hw
        cases e
        cases r1 with
        | tup h1 h2 =>
          refine .inr (.inr ⟨_, _, rfl, sameT (x2.h.trans x3.h) (sameT x1.s h1), fun z => ?_, fun q hq => ?_⟩)
          · rw [dps_len h2] at z
            exact hw (decide_eq_true z)
          · refine k _ _ _ (xx.trans (.new x3.s hq)) (.tup (.inl (.inl upd_same)) (dps_same (same_upd (x3.s.free hq)) (dps_cut (dps_same (x2.g.trans x3.g) h2) i j)))
    · cases e
end
end DL

set_option Elab.async false
set_option linter.all false
set_option maxRecDepth 100000
/-! DLd: argument lists, displays, calls, targets, statements, loops, defs. -/
namespace DL
open PySem PySem.Spec PyProof.Rows L2
section
variable {X : Cx} {a b c e o : Expr} {es rest : List Expr} {fa fb fc : En → Option D} {ts : En → Option (List D)} {pos apos p : Pos}

/-! ### argument lists, displays -/
def nilF : En → Option (List D) := fun _ => some []
def consF (f : En → Option D) (g : En → Option (List D)) : En → Option (List D) := fun env => (f env).bind fun d => (g env).map fun ds => d :: ds
def starF (f : En → Option (List D)) (g : En → Option (List D)) : En → Option (List D) := fun env => (f env).bind fun d => (g env).map fun ds => d ++ ds
theorem da_nil : DA X [] nilF := pa_imp pa_nil fun σ H Q ⟨G0, H0, G, env, d, s, e, k⟩ => by
  cases e; exact k [] G H (.refl s.sm) .nil
theorem da_cons (ha : DE X e fa) (hr : DA X es ts) (hs : starEach (e :: es) X.env = (false, eval e X.env) :: starEach es X.env := by rfl) : DA X (e :: es) (consF fa ts) :=
  pa_imp (pa_cons ha hr hs) fun σ H Q ⟨G0, H0, G, env, d, s, e, k⟩ => by
    obtain ⟨z, ez, e⟩ := Option.bind_eq_some_iff.mp e
    obtain ⟨zs, ezs, rfl⟩ := Option.map_eq_some_iff.mp e
    exact ⟨G0, H0, G, env, z, s, ez, fun v G1 H1 x1 r1 => ⟨G0, H0, G1, env, zs, s.exts x1, ezs, fun vs G2 H2 x2 r2 => k _ G2 H2 (x1.trans x2) (.cons (dp_same x2.g r1) r2)⟩⟩
theorem da_star {fl : En → Option (List D)} {sp : Pos} (ha : DLs X e fl) (hr : DA X es ts) (hs : starEach (.Starred e sp :: es) X.env = (true, eval e X.env) :: starEach es X.env := by rfl) : DA X (.Starred e sp :: es) (starF fl ts) :=
  pa_imp (StX.pa_star ha hr hs) fun σ H Q ⟨G0, H0, G, env, d, s, e, k⟩ => by
    obtain ⟨z, ez, e⟩ := Option.bind_eq_some_iff.mp e
    obtain ⟨zs, ezs, rfl⟩ := Option.map_eq_some_iff.mp e
    exact ⟨G0, H0, G, env, z, s, ez, fun v vs' G1 H1 x1 h1 r1 => ⟨_, _, rfl, .inr h1, G0, H0, G1, env, zs, s.exts x1, ezs, fun vs G2 H2 x2 r2 => k _ G2 H2 (x1.trans x2) (dps_append (dps_same x2.g r1) r2)⟩⟩
def fitsL (l : List D) : Option (List D) := if fits l.length then some l else none
theorem fitsL_some {l z : List D} (h : fitsL l = some z) : z = l ∧ fits l.length = true := by
  unfold fitsL at h
  split at h
  · cases h; exact ⟨rfl, by assumption⟩
  · cases h
def tupF (ts : En → Option (List D)) : En → Option D := fun env => ((ts env).bind fitsL).map PyData.tuple
theorem de_tup {k : Nat} (h : DA X es ts) : DE X (.Tuple es k pos) (tupF ts) := pe_imp (pe_tup h) fun σ H Q ⟨G0, H0, G, env, d, s, e, k⟩ => by
  obtain ⟨z, ez, rfl⟩ := Option.map_eq_some_iff.mp e
  obtain ⟨w, ew, ez⟩ := Option.bind_eq_some_iff.mp ez
  obtain ⟨rfl, hf⟩ := fitsL_some ez
  refine ⟨G0, H0, G, env, _, s, ew, fun vs G1 H1 x1 r1 => ⟨by rw [dps_len r1]; exact lenFits hf, fun q hq => ?_⟩⟩
  exact k _ _ _ (x1.trans (.new x1.s hq)) (.tup (.inl (.inl upd_same)) (dps_same (same_upd (x1.s.free hq)) r1))
def lstF (ts : En → Option (List D)) : En → Option (List D) := fun env => (ts env).bind fitsL
theorem df_lst (h : DA X es ts) : DF X (.List es pos) (lstF ts) := pe_imp (pe_lst h) fun σ H Q ⟨G0, H0, G, env, d, s, e, k⟩ => by
  obtain ⟨w, ew, ez⟩ := Option.bind_eq_some_iff.mp e
  obtain ⟨rfl, hf⟩ := fitsL_some ez
  refine ⟨G0, H0, G, env, _, s, ew, fun vs G1 H1 x1 r1 => ⟨by rw [dps_len r1]; exact lenFits hf, fun q hq => ?_⟩⟩
  exact k _ _ _ _ (x1.trans (.newOwn x1.s hq)) (x1.h.free hq) upd_same (x1.s.free hq) r1
def catF (f1 f2 : En → Option (List D)) : En → Option (List D) := fun env => (f1 env).bind fun x => (f2 env).bind fun y => fitsL (x ++ y)
/-- list + list: a new one -/
theorem df_cat {f1 f2 : En → Option (List D)} (ha : DLs X a f1) (hb : DLs X b f2) : DF X (.BinOp a .Add b pos) (catF f1 f2) :=
  pe_imp (pe_op op_catL ha hb) fun σ H Q ⟨G0, H0, G, env, d, s, e, k⟩ => by
    obtain ⟨z, ez, e⟩ := Option.bind_eq_some_iff.mp e
    obtain ⟨y, ey, e⟩ := Option.bind_eq_some_iff.mp e
    obtain ⟨rfl, hf⟩ := fitsL_some e
    refine ⟨G0, H0, G, env, z, s, ez, fun p1 v1 G1 H1 x1 h1 r1 => ⟨G0, H0, G1, env, y, s.exts x1, ey, fun p2 v2 G2 H2 x2 h2 r2 => ?_⟩⟩
    refine ⟨_, _, _, _, rfl, rfl, x2.h.seq h1, h2, ?_, fun q hq => ?_⟩
    · rw [dps_len r1, dps_len r2, ← List.length_append]; exact lenFits hf
    · have xx := x1.trans x2
      exact k q _ _ _ (xx.trans (.newOwn x2.s hq)) (xx.h.free hq) upd_same (x2.s.free hq) (dps_append (dps_same x2.g r1) r2)
def revF (f1 : En → Option (List D)) : En → Option (List D) := fun env => (f1 env).map List.reverse
/-- xs[::-1] -/
theorem df_rev {f1 : En → Option (List D)} {k : Nat} {p1 p2 p3 : Pos} (ha : DLs X a f1) : DF X (.Subscript a (.Slice none none (some (.UnaryOp .USub (.Constant (.int 1) k p1) p2)) p3) pos) (revF f1) :=
  pe_imp (pe_revL ha) fun σ H Q ⟨G0, H0, G, env, d, s, e, k⟩ => by
    obtain ⟨z, ez, rfl⟩ := Option.map_eq_some_iff.mp e
    refine ⟨G0, H0, G, env, z, s, ez, fun p1 v1 G1 H1 x1 h1 r1 => ⟨_, _, rfl, h1, fun q hq => ?_⟩⟩
    exact k q _ _ _ (x1.trans (.newOwn x1.s hq)) (x1.h.free hq) upd_same (x1.s.free hq) (dps_reverse r1)

/-! ### calls -/
/-- what a def of data promises -/
def spD (K : PySem.W.Frag) (n : Nat) (m : List D → Option D) : Sp := fun vs H Q _ => vs.length = n ∧ ∃ G ds d, Same G H ∧ DpAll K G vs ds ∧ m ds = some d ∧ ∀ v G' H', Ext G H G' H' → Dp K G' v d → Q v H'
/-- a def of data that stands in the module under the name x -/
structure Cal (P : Program) (w : World) (K : PySem.W.Frag) (mg : Str → Option Value) (base : Heap) (k : Nat) (x : Str) (n : Nat) (m : List D → Option D) : Prop where
  ex : ∃ (f : Addr) (fd : FuncData) (ps : List Str), FnOk P w K mg base CX0 k f fd ps (spD K n m) ∧ mg x = some (.ref f) ∧ PySem.W.keepIn K (.ref f) = true ∧ Binds K fd ps []
def callF (m : List D → Option D) (ts : En → Option (List D)) : En → Option D := fun env => (ts env).bind m
def lenIs (n : Nat) (ts : En → Option (List D)) : Prop := ∀ env ds, ts env = some ds → ds.length = n
theorem lenIs_nil : lenIs 0 nilF := fun env ds h => by cases h; rfl
theorem lenIs_cons {n : Nat} (h : lenIs n ts) : lenIs (n + 1) (consF fa ts) := fun env ds e => by
  obtain ⟨z, ez, e⟩ := Option.bind_eq_some_iff.mp e
  obtain ⟨zs, ezs, rfl⟩ := Option.map_eq_some_iff.mp e
  rw [List.length_cons, h env zs ezs]
theorem de_call {k k' n : Nat} {x : Str} {m : List D → Option D} (C : Cal X.prog X.w X.K X.mg X.base k x n m) (hr : Room k' X.A) (hk : k ≤ k') (ha : DA X (e :: es) ts) (hn : lenIs n ts) (hg : Gl X x := by rfl) (hdb : (x == ("__debug__" : Str)) = false := by decide)
    (he : starEach (e :: es) X.env = (false, eval e X.env) :: starEach es X.env := by rfl) (hpl : (backTo pos (starEach es X.env)).any (·.1) = false := by rfl) :
    DE X (.Call (.Name x p) (e :: es) [] pos) (callF m ts) := by
  obtain ⟨f, fd, ps, F, hm, kp, hb⟩ := C.ex
  refine pe_imp (pe_call F (hr.mono hk) hg hm kp hb .nil pass0 ha hdb he hpl) fun σ H Q ⟨G0, H0, G, env, d, s, e, q⟩ => ?_
  obtain ⟨z, ez, e⟩ := Option.bind_eq_some_iff.mp e
  refine ⟨G0, H0, G, env, z, s, ez, fun vs G1 H1 x1 r1 => ?_⟩
  show spD X.K n m (vs ++ []) H1 Q E0
  rw [List.append_nil]
  exact ⟨by rw [dps_len r1]; exact hn env z ez, G1, z, d, x1.s, r1, e, fun v G2 H2 x2 r2 => q v G2 H2 (x1.trans x2) r2⟩
/-- a built-in's rule by data -/
def CRD (X : Cx) (f : Value) (g : List D → Option D) : Prop := ∃ r, CallR X f r ∧ ∀ (G H : Hp) (vs : List V) (ds : List D) (dz : D) (Q : VK), Same G H → DpAll X.K G vs ds → g ds = some dz →
  (∀ v G' H', Ext G H G' H' → Dp X.K G' v dz → Q v H') → r vs H Q
theorem de_callB {id : String} {x : Str} {g : List D → Option D} (hc : CRD X (.builtin id) g) (ha : DA X (e :: es) ts) (hm : X.mg x = none) (hv : bootBuiltins x = some (.builtin id)) (hg : Gl X x := by rfl) (hn : x ≠ "__name__" := by decide) (hdb : (x == ("__debug__" : Str)) = false := by decide)
    (he : starEach (e :: es) X.env = (false, eval e X.env) :: starEach es X.env := by rfl) (hpl : (backTo pos (starEach es X.env)).any (·.1) = false := by rfl) : DE X (.Call (.Name x p) (e :: es) [] pos) (callF g ts) := by
  obtain ⟨r, hc, hr⟩ := hc
  refine pe_imp (pe_callB hc hg hm hv ha hn hdb he hpl) fun σ H Q ⟨G0, H0, G, env, d, s, e, q⟩ => ?_
  obtain ⟨z, ez, e⟩ := Option.bind_eq_some_iff.mp e
  exact ⟨G0, H0, G, env, z, s, ez, fun vs G1 H1 x1 r1 => hr G1 H1 vs z d Q x1.s r1 e fun v G2 H2 x2 r2 => q v G2 H2 (x1.trans x2) r2⟩
theorem de_callTy {T : String} {x : Str} {g : List D → Option D} (hc : CRD X (.type T) g) (ha : DA X (e :: es) ts) (hm : X.mg x = none) (hv : bootBuiltins x = some (.type T)) (hg : Gl X x := by rfl) (hn : x ≠ "__name__" := by decide) (hdb : (x == ("__debug__" : Str)) = false := by decide)
    (he : starEach (e :: es) X.env = (false, eval e X.env) :: starEach es X.env := by rfl) (hpl : (backTo pos (starEach es X.env)).any (·.1) = false := by rfl) : DE X (.Call (.Name x p) (e :: es) [] pos) (callF g ts) := by
  obtain ⟨r, hc, hr⟩ := hc
  refine pe_imp (pe_callTy hc hg hm hv ha hn hdb he hpl) fun σ H Q ⟨G0, H0, G, env, d, s, e, q⟩ => ?_
  obtain ⟨z, ez, e⟩ := Option.bind_eq_some_iff.mp e
  exact ⟨G0, H0, G, env, z, s, ez, fun vs G1 H1 x1 r1 => hr G1 H1 vs z d Q x1.s r1 e fun v G2 H2 x2 r2 => q v G2 H2 (x1.trans x2) r2⟩
/-- an argument that is a list to be read -/
def LV (K : PySem.W.Frag) (f : En → Option (List D)) : TA := fun σ H Q => ∃ G0 H0 G env ds, StOk K G0 H0 G H σ env ∧ f env = some ds ∧ ∀ a vs G' H', Ext G H G' H' → SqL K H' a vs → DpAll K G' vs ds → Q [.ref a] H'
theorem la_one {f1 : En → Option (List D)} (ha : DLs X e f1) (hs : starEach (e :: []) X.env = (false, eval e X.env) :: starEach [] X.env := by rfl) : PA X [e] (LV X.K f1) :=
  pa_imp (pa_cons ha pa_nil hs) fun σ H Q ⟨G0, H0, G, env, d, s, e, q⟩ => ⟨G0, H0, G, env, d, s, e, fun a vs G' H' x h r => q a vs G' H' x h r⟩
def lnF (f1 : En → Option (List D)) : En → Option D := fun env => (f1 env).map fun l => .int l.length
def tuF (f1 : En → Option (List D)) : En → Option D := fun env => (f1 env).map .tuple
theorem de_lenL {x : Str} {f1 : En → Option (List D)} (ha : DLs X e f1) (hm : X.mg "len" = none) (hx : x = "len" := by rfl) (hg : Gl X x := by rfl)
    (he : starEach (e :: []) X.env = (false, eval e X.env) :: starEach [] X.env := by rfl) (hpl : (backTo pos (starEach [] X.env)).any (·.1) = false := by rfl) : DE X (.Call (.Name x p) [e] [] pos) (lnF f1) := by
  subst hx
  refine pe_imp (pe_callB call_len_seq hg hm PySem.boot_len (la_one ha he) (by decide) (by decide) he hpl) fun σ H Q ⟨G0, H0, G, env, d, s, e, q⟩ => ?_
  obtain ⟨z, ez, rfl⟩ := Option.map_eq_some_iff.mp e
  refine ⟨G0, H0, G, env, z, s, ez, fun a vs G' H' x h r => ⟨a, vs, rfl, .inl h, ?_⟩⟩
  rw [dps_len r]
  exact q _ G' H' x (.int _)
/-- list(xs), tuple(xs) of a list -/
theorem df_listL {x : Str} {f1 : En → Option (List D)} (ha : DLs X e f1) (hm : X.mg "list" = none) (hx : x = "list" := by rfl) (hg : Gl X x := by rfl)
    (he : starEach (e :: []) X.env = (false, eval e X.env) :: starEach [] X.env := by rfl) (hpl : (backTo pos (starEach [] X.env)).any (·.1) = false := by rfl) : DF X (.Call (.Name x p) [e] [] pos) f1 := by
  subst hx
  refine pe_imp (pe_callTy call_list_of hg hm (by decide +kernel) (la_one ha he) (by decide) (by decide) he hpl) fun σ H Q ⟨G0, H0, G, env, d, s, e, q⟩ => ?_
  refine ⟨G0, H0, G, env, d, s, e, fun a vs G' H' x h r => ⟨a, vs, rfl, .inl h, fun l hl => ?_⟩⟩
  exact q l _ _ _ (x.trans (.newOwn x.s hl)) (x.h.free hl) upd_same (x.s.free hl) r
theorem de_tupleL {x : Str} {f1 : En → Option (List D)} (ha : DLs X e f1) (hm : X.mg "tuple" = none) (hx : x = "tuple" := by rfl) (hg : Gl X x := by rfl)
    (he : starEach (e :: []) X.env = (false, eval e X.env) :: starEach [] X.env := by rfl) (hpl : (backTo pos (starEach [] X.env)).any (·.1) = false := by rfl) : DE X (.Call (.Name x p) [e] [] pos) (tuF f1) := by
  subst hx
  refine pe_imp (pe_callTy call_tuple_of hg hm (by decide +kernel) (la_one ha he) (by decide) (by decide) he hpl) fun σ H Q ⟨G0, H0, G, env, d, s, e, q⟩ => ?_
  obtain ⟨z, ez, rfl⟩ := Option.map_eq_some_iff.mp e
  refine ⟨G0, H0, G, env, z, s, ez, fun a vs G' H' x h r => ⟨a, vs, rfl, .inl ⟨h, fun l hl => ?_⟩⟩⟩
  exact q _ _ _ (x.trans (.new x.s hl)) (.tup (.inl (.inl upd_same)) (dps_same (same_upd (x.s.free hl)) r))
/-- a tuple's items as a list -/
def tlOf : D → Option (List D)
  | .list ds => some ds
  | .tuple ds => some ds
  | _ => none
def ltF (f : En → Option D) : En → Option (List D) := fun env => (f env).bind tlOf
theorem df_listT {x : Str} (ha : DE X e fa) (hm : X.mg "list" = none) (hx : x = "list" := by rfl) (hg : Gl X x := by rfl)
    (he : starEach (e :: []) X.env = (false, eval e X.env) :: starEach [] X.env := by rfl) (hpl : (backTo pos (starEach [] X.env)).any (·.1) = false := by rfl) : DF X (.Call (.Name x p) [e] [] pos) (ltF fa) := by
  subst hx
  refine pe_imp (pe_callTy call_list_of hg hm (by decide +kernel) (da_cons ha da_nil he) (by decide) (by decide) he hpl) fun σ H Q ⟨G0, H0, G, env, d, s, e, q⟩ => ?_
  obtain ⟨z, ez, e⟩ := Option.bind_eq_some_iff.mp e
  refine ⟨G0, H0, G, env, [z], s, by simp [consF, ez, nilF], fun vs G' H' x r => ?_⟩
  cases r with
  | cons r rr =>
    cases rr
    unfold tlOf at e
    split at e
    · cases e
      cases r with
      | lst h1 h2 => exact ⟨_, _, rfl, .inl (x.s.seq h1), fun l hl => q l _ _ _ (x.trans (.newOwn x.s hl)) (x.h.free hl) upd_same (x.s.free hl) h2⟩
    · cases e
      cases r with
      | tup h1 h2 => exact ⟨_, _, rfl, .inr (sameT x.s h1), fun l hl => q l _ _ _ (x.trans (.newOwn x.s hl)) (x.h.free hl) upd_same (x.s.free hl) h2⟩
    · cases e

/-! ### the built-ins -/
def cLen : List D → Option D
  | [.list ds] => some (.int ds.length)
  | [.tuple ds] => some (.int ds.length)
  | [.str z] => if decide (z.length ≤ 1000000) then some (.int z.length) else none
  | _ => none
theorem c_len : CRD X (.builtin "len") cLen := ⟨_, call_len, fun G H vs ds dz Q s r e k => by
  unfold cLen at e
  split at e
  · cases e
    cases r with
    | cons r rr =>
      cases rr
      cases r with
      | lst h1 h2 => exact ⟨_, _, rfl, .inl ⟨_, s.seq h1, rfl⟩, by rw [dps_len h2]; exact k _ G H (.refl s) (.int _)⟩
  · cases e
    cases r with
    | cons r rr =>
      cases rr
      cases r with
      | tup h1 h2 => exact ⟨_, _, rfl, .inr ⟨_, sameT s h1, rfl⟩, by rw [dps_len h2]; exact k _ G H (.refl s) (.int _)⟩
  · split at e
    · rename_i h
      cases e
      cases r with
      | cons r rr =>
        cases rr
        cases r
        exact ⟨_, _, rfl, ⟨by rw [sizeLine_eq]; have := of_decide_eq_true h; omega, rfl⟩, k _ G H (.refl s) (.int _)⟩
    · cases e
  · cases e⟩
def cAbs : List D → Option D
  | [.int i] => some (.int (if i < 0 then -i else i))
  | _ => none
theorem c_abs : CRD X (.builtin "abs") cAbs := ⟨_, call_abs, fun G H vs ds dz Q s r e k => by
  unfold cAbs at e
  split at e
  · cases e
    cases r with
    | cons r rr =>
      cases rr; cases r
      exact ⟨_, rfl, k _ G H (.refl s) (.int _)⟩
  · cases e⟩
def cMax : List D → Option D
  | [.int i, .int j] => some (.int (if j > i then j else i))
  | _ => none
theorem c_max (hc : X.calm = true) : CRD X (.builtin "max") cMax := ⟨_, call_max2 hc, fun G H vs ds dz Q s r e k => by
  unfold cMax at e
  split at e
  · cases e
    cases r with
    | cons r rr =>
      cases rr with
      | cons r2 rr => cases rr; cases r; cases r2; exact ⟨_, _, rfl, k _ G H (.refl s) (.int _)⟩
  · cases e⟩
def cMin : List D → Option D
  | [.int i, .int j] => some (.int (if j < i then j else i))
  | _ => none
theorem c_min (hc : X.calm = true) : CRD X (.builtin "min") cMin := ⟨_, call_min2 hc, fun G H vs ds dz Q s r e k => by
  unfold cMin at e
  split at e
  · cases e
    cases r with
    | cons r rr =>
      cases rr with
      | cons r2 rr => cases rr; cases r; cases r2; exact ⟨_, _, rfl, k _ G H (.refl s) (.int _)⟩
  · cases e⟩
def cInt : List D → Option D
  | [.int i] => some (.int i)
  | [.bool k] => some (.int (if k then 1 else 0))
  | [.str a] => if decide (a.length ≤ 640) then (PySem.intText? a).map PyData.int else none
  | _ => none
theorem c_int : CRD X (.type "int") cInt := ⟨_, call_int1.or call_int_str, fun G H vs ds dz Q s r e k => by
  unfold cInt at e
  split at e
  · cases e
    cases r with
    | cons r rr => cases rr; cases r; exact .inl (.inl ⟨_, rfl, k _ G H (.refl s) (.int _)⟩)
  · cases e
    cases r with
    | cons r rr => cases rr; cases r; exact .inl (.inr ⟨_, rfl, k _ G H (.refl s) (.int _)⟩)
  · split at e
    · rename_i h
      obtain ⟨n, hn, rfl⟩ := Option.map_eq_some_iff.mp e
      cases r with
      | cons r rr => cases rr; cases r; exact .inr ⟨_, n, rfl, hn, of_decide_eq_true h, k _ G H (.refl s) (.int _)⟩
    · cases e
  · cases e⟩
def cStr : List D → Option D
  | [.int i] => if decide (i.natAbs.log2 < 1920) then some (.str (toString i)) else none
  | _ => none
theorem c_str : CRD X (.type "str") cStr := ⟨_, call_str_int, fun G H vs ds dz Q s r e k => by
  unfold cStr at e
  split at e
  · split at e
    · rename_i h
      cases e
      cases r with
      | cons r rr => cases rr; cases r; exact ⟨_, rfl, of_decide_eq_true h, k _ G H (.refl s) (.str _)⟩
    · cases e
  · cases e⟩
def cTuple : List D → Option D
  | [.list ds] => some (.tuple ds)
  | [.tuple ds] => some (.tuple ds)
  | _ => none
theorem c_tuple : CRD X (.type "tuple") cTuple := ⟨_, call_tuple_of, fun G H vs ds dz Q s r e k => by
  unfold cTuple at e
  split at e
  · cases e
    cases r with
    | cons r rr =>
      cases rr
      cases r with
      | lst h1 h2 => exact ⟨_, _, rfl, .inl ⟨s.seq h1, fun l hl => k _ _ _ (.new s hl) (.tup (.inl (.inl upd_same)) (dps_same (same_upd (s.free hl)) h2))⟩⟩
  · cases e
    cases r with
    | cons r rr =>
      cases rr
      cases r with
      | tup h1 h2 => exact ⟨_, _, rfl, .inr ⟨sameT s h1, k _ G H (.refl s) (.tup h1 h2)⟩⟩
  · cases e⟩
def blsOf : List D → Option (List Bool)
  | [] => some []
  | .bool b :: r => (blsOf r).map (b :: ·)
  | _ => none
theorem blsOf_some : ∀ {ds : List D} {bs : List Bool}, blsOf ds = some bs → ds = bs.map PyData.bool
  | [], _, h => by cases h; rfl
  | .bool b :: r, _, h => by
    obtain ⟨t, ht, rfl⟩ := Option.map_eq_some_iff.mp (show (blsOf r).map (b :: ·) = _ from h)
    rw [blsOf_some ht]; rfl
  | .none :: _, _, h => by cases h
  | .int _ :: _, _, h => by cases h
  | .str _ :: _, _, h => by cases h
  | .list _ :: _, _, h => by cases h
  | .tuple _ :: _, _, h => by cases h
  | .dict _ :: _, _, h => by cases h
def cAny : List D → Option D
  | [.list ds] => (blsOf ds).map fun bs => .bool (bs.any id)
  | _ => none
theorem c_any (hc : X.calm = true) : CRD X (.builtin "any") cAny := ⟨_, cr_any hc, fun G H vs ds dz Q s r e k => by
  unfold cAny at e
  split at e
  · obtain ⟨bs, hb, rfl⟩ := Option.map_eq_some_iff.mp e
    have hb := blsOf_some hb
    subst hb
    cases r with
    | cons r rr =>
      cases rr
      cases r with
      | lst h1 h2 =>
        rw [bls_of h2] at h1
        exact ⟨_, bs, rfl, s.seq h1, k _ G H (.refl s) (.bl _)⟩
  · cases e⟩
end
end DL

set_option Elab.async false
set_option linter.all false
set_option maxRecDepth 100000
/-! DLe: targets, statements, loops, comprehensions, defs. -/
namespace DL
open PySem PySem.Spec PyProof.Rows L2
section
variable {X : Cx} {a b c e o : Expr} {es rest : List Expr} {fa fb fc : En → Option D} {ts : En → Option (List D)} {pos apos p : Pos}

/-! ### targets -/
def tn (i : Nat) : D → En → Option En := fun d env => some (env.set i (.val d))
theorem dg_name {i : Nat} {x : Str} (hN : X.N.Nodup) (hi : X.N[i]? = some x := by rfl) (hx : Loc X.env.scope x := by first | exact Or.inl rfl | exact Or.inr rfl) (hf : X.fn x = true ∨ X.env.scope.names.lookup x = some .local := by first | exact .inl rfl | exact .inr rfl | assumption) : DG X (.Name x pos) [i] (tn i) :=
  pg_imp (pg_name (i := i) hN hi hx hf) fun v σ H Q ⟨G0, H0, G, env, d, env', s, r, e, k⟩ => by
    cases e
    exact k _ (s.setVal i r) (.set σ i _)
def gsNil : List D → En → Option En := fun ds env => match ds with | [] => some env | _ => none
def gsCons (g : D → En → Option En) (gs : List D → En → Option En) : List D → En → Option En := fun ds env => match ds with | d :: r => (g d env).bind (gs r) | _ => none
theorem dgs_nil : DGs X [] [] gsNil := pgs_imp pgs_nil fun v σ H Q ⟨G0, H0, G, env, ds, env', s, r, e, k⟩ => by
  cases ds with
  | nil => cases e; cases r; exact ⟨rfl, k σ s (.refl _ _)⟩
  | cons x y => cases e
theorem dgs_cons {ss tt : List Nat} {g : D → En → Option En} {gs : List D → En → Option En} (h1 : DG X e ss g) (h2 : DGs X es tt gs) (hs : (assignEach (e :: es) X.env).map (·.2) = assign e X.env :: (assignEach es X.env).map (·.2) := by rfl) : DGs X (e :: es) (ss ++ tt) (gsCons g gs) :=
  pgs_imp (pgs_cons h1 h2 hs) fun v σ H Q ⟨G0, H0, G, env, ds, env', s, r, e, k⟩ => by
    cases ds with
    | nil => cases e
    | cons x y =>
      obtain ⟨e1, h1, h2⟩ := Option.bind_eq_some_iff.mp (show (g x env).bind (gs y) = some env' from e)
      cases r with
      | cons r1 r2 =>
        exact ⟨_, _, rfl, G0, H0, G, env, x, e1, s, r1, h1, fun σ1 s1 o1 => ⟨G0, H0, G, e1, y, env', s1, r2, h2, fun σ2 s2 o2 => k σ2 s2 (o1.trans o2 (fun i hi => List.mem_append_left _ hi) fun i hi => List.mem_append_right _ hi)⟩⟩
def tt (n : Nat) (gs : List D → En → Option En) : D → En → Option En := fun d env => (tlOf d).bind fun ds => if ds.length = n then gs ds env else none
theorem pg_or {e : Expr} {t u : TG} (h : PG X e t) (h' : PG X e u) : PG X e (fun v σ H Q => t v σ H Q ∨ u v σ H Q) := ⟨fun pins s σ H v w Q I r q => by
  rcases q with q | q
  · exact h.run pins s σ H v w Q I r q
  · exact h'.run pins s σ H v w Q I r q⟩
theorem dg_tup {ss : List Nat} {gs : List D → En → Option En} {k n : Nat} (hc : X.calm = true) (h : DGs X es ss gs) (hn : (assignEach es X.env).length = n := by rfl) (hst : (assignEach es X.env).findIdx? (·.1) = none := by rfl) : DG X (.Tuple es k pos) ss (tt n gs) :=
  pg_imp (pg_or (pg_tup hc h hn hst) (pg_unl hc h hn hst)) fun v σ H Q ⟨G0, H0, G, env, d, env', s, r, e, q⟩ => by
    obtain ⟨ds, ed, eg⟩ := Option.bind_eq_some_iff.mp e
    split at eg
    · rename_i hl
      unfold tlOf at ed
      split at ed
      · cases ed
        cases r with
        | lst h1 h2 => exact .inr ⟨_, _, rfl, s.sm.seq h1, by rw [dps_len h2]; exact hl, G0, H0, G, env, _, env', s, h2, eg, q⟩
      · cases ed
        cases r with
        | tup h1 h2 => exact .inl ⟨_, _, rfl, sameT s.sm h1, by rw [dps_len h2]; exact hl, G0, H0, G, env, _, env', s, h2, eg, q⟩
      · cases ed
    · cases eg

/-! ### statements -/
variable {st : Stmt} {sts : List Stmt} {f g : En → Option Out}
def nxF : En → Option Out := fun env => some (.nx env)
def seqF (f g : En → Option Out) : En → Option Out := fun env => (f env).bind fun o => match o with
  | .nx e => g e
  | o => some o
theorem dss_nil : DSs X [] nxF := pss_imp pss_nil fun D σ H ⟨G0, H0, G, env, o, s, e, k⟩ => by
  cases e; exact k σ G H s
theorem dss_cons (h1 : DS X st f) (h2 : DSs X sts g) : DSs X (st :: sts) (seqF f g) := pss_imp (pss_cons h1 h2) fun D σ H ⟨G0, H0, G, env, o, s, e, k⟩ => by
  obtain ⟨o1, e1, e⟩ := Option.bind_eq_some_iff.mp e
  refine ⟨G0, H0, G, env, o1, s, e1, ?_⟩
  cases o1 with
  | nx e' => exact fun σ' G' H' s' => ⟨G0, H0, G', e', o, s', e, k⟩
  | rt d => cases e; exact k
  | bk e' => cases e; exact k
  | ct e' => cases e; exact k
theorem dss_one (h1 : DS X st f) : DSs X [st] f := pss_one h1
theorem ds_pass : DS X (.Pass pos) nxF := ps_imp ps_pass fun D σ H ⟨G0, H0, G, env, o, s, e, k⟩ => by
  cases e; exact k σ G H s
def bkF : En → Option Out := fun env => some (.bk env)
def ctF : En → Option Out := fun env => some (.ct env)
def nvrF : En → Option Out := fun _ => none
def exF (f : En → Option D) : En → Option Out := fun env => (f env).map fun _ => .nx env
def rnF : En → Option Out := fun _ => some (.rt .none)
theorem ds_break : DS X (.Break pos) bkF := ps_imp ps_break fun D σ H ⟨G0, H0, G, env, o, s, e, k⟩ => by
  cases e; exact k σ G H s
theorem ds_cont : DS X (.Continue pos) ctF := ps_imp ps_continue fun D σ H ⟨G0, H0, G, env, o, s, e, k⟩ => by
  cases e; exact k σ G H s
theorem ds_doc {x j pos pos'} : DS X (.Expr (.Constant (.str x) j pos) pos') nxF := ps_imp ps_doc fun D σ H ⟨G0, H0, G, env, o, s, e, k⟩ => by
  cases e; exact k σ G H s
theorem ds_never : DS X st nvrF := ps_imp ps_never fun D σ H ⟨G0, H0, G, env, o, s, e, k⟩ => by cases e
theorem ds_expr (he : DE X e fa) (hs : swapsWith e none pos.line X.env = pure false := by rfl) : DS X (.Expr e pos) (exF fa) := ps_imp (ps_expr he hs) fun D σ H ⟨G0, H0, G, env, o, s, e, k⟩ => by
  obtain ⟨d, ed, rfl⟩ := Option.map_eq_some_iff.mp e
  exact ⟨G0, H0, G, env, d, s, ed, fun v G' H' x r => k σ G' H' (s.exts x)⟩
def retF (f : En → Option D) : En → Option Out := fun env => (f env).map .rt
theorem ds_ret (he : DE X e fa) : DS X (.Return (some e) pos) (retF fa) := ps_imp (ps_ret he) fun D σ H ⟨G0, H0, G, env, o, s, e, k⟩ => by
  obtain ⟨d, ed, rfl⟩ := Option.map_eq_some_iff.mp e
  exact ⟨G0, H0, G, env, d, s, ed, fun v G' H' x r => k v G' H' (s.ext.trans x) r⟩
theorem ds_retN : DS X (.Return none pos) rnF := ps_imp ps_retN fun D σ H ⟨G0, H0, G, env, o, s, e, k⟩ => by
  cases e; exact k _ G H s.ext .non
def ifF (t : En → Option Bool) (f g : En → Option Out) : En → Option Out := fun env => (t env).bind fun b => if b then f env else g env
theorem ds_if {t : En → Option Bool} {as bs : List Stmt} (hc : DT X c t) (ha : DSs X as f) (hb : DSs X bs g) : DS X (.If c as bs pos) (ifF t f g) := ps_imp (ps_if hc ha hb) fun D σ H ⟨G0, H0, G, env, o, s, e, k⟩ => by
  obtain ⟨b, eb, e⟩ := Option.bind_eq_some_iff.mp e
  refine ⟨G0, H0, G, env, b, s, eb, fun G' H' x => ?_⟩
  cases b with
  | true => exact ⟨G0, H0, G', env, o, s.exts x, e, k⟩
  | false => exact ⟨G0, H0, G', env, o, s.exts x, e, k⟩
def asgF (f : En → Option D) (g : D → En → Option En) : En → Option Out := fun env => (f env).bind fun d => (g d env).map .nx
theorem ds_set {i : Nat} {x : Str} {pos' : Pos} (hN : X.N.Nodup) (he : DE X e fa) (hi : X.N[i]? = some x := by rfl) (hx : Loc X.env.scope x := by first | exact Or.inl rfl | exact Or.inr rfl) (hs : swapsWith e (some (.Name x pos')) pos.line X.env = pure false := by rfl) (hf : X.fn x = true ∨ X.env.scope.names.lookup x = some .local := by first | exact .inl rfl | exact .inr rfl | assumption) :
    DS X (.Assign [.Name x pos'] e pos) (asgF fa (tn i)) := ps_imp (ps_set (i := i) hN hi hx he hs hf) fun D σ H ⟨G0, H0, G, env, o, s, e, k⟩ => by
  obtain ⟨d, ed, e⟩ := Option.bind_eq_some_iff.mp e
  cases e
  exact ⟨G0, H0, G, env, d, s, ed, fun v G' H' x r => k _ G' H' ((s.exts x).setVal i r)⟩
def ownF (i : Nat) (f : En → Option (List D)) : En → Option Out := fun env => (f env).map fun ds => .nx (env.set i (.own ds))
/-- a new list under a name: one's own -/
theorem ds_own {i : Nat} {x : Str} {pos' : Pos} {fl : En → Option (List D)} (hN : X.N.Nodup) (he : DF X e fl) (hi : X.N[i]? = some x := by rfl) (hx : Loc X.env.scope x := by first | exact Or.inl rfl | exact Or.inr rfl) (hs : swapsWith e (some (.Name x pos')) pos.line X.env = pure false := by rfl) (hf : X.fn x = true ∨ X.env.scope.names.lookup x = some .local := by first | exact .inl rfl | exact .inr rfl | assumption) :
    DS X (.Assign [.Name x pos'] e pos) (ownF i fl) := ps_imp (ps_set (i := i) hN hi hx he hs hf) fun D σ H ⟨G0, H0, G, env, o, s, e, k⟩ => by
  obtain ⟨ds, ed, rfl⟩ := Option.map_eq_some_iff.mp e
  exact ⟨G0, H0, G, env, ds, s, ed, fun a vs G' H' x n h1 h2 r => k _ G' H' (s.setOwn i x n h1 h2 r)⟩
theorem ds_asg {tg : Expr} {ss : List Nat} {g : D → En → Option En} (he : DE X e fa) (hg : DG X tg ss g) (hs : swapsWithSole [tg] e pos.line X.env = pure false := by rfl) (hw : swappedStores [tg] e X.env = pure none := by rfl)
    (h1 : (assignEach [tg] X.env).map (·.2) = [assign tg X.env] := by rfl) : DS X (.Assign [tg] e pos) (asgF fa g) := ps_imp (ps_asg he hg hs hw h1) fun D σ H ⟨G0, H0, G, env, o, s, e, k⟩ => by
  obtain ⟨d, ed, e⟩ := Option.bind_eq_some_iff.mp e
  obtain ⟨env', ee, rfl⟩ := Option.map_eq_some_iff.mp e
  exact ⟨G0, H0, G, env, d, s, ed, fun v G' H' x r => ⟨G0, H0, G', env, d, env', s.exts x, r, ee, fun σ' s' _ => k σ' G' H' s'⟩⟩
def par2F (i j : Nat) (ts : En → Option (List D)) : En → Option Out := fun env => (ts env).bind fun l => match l with
  | [d1, d2] => some (.nx ((env.set i (.val d1)).set j (.val d2)))
  | _ => none
theorem ds_par {i j : Nat} {x y : Str} {px py pt : Pos} {kt k2 pt2} (hc : X.calm = true) (hN : X.N.Nodup) (ha : DA X [a, b] ts) (hw : swappedStores [.Tuple [.Name x px, .Name y py] kt pt] (.Tuple [a, b] k2 pt2) X.env = pure (some [x, y]))
    (hi : X.N[i]? = some x := by rfl) (hj : X.N[j]? = some y := by rfl) (hij : i ≠ j := by decide) (hx : X.env.scope.names.lookup x = some .local := by rfl) (hy : X.env.scope.names.lookup y = some .local := by rfl)
    (hs : swapsWithSole [.Tuple [.Name x px, .Name y py] kt pt] (.Tuple [a, b] k2 pt2) pos.line X.env = pure false := by rfl) :
    DS X (.Assign [.Tuple [.Name x px, .Name y py] kt pt] (.Tuple [a, b] k2 pt2) pos) (par2F i j ts) := ps_imp (ps_par hc hN hi hj hij hx hy ha hw hs) fun D σ H ⟨G0, H0, G, env, o, s, e, k⟩ => by
  obtain ⟨ds, ed, e⟩ := Option.bind_eq_some_iff.mp e
  split at e
  · cases e
    refine ⟨G0, H0, G, env, _, s, ed, fun vs G' H' x r => ?_⟩
    cases r with
    | cons r1 rr =>
      cases rr with
      | cons r2 rr =>
        cases rr
        exact ⟨_, _, rfl, k _ G' H' (((s.exts x).setVal i r1).setVal j r2)⟩
  · cases e
/-- x += e -/
def augF (i : Nat) (g : D → D → Option D) (f : En → Option D) : En → Option Out := fun env => (vn i env).bind fun x => (f env).bind fun y => (g x y).map fun z => .nx (env.set i (.val z))
def IPD (X : Cx) (op : Operator) (g : D → D → Option D) : Prop := ∃ t, PIp X op t ∧ ∀ (G H : Hp) (x y : V) (dx dy dz : D) (Q : VK), Same G H → Dp X.K G x dx → Dp X.K G y dy → g dx dy = some dz →
  (∀ v G' H', Ext G H G' H' → Dp X.K G' v dz → Q v H') → t x y H Q
theorem ds_aug {i : Nat} {x : Str} {op : Operator} {g : D → D → Option D} {pos' : Pos} (hN : X.N.Nodup) (ho : IPD X op g) (he : DE X e fa) (hi : X.N[i]? = some x := by rfl) (hx : Loc X.env.scope x := by first | exact Or.inl rfl | exact Or.inr rfl) (hf : X.fn x = true ∨ X.env.scope.names.lookup x = some .local := by first | exact .inl rfl | exact .inr rfl | assumption) :
    DS X (.AugAssign (.Name x pos') op e pos) (augF i g fa) := by
  obtain ⟨t, ho, hr⟩ := ho
  refine ps_imp (ps_aug (i := i) hN hi hx he ho hf) fun D σ H ⟨G0, H0, G, env, o, s, e, k⟩ => ?_
  obtain ⟨d1, e1, e⟩ := Option.bind_eq_some_iff.mp e
  obtain ⟨d2, e2, e⟩ := Option.bind_eq_some_iff.mp e
  obtain ⟨d3, e3, rfl⟩ := Option.map_eq_some_iff.mp e
  obtain ⟨v, h1, h2⟩ := s.val (vn_some e1)
  exact ⟨v, h1, G0, H0, G, env, d2, s, e2, fun u G' H' x r => hr G' H' v u d1 d2 d3 _ x.s (dp_same x.g h2) r e3 fun z G2 H2 x2 r2 => k _ G2 H2 ((s.exts (x.trans x2)).setVal i r2)⟩
def iAdd : D → D → Option D
  | .int i, .int j => some (.int (i + j))
  | _, _ => none
def iSub : D → D → Option D
  | .int i, .int j => some (.int (i - j))
  | _, _ => none
theorem i_add : IPD X .Add iAdd := ⟨_, ip_add, fun G H x y dx dy dz Q s rx ry e k => by
  unfold iAdd at e
  split at e
  · cases e; cases rx; cases ry; exact ⟨_, _, rfl, rfl, k _ G H (.refl s) (.int _)⟩
  · cases e⟩
theorem i_sub : IPD X .Sub iSub := ⟨_, ip_sub, fun G H x y dx dy dz Q s rx ry e k => by
  unfold iSub at e
  split at e
  · cases e; cases rx; cases ry; exact ⟨_, _, rfl, rfl, k _ G H (.refl s) (.int _)⟩
  · cases e⟩
/-- one's own list shared from here on -/
def frzE (i : Nat) (env : En) : En := match env[i]? with
  | some (.own ds) => env.set i (.val (.list ds))
  | _ => env
theorem frz_ok {K : PySem.W.Frag} {G0 H0 G H : Hp} {σ : St} {env : En} (s : StOk K G0 H0 G H σ env) (i : Nat) : ∃ G', StOk K G0 H0 G' H σ (frzE i env) := by
  unfold frzE
  split
  · rename_i ds q
    obtain ⟨a, vs, h1, h2, h3, h4, h5⟩ := s.own q
    exact ⟨_, s.frz q h1 h2 h3 h4 h5⟩
  · exact ⟨G, s⟩
def fzF (i : Nat) (f : En → Option Out) : En → Option Out := fun env => f (frzE i env)
theorem dss_frz (i : Nat) (h : DSs X sts f) : DSs X sts (fzF i f) := pss_imp h fun D σ H ⟨G0, H0, G, env, o, s, e, k⟩ => by
  obtain ⟨G', s'⟩ := frz_ok s i
  exact ⟨G0, H0, G', _, o, s', e, k⟩
theorem ds_frz (i : Nat) (h : DS X st f) : DS X st (fzF i f) := ps_imp h fun D σ H ⟨G0, H0, G, env, o, s, e, k⟩ => by
  obtain ⟨G', s'⟩ := frz_ok s i
  exact ⟨G0, H0, G', _, o, s', e, k⟩
/-- a slot forgotten -/
theorem dss_drop (i : Nat) (h : DSs X sts f) : DSs X sts (fun env => f (env.set i .no)) := pss_imp h fun D' σ H ⟨G0, H0, G, env, o, s, e, k⟩ => by
  refine ⟨G0, H0, G, _, o, ⟨s.ext, by rw [List.length_set]; exact s.len, fun j t q => ?_, fun j l b ds es q1 q2 => ?_⟩, e, k⟩
  · by_cases hj : j = i
    · subst hj
      have hl : j < env.length := by
        have := (List.getElem?_eq_some_iff.mp q).1
        rwa [List.length_set] at this
      rw [List.getElem?_set_self hl] at q; cases q; trivial
    · rw [List.getElem?_set_ne (Ne.symm hj)] at q; exact s.ok j t q
  · have back : ∀ {j : Nat} {ds' : List D}, (env.set i .no)[j]? = some (.own ds') → env[j]? = some (.own ds') := fun {j ds'} q => by
      by_cases hj : j = i
      · subst hj
        have hl : j < env.length := by
          have := (List.getElem?_eq_some_iff.mp q).1
          rwa [List.length_set] at this
        rw [List.getElem?_set_self hl] at q; cases q
      · rw [List.getElem?_set_ne (Ne.symm hj)] at q; exact q
    exact s.dis j l b ds es (back q1) (back q2)

/-! ### a list of one's own changed -/
def mutF (i : Nat) (h : List D → D → Option (List D)) (f : En → Option D) : En → Option Out := fun env => match env[i]? with
  | some (.own ds) => (f env).bind fun d => (h ds d).map fun es => .nx (env.set i (.own es))
  | _ => none
def hApp (ds : List D) (d : D) : Option (List D) := if fits ds.length then some (ds ++ [d]) else none
theorem lenFits1 {n : Nat} (h : fits n = true) : n < sizeLine := by
  unfold fits at h
  have := of_decide_eq_true h
  rw [sizeLine_eq]; omega
theorem ds_append {i : Nat} {x : Str} {xp cpos : Pos} (he : DE X e fa) (hN : X.N[i]? = some x := by rfl) (hv : Vis X.env.scope x := by first | exact Or.inl rfl | exact Or.inr (Or.inl rfl) | exact Or.inr (Or.inr rfl)) (hd : (x == ("__debug__" : Str)) = false := by decide)
    (hcd : (x == ("__classdict__" : Str)) = false := by decide) (hbase : attributeBase (.Name x xp) "append" X.env (eval (.Name x xp) X.env) = eval (.Name x xp) X.env := by rfl)
    (hfew : ((backTo cpos (starEach (e :: []) X.env)).all (fun x => !x.1) && (backToKw cpos (keywordEach [] X.env)).all (fun x => x.1.isSome)
      && decide ((e :: []).length + ([] : List Keyword).length + (if ([] : List Keyword).isEmpty then 0 else 1) < 30)) = true := by rfl)
    (hline : (apos.endLine == cpos.line) = true := by rfl) (hs : starEach (e :: []) X.env = (false, eval e X.env) :: starEach [] X.env := by rfl) (hplain : (backTo cpos (starEach [] X.env)).any (·.1) = false := by rfl) :
    DS X (.Expr (.Call (.Attribute (.Name x xp) "append" apos) [e] [] cpos) pos) (mutF i hApp fa) :=
  ps_imp (ps_expr (pe_bm PySem.F.plainAttrs_list PySem.F.slot_list_append PySem.F.type_list_append mt_append (pv i hN hv hd hcd) (da_cons he da_nil hs) hbase hfew hline hs hplain)) fun D σ H ⟨G0, H0, G, env, o, s, e, k⟩ => by
    unfold mutF at e
    split at e
    · rename_i ds q
      obtain ⟨d, ed, e⟩ := Option.bind_eq_some_iff.mp e
      obtain ⟨es, ee, rfl⟩ := Option.map_eq_some_iff.mp e
      unfold hApp at ee
      split at ee
      · rename_i hf
        cases ee
        obtain ⟨a, vs, h1, h2, h3, h4, h5⟩ := s.own q
        refine ⟨.ref a, h1, .inl ⟨rfl, vs, .inl (.inl h2)⟩, G0, H0, G, env, [d], s, by simp [consF, ed, nilF], fun ws G' H' x r => ?_⟩
        cases r with
        | cons r rr =>
          cases rr
          have s' := s.exts x
          refine ⟨a, vs, _, rfl, rfl, x.h _ _ h2, by rw [dps_len h5]; exact lenFits1 hf, ?_⟩
          exact k _ G' _ (s'.mut q h1 (x.h _ _ h2) (x.n _ _ h2 h3) h4 (dps_append (dps_same x.g h5) (.cons r .nil)))
      · cases ee
    · cases e
def mut0F (i : Nat) (h : List D → Option (List D)) : En → Option Out := fun env => match env[i]? with
  | some (.own ds) => (h ds).map fun es => .nx (env.set i (.own es))
  | _ => none
def hPop (ds : List D) : Option (List D) := if ds.isEmpty then none else some ds.dropLast
theorem ds_pop {i : Nat} {x : Str} {xp cpos : Pos} (hN : X.N[i]? = some x := by rfl) (hv : Vis X.env.scope x := by first | exact Or.inl rfl | exact Or.inr (Or.inl rfl) | exact Or.inr (Or.inr rfl)) (hd : (x == ("__debug__" : Str)) = false := by decide)
    (hcd : (x == ("__classdict__" : Str)) = false := by decide) (hbase : attributeBase (.Name x xp) "pop" X.env (eval (.Name x xp) X.env) = eval (.Name x xp) X.env := by rfl) (hline : (apos.endLine == cpos.line) = true := by rfl) :
    DS X (.Expr (.Call (.Attribute (.Name x xp) "pop" apos) [] [] cpos) pos) (mut0F i hPop) :=
  ps_imp (ps_expr (pe_bm0 PySem.F.plainAttrs_list PySem.F.slot_list_pop PySem.F.type_list_pop mt_pop (pv i hN hv hd hcd) hbase hline)) fun D σ H ⟨G0, H0, G, env, o, s, e, k⟩ => by
    unfold mut0F at e
    split at e
    · rename_i ds q
      obtain ⟨es, ee, rfl⟩ := Option.map_eq_some_iff.mp e
      unfold hPop at ee
      split at ee
      · cases ee
      · rename_i hne
        cases ee
        obtain ⟨a, vs, h1, h2, h3, h4, h5⟩ := s.own q
        have hl := dps_len h5
        have hpos : 0 < vs.length := by
          cases ds with
          | nil => simp at hne
          | cons x y => rw [hl]; simp
        refine ⟨.ref a, h1, .inl ⟨rfl, vs, .inl (.inl h2)⟩, a, vs, vs[vs.length - 1]'(by omega), rfl, rfl, h2, List.getElem?_eq_getElem (by omega), ?_⟩
        exact k _ G _ (s.mut q h1 h2 h3 h4 (dps_dropLast h5))
    · cases e
end
end DL

set_option Elab.async false
set_option linter.all false
set_option maxRecDepth 100000
/-! DLf: what is walked, loops, comprehensions, defs. -/
namespace DL
open PySem PySem.Spec PyProof.Rows L2

/-! ### what is walked -/
/-- the iterator J yields the data ds, over the shared heap G -/
structure IsIt (K : PySem.W.Frag) (J : It) (G : Hp) (ds : List D) : Prop where
  go : ∀ (i : Nat) G' H', Same G G' → Same G' H' → i < ds.length → J.go i H'
  stop : ∀ (i : Nat) G' H', Same G G' → Same G' H' → i = ds.length → J.stop i H'
  yld : ∀ (i : Nat) G' H' v H'', Same G G' → Same G' H' → i < ds.length → J.yld i H' v H'' → ∃ G'' d, Ext G' H' G'' H'' ∧ ds[i]? = some d ∧ Dp K G'' v d
def IV (K : PySem.W.Frag) (f : En → Option (List D)) : TI := fun σ H R => ∃ G0 H0 G env ds, StOk K G0 H0 G H σ env ∧ f env = some ds ∧ ∀ J G' H', Ext G H G' H' → IsIt K J G' ds → R J H'
abbrev DI (X : Cx) (tg e : Expr) (f : En → Option (List D)) : Prop := PI X tg e (IV X.K f)
theorem isIt_list {K : PySem.W.Frag} {G : Hp} {a : Addr} {vs : List V} {ds : List D} (h : SqL K G a vs) (r : DpAll K G vs ds) : IsIt K (Itl K a) G ds where
  go := fun i G' H' s1 s2 hi => by
    have hi' : i < vs.length := by rw [dps_len r]; exact hi
    exact ⟨vs, vs[i], s2.seq (s1.seq h), List.getElem?_eq_getElem hi'⟩
  stop := fun i G' H' s1 s2 hi => ⟨vs, s2.seq (s1.seq h), by rw [dps_len r, hi]; exact Nat.le_refl _⟩
  yld := fun i G' H' v H'' s1 s2 hi y => by
    obtain ⟨rfl, y⟩ := y
    obtain ⟨u, h1, h2⟩ := dps_get r (List.getElem?_eq_getElem hi)
    have := y vs (s2.seq (s1.seq h))
    rw [h1] at this; cases this
    exact ⟨G', _, .refl s2, List.getElem?_eq_getElem hi, dp_same s1 h2⟩
theorem isIt_tup {K : PySem.W.Frag} {G : Hp} {a : Addr} {vs : List V} {ds : List D} (h : SqT K G a vs) (r : DpAll K G vs ds) : IsIt K (Itt K a) G ds where
  go := fun i G' H' s1 s2 hi => by
    have hi' : i < vs.length := by rw [dps_len r]; exact hi
    exact ⟨vs, vs[i], sameT s2 (sameT s1 h), List.getElem?_eq_getElem hi'⟩
  stop := fun i G' H' s1 s2 hi => ⟨vs, sameT s2 (sameT s1 h), by rw [dps_len r, hi]; exact Nat.le_refl _⟩
  yld := fun i G' H' v H'' s1 s2 hi y => by
    obtain ⟨rfl, y⟩ := y
    obtain ⟨u, h1, h2⟩ := dps_get r (List.getElem?_eq_getElem hi)
    have := y vs (sameT s2 (sameT s1 h))
    rw [h1] at this; cases this
    exact ⟨G', _, .refl s2, List.getElem?_eq_getElem hi, dp_same s1 h2⟩
def rangeD (lo : Int) (n : Nat) : List D := (List.range n).map fun i => .int (lo + (i : Nat))
theorem isIt_range {K : PySem.W.Frag} {G : Hp} (lo : Int) (n : Nat) : IsIt K (Itr lo n) G (rangeD lo n) where
  go := fun i G' H' s1 s2 hi => by
    have : i < n := by simpa [rangeD] using hi
    exact this
  stop := fun i G' H' s1 s2 hi => by
    have : i = n := by simpa [rangeD] using hi
    exact Nat.le_of_eq this.symm
  yld := fun i G' H' v H'' s1 s2 hi y => by
    obtain ⟨rfl, rfl⟩ := y
    have : i < n := by simpa [rangeD] using hi
    exact ⟨G', _, .refl s2, by simp [rangeD, this], .int _⟩
def enumD (ds : List D) : List D := ds.zipIdx.map fun p => .tuple [.int ((p.2 : Nat) : Int), p.1]
theorem isIt_enum {K : PySem.W.Frag} {G : Hp} {a : Addr} {vs : List V} {ds : List D} (h : SqL K G a vs) (r : DpAll K G vs ds) : IsIt K (Ite K a) G (enumD ds) where
  go := fun i G' H' s1 s2 hi => by
    have hi' : i < vs.length := by rw [dps_len r]; simpa [enumD] using hi
    exact ⟨vs, vs[i], s2.seq (s1.seq h), List.getElem?_eq_getElem hi'⟩
  stop := fun i G' H' s1 s2 hi => ⟨vs, s2.seq (s1.seq h), by rw [dps_len r, hi]; simp [enumD]⟩
  yld := fun i G' H' v H'' s1 s2 hi y => by
    obtain ⟨T, x, rfl, hT, rfl, y⟩ := y
    have hi' : i < ds.length := by simpa [enumD] using hi
    obtain ⟨u, h1, h2⟩ := dps_get r (List.getElem?_eq_getElem hi')
    have := y vs (s2.seq (s1.seq h))
    rw [h1] at this; cases this
    refine ⟨_, .tuple [.int (i : Nat), ds[i]'hi'], .new s2 hT, by simp [enumD, hi'], .tup (.inl (.inl upd_same)) ?_⟩
    exact .cons (.int _) (.cons (dp_same (s1.trans (same_upd (s2.free hT))) h2) .nil)
def zipD (xs ys : List D) : List D := List.zipWith (fun x y => .tuple [x, y]) xs ys
theorem isIt_zip {K : PySem.W.Frag} {G : Hp} {a b : Addr} {vs ws : List V} {ds es : List D} (h : SqL K G a vs) (r : DpAll K G vs ds) (h' : SqL K G b ws) (r' : DpAll K G ws es) : IsIt K (Itz K a b) G (zipD ds es) where
  go := fun i G' H' s1 s2 hi => by
    have hi' : i < ds.length ∧ i < es.length := by simpa [zipD, Nat.lt_min] using hi
    have h1 : i < vs.length := by rw [dps_len r]; exact hi'.1
    have h2 : i < ws.length := by rw [dps_len r']; exact hi'.2
    exact ⟨vs, ws, vs[i], ws[i], s2.seq (s1.seq h), s2.seq (s1.seq h'), List.getElem?_eq_getElem h1, List.getElem?_eq_getElem h2⟩
  stop := fun i G' H' s1 s2 hi => by
    have hl : i = min ds.length es.length := by simpa [zipD] using hi
    exact ⟨vs, ws, s2.seq (s1.seq h), s2.seq (s1.seq h'), by rw [dps_len r, dps_len r']; omega⟩
  yld := fun i G' H' v H'' s1 s2 hi y => by
    obtain ⟨T, x, z, rfl, hT, rfl, y1, y2⟩ := y
    have hi' : i < ds.length ∧ i < es.length := by simpa [zipD, Nat.lt_min] using hi
    obtain ⟨u, h1, h2⟩ := dps_get r (List.getElem?_eq_getElem hi'.1)
    obtain ⟨u', h3, h4⟩ := dps_get r' (List.getElem?_eq_getElem hi'.2)
    have e1 : u = x := Option.some.inj (h1.symm.trans (y1 vs (s2.seq (s1.seq h))))
    have e2 : u' = z := Option.some.inj (h3.symm.trans (y2 ws (s2.seq (s1.seq h'))))
    subst e1 e2
    have sx : Same G (upd G' T (.tup [u, u'])) := s1.trans (same_upd (s2.free hT))
    refine ⟨_, .tuple [ds[i]'hi'.1, es[i]'hi'.2], .new s2 hT, ?_, .tup (.inl (.inl upd_same)) (.cons (dp_same sx h2) (.cons (dp_same sx h4) .nil))⟩
    unfold zipD
    rw [List.getElem?_zipWith, List.getElem?_eq_getElem hi'.1, List.getElem?_eq_getElem hi'.2]
def strD (z : Str) : List D := z.cps.toList.map fun c => .str ⟨#[c]⟩
theorem isIt_str {K : PySem.W.Frag} {G : Hp} (z : Str) : IsIt K (Its z) G (strD z) where
  go := fun i G' H' s1 s2 hi => by
    have : i < z.cps.size := by simpa [strD] using hi
    exact this
  stop := fun i G' H' s1 s2 hi => by
    have : i = z.cps.size := by simpa [strD] using hi
    exact Nat.le_of_eq this.symm
  yld := fun i G' H' v H'' s1 s2 hi y => by
    obtain ⟨rfl, c, hc, rfl⟩ := y
    exact ⟨G', _, .refl s2, by simp [strD, hc], .str _⟩
def revD (ds : List D) : List D := ds.reverse
theorem pi_one2 {X : Cx} {tg e : Expr} {t u : TI} (h : PI X tg e t) (h' : PI X tg e u) : PI X tg e (fun σ H R => t σ H R ∨ u σ H R) := ⟨fun pins s σ H R I q => by
  rcases q with q | q
  · exact h.run pins s σ H R I q
  · exact h'.run pins s σ H R I q⟩

section
variable {X : Cx} {a b c e o tg : Expr} {es rest : List Expr} {fa fb fc : En → Option D} {ts : En → Option (List D)} {pos apos p : Pos}
/-- a list that is shared -/
theorem di_list (ha : DE X e fa) : DI X tg e (loF fa) := pi_imp (pi_list ha) fun σ H R ⟨G0, H0, G, env, ds, s, e, k⟩ => by
  obtain ⟨d, ed, e⟩ := Option.bind_eq_some_iff.mp e
  have := lsOf_some e
  subst this
  refine ⟨G0, H0, G, env, _, s, ed, fun v G' H' x r => ?_⟩
  cases r with
  | lst h1 h2 => exact ⟨_, rfl, ⟨_, x.s.seq h1⟩, k _ G' H' x (isIt_list h1 h2)⟩
def tpOf : D → Option (List D)
  | .tuple ds => some ds
  | _ => none
theorem tpOf_some {d : D} {ds : List D} (h : tpOf d = some ds) : d = .tuple ds := by
  cases d <;> simp [tpOf] at h
  rw [h]
theorem di_tup (ha : DE X e fa) : DI X tg e (fun env => (fa env).bind tpOf) := pi_imp (pi_tup ha) fun σ H R ⟨G0, H0, G, env, ds, s, e, k⟩ => by
  obtain ⟨d, ed, e⟩ := Option.bind_eq_some_iff.mp e
  have := tpOf_some e
  subst this
  refine ⟨G0, H0, G, env, _, s, ed, fun v G' H' x r => ?_⟩
  cases r with
  | tup h1 h2 => exact ⟨_, rfl, ⟨_, sameT x.s h1⟩, k _ G' H' x (isIt_tup h1 h2)⟩
def stOf : D → Option (List D)
  | .str z => some (strD z)
  | _ => none
theorem di_str (ha : DE X e fa) : DI X tg e (fun env => (fa env).bind stOf) := pi_imp (pi_str ha) fun σ H R ⟨G0, H0, G, env, ds, s, e, k⟩ => by
  obtain ⟨d, ed, e⟩ := Option.bind_eq_some_iff.mp e
  refine ⟨G0, H0, G, env, _, s, ed, fun v G' H' x r => ?_⟩
  unfold stOf at e
  split at e
  · cases e; cases r; exact ⟨_, rfl, k _ G' H' x (isIt_str _)⟩
  · cases e
def iaF (f : En → Option D) : En → Option (List D) := fun env => (f env).bind fun d => (tlOf d).or (stOf d)
/-- a list, a tuple or a text -/
theorem di_any (ha : DE X e fa) : DI X tg e (iaF fa) :=
  pi_imp (pi_one2 (di_list ha) (pi_one2 (di_tup ha) (di_str ha))) fun σ H R ⟨G0, H0, G, env, ds, s, e, k⟩ => by
    obtain ⟨d, ed, e⟩ := Option.bind_eq_some_iff.mp e
    cases d with
    | list l => exact .inl ⟨G0, H0, G, env, ds, s, by show (fa env).bind lsOf = some ds; rw [ed]; exact e, k⟩
    | tuple l => exact .inr (.inl ⟨G0, H0, G, env, ds, s, by show (fa env).bind tpOf = some ds; rw [ed]; exact e, k⟩)
    | str l => exact .inr (.inr ⟨G0, H0, G, env, ds, s, by show (fa env).bind stOf = some ds; rw [ed]; exact e, k⟩)
    | none => cases e
    | bool _ => cases e
    | int _ => cases e
    | dict _ => cases e
def rg1 : List D → Option (List D)
  | [.int j] => if decide (-4611686018427387904 ≤ j ∧ j < 4611686018427387904) then some (rangeD 0 j.toNat) else none
  | _ => none
def rg2 : List D → Option (List D)
  | [.int i, .int j] => if decide ((-4611686018427387904 ≤ i ∧ i < 4611686018427387904) ∧ -4611686018427387904 ≤ j ∧ j < 4611686018427387904) then some (rangeD i (j - i).toNat) else none
  | _ => none
def r1F (ts : En → Option (List D)) : En → Option (List D) := fun env => (ts env).bind rg1
def r2F (ts : En → Option (List D)) : En → Option (List D) := fun env => (ts env).bind rg2
theorem di_range1 {p' : Pos} (ha : DA X [a] ts) (hm : X.mg "range" = none) (hg : Gl X "range" := by rfl) (hs : starEach [a] X.env = [(false, eval a X.env)] := by rfl) : DI X tg (.Call (.Name "range" p) [a] [] p') (r1F ts) :=
  pi_imp (pi_range1 hg hm ha hs) fun σ H R ⟨G0, H0, G, env, ds, s, e, k⟩ => by
    obtain ⟨d, ed, e⟩ := Option.bind_eq_some_iff.mp e
    refine ⟨G0, H0, G, env, _, s, ed, fun vs G' H' x r => ?_⟩
    unfold rg1 at e
    split at e
    · split at e
      · rename_i h
        have h := of_decide_eq_true h
        cases e
        cases r with
        | cons r rr =>
          cases rr; cases r
          exact ⟨_, rfl, by omega, by omega, k _ G' H' x (isIt_range 0 _)⟩
      · cases e
    · cases e
theorem di_range2 {p' : Pos} (ha : DA X [a, b] ts) (hm : X.mg "range" = none) (hg : Gl X "range" := by rfl) (hs : starEach [a, b] X.env = [(false, eval a X.env), (false, eval b X.env)] := by rfl) (hs2 : starEach [b] X.env = [(false, eval b X.env)] := by rfl) :
    DI X tg (.Call (.Name "range" p) [a, b] [] p') (r2F ts) :=
  pi_imp (pi_range2 hg hm ha hs hs2) fun σ H R ⟨G0, H0, G, env, ds, s, e, k⟩ => by
    obtain ⟨d, ed, e⟩ := Option.bind_eq_some_iff.mp e
    refine ⟨G0, H0, G, env, _, s, ed, fun vs G' H' x r => ?_⟩
    unfold rg2 at e
    split at e
    · split at e
      · rename_i h
        have h := of_decide_eq_true h
        cases e
        cases r with
        | cons r rr =>
          cases rr with
          | cons r2 rr =>
            cases rr; cases r; cases r2
            exact ⟨_, _, rfl, ⟨by omega, by omega, by omega, by omega⟩, k _ G' H' x (isIt_range _ _)⟩
      · cases e
    · cases e
def enF (f : En → Option D) : En → Option (List D) := fun env => ((f env).bind lsOf).map enumD
theorem di_enum {elts : List Expr} {kk : Nat} {p' tpos : Pos} (ha : DE X a fa) (hm : X.mg "enumerate" = none) (hg : Gl X "enumerate" := by rfl) (hs : starEach [a] X.env = [(false, eval a X.env)] := by rfl) (hs1 : starEach (a :: []) X.env = (false, eval a X.env) :: starEach [] X.env := by rfl) :
    DI X (.Tuple elts kk tpos) (.Call (.Name "enumerate" p) [a] [] p') (enF fa) :=
  pi_imp (pi_enum hg hm (da_cons ha da_nil hs1) hs) fun σ H R ⟨G0, H0, G, env, ds, s, e, k⟩ => by
    obtain ⟨l, el, rfl⟩ := Option.map_eq_some_iff.mp e
    obtain ⟨d, ed, el⟩ := Option.bind_eq_some_iff.mp el
    have := lsOf_some el
    subst this
    refine ⟨G0, H0, G, env, [.list l], s, by simp [consF, ed, nilF], fun vs G' H' x r => ?_⟩
    cases r with
    | cons r rr =>
      cases rr
      cases r with
      | lst h1 h2 => exact ⟨_, _, rfl, x.s.seq h1, k _ G' H' x (isIt_enum h1 h2)⟩

/-! ### for -/
def loopF (step : D → En → Option Out) : List D → En → Option Out
  | [], env => some (.nx env)
  | d :: ds, env => (step d env).bind fun o => match o with
    | .nx e => loopF step ds e
    | .ct e => loopF step ds e
    | .bk e => some (.nx e)
    | .rt d => some (.rt d)
def forF (fi : En → Option (List D)) (g : D → En → Option En) (fb : En → Option Out) : En → Option Out := fun env => (fi env).bind fun ds => loopF (fun d env => (g d env).bind fb) ds env
section
variable {K : PySem.W.Frag} {G0 H0 G1 H1 G H : Hp} {σ : St} {env : En}
theorem StOk.rebase (s : StOk K G0 H0 G H σ env) (h : Same G0 G1) (h2 : Same G1 G) : StOk K G1 H0 G H σ env :=
  ⟨⟨s.ext.h, h2, s.ext.s, fun a o e n => s.ext.n a o e (h.free n)⟩, s.len, s.ok, s.dis⟩
theorem ext_unbase (x : Ext G0 H0 G1 H1) {G' H' : Hp} (y : Ext G1 H0 G' H') : Ext G0 H0 G' H' := ⟨y.h, x.g.trans y.g, y.s, fun a o e n => y.n a o e (x.n a o e n)⟩
theorem StOk.unbase (x : Ext G0 H0 G1 H1) (s : StOk K G1 H0 G H σ env) : StOk K G0 H0 G H σ env := ⟨ext_unbase x s.ext, s.len, s.ok, s.dis⟩
end
theorem ds_for {iter : Expr} {body : List Stmt} {fi : En → Option (List D)} {ss : List Nat} {g : D → En → Option En} {fb : En → Option Out} (hp : PassesOwn (model X.prog X.w) X.A X.env X.xe) (hc : X.calm = true) (hi : DI X tg iter fi) (hg : DG X tg ss g) (hb : DSs X body fb)
    (hs : ∀ x, foldedSetIterable iter X.env x = pure x := by intro _; rfl) : DS X (.For tg iter body [] pos) (forF fi g fb) := ps_imp (ps_for hp hc hi hg hb hs) fun D' σ H ⟨G0, H0, G, env, o, s, e, k⟩ => by
  obtain ⟨ds, ed, e⟩ := Option.bind_eq_some_iff.mp e
  refine ⟨G0, H0, G, env, ds, s, ed, fun J G1 H1 x1 it => ?_⟩
  have s1 := s.exts x1
  refine ⟨fun i m σ H => m = ds.length - i ∧ i ≤ ds.length ∧ ∃ G env', StOk X.K G0 H0 G H σ env' ∧ Same G1 G ∧ loopF (fun d env => (g d env).bind fb) (ds.drop i) env' = some o, ⟨_, rfl, Nat.zero_le _, G1, env, s1, Same.refl _, e⟩, ?_⟩
  rintro i m σ2 H2 ⟨rfl, hi, G2, env2, s2, sm, el⟩
  by_cases hlt : i < ds.length
  · refine .inr ⟨it.go i G2 H2 sm s2.sm hlt, fun σ H => ∃ G env', StOk X.K G0 H0 G H σ env' ∧ Same G1 G ∧ loopF (fun d env => (g d env).bind fb) (ds.drop (i + 1)) env' = some o, fun σ' H' q => ⟨_, by omega, rfl, hlt, q⟩, fun v H3 y => ?_⟩
    obtain ⟨G3, d, x3, hd, r3⟩ := it.yld i G2 H2 v H3 sm s2.sm hlt y
    have eq : ds.drop i = d :: ds.drop (i + 1) := by
      rw [List.drop_eq_getElem_cons hlt]
      rw [List.getElem?_eq_getElem hlt] at hd
      rw [Option.some.inj hd]
    rw [eq] at el
    obtain ⟨ob, eb, el⟩ := Option.bind_eq_some_iff.mp el
    obtain ⟨env3, eg, eb⟩ := Option.bind_eq_some_iff.mp eb
    have s3 := s2.exts x3
    have b1 := s3.rebase (G1 := G1) s1.ext.g (sm.trans x3.g)
    refine ⟨G1, H0, G3, env2, d, env3, b1, r3, eg, fun σ4 s4 _ => ⟨G1, H0, G3, env3, ob, s4, eb, ?_⟩⟩
    cases ob with
    | nx e' => exact fun σ' G' H' s' => ⟨G', e', s'.unbase s1.ext, s'.ext.g, el⟩
    | ct e' => exact fun σ' G' H' s' => ⟨G', e', s'.unbase s1.ext, s'.ext.g, el⟩
    | bk e' =>
      cases el
      exact fun σ' G' H' s' => k σ' G' H' (s'.unbase s1.ext)
    | rt d' =>
      cases el
      exact fun v G' H' x r => k v G' H' (ext_unbase s1.ext x) r
  · have hi' : i = ds.length := by omega
    subst hi'
    rw [List.drop_length] at el
    cases el
    exact .inl ⟨it.stop _ G2 H2 sm s2.sm rfl, k σ2 G2 H2 s2⟩

/-! ### while -/
def whileN (t : En → Option Bool) (fb : En → Option Out) : Nat → En → Option Out
  | 0, _ => none
  | n + 1, env => (t env).bind fun b => if b then (fb env).bind fun o => match o with
      | .nx e => whileN t fb n e
      | .ct e => whileN t fb n e
      | .bk e => some (.nx e)
      | .rt d => some (.rt d)
    else some (.nx env)
theorem whileN_le {t : En → Option Bool} {fb : En → Option Out} : ∀ {n m : Nat} {env : En} {o : Out}, n ≤ m → whileN t fb n env = some o → whileN t fb m env = some o
  | 0, _, _, _, _, h => by cases h
  | n + 1, 0, _, _, hm, _ => absurd hm (Nat.not_succ_le_zero n)
  | n + 1, m + 1, env, o, hm, h => by
    obtain ⟨b, eb, h⟩ := Option.bind_eq_some_iff.mp (show (t env).bind _ = some o from h)
    show (t env).bind _ = some o
    rw [eb]
    cases b with
    | false => exact h
    | true =>
      obtain ⟨o1, e1, h⟩ := Option.bind_eq_some_iff.mp (show (fb env).bind _ = some o from h)
      show (fb env).bind _ = some o
      rw [e1]
      cases o1 with
      | nx e' => exact whileN_le (n := n) (m := m) (Nat.le_of_succ_le_succ hm) h
      | ct e' => exact whileN_le (n := n) (m := m) (Nat.le_of_succ_le_succ hm) h
      | bk e' => exact h
      | rt d => exact h
open Classical in
noncomputable def whileF (t : En → Option Bool) (fb : En → Option Out) : En → Option Out := fun env => if h : ∃ o n, whileN t fb n env = some o then some h.choose else none
theorem whileF_of {t : En → Option Bool} {fb : En → Option Out} {n : Nat} {env : En} {o : Out} (h : whileN t fb n env = some o) : whileF t fb env = some o := by
  unfold whileF
  have ex : ∃ o n, whileN t fb n env = some o := ⟨o, n, h⟩
  rw [dif_pos ex]
  obtain ⟨m, hm⟩ := ex.choose_spec
  have h1 := whileN_le (m := max n m) (by omega) h
  have h2 := whileN_le (m := max n m) (by omega) hm
  rw [h1] at h2
  exact h2.symm
theorem whileF_some {t : En → Option Bool} {fb : En → Option Out} {env : En} {o : Out} (h : whileF t fb env = some o) : ∃ n, whileN t fb n env = some o := by
  unfold whileF at h
  split at h
  · rename_i ex
    cases h
    exact ex.choose_spec
  · cases h
theorem ds_while {t : En → Option Bool} {body : List Stmt} {fb : En → Option Out} (hp : PassesOwn (model X.prog X.w) X.A X.env X.xe) (hc : DT X c t) (hb : DSs X body fb) : DS X (.While c body [] pos) (whileF t fb) := ps_imp (ps_while hp hc hb) fun D' σ H ⟨G0, H0, G, env, o, s, e, k⟩ => by
  obtain ⟨n, e⟩ := whileF_some e
  refine ⟨fun m σ H => ∃ G env', StOk X.K G0 H0 G H σ env' ∧ whileN t fb m env' = some o, ⟨n, G, env, s, e⟩, ?_⟩
  rintro m σ1 H1 ⟨G1, env1, s1, e1⟩
  cases m with
  | zero => cases e1
  | succ m =>
    obtain ⟨b, eb, e1⟩ := Option.bind_eq_some_iff.mp (show (t env1).bind _ = some o from e1)
    refine ⟨G0, H0, G1, env1, b, s1, eb, fun G2 H2 x2 => ?_⟩
    cases b with
    | false => cases e1; exact k σ1 G2 H2 (s1.exts x2)
    | true =>
      obtain ⟨ob, eo, e1⟩ := Option.bind_eq_some_iff.mp (show (fb env1).bind _ = some o from e1)
      refine ⟨fun σ H => ∃ G env', StOk X.K G0 H0 G H σ env' ∧ whileN t fb m env' = some o, fun σ' H' q => ⟨m, Nat.lt_succ_self m, q⟩, G0, H0, G2, env1, ob, s1.exts x2, eo, ?_⟩
      cases ob with
      | nx e' => exact fun σ' G' H' s' => ⟨G', e', s', e1⟩
      | ct e' => exact fun σ' G' H' s' => ⟨G', e', s', e1⟩
      | bk e' => cases e1; exact k
      | rt d => cases e1; exact k
end
end DL

set_option Elab.async false
set_option linter.all false
set_option maxRecDepth 100000
/-! DLg: comprehensions, defs. -/
namespace DL
open PySem PySem.Spec PyProof.Rows L2
def wipeE (env : En) : List Nat → En
  | [] => env
  | v :: vs => (wipeE env vs).set v .no
theorem wipe_ok {K : PySem.W.Frag} {G0 H0 G H : Hp} {σ : St} {env : En} (s : StOk K G0 H0 G H σ env) : ∀ vs : List Nat, StOk K G0 H0 G H (wipe σ vs) (wipeE env vs)
  | [] => s
  | v :: vs => (wipe_ok s vs).setNo v none
theorem wipe_get {σ : St} {i : Nat} : ∀ {vs : List Nat}, i ∉ vs → (wipe σ vs)[i]? = σ[i]?
  | [], _ => rfl
  | v :: vs, h => by
    show ((wipe σ vs).set v none)[i]? = _
    rw [List.getElem?_set_ne fun e => h (by simp [e])]
    exact wipe_get fun z => h (List.mem_cons_of_mem _ z)
theorem wipe_in {σ : St} {i : Nat} : ∀ {vs : List Nat}, i ∈ vs → i < σ.length → (wipe σ vs)[i]? = some none
  | v :: vs, h, hl => by
    show ((wipe σ vs).set v none)[i]? = _
    by_cases hv : v = i
    · subst hv
      exact List.getElem?_set_self (by rw [wipe_length]; exact hl)
    · rw [List.getElem?_set_ne hv]
      exact wipe_in ((List.mem_cons.mp h).resolve_left fun e => hv e.symm) hl
theorem wipe_off {ss vs : List Nat} {σ σ' : St} (o : Off ss σ σ') (h : ∀ i ∈ ss, i ∈ vs) : wipe σ' vs = wipe σ vs := by
  refine List.ext_getElem? fun i => ?_
  by_cases hi : i ∈ vs
  · by_cases hl : i < σ.length
    · rw [wipe_in hi hl, wipe_in hi (by rw [o.1]; exact hl)]
    · rw [List.getElem?_eq_none (by rw [wipe_length, o.1]; omega), List.getElem?_eq_none (by rw [wipe_length]; omega)]
  · rw [wipe_get hi, wipe_get hi]
    exact o.2 i fun z => hi (h i z)
theorem wipe_wipe {σ : St} {vs : List Nat} : wipe (wipe σ vs) vs = wipe σ vs := by
  refine List.ext_getElem? fun i => ?_
  by_cases hi : i ∈ vs
  · by_cases hl : i < σ.length
    · rw [wipe_in hi hl, wipe_in hi (by rw [wipe_length]; exact hl)]
    · rw [List.getElem?_eq_none (by rw [wipe_length, wipe_length]; omega), List.getElem?_eq_none (by rw [wipe_length]; omega)]
  · rw [wipe_get hi, wipe_get hi]
theorem ext_mut {G1 H1 G H : Hp} {a : Addr} {o : HO} (x : Ext G1 H1 G H) (n : H1 a = none) (g : G a = none) : Ext G1 H1 G (upd H a o) :=
  ⟨fun b y e => by rw [upd_ne (ne_of_none e n)]; exact x.h b y e, x.g, fun b y e => by rw [upd_ne (ne_of_none e g)]; exact x.s b y e, x.n⟩
def lcL (g : D → En → Option En) (ft : En → Option Bool) (fe : En → Option D) (w : En) : List D → Option (List D)
  | [] => some []
  | d :: ds => (g d w).bind fun e2 => (ft e2).bind fun b => if b then (fe e2).bind fun y => (lcL g ft fe w ds).map (y :: ·) else lcL g ft fe w ds
def lcF (vs : List Nat) (fi : En → Option (List D)) (g : D → En → Option En) (ft : En → Option Bool) (fe : En → Option D) : En → Option (List D) :=
  fun env => (fi env).bind fun ds => if fits ds.length then lcL g ft fe (wipeE env vs) ds else none
theorem lc_read {K : PySem.W.Frag} {vs ss : List Nat} {fi : En → Option (List D)} {g : D → En → Option En} {ft : En → Option Bool} {fe : En → Option D} {σ : St} {H : Hp} {Q : VK} (hss : ∀ i ∈ ss, i ∈ vs) (q : EF K (lcF vs fi g ft fe) σ H Q) :
    tLc (IV K fi) (GV K ss g) (TV K ft) (EV K fe) vs σ H Q := by
  obtain ⟨G0, H0, G, env, res, s, e, k⟩ := q
  obtain ⟨ds, ed, e⟩ := Option.bind_eq_some_iff.mp e
  split at e
  · rename_i hf
    refine ⟨G0, H0, G, env, ds, s, ed, fun J G1 H1 x1 it Da hD => ?_⟩
    have hline := lenFits hf
    refine ⟨fun i m H => m = ds.length - i ∧ i ≤ ds.length ∧ ∃ G2 acc done, Ext G1 H1 G2 H ∧ H Da = some (.lst acc) ∧ G2 Da = none ∧ DpAll K G2 acc done ∧ (lcL g ft fe (wipeE env vs) (ds.drop i)).map (done ++ ·) = some res ∧ acc.length ≤ i,
      ⟨_, rfl, Nat.zero_le _, G1, [], [], .newOwn x1.s hD, upd_same, x1.s.free hD, .nil, by rw [List.drop_zero, e]; rfl, Nat.le_refl _⟩, ?_⟩
    rintro i m H2 ⟨rfl, hi, G2, acc, done, x2, hDa, hG, ra, el, hl⟩
    by_cases hlt : i < ds.length
    · refine .inr ⟨it.go i G2 H2 x2.g x2.s hlt, fun H => ∃ G2 acc done, Ext G1 H1 G2 H ∧ H Da = some (.lst acc) ∧ G2 Da = none ∧ DpAll K G2 acc done ∧ (lcL g ft fe (wipeE env vs) (ds.drop (i + 1))).map (done ++ ·) = some res ∧ acc.length ≤ i + 1, fun H' q => ⟨_, by omega, rfl, hlt, q⟩, fun v H3 y => ?_⟩
      obtain ⟨G3, d, x3, hd, r3⟩ := it.yld i G2 H2 v H3 x2.g x2.s hlt y
      have eq : ds.drop i = d :: ds.drop (i + 1) := by
        rw [List.drop_eq_getElem_cons hlt]
        rw [List.getElem?_eq_getElem hlt] at hd
        rw [Option.some.inj hd]
      rw [eq] at el
      obtain ⟨tl, et, rfl⟩ := Option.map_eq_some_iff.mp el
      obtain ⟨env2, eg, et⟩ := Option.bind_eq_some_iff.mp et
      obtain ⟨b, eb, et⟩ := Option.bind_eq_some_iff.mp et
      have x23 := x2.trans x3
      have s3 := wipe_ok (s.exts (x1.trans x23)) vs
      have h3 : H3 Da = some (.lst acc) := x3.h _ _ hDa
      have g3 : G3 Da = none := x3.n _ _ hDa hG
      refine ⟨G0, H0, G3, _, d, env2, s3, r3, eg, fun σ4 s4 off => ⟨(wipe_off off hss).trans wipe_wipe, G0, H0, G3, env2, b, s4, eb, fun G5 H5 x5 => ?_⟩⟩
      cases b with
      | false => exact ⟨G5, acc, done, x23.trans x5, x5.h _ _ h3, x5.n _ _ h3 g3, dps_same (x3.g.trans x5.g) ra, by rw [show lcL g ft fe (wipeE env vs) (ds.drop (i + 1)) = some tl from et]; rfl, by omega⟩
      | true =>
        obtain ⟨yv, ey, et⟩ := Option.bind_eq_some_iff.mp (show (fe env2).bind _ = some tl from et)
        obtain ⟨tl2, et2, rfl⟩ := Option.map_eq_some_iff.mp et
        refine ⟨G0, H0, G5, env2, yv, s4.exts x5, ey, fun u G6 H6 x6 r6 => ?_⟩
        have x56 := x5.trans x6
        have h6 : H6 Da = some (.lst acc) := x56.h _ _ h3
        have g6 : G6 Da = none := x56.n _ _ h3 g3
        refine ⟨acc, h6, by omega, G6, acc ++ [u], done ++ [yv], ext_mut (x23.trans x56) hD g6, upd_same, g6, dps_append (dps_same (x3.g.trans x56.g) ra) (.cons r6 .nil), ?_, by rw [List.length_append]; simp; omega⟩
        rw [et2]
        simp
    · have hi' : i = ds.length := by omega
      subst hi'
      rw [List.drop_length] at el
      have er : done = res := by simpa [lcL] using el
      subst er
      exact .inl ⟨it.stop _ G2 H2 x2.g x2.s rfl, k Da acc G2 H2 (x1.trans x2) (x1.h.free hD) hDa hG ra⟩
  · cases e
theorem StOk.mask {K : PySem.W.Frag} {G0 H0 G H : Hp} {σ : St} {env : En} {b : Addr} {vs : List V} (s : StOk K G0 H0 G H σ env) (hb : H b = some (.lst vs)) (g : G b = none) (ne : ∀ (i : Nat) ds a, env[i]? = some (.own ds) → σ[i]? = some (some (.ref a)) → a ≠ b) : StOk K G0 (upd H0 b (.lst vs)) G H σ env := by
  refine ⟨⟨fun c o q => ?_, s.ext.g, s.ext.s, fun c o q n => ?_⟩, s.len, fun i sl q => ?_, s.dis⟩
  · by_cases hc : c = b
    · subst hc; rw [upd_same] at q; rw [hb]; exact q
    · rw [upd_ne hc] at q; exact s.ext.h c o q
  · by_cases hc : c = b
    · subst hc; exact g
    · rw [upd_ne hc] at q; exact s.ext.n c o q n
  · have z := s.ok i sl q
    cases sl with
    | no => trivial
    | val d => exact z
    | raw v => exact z
    | own es =>
      obtain ⟨a, us, f1, f2, f3, f4, f5⟩ := z
      exact ⟨a, us, f1, f2, f3, by rw [upd_ne (ne i es a q f1)]; exact f4, f5⟩
/-- the masked list changed -/
theorem StOk.maskUpd {K : PySem.W.Frag} {G0 H0 G H : Hp} {σ : St} {env : En} {b : Addr} {vs ws : List V} (s : StOk K G0 (upd H0 b (.lst vs)) G H σ env) (g : G b = none) : StOk K G0 (upd H0 b (.lst ws)) G (upd H b (.lst ws)) σ env := by
  refine ⟨⟨fun c o q => ?_, s.ext.g, fun c o q => by rw [upd_ne (ne_of_none q g)]; exact s.ext.s c o q, fun c o q n => ?_⟩, s.len, fun i sl q => ?_, s.dis⟩
  · by_cases hc : c = b
    · subst hc; rw [upd_same] at q ⊢; exact q
    · rw [upd_ne hc] at q ⊢; exact s.ext.h c o (by rw [upd_ne hc]; exact q)
  · by_cases hc : c = b
    · subst hc; exact g
    · rw [upd_ne hc] at q; exact s.ext.n c o (by rw [upd_ne hc]; exact q) n
  · have z := s.ok i sl q
    cases sl with
    | no => trivial
    | val d => exact z
    | raw v => exact z
    | own es =>
      obtain ⟨a, us, f1, f2, f3, f4, f5⟩ := z
      have hne : a ≠ b := fun e => by subst e; rw [upd_same] at f4; cases f4
      exact ⟨a, us, f1, by rw [upd_ne hne]; exact f2, f3, by rw [upd_ne hne] at f4 ⊢; exact f4, f5⟩
def lc2I (g1 : D → En → Option En) (ft1 : En → Option Bool) (fe : En → Option D) (vs1 : List Nat) (e2 : En) (tl : Option (List D)) : List D → Option (List D)
  | [] => tl
  | d :: ds => (g1 d (wipeE e2 vs1)).bind fun e3 => (ft1 e3).bind fun b => if b then (fe e3).bind fun y => (lc2I g1 ft1 fe vs1 e2 tl ds).map (y :: ·) else lc2I g1 ft1 fe vs1 e2 tl ds
def lc2L (g : D → En → Option En) (ft : En → Option Bool) (fi1 : En → Option (List D)) (g1 : D → En → Option En) (ft1 : En → Option Bool) (fe : En → Option D) (vs1 : List Nat) (w : En) : List D → Option (List D)
  | [] => some []
  | d :: ds => (g d w).bind fun e2 => (ft e2).bind fun b => if b then (fi1 e2).bind fun es => lc2I g1 ft1 fe vs1 e2 (lc2L g ft fi1 g1 ft1 fe vs1 w ds) es else lc2L g ft fi1 g1 ft1 fe vs1 w ds
def lc2F (vs vs1 : List Nat) (fi : En → Option (List D)) (g : D → En → Option En) (ft : En → Option Bool) (fi1 : En → Option (List D)) (g1 : D → En → Option En) (ft1 : En → Option Bool) (fe : En → Option D) : En → Option (List D) :=
  fun env => (fi env).bind fun ds => (lc2L g ft fi1 g1 ft1 fe vs1 (wipeE env vs) ds).bind fitsL
theorem map_app_some {o : Option (List D)} {done res : List D} (h : o.map (done ++ ·) = some res) : ∃ tl, o = some tl ∧ done ++ tl = res := Option.map_eq_some_iff.mp h
theorem lc2_read {K : PySem.W.Frag} {vs vs1 ss ss1 : List Nat} {fi fi1 : En → Option (List D)} {g g1 : D → En → Option En} {ft ft1 : En → Option Bool} {fe : En → Option D} {σ : St} {H : Hp} {Q : VK} (hss : ∀ i ∈ ss, i ∈ vs) (hss1 : ∀ i ∈ ss1, i ∈ vs1)
    (q : EF K (lc2F vs vs1 fi g ft fi1 g1 ft1 fe) σ H Q) : tLc2 (IV K fi) (GV K ss g) (TV K ft) (IV K fi1) (GV K ss1 g1) (TV K ft1) (EV K fe) vs vs1 σ H Q := by
  obtain ⟨G0, H0, G, env, res, s, e, k⟩ := q
  obtain ⟨ds, ed, e⟩ := Option.bind_eq_some_iff.mp e
  obtain ⟨rr, er, e⟩ := Option.bind_eq_some_iff.mp e
  obtain ⟨rfl, hf⟩ := fitsL_some e
  refine ⟨G0, H0, G, env, ds, s, ed, fun J G1 H1 x1 it Da hD => ?_⟩
  have hline := lenFits1 hf
  refine ⟨fun i m H => m = ds.length - i ∧ i ≤ ds.length ∧ ∃ G2 acc done, Ext G1 H1 G2 H ∧ H Da = some (.lst acc) ∧ G2 Da = none ∧ DpAll K G2 acc done ∧ (lc2L g ft fi1 g1 ft1 fe vs1 (wipeE env vs) (ds.drop i)).map (done ++ ·) = some res,
    ⟨_, rfl, Nat.zero_le _, G1, [], [], .newOwn x1.s hD, upd_same, x1.s.free hD, .nil, by rw [List.drop_zero, er]; rfl⟩, ?_⟩
  rintro i m H2 ⟨rfl, hi, G2, acc, done, x2, hDa, hG, ra, el⟩
  by_cases hlt : i < ds.length
  · refine .inr ⟨it.go i G2 H2 x2.g x2.s hlt, fun H => ∃ G2 acc done, Ext G1 H1 G2 H ∧ H Da = some (.lst acc) ∧ G2 Da = none ∧ DpAll K G2 acc done ∧ (lc2L g ft fi1 g1 ft1 fe vs1 (wipeE env vs) (ds.drop (i + 1))).map (done ++ ·) = some res, fun H' q => ⟨_, by omega, rfl, hlt, q⟩, fun v H3 y => ?_⟩
    obtain ⟨G3, d, x3, hd, r3⟩ := it.yld i G2 H2 v H3 x2.g x2.s hlt y
    have eq : ds.drop i = d :: ds.drop (i + 1) := by
      rw [List.drop_eq_getElem_cons hlt]
      rw [List.getElem?_eq_getElem hlt] at hd
      rw [Option.some.inj hd]
    rw [eq] at el
    obtain ⟨tl, et, etl⟩ := map_app_some el
    obtain ⟨env2, eg, et⟩ := Option.bind_eq_some_iff.mp et
    obtain ⟨b, eb, et⟩ := Option.bind_eq_some_iff.mp et
    have x23 := x2.trans x3
    have h3 : H3 Da = some (.lst acc) := x3.h _ _ hDa
    have g3 : G3 Da = none := x3.n _ _ hDa hG
    have hne : ∀ (i : Nat) ds a, env[i]? = some (.own ds) → σ[i]? = some (some (.ref a)) → a ≠ Da := fun i ds a q1 q2 z => by
      obtain ⟨b, us, f1, f2, _⟩ := (s.exts x1).own q1
      rw [q2] at f1; cases f1
      rw [z, hD] at f2; cases f2
    have s3 := wipe_ok ((s.exts (x1.trans x23)).mask h3 g3 hne) vs
    refine ⟨G0, upd H0 Da (.lst acc), G3, _, d, env2, s3, r3, eg, fun σ4 s4 off => ⟨(wipe_off off hss).trans wipe_wipe, G0, upd H0 Da (.lst acc), G3, env2, b, s4, eb, fun G5 H5 x5 => ?_⟩⟩
    have s5 := s4.exts x5
    have x25 := x23.trans x5
    have h5 : H5 Da = some (.lst acc) := x5.h _ _ h3
    have g5 : G5 Da = none := x5.n _ _ h3 g3
    have ra5 := dps_same (x3.g.trans x5.g) ra
    cases b with
    | false => exact ⟨G5, acc, done, x25, h5, g5, ra5, by rw [show lc2L g ft fi1 g1 ft1 fe vs1 (wipeE env vs) (ds.drop (i + 1)) = some tl from et]; exact congrArg some etl⟩
    | true =>
      obtain ⟨es, ees, et⟩ := Option.bind_eq_some_iff.mp (show (fi1 env2).bind _ = some tl from et)
      refine ⟨G0, upd H0 Da (.lst acc), G5, env2, es, s5, ees, fun J1 G6 H6 x6 it1 => ?_⟩
      have h6 : H6 Da = some (.lst acc) := x6.h _ _ h5
      have g6 : G6 Da = none := x6.n _ _ h5 g5
      -- the inner loop: heaps over (G6, H6 without Da's changes)
      refine ⟨fun j l H => l = es.length - j ∧ j ≤ es.length ∧ ∃ G7 acc done, Ext G1 H1 G7 H ∧ Same G6 G7 ∧ StOk K G0 (upd H0 Da (.lst acc)) G7 H σ4 env2 ∧ H Da = some (.lst acc) ∧ G7 Da = none ∧ DpAll K G7 acc done ∧ (lc2I g1 ft1 fe vs1 env2 (lc2L g ft fi1 g1 ft1 fe vs1 (wipeE env vs) (ds.drop (i + 1))) (es.drop j)).map (done ++ ·) = some res,
        ⟨_, rfl, Nat.zero_le _, G6, acc, done, x25.trans x6, Same.refl _, s5.exts x6, h6, g6, dps_same x6.g ra5, by rw [List.drop_zero, et]; exact congrArg some etl⟩, ?_⟩
      rintro j l H7 ⟨rfl, hj, G7, acc7, done7, x7, sm7, s7, h7, g7, ra7, el7⟩
      by_cases hlj : j < es.length
      · refine .inr ⟨it1.go j G7 H7 sm7 x7.s hlj, fun H => ∃ G7 acc done, Ext G1 H1 G7 H ∧ Same G6 G7 ∧ StOk K G0 (upd H0 Da (.lst acc)) G7 H σ4 env2 ∧ H Da = some (.lst acc) ∧ G7 Da = none ∧ DpAll K G7 acc done ∧ (lc2I g1 ft1 fe vs1 env2 (lc2L g ft fi1 g1 ft1 fe vs1 (wipeE env vs) (ds.drop (i + 1))) (es.drop (j + 1))).map (done ++ ·) = some res, fun H' q => ⟨_, by omega, rfl, hlj, q⟩, fun v1 H8 y1 => ?_⟩
        obtain ⟨G8, d1, x8, hd1, r8⟩ := it1.yld j G7 H7 v1 H8 sm7 x7.s hlj y1
        have eq1 : es.drop j = d1 :: es.drop (j + 1) := by
          rw [List.drop_eq_getElem_cons hlj]
          rw [List.getElem?_eq_getElem hlj] at hd1
          rw [Option.some.inj hd1]
        rw [eq1] at el7
        obtain ⟨tl7, et7, etl7⟩ := map_app_some el7
        obtain ⟨env3, eg3, et7⟩ := Option.bind_eq_some_iff.mp et7
        obtain ⟨b1, eb1, et7⟩ := Option.bind_eq_some_iff.mp et7
        have s8 := s7.exts x8
        have h8 : H8 Da = some (.lst acc7) := x8.h _ _ h7
        have g8 : G8 Da = none := x8.n _ _ h7 g7
        refine ⟨G0, upd H0 Da (.lst acc7), G8, _, d1, env3, wipe_ok s8 vs1, r8, eg3, fun σ9 s9 off1 => ⟨(wipe_off off1 hss1).trans wipe_wipe, G0, upd H0 Da (.lst acc7), G8, env3, b1, s9, eb1, fun G9 H9 x9 => ?_⟩⟩
        cases b1 with
        | false => exact ⟨G9, acc7, done7, (x7.trans x8).trans x9, sm7.trans (x8.g.trans x9.g), s8.exts x9, x9.h _ _ h8, x9.n _ _ h8 g8, dps_same (x8.g.trans x9.g) ra7, by rw [show lc2I g1 ft1 fe vs1 env2 (lc2L g ft fi1 g1 ft1 fe vs1 (wipeE env vs) (ds.drop (i + 1))) (es.drop (j + 1)) = some tl7 from et7]; exact congrArg some etl7⟩
        | true =>
          obtain ⟨yv, ey, et7⟩ := Option.bind_eq_some_iff.mp (show (fe env3).bind _ = some tl7 from et7)
          obtain ⟨tl8, et8, rfl⟩ := Option.map_eq_some_iff.mp et7
          refine ⟨G0, upd H0 Da (.lst acc7), G9, env3, yv, s9.exts x9, ey, fun u G10 H10 x10 r10 => ?_⟩
          have xx := x9.trans x10
          have h10 : H10 Da = some (.lst acc7) := xx.h _ _ h8
          have g10 : G10 Da = none := xx.n _ _ h8 g8
          have hlen : acc7.length < sizeLine := by
            have q1 := dps_len ra7
            have q2 : acc7.length ≤ res.length := by
              rw [q1, ← etl7, List.length_append]; exact Nat.le_add_right _ _
            omega
          refine ⟨acc7, h10, hlen, G10, acc7 ++ [u], done7 ++ [yv], ext_mut ((x7.trans x8).trans xx) hD g10, sm7.trans (x8.g.trans xx.g), (s8.exts xx).maskUpd g10, upd_same, g10, dps_append (dps_same (x8.g.trans xx.g) ra7) (.cons r10 .nil), ?_⟩
          rw [et8]
          simp only [Option.map_some, Option.some.injEq]
          rw [List.append_assoc]
          exact etl7
      · have hj' : j = es.length := by omega
        subst hj'
        rw [List.drop_length] at el7
        exact .inl ⟨it1.stop _ G7 H7 sm7 x7.s rfl, G7, acc7, done7, x7, h7, g7, ra7, el7⟩
  · have hi' : i = ds.length := by omega
    subst hi'
    rw [List.drop_length] at el
    have er : done = res := by simpa [lc2L] using el
    subst er
    exact .inl ⟨it.stop _ G2 H2 x2.g x2.s rfl, k Da acc G2 H2 (x1.trans x2) (x1.h.free hD) hDa hG ra⟩
end DL

set_option Elab.async false
set_option linter.all false
set_option maxRecDepth 100000
/-! DLh: comprehensions as rules, methods of texts, defs. -/
namespace DL
open PySem PySem.Spec PyProof.Rows L2
section
variable {X : Cx} {a b c e o tg tg1 elt iter iter1 : Expr} {es rest ifs ifs1 : List Expr} {fa fb fc fe : En → Option D} {ts : En → Option (List D)} {pos apos p : Pos} {scope : Scope} {own : List (Str × Nat)} {fi fi1 : En → Option (List D)} {ss ss1 vs1 : List Nat} {g g1 : D → En → Option En} {ft ft1 : En → Option Bool}
abbrev DTs (X : Cx) (ifs : List Expr) (f : En → Option Bool) : Prop := PTs X ifs (TV X.K f)
def yesF : En → Option Bool := fun _ => some true
theorem dts_nil : DTs X [] yesF := ⟨fun pins s σ H Q I ⟨G0, H0, G, env, b, st, e, k⟩ => by
  cases e
  exact pts_nil.run pins s σ H Q I (k G H (.refl st.sm))⟩
theorem dts_one {f : En → Option Bool} (h : DT X c f) : DTs X [c] f := pts_one h
theorem df_lc (hc : X.calm = true) (hN : X.N.Nodup) (hi : DI X tg iter fi) (ok : BlkOk X.N X.env.scope scope own)
    (hg : ∀ (s : Shared) (H : Hp) (C : Addr) (cl : List (Str × Addr)) (fp : List Addr), DG (X.blk s H scope (compEnvC scope cl C X.env) fp) tg ss g) (ht : ∀ (s : Shared) (H : Hp) (C : Addr) (cl : List (Str × Addr)) (fp : List Addr), DTs (X.blk s H scope (compEnvC scope cl C X.env) fp) ifs ft)
    (he : ∀ (s : Shared) (H : Hp) (C : Addr) (cl : List (Str × Addr)) (fp : List Addr), DE (X.blk s H scope (compEnvC scope cl C X.env) fp) elt fe) (hss : ∀ i ∈ ss, i ∈ own.map (·.2) := by decide) (hs : ∀ x, foldedSetIterable iter X.env x = pure x := by intro _; rfl) :
    DF X (.ListComp elt [⟨tg, iter, ifs, 0⟩] scope pos) (lcF (own.map (·.2)) fi g ft fe) :=
  pe_imp (pe_lc hc hN hi ok hg ht he hs) fun σ H Q q => lc_read hss q
theorem df_lc2 (hc : X.calm = true) (hN : X.N.Nodup) (hi : DI X tg iter fi) (ok : BlkOk X.N X.env.scope scope own)
    (hg : ∀ (s : Shared) (H : Hp) (C : Addr) (cl : List (Str × Addr)) (fp : List Addr), DG (X.blk s H scope (compEnvC scope cl C X.env) fp) tg ss g) (ht : ∀ (s : Shared) (H : Hp) (C : Addr) (cl : List (Str × Addr)) (fp : List Addr), DTs (X.blk s H scope (compEnvC scope cl C X.env) fp) ifs ft)
    (hi1 : ∀ (s : Shared) (H : Hp) (C : Addr) (cl : List (Str × Addr)) (fp : List Addr), DI (X.blk s H scope (compEnvC scope cl C X.env) fp) tg1 iter1 fi1)
    (hg1 : ∀ (s : Shared) (H : Hp) (C : Addr) (cl : List (Str × Addr)) (fp : List Addr), DG (X.blk s H scope (compEnvC scope cl C X.env) fp) tg1 ss1 g1) (ht1 : ∀ (s : Shared) (H : Hp) (C : Addr) (cl : List (Str × Addr)) (fp : List Addr), DTs (X.blk s H scope (compEnvC scope cl C X.env) fp) ifs1 ft1)
    (he : ∀ (s : Shared) (H : Hp) (C : Addr) (cl : List (Str × Addr)) (fp : List Addr), DE (X.blk s H scope (compEnvC scope cl C X.env) fp) elt fe) (hv : ∀ i ∈ ss1, i ∈ own.map (·.2) := by decide) (hss : ∀ i ∈ ss, i ∈ own.map (·.2) := by decide) (hs : ∀ x, foldedSetIterable iter X.env x = pure x := by intro _; rfl) (hs1 : ∀ env x, foldedSetIterable iter1 env x = pure x := by intro _ _; rfl) :
    DF X (.ListComp elt [⟨tg, iter, ifs, 0⟩, ⟨tg1, iter1, ifs1, 0⟩] scope pos) (lc2F (own.map (·.2)) ss1 fi g ft fi1 g1 ft1 fe) :=
  pe_imp (pe_lc2 hc hN hi ok hv hg ht hi1 hg1 ht1 he hs hs1) fun σ H Q q => lc2_read hss (fun _ h => h) q
/-- name = [..]: shared from the start -/
def setLF (i : Nat) (f : En → Option (List D)) : En → Option Out := fun env => (f env).map fun ds => .nx (env.set i (.val (.list ds)))
theorem own_fin {K : PySem.W.Frag} {G0 H0 G H : Hp} {σ : St} {env : En} {D' : Ends} {i : Nat} {ds : List D} (s : StOk K G0 H0 G H σ env) (k : Fin K G0 H0 D' (.nx (env.set i (.own ds)))) : ∀ a vs G' H', Ext G H G' H' → H a = none → H' a = some (.lst vs) → G' a = none → DpAll K G' vs ds → D'.nx (σ.set i (some (.ref a))) H' :=
  fun a vs G' H' x n h1 h2 r => k _ G' H' (s.setOwn i x n h1 h2 r)
theorem val_fin {K : PySem.W.Frag} {G0 H0 G H : Hp} {σ : St} {env : En} {D' : Ends} {i : Nat} {ds : List D} (s : StOk K G0 H0 G H σ env) (k : Fin K G0 H0 D' (.nx (env.set i (.val (.list ds))))) : ∀ a vs G' H', Ext G H G' H' → H a = none → H' a = some (.lst vs) → G' a = none → DpAll K G' vs ds → D'.nx (σ.set i (some (.ref a))) H' :=
  fun a vs G' H' x n h1 h2 r => k _ (upd G' a (.lst vs)) H' ((s.exts (x.share n h1 h2)).setVal i (.lst (.inl (.inl upd_same)) (dps_same (same_upd h2) r)))
section
variable {i : Nat} {y : Str} {py spos : Pos}
theorem ds_setLc (hc : X.calm = true) (hN : X.N.Nodup) (hsw : swapsWith (.ListComp elt [⟨tg, iter, ifs, 0⟩] scope pos) (some (.Name y py)) spos.line X.env = pure true) (hi : DI X tg iter fi) (ok : BlkOk X.N X.env.scope scope own)
    (hg : ∀ (s : Shared) (H : Hp) (C : Addr) (cl : List (Str × Addr)) (fp : List Addr), DG (X.blk s H scope (compEnvC scope cl C X.env) fp) tg ss g) (ht : ∀ (s : Shared) (H : Hp) (C : Addr) (cl : List (Str × Addr)) (fp : List Addr), DTs (X.blk s H scope (compEnvC scope cl C X.env) fp) ifs ft)
    (he : ∀ (s : Shared) (H : Hp) (C : Addr) (cl : List (Str × Addr)) (fp : List Addr), DE (X.blk s H scope (compEnvC scope cl C X.env) fp) elt fe) (hy : X.N[i]? = some y := by rfl) (hyl : X.env.scope.names.lookup y = some .local := by rfl) (hss : ∀ i ∈ ss, i ∈ own.map (·.2) := by decide) (hs : ∀ x, foldedSetIterable iter X.env x = pure x := by intro _; rfl) :
    DS X (.Assign [.Name y py] (.ListComp elt [⟨tg, iter, ifs, 0⟩] scope pos) spos) (setLF i (lcF (own.map (·.2)) fi g ft fe)) :=
  ps_imp (ps_setLc hc hN hy hyl hsw hi ok hg ht he hs) fun D' σ H ⟨G0, H0, G, env, o, s, e, k⟩ => by
    obtain ⟨ds, ed, rfl⟩ := Option.map_eq_some_iff.mp e
    exact lc_read hss ⟨G0, H0, G, env, ds, s, ed, val_fin s k⟩
theorem ds_ownLc (hc : X.calm = true) (hN : X.N.Nodup) (hsw : swapsWith (.ListComp elt [⟨tg, iter, ifs, 0⟩] scope pos) (some (.Name y py)) spos.line X.env = pure true) (hi : DI X tg iter fi) (ok : BlkOk X.N X.env.scope scope own)
    (hg : ∀ (s : Shared) (H : Hp) (C : Addr) (cl : List (Str × Addr)) (fp : List Addr), DG (X.blk s H scope (compEnvC scope cl C X.env) fp) tg ss g) (ht : ∀ (s : Shared) (H : Hp) (C : Addr) (cl : List (Str × Addr)) (fp : List Addr), DTs (X.blk s H scope (compEnvC scope cl C X.env) fp) ifs ft)
    (he : ∀ (s : Shared) (H : Hp) (C : Addr) (cl : List (Str × Addr)) (fp : List Addr), DE (X.blk s H scope (compEnvC scope cl C X.env) fp) elt fe) (hy : X.N[i]? = some y := by rfl) (hyl : X.env.scope.names.lookup y = some .local := by rfl) (hss : ∀ i ∈ ss, i ∈ own.map (·.2) := by decide) (hs : ∀ x, foldedSetIterable iter X.env x = pure x := by intro _; rfl) :
    DS X (.Assign [.Name y py] (.ListComp elt [⟨tg, iter, ifs, 0⟩] scope pos) spos) (ownF i (lcF (own.map (·.2)) fi g ft fe)) :=
  ps_imp (ps_setLc hc hN hy hyl hsw hi ok hg ht he hs) fun D' σ H ⟨G0, H0, G, env, o, s, e, k⟩ => by
    obtain ⟨ds, ed, rfl⟩ := Option.map_eq_some_iff.mp e
    exact lc_read hss ⟨G0, H0, G, env, ds, s, ed, own_fin s k⟩
theorem ds_setLc2 (hc : X.calm = true) (hN : X.N.Nodup) (hsw : swapsWith (.ListComp elt [⟨tg, iter, ifs, 0⟩, ⟨tg1, iter1, ifs1, 0⟩] scope pos) (some (.Name y py)) spos.line X.env = pure true) (hi : DI X tg iter fi) (ok : BlkOk X.N X.env.scope scope own)
    (hg : ∀ (s : Shared) (H : Hp) (C : Addr) (cl : List (Str × Addr)) (fp : List Addr), DG (X.blk s H scope (compEnvC scope cl C X.env) fp) tg ss g) (ht : ∀ (s : Shared) (H : Hp) (C : Addr) (cl : List (Str × Addr)) (fp : List Addr), DTs (X.blk s H scope (compEnvC scope cl C X.env) fp) ifs ft)
    (hi1 : ∀ (s : Shared) (H : Hp) (C : Addr) (cl : List (Str × Addr)) (fp : List Addr), DI (X.blk s H scope (compEnvC scope cl C X.env) fp) tg1 iter1 fi1)
    (hg1 : ∀ (s : Shared) (H : Hp) (C : Addr) (cl : List (Str × Addr)) (fp : List Addr), DG (X.blk s H scope (compEnvC scope cl C X.env) fp) tg1 ss1 g1) (ht1 : ∀ (s : Shared) (H : Hp) (C : Addr) (cl : List (Str × Addr)) (fp : List Addr), DTs (X.blk s H scope (compEnvC scope cl C X.env) fp) ifs1 ft1)
    (he : ∀ (s : Shared) (H : Hp) (C : Addr) (cl : List (Str × Addr)) (fp : List Addr), DE (X.blk s H scope (compEnvC scope cl C X.env) fp) elt fe) (hy : X.N[i]? = some y := by rfl) (hyl : X.env.scope.names.lookup y = some .local := by rfl) (hv : ∀ i ∈ ss1, i ∈ own.map (·.2) := by decide) (hss : ∀ i ∈ ss, i ∈ own.map (·.2) := by decide) (hs : ∀ x, foldedSetIterable iter X.env x = pure x := by intro _; rfl) (hs1 : ∀ env x, foldedSetIterable iter1 env x = pure x := by intro _ _; rfl) :
    DS X (.Assign [.Name y py] (.ListComp elt [⟨tg, iter, ifs, 0⟩, ⟨tg1, iter1, ifs1, 0⟩] scope pos) spos) (setLF i (lc2F (own.map (·.2)) ss1 fi g ft fi1 g1 ft1 fe)) :=
  ps_imp (ps_setLc2 hc hN hy hyl hsw hi ok hv hg ht hi1 hg1 ht1 he hs hs1) fun D' σ H ⟨G0, H0, G, env, o, s, e, k⟩ => by
    obtain ⟨ds, ed, rfl⟩ := Option.map_eq_some_iff.mp e
    exact lc2_read hss (fun _ h => h) ⟨G0, H0, G, env, ds, s, ed, val_fin s k⟩
theorem sw_t (hk : X.env.scope.kind = .function) (hy : X.env.scope.names.lookup y = some .local) (hl : (py.line == pos.line) = true) {gs : List Comprehension} {l : Nat}
    (ha : (scope.names.any fun (n, k) => n == y && (k == .local || k == .cell)) = false) : swapsWith (.ListComp elt gs scope pos) (some (.Name y py)) l X.env = pure true := sw_true hk hy hl ha
end

/-! ### methods of texts -/
def strsOf : List D → Option (List Str)
  | [] => some []
  | .str b :: r => (strsOf r).map (b :: ·)
  | _ => none
theorem strsOf_some : ∀ {ds : List D} {bs : List Str}, strsOf ds = some bs → ds = bs.map PyData.str
  | [], _, h => by cases h; rfl
  | .str b :: r, _, h => by
    obtain ⟨t, ht, rfl⟩ := Option.map_eq_some_iff.mp (show (strsOf r).map (b :: ·) = _ from h)
    rw [strsOf_some ht]; rfl
  | .none :: _, _, h => by cases h
  | .int _ :: _, _, h => by cases h
  | .bool _ :: _, _, h => by cases h
  | .list _ :: _, _, h => by cases h
  | .tuple _ :: _, _, h => by cases h
  | .dict _ :: _, _, h => by cases h
def joinD : D → List D → Option D
  | .str z, ds => (strsOf ds).bind fun ys => if fits ((ys.map (·.length)).sum + ys.length * z.length) then some (.str (Txt.join z ys)) else none
  | _, _ => none
def jnF (f : En → Option D) (fl : En → Option (List D)) : En → Option D := fun env => (f env).bind fun d => (fl env).bind fun ds => joinD d ds
theorem de_join {fl : En → Option (List D)} (ho : DE X o fa) (he : DLs X e fl) (hs : starEach [e] X.env = [(false, eval e X.env)] := by rfl) (hbase : attributeBase o "join" X.env (eval o X.env) = eval o X.env := by rfl) (hline : (apos.endLine == pos.line) = true := by rfl) :
    DE X (.Call (.Attribute o "join" apos) [e] [] pos) (jnF fa fl) :=
  pe_imp (pe_join ho he hs hbase hline) fun σ H Q ⟨G0, H0, G, env, d, s, e, k⟩ => by
    obtain ⟨x, ex, e⟩ := Option.bind_eq_some_iff.mp e
    obtain ⟨ds, ed, e⟩ := Option.bind_eq_some_iff.mp e
    unfold joinD at e
    split at e
    · obtain ⟨ys, ey, e⟩ := Option.bind_eq_some_iff.mp e
      split at e
      · rename_i hf
        cases e
        have := strsOf_some ey
        subst this
        refine ⟨G0, H0, G, env, _, s, ex, fun v G1 H1 x1 r1 => ?_⟩
        cases r1
        refine ⟨⟨_, rfl⟩, G0, H0, G1, env, _, s.exts x1, ed, fun a vs G2 H2 x2 h r2 => ?_⟩
        rw [strs_of r2] at h
        refine ⟨_, a, ys, rfl, rfl, .inl h, ?_, k _ G2 H2 (x1.trans x2) (.str _)⟩
        unfold fits at hf
        have := of_decide_eq_true hf
        omega
      · cases e
    · cases e
def splitD : D → D → Option (List D)
  | .str a, .str b => if decide (0 < b.length ∧ a.length ≤ 1000000) then some ((Txt.split a b).map PyData.str) else none
  | _, _ => none
def spF (f h : En → Option D) : En → Option (List D) := fun env => (f env).bind fun d => (h env).bind fun d2 => splitD d d2
theorem df_split (ho : DE X o fa) (he : DE X e fb) (hs : starEach [e] X.env = [(false, eval e X.env)] := by rfl) (hbase : attributeBase o "split" X.env (eval o X.env) = eval o X.env := by rfl) (hline : (apos.endLine == pos.line) = true := by rfl) :
    DF X (.Call (.Attribute o "split" apos) [e] [] pos) (spF fa fb) :=
  pe_imp (pe_split ho he hs hbase hline) fun σ H Q ⟨G0, H0, G, env, d, s, e, k⟩ => by
    obtain ⟨x, ex, e⟩ := Option.bind_eq_some_iff.mp e
    obtain ⟨ds, ed, e⟩ := Option.bind_eq_some_iff.mp e
    unfold splitD at e
    split at e
    · split at e
      · rename_i hf
        have hf := of_decide_eq_true hf
        cases e
        refine ⟨G0, H0, G, env, _, s, ex, fun v G1 H1 x1 r1 => ?_⟩
        cases r1
        refine ⟨⟨_, rfl⟩, G0, H0, G1, env, _, s.exts x1, ed, fun v2 G2 H2 x2 r2 => ?_⟩
        cases r2
        refine ⟨_, _, rfl, rfl, ?_, ?_, fun l hl => ?_⟩
        · have hf1 := hf.1
          revert hf1
          generalize (Str.length _) = n
          intro hf1
          exact beq_eq_false_iff_ne.mpr (by omega)
        · rw [sizeLine_eq]; omega
        · have xx := x1.trans x2
          exact k l _ _ _ (xx.trans (.newOwn x2.s hl)) (xx.h.free hl) upd_same (x2.s.free hl) (dps_strs _)
      · cases e
    · cases e
def startsD : D → D → Option D
  | .str a, .str b => some (.bool (Txt.startswith a b))
  | _, _ => none
theorem de_starts (ho : DE X o fa) (he : DE X e fb) (hs : starEach [e] X.env = [(false, eval e X.env)] := by rfl) (hbase : attributeBase o "startswith" X.env (eval o X.env) = eval o X.env := by rfl) (hline : (apos.endLine == pos.line) = true := by rfl) :
    DE X (.Call (.Attribute o "startswith" apos) [e] [] pos) (b2 startsD fa fb) :=
  pe_imp (pe_m1 PySem.F.slot_str_startswith PySem.F.type_str_startswith mt_startswith ho he hs hbase hline) fun σ H Q ⟨G0, H0, G, env, d, s, e, k⟩ => by
    obtain ⟨x, ex, e⟩ := Option.bind_eq_some_iff.mp e
    obtain ⟨ds, ed, e⟩ := Option.bind_eq_some_iff.mp e
    unfold startsD at e
    split at e
    · cases e
      refine ⟨G0, H0, G, env, _, s, ex, fun v G1 H1 x1 r1 => ?_⟩
      cases r1
      refine ⟨⟨_, rfl⟩, G0, H0, G1, env, _, s.exts x1, ed, fun v2 G2 H2 x2 r2 => ?_⟩
      cases r2
      exact ⟨_, _, rfl, rfl, k _ G2 H2 (x1.trans x2) (.bl _)⟩
    · cases e

/-! ### defs -/
def runF (n : Nat) (fb : En → Option Out) : List D → Option D := fun ds => (fb (ds.map Slot.val ++ List.replicate (n - ds.length) .no)).bind fun o => match o with
  | .nx _ => some .none
  | .rt d => some d
  | _ => none
end
section
variable {P : Program} {w : World} {K : PySem.W.Frag} {mg : Str → Option Value} {base : Heap}
theorem st_start {G H : Hp} {vs : List V} {ds : List D} (n : Nat) (N : List Str) (hn : N.length = n) (s : Same G H) (r : DpAll K G vs ds) : StOk K G H G H (L2.start N vs) (ds.map Slot.val ++ List.replicate (n - ds.length) .no) := by
  have hl := dps_len r
  have gv : ∀ (i : Nat) sl, (ds.map Slot.val ++ List.replicate (n - ds.length) Slot.no)[i]? = some sl → (∃ d, ds[i]? = some d ∧ sl = .val d) ∨ sl = .no := fun i sl e => by
    by_cases hi : i < ds.length
    · rw [List.getElem?_append_left (by simpa using hi), List.getElem?_map, List.getElem?_eq_getElem hi] at e
      cases e
      exact .inl ⟨_, List.getElem?_eq_getElem hi, rfl⟩
    · rw [List.getElem?_append_right (by simpa using hi)] at e
      exact .inr (List.eq_of_mem_replicate (List.mem_of_getElem? e))
  refine ⟨.refl s, ?_, fun i sl e => ?_, fun i j a xs ys e1 => ?_⟩
  · unfold L2.start
    rw [List.length_append, List.length_append, List.length_map, List.length_map, List.length_replicate, List.length_replicate, hl, hn]
  · rcases gv i sl e with ⟨d, hd, rfl⟩ | rfl
    · obtain ⟨v, h1, h2⟩ := dps_get r hd
      refine ⟨v, ?_, h2⟩
      unfold L2.start
      have hi : i < vs.length := (List.getElem?_eq_some_iff.mp h1).1
      rw [List.getElem?_append_left (by simpa using hi), List.getElem?_map, h1]
      rfl
    · trivial
  · rcases gv i _ e1 with ⟨d, _, z⟩ | z <;> cases z
/-- THE RULE for a def of data -/
theorem fn_data {x qual : Str} {st : Stmt} {f : Addr} {fd : FuncData} {N ps : List Str} {k : Nat} {fb : En → Option Out} (F : Fun K x qual st f fd) (S : FnScope N ps (defScope st)) 
    (hbody : ∀ (cdv : Value) (A : Around) (outer : List Env) (s : Shared) (H : Hp) (E : XK), Room k (A.deeper (envOfC qual (defScope st) s.heap.objs.size f cdv)) →
      DSs (cxOf CX0 P w K mg base N qual (defScope st) f cdv A outer s H E).nox (defBody st) fb) : FnOk P w K mg base CX0 (k + 1) f fd ps (spD K ps.length (runF N.length fb)) := by
  refine F.ok S (fun vs H Q E h => h.1) fun cdv A outer s H vs Q E hr h => ?_
  refine ⟨_, hbody cdv A outer s H E hr, ?_⟩
  obtain ⟨hl, G, ds, d, sm, r, e, q⟩ := h
  obtain ⟨o, eo, e⟩ := Option.bind_eq_some_iff.mp e
  refine ⟨G, H, G, _, o, st_start N.length N rfl sm r, eo, ?_⟩
  cases o with
  | nx e' => cases e; exact fun σ' G' H' s' => q _ G' H' s'.ext .non
  | rt d' => cases e; exact fun v G' H' x r' => q v G' H' x r'
  | bk e' => cases e
  | ct e' => cases e
theorem cal_mk {x qual : Str} {st : Stmt} {f : Addr} {fd : FuncData} {N ps : List Str} {k : Nat} {fb : En → Option Out} (F : Fun K x qual st f fd) (S : FnScope N ps (defScope st)) (hm : mg x = some (.ref f)) (hb : Binds K fd ps [])
    (hbody : ∀ (cdv : Value) (A : Around) (outer : List Env) (s : Shared) (H : Hp) (E : XK), Room k (A.deeper (envOfC qual (defScope st) s.heap.objs.size f cdv)) →
      DSs (cxOf CX0 P w K mg base N qual (defScope st) f cdv A outer s H E).nox (defBody st) fb) : Cal P w K mg base (k + 1) x ps.length (runF N.length fb) :=
  ⟨f, fd, ps, fn_data F S hbody, hm, F.kp, hb⟩
end
end DL

set_option Elab.async false
set_option linter.all false
set_option maxRecDepth 100000
/-! DLs: len(set(t)) of a tuple of tuples of ints. -/
namespace DL
open PySem PySem.Spec PyProof.Rows L2
section
variable {P : Program} {w : World} {A : Around} {E : Value → Shared → Prop} {s : Shared}
/-- an empty set, just made -/
abbrev emptySet (w : World) : Obj := { cls := .type "set", dict := none, data := .set #[] 0 (.fresh 0 0 (!w.params.followText "set-order")) }
/-- what stands behind the filling -/
def Filled (P : Program) (w : World) (h0 h' : Heap) (a : Addr) (ks : List (Addr × List Int)) : Prop :=
  ∃ L es ep t, SetTR P w h' a L es ep t ∧ Got ks ks.length L ∧ ∀ b o, h0.get? b = some o → h'.get? b = some o
set_option maxHeartbeats 3200000 in
theorem set_of_tup {l : Addr} {items : Array Value} (ks : List (Addr × List Int)) {Q : Value → Shared → Prop} (hh : A.handled = none) (hl : s.heap.IsTuple l items) (hit : items.toList = ks.map fun p => Value.ref p.1)
    (hk : ∀ p ∈ ks, IsT P w s.heap p.2 p.1) (hfew : ks.length < 64) (hu : A.units + 3 < cLine)
    (h : ∀ (h' : Heap) (tk : Nat), Filled P w s.heap h' s.heap.objs.size ks → Q (.ref s.heap.objs.size) { s with heap := h', toks := tk }) :
    wpAny (model P w) A (call (.type "set") [.ref l]) Q E s := by
  have hisz : items.size = ks.length := by simpa using congrArg List.length hit
  have hge : ∀ b, s.heap.objs.size ≤ b → s.heap.get? b = none := fun b hb => Heap.get?_none_of_le hb
  obtain ⟨c, tl, hmro⟩ := F.called_set.mro
  have m1 := F.called_set.made
  have m2 := F.called_set.sub
  have m3 := F.called_set.notType
  have m4 := F.called_set.canCreate
  have m5 := F.typeCall_set_1 (.ref l)
  refine wpAny_call (codeAny_of_tree ?_)
  show wpAny _ _ (callAny (.type "set") _) _ _ _
  refine wpAny_pure ⟨Code.quiet_builtin _ (by decide +kernel), codeAny_builtin F.entry_type_call ?_⟩
  rw [Around.under_plain (weight_type_call_type "set" [.ref l] []) rfl]
  repeat (any_goals (first | assumption | wp_step))
  refine codeAny_mono (code_set_led1 (.ref l) (E := E) (Q₁ := fun obj s₁ => obj = .ref s.heap.objs.size ∧ s₁ = { s with heap := s.heap.push (emptySet w) }) ⟨rfl, rfl⟩) fun r s₁ hr => ?_
  match r, hr with
  | .error e, hr => exact hr
  | .ok .next, hr => exact hr.elim
  | .ok .brk, hr => exact hr.elim
  | .ok .cont, hr => exact hr.elim
  | .ok (.ret obj), hr =>
    obtain ⟨rfl, rfl⟩ := hr
    have hS : (s.heap.push (emptySet w)).get? s.heap.objs.size = some (emptySet w) := Heap.get?_push_size _ rfl
    have hT : Shared.TypeIs { s with heap := s.heap.push (emptySet w) } (.ref s.heap.objs.size) "set" := ⟨_, hS, rfl⟩
    have n1 := F.called_set.init.lookup
    have n2 := F.called_set.init.bind (.ref s.heap.objs.size)
    repeat (any_goals (first | assumption | wp_step))
    refine codeAny_mono (codeAny_call_builtin (R := wants (fun r s₂ => r = .none ∧ ∃ h' tk, s₂ = { s with heap := h', toks := tk } ∧ Filled P w s.heap h' s.heap.objs.size ks) E) F.called_set.init.plain F.entry_set_init (check_set_init_1 hT ?_)) fun r₂ s₂ hr₂ => ?_
    · obtain ⟨⟨ocls, odict, odata, oslots⟩, hol, hcl, nl, hdl⟩ := hl
      simp only at hcl hdl
      subst hcl hdl
      have hol2 : (s.heap.push (emptySet w)).get? l = some { cls := .type "tuple", dict := odict, data := .seq items nl, slots := oslots } := Heap.get?_push_of_some _ hol
      have t1 := F.sub_tuple_set
      have t2 := F.sub_tuple_frozenset
      have t3 : (Value.type "tuple" == Value.type "dict") = false := by decide
      have hl1 : (s.heap.push (emptySet w)).IsTuple l items := ⟨_, hol2, rfl, nl, rfl⟩
      unfold Builtin.«set.__init__» noKeywords Builtin.Frozenset.updateFrom
      generalize hPI : pyIter = PI
      wp_walk
      subst hPI
      refine wpAny_pyIter_tuple hl1 (wpAny_bind (wpAny_runValue ?_))
      have hlS : l < s.heap.objs.size := Heap.lt_size hol
      have ez : (s.heap.push (emptySet w)).objs.size = s.heap.objs.size + 1 := Heap.size_push ..
      have hneI : l ≠ (s.heap.push (emptySet w)).objs.size := by rw [ez]; exact Nat.ne_of_lt (Nat.lt_succ_of_lt hlS)
      have hSf : s.heap.objs.size ∉ [(s.heap.push (emptySet w)).objs.size, l] := by
        rw [ez]
        simp only [List.mem_cons, List.not_mem_nil, or_false, not_or]
        exact ⟨Nat.ne_of_lt (Nat.lt_succ_self _), Nat.ne_of_gt hlS⟩
      have hval : ∀ (i : Nat) (v : Value), items[i]? = some v → ∃ p, ks[i]? = some p ∧ v = .ref p.1 := fun i v hv => by
        rw [← Array.getElem?_toList, hit, List.getElem?_map] at hv
        obtain ⟨p, hp, e⟩ := Option.map_eq_some_iff.mp hv
        exact ⟨p, hp, e.symm⟩
      refine set_update_tups ((Walks.tuple (A := A.in1.in1.in1) (by simp [hh]) _ l hneI items).toS) s.heap.objs.size hSf ks hisz hfew hval s.heap hk (hge _ (Nat.le_refl _))
        (fun b hb => hge b (by rw [List.mem_singleton.mp hb, ez]; exact Nat.le_succ _)) hu (items.size - 0) 0 _ (by omega) (Nat.zero_le _) ⟨⟨_, Heap.get?_push_size _ rfl, rfl, rfl⟩, hl1.push _⟩
        (fun b o e => Heap.get?_push_of_some _ (Heap.get?_push_of_some _ e)) ⟨[], #[], 0, _, setTR_fresh (Heap.get?_push_of_some _ hS), Got.zero ks⟩ fun s' L es ep t hm hS' g' hkp => ?_
      obtain ⟨h', g2, d', tk', os'⟩ := s'
      have eg : g2 = s.gens := hm.gens
      have ed : d' = s.drawn := hm.drawn
      have eo : os' = s.os := hm.os
      subst eg ed eo
      rw [hisz] at g'
      show wpAny _ _ _ _ _ _
      refine wpAny_pure ?_
      show wpAny _ _ (ret Value.none) _ _ _
      exact wpAny_pure ⟨rfl, h', tk', rfl, L, es, ep, t, hS', g', hkp⟩
    · match r₂, hr₂ with
      | .error e, hr₂ => exact hr₂
      | .ok .next, hr₂ => exact hr₂.elim
      | .ok .brk, hr₂ => exact hr₂.elim
      | .ok .cont, hr₂ => exact hr₂.elim
      | .ok (.ret r), hr₂ =>
        obtain ⟨rfl, h', tk, rfl, hF⟩ := hr₂
        repeat (any_goals (first | assumption | wp_step))
        exact h h' tk hF
end
end DL

set_option Elab.async false
set_option linter.all false
set_option maxRecDepth 100000
/-! DLi: more rules: constants of the module, len(set(t)), range by steps, zip, list methods, repr, defs as arguments. -/
namespace DL
open PySem PySem.Spec PyProof.Rows L2
/-- a constant of the module -/
def GlobOk (K : PySem.W.Frag) (mg : Str → Option Value) (x : Str) (d : D) : Prop := ∃ u v, mg x = some u ∧ RelV v u ∧ ∀ G, Dp K G v d
section
variable {X : Cx} {a b c e o tg : Expr} {es rest : List Expr} {fa fb fc : En → Option D} {ts : En → Option (List D)} {pos apos p : Pos}
theorem de_globK {x : Str} {d : D} (h : GlobOk X.K X.mg x d) (hg : Gl X x := by rfl) (hd : (x == ("__debug__" : Str)) = false := by decide) : DE X (.Name x pos) (vc d) := by
  obtain ⟨u, v, hm, r, hp⟩ := h
  exact de_glob hg hm r hp hd
theorem glob_str {K : PySem.W.Frag} {mg : Str → Option Value} {x y : Str} {t : Tok} (h : mg x = some (.str y t)) : GlobOk K mg x (.str y) := ⟨_, .str y, h, ⟨t, rfl⟩, fun _ => .str _⟩

/-! ### len(set(t)) -/
def intsD : List D → Option (List Int)
  | [] => some []
  | .int b :: r => (intsD r).map (b :: ·)
  | _ => none
theorem intsD_some : ∀ {ds : List D} {bs : List Int}, intsD ds = some bs → ds = bs.map PyData.int
  | [], _, h => by cases h; rfl
  | .int b :: r, _, h => by
    obtain ⟨t, ht, rfl⟩ := Option.map_eq_some_iff.mp (show (intsD r).map (b :: ·) = _ from h)
    rw [intsD_some ht]; rfl
  | .none :: _, _, h => by cases h
  | .str _ :: _, _, h => by cases h
  | .bool _ :: _, _, h => by cases h
  | .list _ :: _, _, h => by cases h
  | .tuple _ :: _, _, h => by cases h
  | .dict _ :: _, _, h => by cases h
def tupsD : List D → Option (List (List Int))
  | [] => some []
  | .tuple ds :: r => (intsD ds).bind fun k => (tupsD r).map (k :: ·)
  | _ => none
/-- the number of different ones -/
def cntD : List (List Int) → Nat
  | [] => 0
  | x :: r => if x ∈ r then cntD r else cntD r + 1
def lenSetD : D → Option D
  | .tuple ds => (tupsD ds).bind fun ks => if ks.length < 64 then some (.int (cntD ks)) else none
  | _ => none
theorem cnt_le : ∀ (ks : List (List Int)), cntD ks ≤ ks.length
  | [] => Nat.le_refl _
  | x :: r => by
    have := cnt_le r
    unfold cntD
    split <;> simp <;> omega
theorem cnt_nodup : ∀ (ks : List (List Int)), ks.Nodup → cntD ks = ks.length
  | [], _ => rfl
  | x :: r, h => by
    have h' := List.nodup_cons.mp h
    unfold cntD
    rw [if_neg h'.1, cnt_nodup r h'.2]; rfl
theorem cnt_dup : ∀ (ks : List (List Int)), ¬ ks.Nodup → cntD ks < ks.length
  | [], h => absurd List.nodup_nil h
  | x :: r, h => by
    have hl := cnt_le r
    unfold cntD
    split
    · simp; omega
    · rename_i hx
      have := cnt_dup r fun z => h (List.nodup_cons.mpr ⟨hx, z⟩)
      simp; omega
theorem cnt_of : ∀ (ks L : List (List Int)), L.Nodup → (∀ x, x ∈ L ↔ x ∈ ks) → L.length = cntD ks
  | [], L, _, h => by
    cases L with
    | nil => rfl
    | cons x r => exact absurd ((h x).mp (List.mem_cons_self)) (by simp)
  | x :: r, L, hn, h => by
    unfold cntD
    split
    · rename_i hx
      exact cnt_of r L hn fun y => ⟨fun z => ((List.mem_cons.mp ((h y).mp z)).elim (fun e => e ▸ hx) id), fun z => (h y).mpr (List.mem_cons_of_mem _ z)⟩
    · rename_i hx
      have hxL : x ∈ L := (h x).mpr List.mem_cons_self
      have e := cnt_of r (L.erase x) (hn.erase x) fun y => by
        rw [hn.mem_erase_iff, h y]
        exact ⟨fun z => (List.mem_cons.mp z.2).resolve_left z.1, fun z => ⟨fun e => hx (e ▸ z), List.mem_cons_of_mem _ z⟩⟩
      have l := List.length_erase_of_mem hxL
      have : 0 < L.length := List.length_pos_of_mem hxL
      omega
theorem tups_keys {K : PySem.W.Frag} {G : Hp} : ∀ {ds : List D} {vs : List V} {ks : List (List Int)}, tupsD ds = some ks → DpAll K G vs ds → ∃ ps : List (Addr × List Int), ps.map (·.2) = ks ∧ vs = ps.map (fun p => V.ref p.1) ∧ ∀ p ∈ ps, SqT K G p.1 (p.2.map V.int)
  | [], _, _, h, r => by cases h; cases r; exact ⟨[], rfl, rfl, fun p hp => by cases hp⟩
  | .tuple ds :: rest, _, _, h, r => by
    obtain ⟨k, hk, h⟩ := Option.bind_eq_some_iff.mp (show (intsD ds).bind _ = _ from h)
    obtain ⟨ks, hks, rfl⟩ := Option.map_eq_some_iff.mp h
    cases r with
    | cons r1 r2 =>
      obtain ⟨ps, e1, rfl, e3⟩ := tups_keys hks r2
      cases r1 with
      | tup h1 h2 =>
        have := intsD_some hk
        subst this
        rw [ints_of h2] at h1
        refine ⟨(_, k) :: ps, by rw [List.map_cons, e1], rfl, fun p hp => ?_⟩
        rcases List.mem_cons.mp hp with rfl | hp
        · exact h1
        · exact e3 p hp
  | .none :: _, _, _, h, _ => by cases h
  | .int _ :: _, _, _, h, _ => by cases h
  | .str _ :: _, _, _, h, _ => by cases h
  | .bool _ :: _, _, _, h, _ => by cases h
  | .list _ :: _, _, _, h, _ => by cases h
  | .dict _ :: _, _, _, h, _ => by cases h
theorem de_lenSet {k : Nat} {x y : Str} {p2 q' : Pos} (hr : Room k X.A) (ha : DE X e fa) (hm : X.mg "len" = none) (hm2 : X.mg "set" = none) (hx : x = "len" := by rfl) (hy : y = "set" := by rfl) (hg : Gl X x := by rfl) (hg2 : Gl X y := by rfl) (hc : X.calm = true := by rfl)
    (na : starEach [e] X.env = (false, eval e X.env) :: starEach [] X.env := by rfl) : DE X (.Call (.Name x p) [.Call (.Name y p2) [e] [] q'] [] pos) (b1 lenSetD fa) := by
  subst hx hy
  refine ⟨fun pins s σ H Q I ⟨G0, H0, G, env, d, st, ed, kk⟩ => ?_⟩
  obtain ⟨dv, e1, ed⟩ := Option.bind_eq_some_iff.mp ed
  refine Call_ (ld_blt I hg hm boot_len ?_)
  refine PyProof.Rows.callWith_builtin1 (PyProof.Rows.args_cons ?_ rfl) rfl rfl
  refine Call_ (ld_blt I hg2 hm2 boot_set ?_)
  refine PyProof.Rows.callWith_type1 (PyProof.Rows.args_cons (thn (ha.run pins s σ H (fun v H1 => ∃ G1, Ext G H G1 H1 ∧ Dp X.K G1 v dv) I ⟨G0, H0, G, env, dv, st, e1, fun v G' H' x r => ⟨G', x, r⟩⟩) fun v s1 ⟨xv, H1, I1, r1, G1, x1, q1⟩ => PyProof.Rows.args_nil ?_) na) na rfl
  unfold lenSetD at ed
  split at ed
  · obtain ⟨ks, hks, ed⟩ := Option.bind_eq_some_iff.mp ed
    split at ed
    · rename_i hlt
      cases ed
      cases q1 with
      | tup h1 h2 =>
        cases r1
        obtain ⟨ps, e2, rfl, e3⟩ := tups_keys hks h2
        obtain ⟨its, rv, pt, hz⟩ := I1.tuple (sameT x1.s h1)
        have hpl : ps.length = ks.length := by rw [← e2, List.length_map]
        have hu := hr.units
        refine set_of_tup ps (I1.ok.hd hc) pt (by simpa using refs_of_vals rv) (fun p hp => I1.isT (sameT x1.s (e3 p hp))) (by rw [hpl]; exact hlt) (by omega) fun h' tk ⟨L, es', ep, t, R, g, hk'⟩ => ?_
        refine PyProof.Rows.args_nil ?_
        obtain ⟨ob, ho, hex, hd⟩ := R.ob
        have hsz : es'.size = L.length := by
          rw [← Array.length_toList, R.rows]; unfold rowsOf; rw [List.length_map]
        have hfit : t.fits es'.size = true := SetTR.fits (s := { s1 with heap := h' }) R
        have hcnt : L.length = cntD ks := by
          rw [← List.length_map (f := (·.2))]
          refine cnt_of ks _ R.nd fun y => ⟨fun hy => ?_, fun hy => ?_⟩
          · obtain ⟨pp, hp, rfl⟩ := List.mem_map.mp hy
            rw [← e2]
            exact List.mem_map.mpr ⟨pp, List.mem_of_mem_take (g.sub pp hp), rfl⟩
          · rw [← e2] at hy
            obtain ⟨pp, hp, rfl⟩ := List.mem_map.mp hy
            exact g.all pp (by rw [List.take_length]; exact hp)
        have I2 : Inv X pins σ H1 { s1 with heap := h', toks := tk } := I1.kept hk'
        have few := R.few
        exact call_len_set ho hex hd hfit (by omega) ⟨.int (cntD ks), H1, I2.tok _, ⟨_, by rw [hsz, hcnt]⟩, kk _ G1 H1 x1 (.int _)⟩
    · cases ed
  · cases ed

/-! ### range by steps -/
def rg3 : List D → Option (List D)
  | [.int i, .int j, .int c] => if decide (0 < c ∧ c ≤ 1000 ∧ (-1152921504606846976 ≤ i ∧ i < 1152921504606846976) ∧ -1152921504606846976 ≤ j ∧ j < 1152921504606846976) then some ((List.range (if i < j then ((j - i - 1) / c + 1).toNat else 0)).map fun (n : Nat) => .int (i + (n : Int) * c)) else none
  | _ => none
def r3F (ts : En → Option (List D)) : En → Option (List D) := fun env => (ts env).bind rg3
theorem isIt_rangeC {K : PySem.W.Frag} {G : Hp} (lo c : Int) (n : Nat) : IsIt K (Itc lo c n) G ((List.range n).map fun (m : Nat) => .int (lo + (m : Int) * c)) where
  go := fun i G' H' s1 s2 hi => by
    have : i < n := by simpa using hi
    exact this
  stop := fun i G' H' s1 s2 hi => by
    have : i = n := by simpa using hi
    exact Nat.le_of_eq this.symm
  yld := fun i G' H' v H'' s1 s2 hi y => by
    obtain ⟨rfl, rfl⟩ := y
    have : i < n := by simpa using hi
    exact ⟨G', _, .refl s2, by simp [this], .int _⟩
theorem rgC_of {i j c : Int} (h1 : 0 < c) (h2 : c ≤ 1000) (h3 : -1152921504606846976 ≤ i) (h4 : i < 1152921504606846976) (h5 : -1152921504606846976 ≤ j) (h6 : j < 1152921504606846976) :
    RgC i j c (if i < j then ((j - i - 1) / c + 1).toNat else 0) := by
  have hs : Builtin.Range.rangeSize i j c = ((if i < j then ((j - i - 1) / c + 1).toNat else 0 : Nat) : Int) := by
    unfold Builtin.Range.rangeSize
    rw [if_pos h1]
    split
    · have : 0 ≤ (j - i - 1) / c := Int.ediv_nonneg (by omega) (by omega)
      omega
    · rfl
  have hb : (if i < j then ((j - i - 1) / c + 1).toNat else 0 : Nat) ≤ 2305843009213693952 := by
    split
    · have q : (j - i - 1) / c ≤ j - i - 1 := Int.ediv_le_self _ (by omega)
      omega
    · omega
  refine ⟨by omega, by omega, ?_, hs⟩
  unfold Builtin.Range.small Builtin.Range.rangeFitsLong
  rw [hs, if_pos h1]
  simp only [Bool.and_eq_true, Bool.or_eq_true, decide_eq_true_eq, beq_iff_eq]
  omega
theorem di_range3 {p' : Pos} (ha : DA X [a, b, c] ts) (hm : X.mg "range" = none) (hg : Gl X "range" := by rfl) (hs : starEach [a, b, c] X.env = (false, eval a X.env) :: starEach [b, c] X.env := by rfl) (hpl : (backTo p' (starEach [b, c] X.env)).any (·.1) = false := by rfl) :
    DI X tg (.Call (.Name "range" p) [a, b, c] [] p') (r3F ts) :=
  pi_imp (pi_range3 hg hm ha hs hpl) fun σ H R ⟨G0, H0, G, env, ds, s, e, k⟩ => by
    obtain ⟨d, ed, e⟩ := Option.bind_eq_some_iff.mp e
    refine ⟨G0, H0, G, env, _, s, ed, fun vs G' H' x r => ?_⟩
    unfold rg3 at e
    split at e
    · split at e
      · rename_i h
        obtain ⟨h1, h2, ⟨h3, h4⟩, h5, h6⟩ := of_decide_eq_true h
        cases e
        cases r with
        | cons r rr =>
          cases rr with
          | cons r2 rr =>
            cases rr with
            | cons r3 rr =>
              cases rr; cases r; cases r2; cases r3
              exact ⟨_, _, _, _, rfl, rgC_of h1 h2 h3 h4 h5 h6, k _ G' H' x (isIt_rangeC _ _ _)⟩
      · cases e
    · cases e
def zpF (f h : En → Option D) : En → Option (List D) := fun env => (f env).bind fun x => (h env).bind fun y => (lsOf x).bind fun l => (lsOf y).map fun m => zipD l m
theorem di_zip {elts : List Expr} {kk : Nat} {p' tpos : Pos} (ha : DE X a fa) (hb : DE X b fb) (hm : X.mg "zip" = none) (hg : Gl X "zip" := by rfl) (hs1 : starEach (a :: [b]) X.env = (false, eval a X.env) :: starEach [b] X.env := by rfl) (hs2 : starEach (b :: []) X.env = (false, eval b X.env) :: starEach [] X.env := by rfl) (hpl : (backTo p' (starEach [b] X.env)).any (·.1) = false := by rfl) :
    DI X (.Tuple elts kk tpos) (.Call (.Name "zip" p) [a, b] [] p') (zpF fa fb) :=
  pi_imp (pi_zip hg hm (da_cons ha (da_cons hb da_nil hs2) hs1) hs1 hpl) fun σ H R ⟨G0, H0, G, env, ds, s, e, k⟩ => by
    obtain ⟨x, ex, e⟩ := Option.bind_eq_some_iff.mp e
    obtain ⟨y, ey, e⟩ := Option.bind_eq_some_iff.mp e
    obtain ⟨l, el, e⟩ := Option.bind_eq_some_iff.mp e
    obtain ⟨m, em, rfl⟩ := Option.map_eq_some_iff.mp e
    have := lsOf_some el
    have := lsOf_some em
    subst x y
    refine ⟨G0, H0, G, env, [.list l, .list m], s, by simp [consF, ex, ey, nilF], fun vs G' H' x r => ?_⟩
    cases r with
    | cons r rr =>
      cases rr with
      | cons r2 rr =>
        cases rr
        cases r with
        | lst h1 h2 =>
          cases r2 with
          | lst h3 h4 => exact ⟨_, _, _, _, rfl, x.s.seq h1, x.s.seq h3, k _ G' H' x (isIt_zip h1 h2 h3 h4)⟩

/-! ### a list of one's own: an item stored, reverse -/
def putF (i : Nat) (f h : En → Option D) : En → Option Out := fun env => (f env).bind fun d => (h env).bind fun z => match env[i]?, z with
  | some (.own ds), .int n => (ixN ds.length n).map fun j => .nx (env.set i (.own (ds.set j d)))
  | _, _ => none
theorem ds_put {i : Nat} {x : Str} {xp tpos : Pos} (he : DE X e fa) (hz : DE X a fb) (hN : X.N[i]? = some x := by rfl) (hv : Vis X.env.scope x := by first | exact Or.inl rfl | exact Or.inr (Or.inl rfl) | exact Or.inr (Or.inr rfl)) (hd : (x == ("__debug__" : Str)) = false := by decide)
    (hcd : (x == ("__classdict__" : Str)) = false := by decide) (hs : swapsWithSole [.Subscript (.Name x xp) a tpos] e pos.line X.env = pure false := by rfl) (hw : swappedStores [.Subscript (.Name x xp) a tpos] e X.env = pure none := by rfl)
    (h1 : (assignEach [.Subscript (.Name x xp) a tpos] X.env).map (·.2) = [assign (.Subscript (.Name x xp) a tpos) X.env] := by rfl)
    (ha : ∀ v, assign (.Subscript (.Name x xp) a tpos) X.env v = (do
      let ov ← holding [v] (eval (.Name x xp) X.env)
      let iv ← holding [v, ov] (eval a X.env)
      standAt tpos
      holding [v, ov, iv] (setItem ov iv v)
      release [v, ov, iv] []) := by intro _; rfl) : DS X (.Assign [.Subscript (.Name x xp) a tpos] e pos) (putF i fa fb) :=
  ps_imp (ps_asg he (pg_sub (pv i hN hv hd hcd) hz set_list ha) hs hw h1) fun D' σ H ⟨G0, H0, G, env, o, s, e, k⟩ => by
    obtain ⟨d, ed, e⟩ := Option.bind_eq_some_iff.mp e
    obtain ⟨z, ez, e⟩ := Option.bind_eq_some_iff.mp e
    split at e
    · rename_i ds n q
      obtain ⟨j, hj, rfl⟩ := Option.map_eq_some_iff.mp e
      obtain ⟨ad, vs, q1, q2, q3, q4, q5⟩ := s.own q
      refine ⟨G0, H0, G, env, d, s, ed, fun v G1 H1 x1 r1 => ⟨.ref ad, q1, G0, H0, G1, env, _, s.exts x1, ez, fun u G2 H2 x2 r2 => ?_⟩⟩
      cases r2
      have xx := x1.trans x2
      refine ⟨ad, vs, n, j, rfl, rfl, xx.h _ _ q2, by rw [dps_len q5]; exact hj, ?_⟩
      exact k σ G2 _ ((s.exts xx).mut q q1 (xx.h _ _ q2) (xx.n _ _ q2 q3) q4 (dps_set j (dps_same xx.g q5) (dp_same x2.g r1)))
    · cases e
def hRev (ds : List D) : Option (List D) := some ds.reverse
theorem ds_reverse {i : Nat} {x : Str} {xp cpos : Pos} (hN : X.N[i]? = some x := by rfl) (hv : Vis X.env.scope x := by first | exact Or.inl rfl | exact Or.inr (Or.inl rfl) | exact Or.inr (Or.inr rfl)) (hd : (x == ("__debug__" : Str)) = false := by decide)
    (hcd : (x == ("__classdict__" : Str)) = false := by decide) (hbase : attributeBase (.Name x xp) "reverse" X.env (eval (.Name x xp) X.env) = eval (.Name x xp) X.env := by rfl) (hline : (apos.endLine == cpos.line) = true := by rfl) :
    DS X (.Expr (.Call (.Attribute (.Name x xp) "reverse" apos) [] [] cpos) pos) (mut0F i hRev) :=
  ps_imp (ps_expr (pe_bm0 PySem.F.plainAttrs_list PySem.F.slot_list_reverse PySem.F.type_list_reverse mt_reverse (pv i hN hv hd hcd) hbase hline)) fun D' σ H ⟨G0, H0, G, env, o, s, e, k⟩ => by
    unfold mut0F at e
    split at e
    · rename_i ds q
      cases e
      obtain ⟨a, vs, h1, h2, h3, h4, h5⟩ := s.own q
      exact ⟨.ref a, h1, .inl ⟨rfl, vs, .inl (.inl h2)⟩, a, vs, rfl, rfl, h2, k _ G _ (s.mut q h1 h2 h3 h4 (dps_reverse h5))⟩
    · cases e

/-! ### repr, where nothing is being shown -/
def cRepr : List D → Option D
  | [.list ds] => if PyData.showable (.list ds) && SeqAt.shaped (.list ds) && fits (PyData.shown (.list ds)).length then some (.str (PyData.shown (.list ds))) else none
  | _ => none
def rRepr (K : PySem.W.Frag) : List V → Hp → VK → Prop := fun vs H Q => ∃ v ds, vs = [v] ∧ Dp K H v (.list ds) ∧ (PyData.showable (.list ds) && SeqAt.shaped (.list ds) && fits (PyData.shown (.list ds)).length) = true ∧ Q (.str (PyData.shown (.list ds))) H
theorem call_reprL {k : Nat} (hg : X.A.guards = some []) (hr : Room k X.A) : CallR X (.builtin "repr") (rRepr X.K) := by
  intro pins s σ H vs us Q I r ⟨v, ds, e, hd, ok, q⟩
  subst e
  obtain ⟨u, rfl, ru⟩ := vals1 r
  simp only [Bool.and_eq_true] at ok
  obtain ⟨⟨o1, o2⟩, o3⟩ := ok
  have hu := hr.units
  have hdep : (PyData.list ds).depth ≤ 64 := by
    unfold SeqAt.shaped at o2
    simp only [Bool.and_eq_true, decide_eq_true_eq] at o2
    exact o2.2
  obtain ⟨as, rd⟩ := Dp.reads I _ v u hd ru
  cases hd with
  | lst h1 h2 =>
    cases ru
    exact repr_of_reads' rd o1 (PyData.noDict_hsm (PyData.hasDict_of_canLay _ (SeqAt.canLay_of_shaped o2))) hg (by have := hr.un; omega) (fun _ _ h => h) (fun h' u tk hk => ⟨.str _, H, I.kept (t' := tk) hk, ⟨u, rfl⟩, q⟩) (lenFits o3)
theorem c_repr {k : Nat} (hg : X.A.guards = some []) (hr : Room k X.A) : CRD X (.builtin "repr") cRepr := ⟨_, call_reprL hg hr, fun G H vs ds dz Q s r e q => by
  unfold cRepr at e
  split at e
  · split at e
    · rename_i ok
      cases e
      cases r with
      | cons r rr => cases rr; exact ⟨_, _, rfl, dp_same s r, ok, q _ G H (.refl s) (.str _)⟩
    · cases e
  · cases e⟩

/-! ### a def handed on as an argument -/
structure Prc (P : Program) (w : World) (K : PySem.W.Frag) (mg : Str → Option Value) (base : Heap) (k : Nat) (f : Addr) (n : Nat) (m : List D → Option D) : Prop where
  ex : ∃ (fd : FuncData) (ps : List Str), FnOk P w K mg base CX0 k f fd ps (spD K n m) ∧ PySem.W.keepIn K (.ref f) = true ∧ Binds K fd ps []
theorem Cal.prc {P : Program} {w : World} {K : PySem.W.Frag} {mg : Str → Option Value} {base : Heap} {k : Nat} {x : Str} {n : Nat} {m : List D → Option D} (C : Cal P w K mg base k x n m) : ∃ f, mg x = some (.ref f) ∧ Prc P w K mg base k f n m := by
  obtain ⟨f, fd, ps, h1, h2, h3, h4⟩ := C.ex
  exact ⟨f, h2, fd, ps, h1, h3, h4⟩
open Classical in
noncomputable def prF (i : Nat) (f : Addr) (m : List D → Option D) (ts : En → Option (List D)) : En → Option D := fun env => if env[i]? = some (.raw (.ref f)) then (ts env).bind m else none
theorem de_callP (i : Nat) {k k' n : Nat} {f : Addr} {x : Str} {m : List D → Option D} (C : Prc X.prog X.w X.K X.mg X.base k f n m) (hr : Room k' X.A) (hk : k ≤ k') (ha : DA X (e :: es) ts) (hn : lenIs n ts) (hN : X.N[i]? = some x := by rfl) (hv : Vis X.env.scope x := by first | exact Or.inl rfl | exact Or.inr (Or.inl rfl) | exact Or.inr (Or.inr rfl))
    (hd : (x == ("__debug__" : Str)) = false := by decide) (hcd : (x == ("__classdict__" : Str)) = false := by decide)
    (he : starEach (e :: es) X.env = (false, eval e X.env) :: starEach es X.env := by rfl) (hpl : (backTo pos (starEach es X.env)).any (·.1) = false := by rfl) :
    DE X (.Call (.Name x p) (e :: es) [] pos) (prF i f m ts) := by
  obtain ⟨fd, ps, F, kp, hb⟩ := C.ex
  refine pe_imp (pe_callL F (hr.mono hk) hN hv kp hb .nil pass0 ha hd hcd he hpl) fun σ H Q ⟨G0, H0, G, env, d, s, e, q⟩ => ?_
  unfold prF at e
  split at e
  · rename_i hraw
    obtain ⟨z, ez, e⟩ := Option.bind_eq_some_iff.mp e
    have hσ : σ[i]? = some (some (.ref f)) := s.ok i _ hraw
    refine ⟨hσ, G0, H0, G, env, z, s, ez, fun vs G1 H1 x1 r1 => ?_⟩
    show spD X.K n m (vs ++ []) H1 Q E0
    rw [List.append_nil]
    exact ⟨by rw [dps_len r1]; exact hn env z ez, G1, z, d, x1.s, r1, e, fun v G2 H2 x2 r2 => q v G2 H2 (x1.trans x2) r2⟩
  · cases e
end
end DL

set_option Elab.async false
set_option linter.all false
set_option maxRecDepth 100000
/-! DLj: a def whose second argument is a def; a law's def at the caller's own place; the end. -/
namespace DL
open PySem PySem.Spec PyProof.Rows L2
section
variable {P : Program} {w : World} {K : PySem.W.Frag} {mg : Str → Option Value} {base : Heap}
/-- what a def of data promises whose second argument is the def at fr -/
def spDF (K : PySem.W.Frag) (fr : Addr) (m : D → Option D) : Sp := fun vs H Q _ => vs.length = 2 ∧ ∃ v0, vs = [v0, .ref fr] ∧ ∃ G d0 d, Same G H ∧ Dp K G v0 d0 ∧ m d0 = some d ∧ ∀ v G' H', Ext G H G' H' → Dp K G' v d → Q v H'
def outD : Out → Option D
  | .nx _ => some .none
  | .rt d => some d
  | _ => none
def runF2 (n : Nat) (fb : En → Option Out) (fr : Addr) (d0 : D) : Option D := (fb (.val d0 :: .raw (.ref fr) :: List.replicate (n - 2) .no)).bind outD
structure CalF (P : Program) (w : World) (K : PySem.W.Frag) (mg : Str → Option Value) (base : Heap) (k : Nat) (x : Str) (fr : Addr) (m : D → Option D) : Prop where
  ex : ∃ (f : Addr) (fd : FuncData) (ps : List Str), FnOk P w K mg base CX0 k f fd ps (spDF K fr m) ∧ mg x = some (.ref f) ∧ PySem.W.keepIn K (.ref f) = true ∧ Binds K fd ps []
theorem calF_mk {x qual y1 y2 : Str} {st : Stmt} {f fr : Addr} {fd : FuncData} {N : List Str} {k : Nat} {fb : En → Option Out} (F : Fun K x qual st f fd) (S : FnScope N [y1, y2] (defScope st)) (hm : mg x = some (.ref f)) (hb : Binds K fd [y1, y2] [])
    (hbody : ∀ (cdv : Value) (A : Around) (outer : List Env) (s : Shared) (H : Hp) (E : XK), Room k (A.deeper (envOfC qual (defScope st) s.heap.objs.size f cdv)) →
      DSs (cxOf CX0 P w K mg base N qual (defScope st) f cdv A outer s H E).nox (defBody st) fb) : CalF P w K mg base (k + 1) x fr (runF2 N.length fb fr) := by
  refine ⟨f, fd, [y1, y2], ?_, hm, F.kp, hb⟩
  refine F.ok S (fun vs H Q E h => h.1) fun cdv A outer s H vs Q E hr h => ?_
  refine ⟨_, hbody cdv A outer s H E hr, ?_⟩
  obtain ⟨hl, v0, rfl, G, d0, d, sm, r, e, q⟩ := h
  obtain ⟨o, eo, e⟩ := Option.bind_eq_some_iff.mp e
  have hN : 2 ≤ N.length := by
    have := congrArg List.length S.pre
    rw [List.length_take] at this
    simp only [List.length_cons, List.length_nil] at this
    omega
  have s0 : StOk K G H G H (L2.start N [v0, .ref fr]) (.val d0 :: .raw (.ref fr) :: List.replicate (N.length - 2) .no) := by
    refine ⟨.refl sm, ?_, fun i sl e => ?_, fun i j a xs ys e1 => ?_⟩
    · unfold L2.start
      simp
    · match i, e with
      | 0, e => cases e; exact ⟨v0, rfl, r⟩
      | 1, e => cases e; rfl
      | i + 2, e =>
        have : sl = .no := List.eq_of_mem_replicate (List.mem_of_getElem? (show (List.replicate (N.length - 2) Slot.no)[i]? = some sl from e))
        subst this; trivial
    · match i, e1 with
      | 0, e1 => cases e1
      | 1, e1 => cases e1
      | i + 2, e1 =>
        have z := List.eq_of_mem_replicate (List.mem_of_getElem? (show (List.replicate (N.length - 2) Slot.no)[i]? = some (.own xs) from e1))
        cases z
  refine ⟨G, H, G, _, o, s0, eo, ?_⟩
  cases o with
  | nx e' => cases e; exact fun σ' G' H' s' => q _ G' H' s'.ext .non
  | rt d' => cases e; exact fun v G' H' x r' => q v G' H' x r'
  | bk e' => cases e
  | ct e' => cases e
/-- f(e, g), g a def of the module -/
theorem de_call2P {X : Cx} {e : Expr} {fa : En → Option D} {k k' : Nat} {x y : Str} {p p2 pos : Pos} {fr : Addr} {m : D → Option D} (C : CalF X.prog X.w X.K X.mg X.base k x fr m) (hfr : X.mg y = some (.ref fr)) (hr : Room k' X.A) (hk : k ≤ k') (ha : DE X e fa) (hg : Gl X x := by rfl) (hg2 : Gl X y := by rfl) (hdb : (x == ("__debug__" : Str)) = false := by decide) (hdb2 : (y == ("__debug__" : Str)) = false := by decide)
    (he : starEach (e :: [.Name y p2]) X.env = (false, eval e X.env) :: starEach [.Name y p2] X.env := by rfl) (he2 : starEach (.Name y p2 :: []) X.env = (false, eval (.Name y p2) X.env) :: starEach [] X.env := by rfl) (hpl : (backTo pos (starEach [.Name y p2] X.env)).any (·.1) = false := by rfl) :
    DE X (.Call (.Name x p) [e, .Name y p2] [] pos) (b1 m fa) := by
  obtain ⟨f, fd, ps, F, hm, kp, hb⟩ := C.ex
  refine pe_imp (pe_call F (hr.mono hk) hg hm kp hb .nil pass0 (pa_cons ha (pa_cons (pe_glob (v := .ref fr) hg2 hfr rfl hdb2) pa_nil he2) he) hdb he hpl) fun σ H Q ⟨G0, H0, G, env, d, s, e, q⟩ => ?_
  obtain ⟨z, ez, e⟩ := Option.bind_eq_some_iff.mp e
  refine ⟨G0, H0, G, env, z, s, ez, fun v G1 H1 x1 r1 => ?_⟩
  exact ⟨rfl, v, rfl, G1, z, d, x1.s, r1, e, fun v G2 H2 x2 r2 => q v G2 H2 (x1.trans x2) r2⟩
end

/-! ### the law's def, run at the caller's place alone -/
/-- the law's call gives True -/
def LawAt (P : Program) (w : World) (K : PySem.W.Frag) (mg : Str → Option Value) (base : Heap) (fa : Addr) (fd : FuncData) (x : Str) (n : Nat) : Prop :=
  ∀ (s : Shared) (H : Hp) (a : Addr) (ns : List Int), Env0 P w K mg base callerA [] s H → BindsTo s fd ⟨[.ref a], []⟩ [(x, .ref a)] → ns.length ≤ n → SqL K H a (ns.map V.int) →
    codeAny (model P w) callerA (.call (.ref fa) ⟨[.ref a], []⟩) (CR CX0 [] P w H s (fun v _ => v = .bl true) E0) s
theorem lawAt_mk {P : Program} {w : World} {K : PySem.W.Frag} {mg : Str → Option Value} {base : Heap} {x name qual : Str} {st : Stmt} {fa : Addr} {fd : FuncData} {N : List Str} {k n : Nat} {fb : En → Option Out} (F : Fun K name qual st fa fd) (S : FnScope N [x] (defScope st)) (hr : Room (k + 1) callerA)
    (hbody : ∀ (cdv : Value) (s : Shared) (H : Hp), Room k (callerA.deeper (envOfC qual (defScope st) s.heap.objs.size fa cdv)) →
      DSs (cxOf CX0 P w K mg base N qual (defScope st) fa cdv callerA [] s H E0).nox (defBody st) fb) (hfb : ∀ ns : List Int, ns.length ≤ n → runF N.length fb [.list (ns.map .int)] = some (.bool true)) : LawAt P w K mg base fa fd x n := by
  intro s H a ns e0 hb hn hS
  obtain ⟨oc, od, kV, doc, pm, an, cdv, ct, osl, rfl, lk, hcd⟩ := F.ex
  have KX : K.In s.heap := e0.mod.kin.keeps fun b o e => (e0.bs b o e).1
  have lim : s.heap.NoLimit := e0.mod.nolimit.keeps fun b o e => (e0.bs b o e).1
  have hkind : ∀ y ∈ [x].zip [Value.ref a], (defScope st).names.lookup y.1 = some .local ∨ ((defScope st).names.lookup y.1 = some .cell ∧ ((cellsFrom (s.heap.objs.size + 1) (defScope st).names []).lookup y.1).isSome = true) := fun ⟨n, v⟩ hy => by
    rcases S.par n (List.of_mem_zip hy).1 with q | q
    · exact .inl q
    · exact .inr ⟨q, PySem.W.cellsFrom_some _ _ _ (.inl q)⟩
  refine codeAny_call_function hr.depth (KX _ _ lk) rfl S.co S.gen rfl (PySem.W.codeRec_of KX hcd) (hb _ _ _ _ ?_)
  refine wpAny_newFunctionEnv_cells S.kind hkind fun env he s1 hx => ?_
  subst he
  refine ⟨lim.keeps hx.toInCall.keep, codeAny_func ?_⟩
  have I : Inv (cxOf CX0 P w K mg base N qual (defScope st) fa cdv callerA [] s H E0) [] (L2.start N [.ref a]) H s1 := inv_start (ps := [x]) (us := [Value.ref a]) S hr.hd e0 rfl (.cons rfl .nil) hx
  obtain ⟨o, eo, e⟩ := Option.bind_eq_some_iff.mp (hfb ns hn)
  have s0 := st_start (K := K) (G := H) (H := H) (vs := [.ref a]) (ds := [.list (ns.map .int)]) N.length N rfl (Same.refl H) (.cons (.lst hS (dps_ints ns)) .nil)
  have ht := (hbody cdv s H (hr.deeper _)).nox
  refine wpAny_mono (ht.run [] s1 (L2.start N [.ref a]) H { nx := fun _ _ => False, rt := fun v _ => v = .bl true } I ⟨H, H, H, _, o, s0, eo, ?_⟩) (fun fl s' hs => ?_) fun e s' hs => hs
  · cases o with
    | nx e' => cases e
    | rt d' =>
      cases e
      intro v G' H' x' r
      cases r
      rfl
    | bk e' => cases e
    | ct e' => cases e
  · cases fl with
    | ret u =>
      obtain ⟨v, σ', H', J, rv, q⟩ := hs
      exact ⟨v, H', J.os, J.bare, J.base, J.hok, rv, q⟩
    | next =>
      obtain ⟨σ', H', J, q⟩ := hs
      exact q.elim
    | brk =>
      obtain ⟨_, _, _, q⟩ := hs
      exact q.elim
    | cont =>
      obtain ⟨_, _, _, q⟩ := hs
      exact q.elim
end DL

set_option Elab.async false
set_option linter.all false
set_option maxRecDepth 100000
/-! DLk: the law's row from LawAt. -/
namespace DL
open PySem PySem.Spec PyProof.Rows L2
section
variable {P : Program} {w : World} {K : PySem.W.Frag} {mg mb : Str → Option Value} {fa a : Addr} {fd : FuncData} {x : Str} {s₁ : Shared} {vs : List Value} {ns : List Int} {n : Nat}
/-- the abstract heap at the law's entry tracks the script alone, and that locked -/
structure Entry (P : Program) (w : World) (K : PySem.W.Frag) (a : Addr) (h : Heap) (H : Hp) : Prop where
  only : Only H
  hok : HOk P w H h
  one : ∀ b, H b ≠ none → b = a ∧ K.lookup a = none
theorem entry_of (KX : K.In s₁.heap) (ha : s₁.heap.get? a = some { cls := .type "list", data := .seq vs.toArray }) (hi : IntsAre vs ns) (hl : ns.length ≤ sizeLine) : ∃ H : Hp, Entry P w K a s₁.heap H ∧ SqL K H a (ns.map V.int) := by
  have rv := vals_ints hi
  cases hk : K.lookup a with
  | some o =>
    have e := KX a o hk
    rw [ha] at e
    cases e
    refine ⟨fun _ => none, ⟨fun _ => .inl rfl, (fun b u z => by have z' : (none : Option HO) = some u := z; cases z'), fun b z => absurd rfl z⟩, .inr ⟨_, vs.toArray, _, hk, rfl, rfl, rfl, ?_, by simpa using rv⟩⟩
    rw [List.size_toArray, hi.length]
    exact hl
  | none =>
    have hp : (fun b => if b = a then some (HO.frz { cls := .type "list", data := .seq vs.toArray } (.lst (ns.map V.int))) else none : Hp) a = some (.frz { cls := .type "list", data := .seq vs.toArray } (.lst (ns.map V.int))) := if_pos rfl
    refine ⟨fun b => if b = a then some (.frz { cls := .type "list", data := .seq vs.toArray } (.lst (ns.map V.int))) else none, ⟨fun b => ?_, fun b u z => ?_, fun b z => ?_⟩, .inl (.inr ⟨_, hp⟩)⟩
    · by_cases hb : b = a
      · exact .inr ⟨_, _, if_pos hb⟩
      · exact .inl (if_neg hb)
    · by_cases hb : b = a
      · subst hb
        rw [if_pos rfl] at z; cases z
        exact ⟨ha, by rw [List.length_map]; exact hl, vs, _, rv, ha⟩
      · rw [show (if b = a then some (HO.frz { cls := .type "list", data := .seq vs.toArray } (.lst (ns.map V.int))) else none) = none from if_neg hb] at z
        cases z
    · by_cases hb : b = a
      · exact ⟨hb, hk⟩
      · exact absurd (if_neg hb) z
theorem law_run (KX : K.In s₁.heap) (hns : s₁.heap.Ns mainGlobals mg) (hb : s₁.heap.Ns builtinsNs mb) (hbb : ∀ x : Str, x ≠ "__name__" → mb x = bootBuiltins x) (hlim : s₁.heap.NoLimit) (hg : s₁.gens = #[])
    (ha : s₁.heap.get? a = some { cls := .type "list", data := .seq vs.toArray }) (hi : IntsAre vs ns) (hl : ns.length ≤ sizeLine) (hn : ns.length ≤ n)
    (F : ∀ base : Heap, K.In base → base.Ns mainGlobals mg → LawAt P w K mg base fa fd x n) (hbind : ∀ (s : Shared) (u : Value), BindsTo s fd ⟨[u], []⟩ [(x, u)]) :
    codeAny (model P w) callerA (.call (.ref fa) ⟨[.ref a], []⟩) (fun r s' => r = .ok (.ret (.bool true)) ∧ OldK s₁.heap s'.heap ∧ s'.os = s₁.os ∧ AllBare s'.gens) s₁ := by
  obtain ⟨H, T, hS⟩ := entry_of (P := P) (w := w) KX ha hi hl
  -- what is not tracked stands in the base
  have free : ∀ {b : Addr} {o : Obj}, s₁.heap.get? b = some o → (b = a → o ≠ { cls := .type "list", data := .seq vs.toArray } ∨ K.lookup a ≠ none) → (hidT s₁.heap H).get? b = some o := fun {b o} e d => by
    refine hidT_get e ?_
    cases q : H b with
    | none => rfl
    | some u =>
      obtain ⟨eb, ek⟩ := T.one b (by rw [q]; simp)
      rcases d eb with dd | dd
      · subst eb
        rw [ha] at e
        exact absurd (Option.some.inj e).symm dd
      · exact absurd ek dd
  have nsK : ∀ {b : Addr} {m : Str → Option Value}, s₁.heap.Ns b m → (hidT s₁.heap H).Ns b m := fun {b m} ⟨o, es, ep, e, d, r⟩ => ⟨o, es, ep, free e (fun _ => .inl fun z => by rw [z] at d; cases d), d, r⟩
  have hKb : K.In (hidT s₁.heap H) := fun b o e => free (KX b o e) fun eb => .inr fun z => by rw [eb, z] at e; cases e
  have hM : Mod K mg (hidT s₁.heap H) := ⟨hKb, nsK hns, ⟨mb, nsK hb, hbb⟩, let ⟨mc, h1, h2⟩ := hlim; ⟨mc, nsK h1, h2⟩⟩
  have e0 : Env0 P w K mg (hidT s₁.heap H) callerA [] s₁ H := ⟨rfl, hM, fun b o e => of_hidT e, Nat.le_of_eq (hidT_size _ _), trivial, fun b hb => (nomatch (show b ∈ ([] : List Addr) from hb)), T.hok, .of_eq hg⟩
  refine codeAny_mono (F _ hKb (nsK hns) s₁ H a ns e0 (hbind s₁ (.ref a)) hn hS) fun r s' h => ?_
  match r, h with
  | .error e, h => exact h.elim
  | .ok .next, h => exact h.elim
  | .ok .brk, h => exact h.elim
  | .ok .cont, h => exact h.elim
  | .ok (.ret u), ⟨v, H', os, bare, un, hok', r', q⟩ =>
    have q' : v = .bl true := q
    subst q'
    obtain rfl : u = Value.bool true := r'
    refine ⟨rfl, OldK.of_keep fun b o e => ?_, os, bare⟩
    cases q : H b with
    | none => exact un.keep b o e q (fun z => nomatch (show b ∈ ([] : List Addr) from z)) (fun z => nomatch z)
    | some u =>
      rcases T.only b with z | ⟨ob, xs, z⟩
      · rw [q] at z; cases z
      · obtain ⟨e1, _⟩ := T.hok b _ z
        obtain ⟨e2, _⟩ := hok' b _ (un.frzs b ob _ z)
        rw [e] at e1; cases e1
        exact e2
end
theorem walk_at {l : PySem.W.OpenLaw} {n : Nat} {q : Program} {loose : List Str} {XP : (Str → Option Value) → Heap → Prop} {YP : World → Heap → Prop} {d : DefRec} {K : Params → PySem.W.Frag} {x : Str}
    (hn : l.most = some n) (hn2 : n ≤ sizeLine) (hdf : d.params.defaults = [])
    (hY : ∀ (w : World) (h : Heap), YP w h → (K w.params).In h)
    (F : ∀ (w : World) (mg : Str → Option Value) (fa : Addr) (h : Heap), (K w.params).In h → h.Ns mainGlobals mg → mg d.name = some (.ref fa) →
      ∃ fd : FuncData, (∀ (s : Shared) (u : Value), BindsTo s fd ⟨[u], []⟩ [(x, u)]) ∧
        ∀ base : Heap, (K w.params).In base → base.Ns mainGlobals mg → LawAt l.prog w (K w.params) mg base fa fd x n) :
    PySem.W.WalkO q loose XP YP l.row.toRowW d [] (fun f vs => PySem.call f vs) := by
  refine Att.attach_call hn hdf fun w s₀ s₁ mg mb fa o pm cd doc a vs ns G Y ho hd hcd hmg hobj hints hlen hg => ?_
  have KX := hY w _ Y
  obtain ⟨fd, hb, hF⟩ := F w mg fa _ KX G.T.g hmg
  exact law_run KX G.T.g G.T.b G.T.builtins G.T.nolimit hg hobj hints (Nat.le_trans hlen hn2) hlen hF hb
end DL

set_option Elab.async false
set_option linter.all false
set_option maxRecDepth 100000
/-! DLm: a written dict of three texts, asked at once. -/
namespace DL
open PySem PySem.Spec PyProof.Rows L2
section
variable {X : Cx} {a1 a2 a3 v1 v2 v3 i : Expr} {k1 k2 k3 : Str} {f1 f2 f3 fi : En → Option D} {p p2 : Pos}
def dix3F (k1 k2 k3 : Str) (f1 f2 f3 fi : En → Option D) : En → Option D := fun env => (f1 env).bind fun d1 => (f2 env).bind fun d2 => (f3 env).bind fun d3 => (fi env).bind fun z => match z with
  | .str x => if x = k1 then some d1 else if x = k2 then some d2 else if x = k3 then some d3 else none
  | _ => none
theorem de_dix3 {k : Nat} (hr : Room k X.A) (h1 : DE X a1 (vc (.str k1))) (g1 : DE X v1 f1) (h2 : DE X a2 (vc (.str k2))) (g2 : DE X v2 f2) (h3 : DE X a3 (vc (.str k3))) (g3 : DE X v3 f3) (hi : DE X i fi)
    (n12 : k1 ≠ k2 := by decide) (n13 : k1 ≠ k3 := by decide) (n23 : k2 ≠ k3 := by decide) (hs : NoSl i := by exact fun _ _ => rfl) :
    DE X (.Subscript (.Dict [some a1, some a2, some a3] [v1, v2, v3] p) i p2) (dix3F k1 k2 k3 f1 f2 f3 fi) := by
  refine pe_imp (pe_dget (by have := units65 hr; omega) (pe_disp (pps_cons h1 g1 (pps_cons h2 g2 (pps_cons h3 g3 pps_nil))) rfl rfl (by simp) (by show 3 ≤ 15; decide)) hi hs) fun σ H Q ⟨G0, H0, G, env, d, s, e, q⟩ => ?_
  obtain ⟨d1, e1, e⟩ := Option.bind_eq_some_iff.mp e
  obtain ⟨d2, e2, e⟩ := Option.bind_eq_some_iff.mp e
  obtain ⟨d3, e3, e⟩ := Option.bind_eq_some_iff.mp e
  obtain ⟨z, ez, e⟩ := Option.bind_eq_some_iff.mp e
  intro a ha
  have x0 : Ext G H G (upd H a (.dK [])) := .newOwn s.ext.s ha
  refine ⟨G0, H0, G, env, _, s.exts x0, rfl, fun y1 G1 H1 x1 r1 => ⟨G0, H0, G1, env, d1, s.exts (x0.trans x1), e1, fun w1 G2 H2 x2 r2 => ?_⟩⟩
  refine ⟨G0, H0, G2, env, _, s.exts ((x0.trans x1).trans x2), rfl, fun y2 G3 H3 x3 r3 => ⟨G0, H0, G3, env, d2, s.exts (((x0.trans x1).trans x2).trans x3), e2, fun w2 G4 H4 x4 r4 => ?_⟩⟩
  refine ⟨G0, H0, G4, env, _, s.exts ((((x0.trans x1).trans x2).trans x3).trans x4), rfl, fun y3 G5 H5 x5 r5 => ⟨G0, H0, G5, env, d3, s.exts (((((x0.trans x1).trans x2).trans x3).trans x4).trans x5), e3, fun w3 G6 H6 x6 r6 => ?_⟩⟩
  have xx : Ext G (upd H a (.dK [])) G6 H6 := ((((x1.trans x2).trans x3).trans x4).trans x5).trans x6
  cases r1; cases r3; cases r5
  have ga : G6 a = none := xx.n a _ upd_same (s.ext.s.free ha)
  refine ⟨xx.h a _ upd_same, [(.inr k1, w1), (.inr k2, w2), (.inr k3, w3)], rfl, by show 3 ≤ 15; decide, ?_⟩
  obtain ⟨M, hM⟩ : ∃ M, M = mergeK ([] : List (Key × V)) [(.inr k1, w1), (.inr k2, w2), (.inr k3, w3)] := ⟨_, rfl⟩
  rw [← hM]
  have vM : valV M (.inr k1) = some w1 ∧ valV M (.inr k2) = some w2 ∧ valV M (.inr k3) = some w3 := by
    have eM : M = putK (putK (putK [] (.inr k1) w1) (.inr k2) w2) (.inr k3) w3 := hM
    rw [eM]
    simp only [valV_put]
    have m12 : ¬ (Sum.inr k1 : Key) = Sum.inr k2 := fun h => n12 (Sum.inr.inj h)
    have m13 : ¬ (Sum.inr k1 : Key) = Sum.inr k3 := fun h => n13 (Sum.inr.inj h)
    have m23 : ¬ (Sum.inr k2 : Key) = Sum.inr k3 := fun h => n23 (Sum.inr.inj h)
    simp [m12, m13, m23]
  have xt : Ext G H G6 (upd H6 a (.dK M)) := by
    refine ⟨fun b o hb => ?_, xx.g, fun b o hb => ?_, fun b o hb hg => ?_⟩
    · have hne : b ≠ a := fun h => by subst h; rw [ha] at hb; exact absurd hb (by simp)
      rw [upd_ne hne]
      exact xx.h b o (by rw [upd_ne hne]; exact hb)
    · have hne : b ≠ a := fun h => by subst h; rw [ga] at hb; exact absurd hb (by simp)
      rw [upd_ne hne]
      exact xx.s b o hb
    · have hne : b ≠ a := fun h => by subst h; rw [ha] at hb; exact absurd hb (by simp)
      exact xx.n b o (by rw [upd_ne hne]; exact hb) hg
  refine ⟨G0, H0, G6, env, z, s.exts xt, ez, fun y G8 H8 x8 r8 => ?_⟩
  have hD : H8 a = some (.dK M) := x8.h a _ upd_same
  cases z with
  | str x =>
    cases r8
    simp only at e
    have fin : ∀ (w : V) (G' H' : Hp), valV M (.inr x) = some w → Dp X.K G' w d → Same G' G8 → ∃ a_1 v, V.ref a = V.ref a_1 ∧ DGet H8 a_1 (V.str x) (some v) ∧ Q v H8 := by
      intro w G' H' hv hd hsame
      refine ⟨a, w, rfl, ?_, q w G8 H8 (xt.trans x8) (dp_same hsame hd)⟩
      have := DGet.k (k := (.inr x : Key)) hD
      rw [hv] at this
      exact this
    by_cases c1 : x = k1
    · rw [if_pos c1] at e; cases e
      subst c1
      exact fin w1 G2 H2 vM.1 r2 (((((x3.g.trans x4.g).trans x5.g).trans x6.g).trans x8.g))
    · rw [if_neg c1] at e
      by_cases c2 : x = k2
      · rw [if_pos c2] at e; cases e
        subst c2
        exact fin w2 G4 H4 vM.2.1 r4 ((x5.g.trans x6.g).trans x8.g)
      · rw [if_neg c2] at e
        by_cases c3 : x = k3
        · rw [if_pos c3] at e; cases e
          subst c3
          exact fin w3 G6 H6 vM.2.2 r6 x8.g
        · rw [if_neg c3] at e; exact absurd e (by simp)
  | _ => exact absurd e (by simp)
theorem da_starV {e : Expr} {es : List Expr} {fa : En → Option D} {ts : En → Option (List D)} {sp : Pos} (ha : DE X e fa) (hr : DA X es ts) (hs : starEach (.Starred e sp :: es) X.env = (true, eval e X.env) :: starEach es X.env := by rfl) : DA X (.Starred e sp :: es) (starF (ltF fa) ts) :=
  pa_imp (StX.pa_star ha hr hs) fun σ H Q ⟨G0, H0, G, env, d, s, e, k⟩ => by
    obtain ⟨zl, ezl, e⟩ := Option.bind_eq_some_iff.mp e
    obtain ⟨zs, ezs, rfl⟩ := Option.map_eq_some_iff.mp e
    obtain ⟨z, ez, et⟩ := Option.bind_eq_some_iff.mp ezl
    refine ⟨G0, H0, G, env, z, s, ez, fun v G1 H1 x1 r1 => ?_⟩
    unfold tlOf at et
    split at et
    · cases et
      cases r1 with
      | lst h1 h2 => exact ⟨_, _, rfl, .inr (x1.s.seq h1), G0, H0, G1, env, zs, s.exts x1, ezs, fun vs G2 H2 x2 r2 => k _ G2 H2 (x1.trans x2) (dps_append (dps_same x2.g h2) r2)⟩
    · cases et
      cases r1 with
      | tup h1 h2 => exact ⟨_, _, rfl, .inl (sameT x1.s h1), G0, H0, G1, env, zs, s.exts x1, ezs, fun vs G2 H2 x2 r2 => k _ G2 H2 (x1.trans x2) (dps_append (dps_same x2.g h2) r2)⟩
    · cases et
end
end DL

set_option Elab.async false
set_option linter.all false
set_option maxRecDepth 100000
namespace KC
open PySem PySem.Spec PyProof.Rows L2 DL
noncomputable def b_common_divisor : En → Option Out :=
  seqF (asgF (callF cAbs (consF (vn 0) (nilF))) (tn 0))
  (seqF (asgF (callF cAbs (consF (vn 1) (nilF))) (tn 1))
  (seqF (whileF (tvF (vn 1)) (par2F 0 1 (consF (vn 1) (consF (b2 dMod (vn 0) (vn 1)) (nilF)))))
  (retF (vn 0))))
noncomputable def m_common_divisor : List D → Option D := runF 2 (b_common_divisor)

noncomputable def b_comes_before : En → Option Out :=
  seqF (asgF (b2 dMul (b2 dIx (vn 0) (vc (.int 0))) (b2 dIx (vn 1) (vc (.int 2)))) (tn 2))
  (seqF (asgF (b2 dMul (b2 dIx (vn 1) (vc (.int 0))) (b2 dIx (vn 0) (vc (.int 2)))) (tn 3))
  (seqF (ifF (tcF dNe (vn 2) (vn 3)) (retF (b2 dLt (vn 2) (vn 3))) (nxF))
  (retF (b2 dLt (b2 dMul (b2 dIx (vn 0) (vc (.int 1))) (b2 dIx (vn 1) (vc (.int 2)))) (b2 dMul (b2 dIx (vn 1) (vc (.int 1))) (b2 dIx (vn 0) (vc (.int 2))))))))
noncomputable def m_comes_before : List D → Option D := runF 4 (b_comes_before)

noncomputable def b_side : En → Option Out :=
  seqF (asgF (b2 dMul (b2 dIx (vn 0) (vc (.int 0))) (b2 dSub (b2 dMul (b2 dIx (vn 1) (vc (.int 1))) (b2 dIx (vn 2) (vc (.int 2)))) (b2 dMul (b2 dIx (vn 2) (vc (.int 1))) (b2 dIx (vn 1) (vc (.int 2)))))) (tn 3))
  (seqF (augF 3 iAdd (b2 dMul (b2 dIx (vn 1) (vc (.int 0))) (b2 dSub (b2 dMul (b2 dIx (vn 2) (vc (.int 1))) (b2 dIx (vn 0) (vc (.int 2)))) (b2 dMul (b2 dIx (vn 0) (vc (.int 1))) (b2 dIx (vn 2) (vc (.int 2)))))))
  (seqF (augF 3 iAdd (b2 dMul (b2 dIx (vn 2) (vc (.int 0))) (b2 dSub (b2 dMul (b2 dIx (vn 0) (vc (.int 1))) (b2 dIx (vn 1) (vc (.int 2)))) (b2 dMul (b2 dIx (vn 1) (vc (.int 1))) (b2 dIx (vn 0) (vc (.int 2)))))))
  (retF (b2 dSub (b2 dGt (vn 3) (vc (.int 0))) (b2 dLt (vn 3) (vc (.int 0)))))))
noncomputable def m_side : List D → Option D := runF 4 (b_side)

noncomputable def b_words_of : En → Option Out :=
  retF (toL (lc2F [1, 2] [2] (iaF (vn 0)) (tn 1) (yesF) (iaF (vn 1)) (tn 2) (yesF) (callF cStr (consF (vn 2) (nilF)))))
noncomputable def m_words_of : List D → Option D := runF 3 (b_words_of)

noncomputable def b_integer_of : En → Option Out :=
  seqF (asgF (ifE (tvF (b2 startsD (vn 0) (vc (.str "-")))) (dslF (vn 0) (oiF (vc (.int 1))) (onF)) (vn 0)) (tn 1))
  (seqF (ifF (orF (ntF (tvF (vn 1))) (tvF (callF cAny (consF (toL (lcF [3] (iaF (vn 1)) (tn 3) (yesF) (b2 dNotIn (vn 3) (vc (.str "0123456789"))))) (nilF))))) (retF (vc .none)) (nxF))
  (seqF (asgF (callF cInt (consF (vn 0) (nilF))) (tn 2))
  (retF (ifE (tcF dEq (callF cStr (consF (vn 2) (nilF))) (vn 0)) (vn 2) (vc .none)))))
noncomputable def m_integer_of : List D → Option D := runF 4 (b_integer_of)

noncomputable def b__law_parts : En → Option Out :=
  seqF (ownF 2 (lstF (nilF)))
  (seqF (asgF (b2 dSub (vn 0) (b2 dPow (vc (.int 10)) (vc (.int 18)))) (tn 3))
  (seqF (forF (r1F (consF (callF cLen (consF (vn 1) (nilF))) (nilF))) (tn 4) (ifF (tcF dGe (vn 3) (vc (.int 0))) (seqF (mutF 2 hApp (b2 dMod (callF cInt (consF (vn 3) (nilF))) (b2 dIx (vn 1) (vn 4))))
  (asgF (b2 dDiv (vn 3) (b2 dIx (vn 1) (vn 4))) (tn 3))) (seqF (asgF (b2 dMod (callF cInt (consF (b2 dAdd (b2 dAdd (b2 dMul (vn 0) (vc (.int 48271))) (b2 dMul (vn 4) (vc (.int 69621)))) (vc (.int 11))) (nilF))) (vc (.int 2147483647))) (tn 5))
  (seqF (asgF (b2 dMod (callF cInt (consF (b2 dAdd (b2 dAdd (b2 dMul (vn 5) (vn 5)) (b2 dMul (vc (.int 16807)) (vn 4))) (vc (.int 5))) (nilF))) (vc (.int 998244353))) (tn 5))
  (mutF 2 hApp (b2 dMod (callF cInt (consF (vn 5) (nilF))) (b2 dIx (vn 1) (vn 4))))))))
  (fzF 2 (retF (vn 2)))))
noncomputable def m__law_parts : List D → Option D := runF 6 (b__law_parts)

noncomputable def b__law_divisor : En → Option Out :=
  seqF (asgF (callF cAbs (consF (vn 0) (nilF))) (tn 0))
  (seqF (asgF (callF cAbs (consF (vn 1) (nilF))) (tn 1))
  (seqF (forF (r1F (consF (vc (.int 40000)) (nilF))) (tn 2) (seqF (ifF (tcF dEq (vn 1) (vc (.int 0))) (retF (vn 0)) (nxF))
  (par2F 0 1 (consF (vn 1) (consF (b2 dMod (callF cInt (consF (vn 0) (nilF))) (vn 1)) (nilF))))))
  (retF (vn 0))))
noncomputable def m__law_divisor : List D → Option D := runF 3 (b__law_divisor)

noncomputable def b__law_turn : En → Option Out :=
  seqF (asgF (b2 dAdd (b2 dMul (b2 dIx (vn 0) (vc (.int 0))) (b2 dSub (b2 dMul (b2 dIx (vn 1) (vc (.int 1))) (b2 dIx (vn 2) (vc (.int 2)))) (b2 dMul (b2 dIx (vn 2) (vc (.int 1))) (b2 dIx (vn 1) (vc (.int 2)))))) (b2 dMul (b2 dIx (vn 1) (vc (.int 0))) (b2 dSub (b2 dMul (b2 dIx (vn 2) (vc (.int 1))) (b2 dIx (vn 0) (vc (.int 2)))) (b2 dMul (b2 dIx (vn 0) (vc (.int 1))) (b2 dIx (vn 2) (vc (.int 2))))))) (tn 3))
  (retF (b2 dAdd (vn 3) (b2 dMul (b2 dIx (vn 2) (vc (.int 0))) (b2 dSub (b2 dMul (b2 dIx (vn 0) (vc (.int 1))) (b2 dIx (vn 1) (vc (.int 2)))) (b2 dMul (b2 dIx (vn 1) (vc (.int 1))) (b2 dIx (vn 0) (vc (.int 2))))))))
noncomputable def m__law_turn : List D → Option D := runF 4 (b__law_turn)

noncomputable def b__law_before : En → Option Out :=
  seqF (ifF (tcF dNe (b2 dMul (b2 dIx (vn 0) (vc (.int 0))) (b2 dIx (vn 1) (vc (.int 2)))) (b2 dMul (b2 dIx (vn 1) (vc (.int 0))) (b2 dIx (vn 0) (vc (.int 2))))) (retF (b2 dLt (b2 dMul (b2 dIx (vn 0) (vc (.int 0))) (b2 dIx (vn 1) (vc (.int 2)))) (b2 dMul (b2 dIx (vn 1) (vc (.int 0))) (b2 dIx (vn 0) (vc (.int 2)))))) (nxF))
  (retF (b2 dLt (b2 dMul (b2 dIx (vn 0) (vc (.int 1))) (b2 dIx (vn 1) (vc (.int 2)))) (b2 dMul (b2 dIx (vn 1) (vc (.int 1))) (b2 dIx (vn 0) (vc (.int 2))))))
noncomputable def m__law_before : List D → Option D := runF 2 (b__law_before)

noncomputable def b_point : En → Option Out :=
  seqF (asgF (callF m_common_divisor (consF (callF m_common_divisor (consF (vn 0) (consF (vn 1) (nilF)))) (consF (vn 2) (nilF)))) (tn 3))
  (seqF (ifF (tcF dLt (vn 2) (vc (.int 0))) (asgF (b1 dNeg (vn 3)) (tn 3)) (nxF))
  (retF (tupF (consF (b2 dDiv (vn 0) (vn 3)) (consF (b2 dDiv (vn 1) (vn 3)) (consF (b2 dDiv (vn 2) (vn 3)) (nilF)))))))
noncomputable def m_point : List D → Option D := runF 4 (b_point)

noncomputable def b_goes_round_once : En → Option Out :=
  seqF (asgF (b2 dIx (vn 0) (vc (.int 0))) (tn 1))
  (seqF (forF (r2F (consF (vc (.int 1)) (consF (b2 dSub (callF cLen (consF (vn 0) (nilF))) (vc (.int 1))) (nilF)))) (tn 2) (ifF (tcF dLe (callF m_side (consF (vn 1) (consF (b2 dIx (vn 0) (vn 2)) (consF (b2 dIx (vn 0) (b2 dAdd (vn 2) (vc (.int 1)))) (nilF))))) (vc (.int 0))) (retF (vc (.bool false))) (nxF)))
  (retF (vc (.bool true))))
noncomputable def m_goes_round_once : List D → Option D := runF 3 (b_goes_round_once)

noncomputable def b_write_figure : En → Option Out :=
  retF (jnF (vc (.str "")) (lcF [1] (iaF (vn 0)) (tn 1) (yesF) (b2 dAdd (jnF (vc (.str " ")) (lstF (consF (vc (.str "polygon")) (starF (loF (callF m_words_of (consF (vn 1) (nilF)))) (nilF))))) (vc (.str "\n")))))
noncomputable def m_write_figure : List D → Option D := runF 2 (b_write_figure)

noncomputable def b_integers_of : En → Option Out :=
  seqF (setLF 1 (lcF [2] (iaF (vn 0)) (tn 2) (yesF) (callF m_integer_of (consF (vn 2) (nilF)))))
  (retF (ifE (tcF dIn (vc .none) (vn 1)) (vc .none) (vn 1)))
noncomputable def m_integers_of : List D → Option D := runF 3 (b_integers_of)

noncomputable def b__law_point : En → Option Out :=
  seqF (asgF (callF m__law_divisor (consF (callF m__law_divisor (consF (vn 0) (consF (vn 1) (nilF)))) (consF (vn 2) (nilF)))) (tn 3))
  (retF (tupF (consF (b2 dDiv (vn 0) (vn 3)) (consF (b2 dDiv (vn 1) (vn 3)) (consF (b2 dDiv (vn 2) (vn 3)) (nilF))))))
noncomputable def m__law_point : List D → Option D := runF 4 (b__law_point)

noncomputable def b__law_chain : En → Option Out :=
  seqF (ownF 1 (lstF (nilF)))
  (seqF (forF (iaF (vn 0)) (tn 2) (seqF (forF (r1F (consF (callF cLen (consF (vn 0) (nilF))) (nilF))) (tn 3) (ifF (andF (tcF dGt (lnF (vnl 1)) (vc (.int 1))) (tcF dLe (callF m__law_turn (consF (ixF (vnl 1) (b1 dNeg (vc (.int 2)))) (consF (ixF (vnl 1) (b1 dNeg (vc (.int 1)))) (consF (vn 2) (nilF))))) (vc (.int 0)))) (mut0F 1 hPop) (nxF)))
  (mutF 1 hApp (vn 2))))
  (fzF 1 (retF (vn 1))))
noncomputable def m__law_chain : List D → Option D := runF 4 (b__law_chain)

noncomputable def b_is_polygon : En → Option Out :=
  seqF (ifF (orF (tcF dLt (callF cLen (consF (vn 0) (nilF))) (vc (.int 3))) (tcF dNe (b1 lenSetD (vn 0)) (callF cLen (consF (vn 0) (nilF))))) (retF (vc (.bool false))) (nxF))
  (seqF (forF (r1F (consF (callF cLen (consF (vn 0) (nilF))) (nilF))) (tn 1) (seqF (ifF (tcF dLe (callF m_side (consF (b2 dIx (vn 0) (b2 dSub (vn 1) (vc (.int 2)))) (consF (b2 dIx (vn 0) (b2 dSub (vn 1) (vc (.int 1)))) (consF (b2 dIx (vn 0) (vn 1)) (nilF))))) (vc (.int 0))) (retF (vc (.bool false))) (nxF))
  (ifF (andF (tcF dGt (vn 1) (vc (.int 0))) (tvF (callF m_comes_before (consF (b2 dIx (vn 0) (vn 1)) (consF (b2 dIx (vn 0) (vc (.int 0))) (nilF)))))) (retF (vc (.bool false))) (nxF))))
  (retF (callF m_goes_round_once (consF (vn 0) (nilF)))))
noncomputable def m_is_polygon : List D → Option D := runF 2 (b_is_polygon)

noncomputable def b_points_of : En → Option Out :=
  seqF (ifF (tcF dNe (b2 dMod (callF cLen (consF (vn 0) (nilF))) (vc (.int 3))) (vc (.int 0))) (retF (vc .none)) (nxF))
  (seqF (ownF 1 (lstF (nilF)))
  (seqF (forF (r3F (consF (vc (.int 0)) (consF (callF cLen (consF (vn 0) (nilF))) (consF (vc (.int 3)) (nilF))))) (tn 2) (seqF (asgF (dslF (vn 0) (oiF (vn 2)) (oiF (b2 dAdd (vn 2) (vc (.int 3))))) (tt 3 (gsCons (tn 3) (gsCons (tn 4) (gsCons (tn 5) (gsNil))))))
  (seqF (ifF (orF (tcF dLt (vn 5) (vc (.int 1))) (tcF dNe (callF m_point (consF (vn 3) (consF (vn 4) (consF (vn 5) (nilF))))) (tupF (consF (vn 3) (consF (vn 4) (consF (vn 5) (nilF))))))) (retF (vc .none)) (nxF))
  (mutF 1 hApp (tupF (consF (vn 3) (consF (vn 4) (consF (vn 5) (nilF)))))))))
  (fzF 1 (retF (vn 1)))))
noncomputable def m_points_of : List D → Option D := runF 6 (b_points_of)

noncomputable def b__law_hull : En → Option Out :=
  seqF (asgF (toL (lstF (nilF))) (tn 1))
  (seqF (forF (iaF (vn 0)) (tn 2) (ifF (tcF dNotIn (vn 2) (vn 1)) (seqF (asgF (lnF (lcF [5] (iaF (vn 1)) (tn 5) (tvF (callF m__law_before (consF (vn 5) (consF (vn 2) (nilF))))) (vn 5))) (tn 4))
  (asgF (toL (catF (catF (loF (dslF (vn 1) (onF) (oiF (vn 4)))) (lstF (consF (vn 2) (nilF)))) (loF (dslF (vn 1) (oiF (vn 4)) (onF))))) (tn 1))) (nxF)))
  (seqF (ifF (tcF dLt (callF cLen (consF (vn 1) (nilF))) (vc (.int 3))) (retF (vc .none)) (nxF))
  (seqF (asgF (b2 dAdd (dslF (callF m__law_chain (consF (vn 1) (nilF))) (onF) (oiF (b1 dNeg (vc (.int 1))))) (dslF (callF m__law_chain (consF (toL (revF (vnl 1))) (nilF))) (onF) (oiF (b1 dNeg (vc (.int 1)))))) (tn 3))
  (seqF (ifF (tcF dLt (callF cLen (consF (vn 3) (nilF))) (vc (.int 3))) (retF (vc .none)) (nxF))
  (retF (callF cTuple (consF (vn 3) (nilF))))))))
noncomputable def m__law_hull : List D → Option D := runF 6 (b__law_hull)

noncomputable def b_points_of_words : En → Option Out :=
  seqF (asgF (callF m_integers_of (consF (vn 0) (nilF))) (tn 1))
  (retF (ifE (tcF dIs (vn 1) (vc .none)) (vc .none) (callF m_points_of (consF (vn 1) (nilF)))))
noncomputable def m_points_of_words : List D → Option D := runF 2 (b_points_of_words)

noncomputable def b__law_polygon : En → Option Out :=
  seqF (asgF (callF m__law_parts (consF (vn 0) (consF (toL (lstF (consF (vc (.int 4)) (consF (vc (.int 3)) (consF (vc (.int 7)) (consF (vc (.int 7)) (consF (vc (.int 7)) (consF (vc (.int 7)) (consF (vc (.int 7)) (consF (vc (.int 7)) (consF (vc (.int 7)) (consF (vc (.int 7)) (consF (vc (.int 7)) (consF (vc (.int 7)) (nilF))))))))))))))) (nilF)))) (tn 1))
  (seqF (asgF (ixF (lstF (consF (vc (.int 1)) (consF (vc (.int 1)) (consF (vc (.int 2)) (consF (vc (.int 3)) (nilF)))))) (b2 dIx (vn 1) (vc (.int 0)))) (tn 2))
  (seqF (ownF 3 (lstF (nilF)))
  (seqF (forF (r1F (consF (b2 dAdd (vc (.int 3)) (b2 dIx (vn 1) (vc (.int 1)))) (nilF))) (tn 4) (mutF 3 hApp (callF m__law_point (consF (b2 dIx (vn 1) (b2 dAdd (vc (.int 2)) (b2 dMul (vc (.int 2)) (vn 4)))) (consF (b2 dIx (vn 1) (b2 dAdd (vc (.int 3)) (b2 dMul (vc (.int 2)) (vn 4)))) (consF (vn 2) (nilF)))))))
  (seqF (fzF 3 (asgF (callF m__law_hull (consF (vn 3) (nilF))) (tn 5)))
  (seqF (ifF (tcF dIs (vn 5) (vc .none)) (retF (tupF (consF (tupF (consF (vc (.int 0)) (consF (vc (.int 0)) (consF (vc (.int 1)) (nilF))))) (consF (tupF (consF (b2 dAdd (vc (.int 1)) (b2 dIx (vn 1) (vc (.int 2)))) (consF (vc (.int 0)) (consF (vc (.int 1)) (nilF))))) (consF (tupF (consF (b2 dIx (vn 1) (vc (.int 3))) (consF (vc (.int 2)) (consF (vc (.int 1)) (nilF))))) (nilF)))))) (nxF))
  (retF (vn 5)))))))
noncomputable def m__law_polygon : List D → Option D := runF 6 (b__law_polygon)

noncomputable def b__law_far : En → Option Out :=
  seqF (ifF (tcF dGt (b2 dIx (vn 1) (vc (.int 0))) (vc (.int 0))) (retF (vn 0)) (nxF))
  (seqF (ownF 2 (lstF (nilF)))
  (seqF (forF (iaF (vn 0)) (tn 3) (mutF 2 hApp (callF m__law_point (consF (b2 dAdd (b2 dMul (b2 dIx (vn 3) (vc (.int 0))) (vc (.int 97))) (b2 dMul (b2 dSub (b2 dIx (vn 1) (vc (.int 1))) (vc (.int 40000))) (b2 dIx (vn 3) (vc (.int 2))))) (consF (b2 dSub (b2 dMul (b2 dIx (vn 3) (vc (.int 1))) (vc (.int 97))) (b2 dMul (b2 dIx (vn 1) (vc (.int 1))) (b2 dIx (vn 3) (vc (.int 2))))) (consF (b2 dMul (b2 dIx (vn 3) (vc (.int 2))) (b2 dAdd (vc (.int 1)) (b2 dIx (vn 1) (vc (.int 2))))) (nilF)))))))
  (fzF 2 (retF (callF m__law_hull (consF (vn 2) (nilF)))))))
noncomputable def m__law_far : List D → Option D := runF 4 (b__law_far)

noncomputable def b_read_polygon : En → Option Out :=
  seqF (asgF (toL (spF (vn 0) (vc (.str " ")))) (tn 1))
  (seqF (asgF (callF m_points_of_words (consF (dslF (vn 1) (oiF (vc (.int 1))) (onF)) (nilF))) (tn 2))
  (seqF (ifF (orF (tcF dNe (b2 dIx (vn 1) (vc (.int 0))) (vc (.str "polygon"))) (orF (tcF dIs (vn 2) (vc .none)) (ntF (tvF (callF m_is_polygon (consF (callF cTuple (consF (vn 2) (nilF))) (nilF))))))) (retF (vc .none)) (nxF))
  (retF (callF cTuple (consF (vn 2) (nilF))))))
noncomputable def m_read_polygon : List D → Option D := runF 3 (b_read_polygon)

noncomputable def b_read_lines (F_read : Addr) (m_read : List D → Option D) : En → Option Out :=
  seqF (asgF (toL (spF (vn 0) (vc (.str "\n")))) (tn 2))
  (seqF (ownF 3 (lstF (nilF)))
  (seqF (forF (enF (dslF (vn 2) (onF) (oiF (b1 dNeg (vc (.int 1)))))) (tt 2 (gsCons (tn 4) (gsCons (tn 5) (gsNil)))) (seqF (asgF (prF 1 F_read m_read (consF (vn 5) (nilF))) (tn 6))
  (seqF (ifF (tcF dIs (vn 6) (vc .none)) (nvrF) (nxF))
  (mutF 3 hApp (vn 6)))))
  (seqF (ifF (tcF dNe (b2 dIx (vn 2) (b1 dNeg (vc (.int 1)))) (vc (.str ""))) (nvrF) (nxF))
  (fzF 3 (retF (vn 3))))))
noncomputable def m_read_lines (F_read : Addr) (m_read : List D → Option D) : D → Option D := runF2 7 (b_read_lines F_read m_read) F_read

noncomputable def b_read_figure (F_read : Addr) (m_read : List D → Option D) : En → Option Out :=
  retF (b1 (m_read_lines F_read m_read) (vn 0))
noncomputable def m_read_figure (F_read : Addr) (m_read : List D → Option D) : List D → Option D := runF 1 (b_read_figure F_read m_read)
end KC

set_option Elab.async false
set_option linter.all false
set_option maxRecDepth 100000
/-! PB: the words of the mirrors, unfolded one by one. -/
namespace KC
open PySem PySem.Spec PyProof.Rows L2 DL
section
variable {env : En} {f g h : En → Option D} {fs gs : En → Option (List D)} {t t2 : En → Option Bool} {b1' b2' : En → Option Out} {gt : D → En → Option En} {o1 o2 : En → Option (Option Int)} {i j : Nat} {v : D} {vs : List D}
@[simp] theorem e_vn (n : Nat) (env : En) : vn n env = match env[n]? with | some (.val d) => some d | _ => none := rfl
@[simp] theorem e_vnl (n : Nat) (env : En) : vnl n env = match env[n]? with | some (.own ds) => some ds | some (.val (.list ds)) => some ds | _ => none := rfl
@[simp] theorem e_vc : vc v env = some v := rfl
@[simp] theorem e_lsOf : lsOf (.list vs) = some vs := rfl
@[simp] theorem e_loF : loF f env = (f env).bind lsOf := rfl
@[simp] theorem e_toL : toL fs env = (fs env).map PyData.list := rfl
@[simp] theorem e_b2 (q : D → D → Option D) : b2 q f g env = (f env).bind fun x => (g env).bind fun y => q x y := rfl
@[simp] theorem e_b1 (q : D → Option D) : b1 q f env = (f env).bind q := rfl
@[simp] theorem e_tcF (q : D → D → Option D) : tcF q f g env = (b2 q f g env).bind boolOf := rfl
@[simp] theorem e_tvF : tvF f env = (f env).bind truth := rfl
@[simp] theorem e_ntF : ntF t env = (t env).map (!·) := rfl
@[simp] theorem e_andF : andF t t2 env = (t env).bind fun b => if b then t2 env else some false := rfl
@[simp] theorem e_orF : orF t t2 env = (t env).bind fun b => if b then some true else t2 env := rfl
@[simp] theorem e_andE : andE f g env = (f env).bind fun d => (truth d).bind fun b => if b then g env else some d := rfl
@[simp] theorem e_ifE : ifE t f g env = (t env).bind fun b => if b then f env else g env := rfl
@[simp] theorem e_ixF : ixF fs h env = (fs env).bind fun l => (h env).bind fun i => ixL l i := rfl
@[simp] theorem e_onF : onF env = some none := rfl
@[simp] theorem e_oiF : oiF f env = (f env).bind intOf := rfl
@[simp] theorem e_intOf (i : Int) : intOf (.int i) = some (some i) := rfl
@[simp] theorem e_dslF : dslF f o1 o2 env = (f env).bind fun d => (o1 env).bind fun i => (o2 env).bind fun j => dCut d i j := rfl
@[simp] theorem e_nilF : nilF env = some [] := rfl
@[simp] theorem e_consF : consF f fs env = (f env).bind fun d => (fs env).map fun ds => d :: ds := rfl
@[simp] theorem e_starF : starF fs gs env = (fs env).bind fun d => (gs env).map fun ds => d ++ ds := rfl
@[simp] theorem e_tupF : tupF fs env = ((fs env).bind fitsL).map PyData.tuple := rfl
@[simp] theorem e_lstF : lstF fs env = (fs env).bind fitsL := rfl
@[simp] theorem e_catF : catF fs gs env = (fs env).bind fun x => (gs env).bind fun y => fitsL (x ++ y) := rfl
@[simp] theorem e_revF : revF fs env = (fs env).map List.reverse := rfl
@[simp] theorem e_callF (m : List D → Option D) : callF m fs env = (fs env).bind m := rfl
@[simp] theorem e_lnF : lnF fs env = (fs env).map fun l => .int l.length := rfl
@[simp] theorem e_tn (n : Nat) (d : D) (env : En) : tn n d env = some (env.set n (.val d)) := rfl
@[simp] theorem e_nxF : nxF env = some (.nx env) := rfl
@[simp] theorem e_seqF : seqF b1' b2' env = (b1' env).bind fun o => match o with | .nx e => b2' e | o => some o := rfl
@[simp] theorem e_nvrF : nvrF env = none := rfl
@[simp] theorem e_retF : retF f env = (f env).map .rt := rfl
@[simp] theorem e_ifF : ifF t b1' b2' env = (t env).bind fun b => if b then b1' env else b2' env := rfl
@[simp] theorem e_asgF : asgF f gt env = (f env).bind fun d => (gt d env).map .nx := rfl
@[simp] theorem e_ownF : ownF i fs env = (fs env).map fun ds => .nx (env.set i (.own ds)) := rfl
@[simp] theorem e_setLF : setLF i fs env = (fs env).map fun ds => .nx (env.set i (.val (.list ds))) := rfl
@[simp] theorem e_par2F : par2F i j fs env = (fs env).bind fun l => match l with | [d1, d2] => some (.nx ((env.set i (.val d1)).set j (.val d2))) | _ => none := rfl
@[simp] theorem e_augF (q : D → D → Option D) : augF i q f env = (vn i env).bind fun x => (f env).bind fun y => (q x y).map fun z => .nx (env.set i (.val z)) := rfl
@[simp] theorem e_fzF : fzF i b1' env = b1' (frzE i env) := rfl
@[simp] theorem e_frzE : frzE i env = match env[i]? with | some (.own ds) => env.set i (.val (.list ds)) | _ => env := rfl
@[simp] theorem e_mutF (q : List D → D → Option (List D)) : mutF i q f env = match env[i]? with | some (.own ds) => (f env).bind fun d => (q ds d).map fun es => .nx (env.set i (.own es)) | _ => none := rfl
@[simp] theorem e_mut0F (q : List D → Option (List D)) : mut0F i q env = match env[i]? with | some (.own ds) => (q ds).map fun es => .nx (env.set i (.own es)) | _ => none := rfl
@[simp] theorem e_forF (fi : En → Option (List D)) : forF fi gt b1' env = (fi env).bind fun ds => loopF (fun d env => (gt d env).bind b1') ds env := rfl
@[simp] theorem e_r1F : r1F fs env = (fs env).bind rg1 := rfl
@[simp] theorem e_r2F : r2F fs env = (fs env).bind rg2 := rfl
@[simp] theorem e_r3F : r3F fs env = (fs env).bind rg3 := rfl
@[simp] theorem e_iaF : iaF f env = (f env).bind fun d => (tlOf d).or (stOf d) := rfl
@[simp] theorem e_enF : enF f env = ((f env).bind lsOf).map enumD := rfl
@[simp] theorem e_yesF : yesF env = some true := rfl
@[simp] theorem e_jnF : jnF f fs env = (f env).bind fun d => (fs env).bind fun ds => joinD d ds := rfl
@[simp] theorem e_spF : spF f g env = (f env).bind fun d => (g env).bind fun d2 => splitD d d2 := rfl
@[simp] theorem e_lcF (ws : List Nat) (fi : En → Option (List D)) : lcF ws fi gt t f env = (fi env).bind fun ds => if fits ds.length then lcL gt t f (wipeE env ws) ds else none := rfl
@[simp] theorem e_gsNil : gsNil [] env = some env := rfl
@[simp] theorem e_gsCons (q : D → En → Option En) (qs : List D → En → Option En) (d : D) (r : List D) : gsCons q qs (d :: r) env = (q d env).bind (qs r) := rfl
@[simp] theorem e_tt (n : Nat) (qs : List D → En → Option En) (d : D) : tt n qs d env = (tlOf d).bind fun ds => if ds.length = n then qs ds env else none := rfl
@[simp] theorem e_loop0 (st : D → En → Option Out) : loopF st [] env = some (.nx env) := rfl
@[simp] theorem e_tlOfL : tlOf (.list vs) = some vs := rfl
@[simp] theorem e_tlOfT : tlOf (.tuple vs) = some vs := rfl
end
@[simp] theorem e_dAddI (i j : Int) : dAdd (.int i) (.int j) = some (.int (i + j)) := rfl
@[simp] theorem e_dSubI (i j : Int) : dSub (.int i) (.int j) = some (.int (i - j)) := rfl
@[simp] theorem e_dSubB (i j : Bool) : dSub (.bool i) (.bool j) = some (.int (b2z i - b2z j)) := rfl
@[simp] theorem e_dNeg (i : Int) : dNeg (.int i) = some (.int (-i)) := rfl
@[simp] theorem e_iAdd (i j : Int) : iAdd (.int i) (.int j) = some (.int (i + j)) := rfl
@[simp] theorem e_dLt (i j : Int) : dLt (.int i) (.int j) = some (.bool (decide (i < j))) := rfl
@[simp] theorem e_dLe (i j : Int) : dLe (.int i) (.int j) = some (.bool (decide (i ≤ j))) := rfl
@[simp] theorem e_dGt (i j : Int) : dGt (.int i) (.int j) = some (.bool (decide (j < i))) := rfl
@[simp] theorem e_dGe (i j : Int) : dGe (.int i) (.int j) = some (.bool (decide (j ≤ i))) := rfl
@[simp] theorem e_boolOf (b : Bool) : boolOf (.bool b) = some b := rfl
@[simp] theorem e_truthB (b : Bool) : truth (.bool b) = some b := rfl
@[simp] theorem e_truthI (i : Int) : truth (.int i) = some (i != 0) := rfl
@[simp] theorem e_ixL (ds : List D) (i : Int) : ixL ds (.int i) = atI ds i := rfl
@[simp] theorem e_dIxL (ds : List D) (i : D) : dIx (.list ds) i = ixL ds i := rfl
@[simp] theorem e_dIxT (ds : List D) (i : D) : dIx (.tuple ds) i = ixL ds i := rfl
@[simp] theorem e_cIntI (i : Int) : cInt [.int i] = some (.int i) := rfl
@[simp] theorem e_cLenL (ds : List D) : cLen [.list ds] = some (.int ds.length) := rfl
@[simp] theorem e_cLenT (ds : List D) : cLen [.tuple ds] = some (.int ds.length) := rfl
@[simp] theorem e_cAbs (i : Int) : cAbs [.int i] = some (.int (if i < 0 then -i else i)) := rfl
@[simp] theorem e_cTupL (ds : List D) : cTuple [.list ds] = some (.tuple ds) := rfl
end KC

set_option Elab.async false
set_option linter.all false
set_option maxRecDepth 100000
/-! PA: what the small defs compute. -/
namespace KC
open PySem PySem.Spec PyProof.Rows L2 DL
/-! ### the plain words -/
structure Pt where
  x : Int
  y : Int
  w : Int
  deriving DecidableEq
def ptD (p : Pt) : D := .tuple [.int p.x, .int p.y, .int p.w]
def sm (i : Int) : Prop := i.natAbs < 18446744073709551616
def Pt.sm (p : Pt) : Prop := KC.sm p.x ∧ KC.sm p.y ∧ KC.sm p.w
theorem mulOk_l {i j : Int} (h : sm i) : mulOk i j = true := by
  unfold mulOk sm at *
  simp [h]
theorem mulOk_r {i j : Int} (h : sm j) : mulOk i j = true := by
  unfold mulOk sm at *
  simp [h]
def det (a b c : Pt) : Int := a.x * (b.y * c.w - c.y * b.w) + b.x * (c.y * a.w - a.y * c.w) + c.x * (a.y * b.w - b.y * a.w)
def sgn (t : Int) : Int := b2z (decide (0 < t)) - b2z (decide (t < 0))
theorem at0 {α : Type} (a : α) (r : List α) : atI (a :: r) 0 = some a := by simp [atI, ixN]
theorem at1 {α : Type} (a b : α) (r : List α) : atI (a :: b :: r) 1 = some b := by
  simp only [atI, ixN, List.length_cons]
  rw [if_pos (by omega), if_pos (by omega)]; rfl
theorem at2 {α : Type} (a b c : α) (r : List α) : atI (a :: b :: c :: r) 2 = some c := by
  simp only [atI, ixN, List.length_cons]
  rw [if_pos (by omega), if_pos (by omega)]; rfl
/-- an index from the left -/
theorem atN {α : Type} {xs : List α} {i : Int} {n : Nat} {v : α} (h : xs[n]? = some v) (e : i = (n : Int)) : atI xs i = some v := by
  rw [e]; exact atI_nat h
/-- .. and from the right -/
theorem atR {α : Type} {xs : List α} {i : Int} {n : Nat} {v : α} (h : xs[n]? = some v) (e : i < 0) (e2 : i + (xs.length : Int) = (n : Int)) : atI xs i = some v := by
  unfold atI ixN
  have hn : n < xs.length := (List.getElem?_eq_some_iff.mp h).1
  rw [if_neg (by omega), if_pos (by omega)]
  show xs[(i + (xs.length : Int)).toNat]? = some v
  rw [e2]
  exact h
def bef (p q : Pt) : Bool := if p.x * q.w ≠ q.x * p.w then decide (p.x * q.w < q.x * p.w) else decide (p.y * q.w < q.y * p.w)
theorem eqv_int (i j : Int) : PyData.eqv (.int i) (.int j) = decide (i = j) := by
  show (i == j) = decide (i = j)
  by_cases h : i = j <;> simp [h]
theorem shaped_int (i : Int) : SeqAt.shaped (.int i) = true := rfl
theorem dNe_int (i j : Int) : dNe (.int i) (.int j) = some (.bool (!decide (i = j))) := by
  unfold dNe; rw [shaped_int, shaped_int, eqv_int]; rfl
theorem dEq_int (i j : Int) : dEq (.int i) (.int j) = some (.bool (decide (i = j))) := by
  unfold dEq; rw [shaped_int, shaped_int, eqv_int]; rfl
theorem m_side_eq (a b c : Pt) (ha : a.sm) (hb : b.sm) (hc : c.sm) : m_side [ptD a, ptD b, ptD c] = some (.int (sgn (det a b c))) := by
  obtain ⟨a1, a2, a3⟩ := ha
  obtain ⟨b1, b2', b3⟩ := hb
  obtain ⟨c1, c2, c3⟩ := hc
  simp [m_side, b_side, runF, ptD, dMul, at0, at1, at2, mulOk_l, a1, a2, a3, b1, b2', b3, c1, c2, c3, iAdd, dGt, dLt]
  rfl
theorem m_turn_eq (a b c : Pt) (ha : a.sm) (hb : b.sm) (hc : c.sm) : m__law_turn [ptD a, ptD b, ptD c] = some (.int (det a b c)) := by
  obtain ⟨a1, a2, a3⟩ := ha
  obtain ⟨b1, b2', b3⟩ := hb
  obtain ⟨c1, c2, c3⟩ := hc
  simp [m__law_turn, b__law_turn, runF, ptD, dMul, at0, at1, at2, mulOk_l, a1, a2, a3, b1, b2', b3, c1, c2, c3, iAdd, dGt, dLt]
  rfl
theorem m_before_eq (a b : Pt) (ha : a.sm) (hb : b.sm) : m__law_before [ptD a, ptD b] = some (.bool (bef a b)) := by
  obtain ⟨a1, a2, a3⟩ := ha
  obtain ⟨b1, b2', b3⟩ := hb
  by_cases h : a.x * b.w = b.x * a.w
  · simp [m__law_before, b__law_before, runF, ptD, dMul, at0, at1, at2, mulOk_l, a1, a2, a3, b1, b2', b3, dNe_int, dLt, h, bef]
  · simp [m__law_before, b__law_before, runF, ptD, dMul, at0, at1, at2, mulOk_l, a1, a2, a3, b1, b2', b3, dNe_int, dLt, h, bef]
theorem m_comes_eq (a b : Pt) (ha : a.sm) (hb : b.sm) : m_comes_before [ptD a, ptD b] = some (.bool (bef a b)) := by
  obtain ⟨a1, a2, a3⟩ := ha
  obtain ⟨b1, b2', b3⟩ := hb
  by_cases h : a.x * b.w = b.x * a.w
  · simp [m_comes_before, b_comes_before, runF, ptD, dMul, at0, at1, at2, mulOk_l, a1, a2, a3, b1, b2', b3, dNe_int, dLt, h, bef]
  · simp [m_comes_before, b_comes_before, runF, ptD, dMul, at0, at1, at2, mulOk_l, a1, a2, a3, b1, b2', b3, dNe_int, dLt, h, bef]

/-! ### the greatest common divisor -/
theorem fmod_nat (a b : Nat) : Int.fmod (a : Int) (b : Int) = ((a % b : Nat) : Int) := by
  rw [Int.fmod_eq_emod_of_nonneg _ (Int.natCast_nonneg b)]
  exact (Int.natCast_emod a b).symm
/-- the program's loop -/
theorem cd_loop : ∀ (n b : Nat) (a : Nat), b < n → whileN (tvF (vn 1)) (par2F 0 1 (consF (vn 1) (consF (b2 dMod (vn 0) (vn 1)) (nilF)))) n [.val (.int (a : Int)), .val (.int (b : Int))] = some (.nx [.val (.int ((Nat.gcd b a : Nat) : Int)), .val (.int 0)])
  | 0, _, _, h => absurd h (Nat.not_lt_zero _)
  | n + 1, 0, a, _ => by
    simp [whileN, tvF, vn, truth]
  | n + 1, b + 1, a, h => by
    have ih := cd_loop n (a % (b + 1)) (b + 1) (by have := Nat.mod_lt a (show 0 < b + 1 by omega); omega)
    have e : Nat.gcd (b + 1) a = Nat.gcd (a % (b + 1)) (b + 1) := Nat.gcd_rec (b + 1) a
    have hne : ((b + 1 : Nat) : Int) ≠ 0 := by omega
    rw [e, ← ih]
    simp only [whileN, tvF, vn, truth, par2F, consF, nilF, b2, dMod, List.getElem?_cons_zero, List.getElem?_cons_succ, Option.bind_some, Option.map_some, List.set_cons_zero, List.set_cons_succ, fmod_nat, bne_iff_ne, ne_eq, hne, not_false_eq_true, if_true, decide_true]
theorem natAbs_cast (i : Int) : (if i < 0 then -i else i) = ((i.natAbs : Nat) : Int) := by
  split <;> omega
theorem m_cd_eq (a b : Int) : m_common_divisor [.int a, .int b] = some (.int ((Nat.gcd b.natAbs a.natAbs : Nat) : Int)) := by
  have h := whileF_of (cd_loop (b.natAbs + 1) b.natAbs a.natAbs (Nat.lt_succ_self _))
  simp [m_common_divisor, b_common_divisor, runF, natAbs_cast]
  rw [h]
  simp
end KC

set_option Elab.async false
set_option linter.all false
set_option maxRecDepth 100000
/-! PC: the law's numbers and points. -/
namespace KC
open PySem PySem.Spec PyProof.Rows L2 DL
theorem range_succ' (lo : Int) (n : Nat) : rangeD lo (n + 1) = .int lo :: rangeD (lo + 1) n := by
  unfold rangeD
  rw [List.range_succ_eq_map, List.map_cons, List.map_map]
  congr 1
  · simp
  · apply List.map_congr_left
    intro i _
    simp only [Function.comp]
    congr 1
    omega
theorem range_len (lo : Int) (n : Nat) : (rangeD lo n).length = n := by simp [rangeD]
theorem div_half {a b : Nat} {n : Nat} (h : b < 2 ^ (n + 1)) (hr : a % b ≠ 0) (hb : b ≠ 0) : b % (a % b) < 2 ^ n := by
  have h1 : a % b < b := Nat.mod_lt a (by omega)
  have h2 : b % (a % b) < a % b := Nat.mod_lt b (by omega)
  have h3 : (a % b) * (b / (a % b)) + b % (a % b) = b := Nat.div_add_mod b (a % b)
  have h4 : 1 ≤ b / (a % b) := (Nat.one_le_div_iff (by omega)).mpr (by omega)
  have h5 : (a % b) * 1 ≤ (a % b) * (b / (a % b)) := Nat.mul_le_mul_left _ h4
  rw [Nat.pow_succ] at h
  omega
def dvStep : D → En → Option Out := fun d env => (tn 2 d env).bind (seqF (ifF (tcF dEq (vn 1) (vc (.int 0))) (retF (vn 0)) (nxF))
  (par2F 0 1 (consF (vn 1) (consF (b2 dMod (callF cInt (consF (vn 0) (nilF))) (vn 1)) (nilF)))))
theorem dv0 (d : D) (a : Nat) (s : Slot) : dvStep d [.val (.int (a : Int)), .val (.int 0), s] = some (.rt (.int (a : Int))) := by
  simp [dvStep, dEq_int]
theorem dv1 (d : D) (a b : Nat) (s : Slot) (h : b ≠ 0) : dvStep d [.val (.int (a : Int)), .val (.int (b : Int)), s] = some (.nx [.val (.int (b : Int)), .val (.int ((a % b : Nat) : Int)), .val d]) := by
  have hb : ¬ ((b : Int) = 0) := by omega
  simp only [dvStep, e_tn, e_seqF, e_ifF, e_tcF, e_b2, e_vn, e_vc, dEq_int, hb, decide_false, e_boolOf, e_nxF, e_par2F, e_consF, e_nilF, e_callF, e_cIntI, dMod, fmod_nat, Option.bind_some, Option.map_some, List.getElem?_cons_zero, List.getElem?_cons_succ, List.set_cons_zero, List.set_cons_succ, Bool.false_eq_true, if_false, ne_eq, not_false_eq_true, decide_true, if_true]
theorem dv_loop : ∀ (n : Nat) (L : List D) (a b : Nat) (s : Slot), b < 2 ^ n → 2 * n + 1 ≤ L.length → loopF dvStep L [.val (.int (a : Int)), .val (.int (b : Int)), s] = some (.rt (.int ((Nat.gcd b a : Nat) : Int)))
  | n, [], _, _, _, _, h => by simp at h
  | 0, d :: L, a, b, s, hb, _ => by
    have : b = 0 := by simpa using hb
    subst this
    rw [loopF, show (((0 : Nat) : Int)) = 0 from rfl, dv0, Nat.gcd_zero_left]
    rfl
  | n + 1, d :: L, a, b, s, hb, hl => by
    by_cases z : b = 0
    · subst z
      rw [loopF, show (((0 : Nat) : Int)) = 0 from rfl, dv0, Nat.gcd_zero_left]
      rfl
    · rw [loopF, dv1 _ _ _ _ z]
      simp only [Option.bind_some]
      match L, hl with
      | [], hl => simp at hl
      | d2 :: L, hl =>
        by_cases z2 : a % b = 0
        · rw [loopF, z2, show (((0 : Nat) : Int)) = 0 from rfl, dv0, Nat.gcd_rec, z2, Nat.gcd_zero_left]
          rfl
        · rw [loopF, dv1 _ _ _ _ z2]
          simp only [Option.bind_some]
          rw [dv_loop n L (a % b) (b % (a % b)) _ (div_half hb z2 z) (by simp at hl; omega)]
          rw [Nat.gcd_rec b a, Nat.gcd_rec (a % b) b]
theorem m_lawdiv_eq (a b : Int) (h : sm b) : m__law_divisor [.int a, .int b] = some (.int ((Nat.gcd b.natAbs a.natAbs : Nat) : Int)) := by
  have q := dv_loop 64 (rangeD 0 40000) a.natAbs b.natAbs .no (by unfold sm at h; simpa using h) (by rw [range_len]; omega)
  simp [m__law_divisor, b__law_divisor, runF, natAbs_cast, rg1]
  unfold dvStep at q
  simp at q
  rw [q]
  rfl
/-! ### points in lowest terms -/
structure Pt.nm (p : Pt) : Prop where
  g : Nat.gcd p.w.natAbs (Nat.gcd p.y.natAbs p.x.natAbs) = 1
  w : 0 < p.w
theorem icast_dvd {g : Nat} {x : Int} (h : g ∣ x.natAbs) : (g : Int) ∣ x := Int.natAbs_dvd_natAbs.mp (by rw [Int.natAbs_natCast]; exact h)
theorem fdiv_nat {a x : Int} {g : Nat} (hg : 0 < g) (e : x = (g : Int) * a) : x.fdiv (g : Int) = a := by
  rw [e]
  exact Int.mul_fdiv_cancel_left a (by omega)
theorem divOk_nat {g : Nat} (hg : 0 < g) (h : g < 18446744073709551616) : divOk (g : Int) = true := by
  have : (g : Int).natAbs = g := Int.natAbs_natCast g
  unfold divOk
  rw [this]
  have h2 : g.log2 < 64 := (Nat.log2_lt (by omega)).mpr (by simpa using h)
  have h3 : (g : Int) ≠ 0 := by omega
  simp [h3]
  omega
theorem m_lawpoint_eq (x y w : Int) (hx : sm x) (hy : sm y) (hw : sm w) (h : 0 < w) : ∃ (p : Pt) (g : Nat), m__law_point [.int x, .int y, .int w] = some (ptD p) ∧ p.nm ∧ 0 < g ∧ x = (g : Int) * p.x ∧ y = (g : Int) * p.y ∧ w = (g : Int) * p.w := by
  have hg1 : Nat.gcd y.natAbs x.natAbs = (Nat.gcd y.natAbs x.natAbs) := rfl
  obtain ⟨g, hg⟩ : ∃ g, g = Nat.gcd w.natAbs (Nat.gcd y.natAbs x.natAbs) := ⟨_, rfl⟩
  have gw : g ∣ w.natAbs := hg ▸ Nat.gcd_dvd_left _ _
  have gyx : g ∣ Nat.gcd y.natAbs x.natAbs := hg ▸ Nat.gcd_dvd_right _ _
  have gy : g ∣ y.natAbs := Nat.dvd_trans gyx (Nat.gcd_dvd_left _ _)
  have gx : g ∣ x.natAbs := Nat.dvd_trans gyx (Nat.gcd_dvd_right _ _)
  have g0 : 0 < g := Nat.pos_of_dvd_of_pos gw (by omega)
  obtain ⟨x', ex⟩ := icast_dvd gx
  obtain ⟨y', ey⟩ := icast_dvd gy
  obtain ⟨w', ew⟩ := icast_dvd gw
  refine ⟨⟨x', y', w'⟩, g, ?_, ⟨?_, ?_⟩, g0, ex, ey, ew⟩
  · have d1 := m_lawdiv_eq x y hy
    have d2 := m_lawdiv_eq ((Nat.gcd y.natAbs x.natAbs : Nat) : Int) w hw
    rw [Int.natAbs_natCast, ← hg] at d2
    have dk : divOk (g : Int) = true := divOk_nat g0 (by unfold sm at hw; have := Nat.le_of_dvd (by omega) gw; omega)
    simp [m__law_point, b__law_point, runF, d1, d2, dDiv, dk, fitsL, fits, fdiv_nat g0 ex, fdiv_nat g0 ey, fdiv_nat g0 ew, ptD]
  · have a1 : w.natAbs = g * w'.natAbs := by rw [ew, Int.natAbs_mul, Int.natAbs_natCast]
    have a2 : y.natAbs = g * y'.natAbs := by rw [ey, Int.natAbs_mul, Int.natAbs_natCast]
    have a3 : x.natAbs = g * x'.natAbs := by rw [ex, Int.natAbs_mul, Int.natAbs_natCast]
    have a4 := hg
    rw [a1, a2, a3, Nat.gcd_mul_left, Nat.gcd_mul_left] at a4
    exact Nat.eq_of_mul_eq_mul_left g0 (by rw [Nat.mul_one]; exact a4.symm)
  · rw [ew] at h
    exact Int.pos_of_mul_pos_right h (by omega)
theorem m_point_eq (p : Pt) (h : p.nm) : m_point [.int p.x, .int p.y, .int p.w] = some (ptD p) := by
  have d1 := m_cd_eq p.x p.y
  have d2 := m_cd_eq ((Nat.gcd p.y.natAbs p.x.natAbs : Nat) : Int) p.w
  rw [Int.natAbs_natCast, h.g] at d2
  have w0 : ¬ p.w < 0 := by have := h.w; omega
  have dk : divOk 1 = true := by decide
  simp [m_point, b_point, runF, d1, d2, w0, dDiv, dk, fitsL, fits, ptD]
/-- the same place in lowest terms is the same point -/
theorem nm_eq {p q : Pt} (hp : p.nm) (hq : q.nm) (e1 : p.x * q.w = q.x * p.w) (e2 : p.y * q.w = q.y * p.w) : p = q := by
  have a1 : p.x.natAbs * q.w.natAbs = q.x.natAbs * p.w.natAbs := by rw [← Int.natAbs_mul, ← Int.natAbs_mul, e1]
  have a2 : p.y.natAbs * q.w.natAbs = q.y.natAbs * p.w.natAbs := by rw [← Int.natAbs_mul, ← Int.natAbs_mul, e2]
  have b1 : Nat.gcd (p.w.natAbs * q.w.natAbs) (Nat.gcd (p.y.natAbs * q.w.natAbs) (p.x.natAbs * q.w.natAbs)) = q.w.natAbs := by
    rw [Nat.gcd_mul_right, Nat.gcd_mul_right, hp.g, Nat.one_mul]
  have b2 : Nat.gcd (q.w.natAbs * p.w.natAbs) (Nat.gcd (q.y.natAbs * p.w.natAbs) (q.x.natAbs * p.w.natAbs)) = p.w.natAbs := by
    rw [Nat.gcd_mul_right, Nat.gcd_mul_right, hq.g, Nat.one_mul]
  rw [a1, a2, Nat.mul_comm p.w.natAbs, b2] at b1
  have ew : p.w = q.w := by have := hp.w; have := hq.w; omega
  have hw := hq.w
  rw [ew] at e1 e2
  have ex := Int.eq_of_mul_eq_mul_right (by omega) e1
  have ey := Int.eq_of_mul_eq_mul_right (by omega) e2
  cases p; cases q
  simp only at ex ey ew
  subst ex; subst ey; subst ew
  rfl
end KC

set_option Elab.async false
set_option linter.all false
set_option maxRecDepth 100000
/-! PD: the law's parts of a cell. -/
namespace KC
open PySem PySem.Spec PyProof.Rows L2 DL
theorem divOk_int {i : Int} (h : 0 < i) (h2 : i < 18446744073709551616) : divOk i = true := by
  have := divOk_nat (g := i.toNat) (by omega) (by omega)
  rwa [Int.toNat_of_nonneg (by omega)] at this
instance (i : Int) : Decidable (sm i) := inferInstanceAs (Decidable (_ < _))
theorem fmod_nn (a : Int) {b : Int} (h : 0 < b) : 0 ≤ a.fmod b := by
  rw [Int.fmod_eq_emod_of_nonneg a (by omega)]
  exact Int.emod_nonneg a (by omega)
noncomputable def pkStep : D → En → Option Out := fun d env => (tn 4 d env).bind (ifF (tcF dGe (vn 3) (vc (.int 0))) (seqF (mutF 2 hApp (b2 dMod (callF cInt (consF (vn 3) (nilF))) (b2 dIx (vn 1) (vn 4))))
  (asgF (b2 dDiv (vn 3) (b2 dIx (vn 1) (vn 4))) (tn 3))) (seqF (asgF (b2 dMod (callF cInt (consF (b2 dAdd (b2 dAdd (b2 dMul (vn 0) (vc (.int 48271))) (b2 dMul (vn 4) (vc (.int 69621)))) (vc (.int 11))) (nilF))) (vc (.int 2147483647))) (tn 5))
  (seqF (asgF (b2 dMod (callF cInt (consF (b2 dAdd (b2 dAdd (b2 dMul (vn 5) (vn 5)) (b2 dMul (vc (.int 16807)) (vn 4))) (vc (.int 5))) (nilF))) (vc (.int 998244353))) (tn 5))
  (mutF 2 hApp (b2 dMod (callF cInt (consF (vn 5) (nilF))) (b2 dIx (vn 1) (vn 4)))))))
theorem pk1 (c r : Int) (sz ps : List D) (k s : Int) (s4 s5 : Slot) (h : atI sz k = some (.int s)) (hs : 0 < s) (hs2 : s < 18446744073709551616) (hp : ps.length ≤ 1000000) :
    ∃ q r' s5', pkStep (.int k) [.val (.int c), .val (.list sz), .own ps, .val (.int r), s4, s5] = some (.nx [.val (.int c), .val (.list sz), .own (ps ++ [.int q]), .val (.int r'), .val (.int k), s5']) ∧ 0 ≤ q ∧ q < s := by
  have hz : ¬ s = 0 := by omega
  by_cases c0 : 0 ≤ r
  · refine ⟨r.fmod s, r.fdiv s, s5, ?_, fmod_nn _ hs, Int.fmod_lt_of_pos _ hs⟩
    simp [pkStep, c0, h, dMod, hz, hApp, fits, hp, dDiv, divOk_int hs hs2]
  · obtain ⟨m, hm⟩ : ∃ m, m = (c * 48271 + k * 69621 + 11).fmod 2147483647 := ⟨_, rfl⟩
    have m1 : 0 ≤ m := hm ▸ fmod_nn _ (by decide)
    have m2 : m < 2147483647 := hm ▸ Int.fmod_lt_of_pos _ (by decide)
    have k1 : mulOk m m = true := mulOk_l (by unfold sm; omega)
    have k2 : mulOk c 48271 = true := mulOk_r (by decide)
    have k3 : mulOk k 69621 = true := mulOk_r (by decide)
    have k4 : mulOk 16807 k = true := mulOk_l (by decide)
    refine ⟨((m * m + 16807 * k + 5).fmod 998244353).fmod s, r, .val (.int ((m * m + 16807 * k + 5).fmod 998244353)), ?_, fmod_nn _ hs, Int.fmod_lt_of_pos _ hs⟩
    simp [pkStep, c0, h, dMod, dMul, hz, hApp, fits, hp, k1, k2, k3, k4, ← hm]
def Bd (qs ss : List Int) : Prop := qs.length = ss.length ∧ ∀ (i : Nat) (a s : Int), qs[i]? = some a → ss[i]? = some s → 0 ≤ a ∧ a < s
theorem pk_loop : ∀ (suf pre : List Int) (c r : Int) (ps : List D) (s4 s5 : Slot), (∀ s ∈ suf, 0 < s ∧ s < 18446744073709551616) → ps.length + suf.length ≤ 1000000 →
    ∃ (qs : List Int) (r' : Int) (s4' s5' : Slot), loopF pkStep (rangeD (pre.length : Nat) suf.length) [.val (.int c), .val (.list ((pre ++ suf).map PyData.int)), .own ps, .val (.int r), s4, s5] = some (.nx [.val (.int c), .val (.list ((pre ++ suf).map PyData.int)), .own (ps ++ qs.map PyData.int), .val (.int r'), s4', s5']) ∧ Bd qs suf
  | [], pre, c, r, ps, s4, s5, _, _ => ⟨[], r, s4, s5, by simp [rangeD], rfl, by simp⟩
  | s :: suf, pre, c, r, ps, s4, s5, hs, hl => by
    obtain ⟨h1, h2⟩ := hs s (by simp)
    obtain ⟨q, r1, s5', e1, q1, q2⟩ := pk1 c r ((pre ++ s :: suf).map PyData.int) ps (pre.length : Nat) s s4 s5 (atN (n := pre.length) (by simp) rfl) h1 h2 (by simp at hl; omega)
    obtain ⟨qs, r2, t4, t5, e2, b⟩ := pk_loop suf (pre ++ [s]) c r1 (ps ++ [.int q]) (.val (.int (pre.length : Nat))) s5' (fun x hx => hs x (by simp [hx])) (by simp at hl ⊢; omega)
    refine ⟨q :: qs, r2, t4, t5, ?_, by simp [b.1], ?_⟩
    · rw [List.length_cons, range_succ', loopF, e1]
      simp only [Option.bind_some]
      have z : ((pre.length : Nat) : Int) + 1 = (((pre ++ [s]).length : Nat) : Int) := by simp
      rw [z]
      simpa using e2
    · intro i a t
      cases i with
      | zero => simp; intro x y; subst x; subst y; exact ⟨q1, q2⟩
      | succ i => simpa using b.2 i a t
theorem rg1_nat (n : Nat) (h : n ≤ 1000000) : rg1 [.int (n : Nat)] = some (rangeD 0 n) := by
  have q : (-4611686018427387904 : Int) ≤ (n : Nat) ∧ ((n : Nat) : Int) < 4611686018427387904 := by omega
  simp [rg1, q]
theorem k18_ex : ∃ T, dPow (.int 10) (.int 18) = some (.int T) := by
  unfold dPow
  simp only
  rw [if_pos (by decide)]
  exact ⟨_, rfl⟩
theorem m_parts_eq (c : Int) (sz : List Int) (h : ∀ s ∈ sz, 0 < s ∧ s < 18446744073709551616) (hl : sz.length ≤ 1000000) : ∃ qs : List Int, m__law_parts [.int c, .list (sz.map PyData.int)] = some (.list (qs.map PyData.int)) ∧ Bd qs sz := by
  obtain ⟨T, k18⟩ := k18_ex
  obtain ⟨qs, r, s4, s5, e, b⟩ := pk_loop sz [] c (c - T) [] .no .no h (by simpa using hl)
  refine ⟨qs, ?_, b⟩
  have hr := rg1_nat sz.length hl
  unfold pkStep at e
  simp -implicitDefEqProofs at e
  simp -implicitDefEqProofs [m__law_parts, b__law_parts, runF, k18, fitsL, fits, hr, e]
end KC

set_option Elab.async false
set_option linter.all false
/-! PG: chains of points in the plane, in integers. -/
namespace PG
/-- a place of the plane, in integers -/
structure P2 where
  x : Int
  y : Int
def cross (u v : P2) : Int := u.x * v.y - u.y * v.x
def sub (a b : P2) : P2 := ⟨a.x - b.x, a.y - b.y⟩
def add (a b : P2) : P2 := ⟨a.x + b.x, a.y + b.y⟩
/-- twice the area of a triangle -/
def cr (a b c : P2) : Int := cross (sub b a) (sub c a)
/-- a vector that leads to a later point -/
def Fw (u : P2) : Prop := 0 < u.x ∨ (u.x = 0 ∧ 0 < u.y)
def lt (a b : P2) : Prop := Fw (sub b a)
theorem fw_add {u v : P2} (h : Fw u) (k : Fw v) : Fw (add u v) := by
  unfold Fw add at *
  simp only at *
  omega
theorem cross_add_l (u v w : P2) : cross (add u v) w = cross u w + cross v w := by
  unfold cross add; simp only; grind
theorem cross_add_r (u v w : P2) : cross w (add u v) = cross w u + cross w v := by
  unfold cross add; simp only; grind
theorem tr {u v w : P2} (hu : Fw u) (hv : Fw v) (hw : Fw w) (h : 0 < cross u v) (k : 0 < cross v w) : 0 < cross u w := by
  have e1 : cross u w * v.x = cross u v * w.x + cross v w * u.x := by unfold cross; grind
  have e2 : cross u w * v.y = cross u v * w.y + cross v w * u.y := by unfold cross; grind
  have wx : 0 ≤ w.x := by unfold Fw at hw; omega
  have ux : 0 ≤ u.x := by unfold Fw at hu; omega
  by_cases c : 0 < cross u w
  · exact c
  · exfalso
    have c' : cross u w ≤ 0 := by omega
    have n1 : 0 ≤ cross u v * w.x := Int.mul_nonneg (by omega) wx
    have n2 : 0 ≤ cross v w * u.x := Int.mul_nonneg (by omega) ux
    have vx : 0 ≤ v.x := by unfold Fw at hv; omega
    have n3 : cross u w * v.x ≤ 0 := Int.mul_nonpos_of_nonpos_of_nonneg c' vx
    have z1 : cross u v * w.x = 0 := by omega
    have z2 : cross v w * u.x = 0 := by omega
    have w0 : w.x = 0 := by
      rcases Int.mul_eq_zero.mp z1 with q | q
      · omega
      · exact q
    have u0 : u.x = 0 := by
      rcases Int.mul_eq_zero.mp z2 with q | q
      · omega
      · exact q
    have wy : 0 < w.y := by unfold Fw at hw; omega
    have uy : 0 < u.y := by unfold Fw at hu; omega
    have q : cross u v = -(u.y * v.x) := by unfold cross; rw [u0]; omega
    have : 0 ≤ u.y * v.x := Int.mul_nonneg (by omega) vx
    omega
theorem cr_eq (a b c : P2) : cr a b c = cross (sub b a) (sub c b) := by unfold cr cross sub; simp only; grind
theorem cr_rot (a b c : P2) : cr a b c = cr b c a := by unfold cr cross sub; simp only; grind
theorem cr_swap (a b c : P2) : cr a b c = -cr b a c := by unfold cr cross sub; simp only; grind
theorem sub_add (a b c : P2) : sub c a = add (sub b a) (sub c b) := by
  unfold sub add
  congr 1 <;> simp only <;> omega
theorem lt_trans {a b c : P2} (h : lt a b) (k : lt b c) : lt a c := by
  unfold lt at *
  rw [sub_add a b c]
  exact fw_add h k
theorem lt_irrefl (a : P2) : ¬ lt a a := by
  unfold lt Fw sub; simp
theorem lt_asymm {a b : P2} (h : lt a b) : ¬ lt b a := fun k => lt_irrefl a (lt_trans h k)

/-! ### a chain: f 0 .. f k, ascending, each turn to the left -/
structure Ch (f : Nat → P2) (k : Nat) : Prop where
  up : ∀ i, i < k → lt (f i) (f (i + 1))
  tn : ∀ i, i + 2 ≤ k → 0 < cr (f i) (f (i + 1)) (f (i + 2))
section
variable {f : Nat → P2} {k : Nat}
theorem Ch.lt (c : Ch f k) {i j : Nat} (h : i < j) (hj : j ≤ k) : PG.lt (f i) (f j) := by
  induction j with
  | zero => omega
  | succ j ih =>
    by_cases e : i = j
    · subst e; exact c.up i (by omega)
    · exact lt_trans (ih (by omega) (by omega)) (c.up j (by omega))
theorem Ch.edge (c : Ch f k) {i j : Nat} (h : i < j) (hj : j < k) : 0 < cross (sub (f (i + 1)) (f i)) (sub (f (j + 1)) (f j)) := by
  induction j with
  | zero => omega
  | succ j ih =>
    have t := c.tn j (by omega)
    rw [cr_eq] at t
    by_cases e : i = j
    · subst e; exact t
    · exact tr (c.up i (by omega)) (c.up j (by omega)) (c.up (j + 1) hj) (ih (by omega) (by omega)) t
theorem Ch.edge2 (c : Ch f k) {i j l : Nat} (h : i < j) (hj : j < l) (hl : l ≤ k) : 0 < cross (sub (f (i + 1)) (f i)) (sub (f l) (f j)) := by
  induction l with
  | zero => omega
  | succ l ih =>
    have t := c.edge (i := i) (j := l) (by omega) (by omega)
    by_cases e : j = l
    · subst e; exact t
    · rw [sub_add (f j) (f l) (f (l + 1)), cross_add_r]
      have := ih (by omega) (by omega)
      omega
/-- any three points of a chain turn to the left -/
theorem Ch.cr (c : Ch f k) {i j l : Nat} (h : i < j) (hj : j < l) (hl : l ≤ k) : 0 < PG.cr (f i) (f j) (f l) := by
  rw [cr_eq]
  have key : ∀ d i, i + d + 1 = j → 0 < cross (sub (f j) (f i)) (sub (f l) (f j)) := by
    clear h
    intro d
    induction d with
    | zero =>
      intro i e
      have := c.edge2 (i := i) (j := j) (l := l) (by omega) hj hl
      have e' : i + 1 = j := by omega
      rw [e'] at this
      exact this
    | succ d ih =>
      intro i e
      have h1 := ih (i + 1) (by omega)
      have h2 := c.edge2 (i := i) (j := j) (l := l) (by omega) hj hl
      rw [sub_add (f i) (f (i + 1)) (f j), cross_add_l]
      omega
  exact key (j - i - 1) i (by omega)
end
def neg (a : P2) : P2 := ⟨-a.x, -a.y⟩
theorem cr_neg (a b c : P2) : cr (neg a) (neg b) (neg c) = cr a b c := by unfold cr cross sub neg; simp only; grind
theorem lt_neg {a b : P2} (h : lt a b) : lt (neg b) (neg a) := by
  unfold lt Fw sub neg at *; simp only at *; omega
/-- a chain downwards -/
structure Dn (f : Nat → P2) (k : Nat) : Prop where
  dn : ∀ i, i < k → lt (f (i + 1)) (f i)
  tn : ∀ i, i + 2 ≤ k → 0 < cr (f i) (f (i + 1)) (f (i + 2))
theorem Dn.ch {f : Nat → P2} {k : Nat} (d : Dn f k) : Ch (fun i => neg (f i)) k := ⟨fun i h => lt_neg (d.dn i h), fun i h => by rw [cr_neg]; exact d.tn i h⟩
theorem Dn.cr {f : Nat → P2} {k : Nat} (d : Dn f k) {i j l : Nat} (h : i < j) (hj : j < l) (hl : l ≤ k) : 0 < PG.cr (f i) (f j) (f l) := by
  have := d.ch.cr h hj hl
  rwa [cr_neg] at this
theorem neg_neg (a : P2) : neg (neg a) = a := by unfold neg; simp
theorem Dn.lt {f : Nat → P2} {k : Nat} (d : Dn f k) {i j : Nat} (h : i < j) (hj : j ≤ k) : PG.lt (f j) (f i) := by
  have := lt_neg (d.ch.lt h hj)
  simp only [neg_neg] at this
  exact this

/-! ### a lower chain L (k edges) and an upper one U (m edges) -/
structure Two (L U : Nat → P2) (k m : Nat) : Prop where
  lo : Ch L k
  hi : Dn U m
  k1 : 1 ≤ k
  m1 : 1 ≤ m
  a : U m = L 0
  b : U 0 = L k
section
variable {L U : Nat → P2} {k m : Nat}
theorem fw_pos {u d : P2} {t : Int} (_ : Fw u) : True := trivial
/-- where the chains meet at the last point -/
theorem Two.top (T : Two L U k m) (h : 3 ≤ k + m) : 0 < cr (L (k - 1)) (L k) (U 1) := by
  by_cases hk : k = 1
  · have h2 : 1 < m := by omega
    have e := T.hi.cr (i := 0) (j := 1) (l := m) Nat.zero_lt_one h2 (Nat.le_refl _)
    rw [T.a, T.b] at e
    subst hk
    rw [cr_rot (L 0)]
    exact e
  · have e1 := T.lo.cr (i := 0) (j := k - 1) (l := k) (by have := T.k1; omega) (by have := T.k1; omega) (Nat.le_refl _)
    by_cases hm : m = 1
    · subst hm
      rw [T.a, ← cr_rot]
      exact e1
    · have hm2 : 1 < m := by have := T.m1; omega
      have e2 := T.hi.cr (i := 0) (j := 1) (l := m) Nat.zero_lt_one hm2 (Nat.le_refl _)
      rw [T.a, T.b] at e2
      -- with d = L k - L 0
      have hl : Fw (sub (L k) (L (k - 1))) := T.lo.lt (i := k - 1) (j := k) (by have := T.k1; omega) (Nat.le_refl _)
      have hd : Fw (sub (L k) (L 0)) := T.lo.lt (i := 0) (j := k) (by have := T.k1; omega) (Nat.le_refl _)
      have hu : Fw (sub (L k) (U 1)) := by
        have := T.hi.lt (i := 0) (j := 1) (by omega) T.m1
        rw [T.b] at this
        exact this
      have q1 : 0 < cross (sub (L k) (L 0)) (sub (L k) (L (k - 1))) := by
        have : cross (sub (L k) (L 0)) (sub (L k) (L (k - 1))) = cr (L 0) (L (k - 1)) (L k) := by unfold cr cross sub; simp only; grind
        rw [this]; exact e1
      have q2 : 0 < cross (sub (L k) (U 1)) (sub (L k) (L 0)) := by
        have : cross (sub (L k) (U 1)) (sub (L k) (L 0)) = cr (L k) (U 1) (L 0) := by unfold cr cross sub; simp only; grind
        rw [this]; exact e2
      have q3 := tr hu hd hl q2 q1
      have : cr (L (k - 1)) (L k) (U 1) = cross (sub (L k) (U 1)) (sub (L k) (L (k - 1))) := by unfold cr cross sub; simp only; grind
      rw [this]; exact q3
theorem Two.flip (T : Two L U k m) : Two (fun i => neg (U i)) (fun i => neg (L i)) m k :=
  ⟨T.hi.ch, ⟨fun i h => lt_neg (T.lo.up i h), fun i h => by rw [cr_neg]; exact T.lo.tn i h⟩, T.m1, T.k1, by show neg _ = neg _; rw [T.b], by show neg _ = neg _; rw [T.a]⟩
/-- .. and at the first one -/
theorem Two.bot (T : Two L U k m) (h : 3 ≤ k + m) : 0 < cr (U (m - 1)) (U m) (L 1) := by
  have := T.flip.top (by omega)
  simp only [cr_neg] at this
  exact this
/-- the round -/
def rnd (L U : Nat → P2) (k : Nat) (i : Nat) : P2 := if i < k then L i else U (i - k)
/-- it turns left about the first point -/
theorem Two.fan (T : Two L U k m) {i : Nat} (h1 : 1 ≤ i) (h2 : i + 1 < k + m) : 0 < cr (L 0) (rnd L U k i) (rnd L U k (i + 1)) := by
  unfold rnd
  by_cases a : i + 1 < k
  · rw [if_pos (by omega), if_pos a]
    exact T.lo.cr (by omega) (by omega) (by omega)
  · by_cases b : i < k
    · rw [if_pos b, if_neg a]
      have e : i + 1 - k = 0 := by omega
      rw [e, T.b]
      have : i + 1 = k := by omega
      have := T.lo.cr (i := 0) (j := i) (l := i + 1) (by omega) (by omega) (by omega)
      rwa [show i + 1 = k by omega] at this
    · rw [if_neg b, if_neg a, cr_rot, ← T.a]
      exact T.hi.cr (by omega) (by omega) (by omega)
/-- the turns within -/
theorem Two.turn (T : Two L U k m) {i : Nat} (h2 : i + 2 < k + m) : 0 < cr (rnd L U k i) (rnd L U k (i + 1)) (rnd L U k (i + 2)) := by
  unfold rnd
  by_cases a : i + 2 < k
  · rw [if_pos (by omega), if_pos (by omega), if_pos a]
    exact T.lo.cr (by omega) (by omega) (by omega)
  · by_cases b : i + 1 < k
    · rw [if_pos (by omega), if_pos b, if_neg a]
      have e : i + 2 - k = 0 := by omega
      rw [e, T.b]
      have := T.lo.cr (i := i) (j := i + 1) (l := i + 2) (by omega) (by omega) (by omega)
      rwa [show i + 2 = k by omega] at this
    · by_cases c : i < k
      · rw [if_pos c, if_neg b, if_neg a]
        have e1 : i + 1 - k = 0 := by omega
        have e2 : i + 2 - k = 1 := by omega
        rw [e1, e2, T.b]
        have := T.top (by omega)
        rwa [show k - 1 = i by omega] at this
      · rw [if_neg c, if_neg b, if_neg a]
        have e1 : i + 1 - k = (i - k) + 1 := by omega
        have e2 : i + 2 - k = (i - k) + 2 := by omega
        rw [e1, e2]
        exact T.hi.tn _ (by omega)
/-- .. around the last corner -/
theorem Two.turn1 (T : Two L U k m) (h : 3 ≤ k + m) : 0 < cr (rnd L U k (k + m - 2)) (rnd L U k (k + m - 1)) (L 0) := by
  unfold rnd
  have e : k + m - 1 - k = m - 1 := by omega
  rw [if_neg (show ¬ k + m - 1 < k by have := T.m1; omega), e]
  by_cases c : k + m - 2 < k
  · have hm : m = 1 := by have := T.m1; omega
    subst hm
    rw [if_pos c]
    have := T.top h
    rw [T.a] at this
    rw [T.b]
    rwa [show k + 1 - 2 = k - 1 by omega]
  · rw [if_neg c, ← T.a]
    have e2 : k + m - 2 - k = m - 2 := by omega
    rw [e2]
    have := T.hi.tn (m - 2) (by omega)
    rwa [show m - 2 + 1 = m - 1 by omega, show m - 2 + 2 = m by omega] at this
theorem Two.turn2 (T : Two L U k m) (h : 3 ≤ k + m) : 0 < cr (rnd L U k (k + m - 1)) (L 0) (rnd L U k 1) := by
  unfold rnd
  have e : k + m - 1 - k = m - 1 := by omega
  rw [if_neg (show ¬ k + m - 1 < k by have := T.m1; omega), e, ← T.a]
  have := T.bot h
  by_cases c : 1 < k
  · rw [if_pos c]; exact this
  · have hk : k = 1 := by have := T.k1; omega
    rw [if_neg c]
    subst hk
    rw [← T.b] at this
    exact this
/-- the first point is ahead of all others -/
theorem Two.first (T : Two L U k m) {i : Nat} (h1 : 1 ≤ i) (h2 : i < k + m) : lt (L 0) (rnd L U k i) := by
  unfold rnd
  by_cases c : i < k
  · rw [if_pos c]; exact T.lo.lt (by omega) (by omega)
  · rw [if_neg c, ← T.a]; exact T.hi.lt (by omega) (by omega)
/-- all are different: in the fan, each is further round -/
theorem Two.fan2 (T : Two L U k m) {i j : Nat} (h1 : 1 ≤ i) (hij : i < j) (h2 : j < k + m) : 0 < cr (L 0) (rnd L U k i) (rnd L U k j) := by
  have e0 : ∀ n, 1 ≤ n → n < k + m → Fw (sub (rnd L U k n) (L 0)) := fun n a b => T.first a b
  induction j with
  | zero => omega
  | succ j ih =>
    have t := T.fan (i := j) (by omega) h2
    by_cases e : i = j
    · subst e; exact t
    · have q := ih (by omega) (by omega)
      exact tr (e0 i h1 (by omega)) (e0 j (by omega) (by omega)) (e0 (j + 1) (by omega) h2) q t
theorem Two.ne (T : Two L U k m) {i j : Nat} (hij : i < j) (h2 : j < k + m) : rnd L U k i ≠ rnd L U k j := by
  intro e
  by_cases c : i = 0
  · subst c
    have := T.first (i := j) (by omega) h2
    have e0 : rnd L U k 0 = L 0 := by unfold rnd; rw [if_pos (by have := T.k1; omega)]
    rw [← e, e0] at this
    exact lt_irrefl _ this
  · have := T.fan2 (i := i) (j := j) (by omega) hij h2
    rw [← e] at this
    unfold cr cross at this
    have z : (sub (rnd L U k i) (L 0)).x * (sub (rnd L U k i) (L 0)).y - (sub (rnd L U k i) (L 0)).y * (sub (rnd L U k i) (L 0)).x = 0 := by grind
    omega
end
end PG

set_option Elab.async false
set_option linter.all false
set_option maxRecDepth 100000
/-! PE: points as data; the order of points; putting one in. -/
namespace KC
open PySem PySem.Spec PyProof.Rows L2 DL
def Lay (n : Nat) (d : D) : Prop := d.canLay0 = true ∧ d.depth ≤ n
theorem lay_all {n : Nat} : ∀ {ds : List D}, (∀ d ∈ ds, Lay n d) → PyData.canLayAll0 ds = true ∧ PyData.depthAll ds ≤ n
  | [], _ => ⟨by simp [PyData.canLayAll0], by simp [PyData.depthAll]⟩
  | d :: ds, h => by
    have h1 := h d (by simp)
    have h2 := lay_all (ds := ds) (fun x hx => h x (by simp [hx]))
    refine ⟨by simp [PyData.canLayAll0, h1.1, h2.1], ?_⟩
    simp only [PyData.depthAll]
    exact Nat.max_le.mpr ⟨h1.2, h2.2⟩
theorem lay_int (n : Nat) (i : Int) : Lay n (.int i) := ⟨by simp [PyData.canLay0], by simp [PyData.depth]⟩
theorem lay_none (n : Nat) : Lay n .none := ⟨by simp [PyData.canLay0], by simp [PyData.depth]⟩
theorem lay_tup {n : Nat} {ds : List D} (h : ∀ d ∈ ds, Lay n d) : Lay (n + 1) (.tuple ds) := by
  have q := lay_all h
  refine ⟨by simp only [PyData.canLay0]; exact q.1, ?_⟩
  simp only [PyData.depth]
  exact Nat.succ_le_succ q.2
theorem lay_list {n : Nat} {ds : List D} (h : ∀ d ∈ ds, Lay n d) : Lay (n + 1) (.list ds) := by
  have q := lay_all h
  refine ⟨by simp only [PyData.canLay0]; exact q.1, ?_⟩
  simp only [PyData.depth]
  exact Nat.succ_le_succ q.2
theorem lay_shaped {n : Nat} {d : D} (h : Lay n d) (hn : n ≤ 64) : SeqAt.shaped d = true := by
  unfold SeqAt.shaped
  rw [h.1, decide_eq_true (Nat.le_trans h.2 hn)]
  rfl
theorem lay_pt (p : Pt) : Lay 1 (ptD p) := lay_tup (by
  intro d hd
  simp at hd
  rcases hd with h | h | h <;> subst h <;> exact lay_int _ _)
theorem lay_pts (ps : List Pt) : ∀ d ∈ ps.map ptD, Lay 1 d := by
  intro d hd
  obtain ⟨p, _, e⟩ := List.mem_map.mp hd
  exact e ▸ lay_pt p
theorem eqv_pt (a b : Pt) : PyData.eqv (ptD a) (ptD b) = decide (a = b) := by
  cases a; cases b
  simp [ptD, PyData.eqv, PyData.eqvAll, eqv_int]
  rw [Bool.eq_iff_iff]
  simp
theorem inL_pts (p : Pt) (ps : List Pt) : inL (ptD p) (ps.map ptD) = decide (p ∈ ps) := by
  induction ps with
  | nil => simp [inL]
  | cons a r ih =>
    unfold inL at ih ⊢
    rw [List.map_cons, List.any_cons, ih, eqv_pt, Bool.eq_iff_iff]
    simp only [Bool.or_eq_true, decide_eq_true_eq, List.mem_cons]
    exact ⟨fun h => h.imp Eq.symm id, fun h => h.imp Eq.symm id⟩
theorem dIn_pts (p : Pt) (ps : List Pt) : dIn (ptD p) (.list (ps.map ptD)) = some (.bool (decide (p ∈ ps))) := by
  have h1 := lay_shaped (lay_pt p) (by decide)
  have h2 := lay_shaped (lay_list (lay_pts ps)) (by decide)
  rw [← inL_pts]
  have : dIn (ptD p) (.list (ps.map ptD)) = if SeqAt.shaped (ptD p) && SeqAt.shaped (.list (ps.map ptD)) then some (.bool (inL (ptD p) (ps.map ptD))) else none := rfl
  rw [this, h1, h2]
  rfl
theorem cut_take {α : Type} (xs : List α) (n : Nat) (h : n ≤ xs.length) : DL.cutD xs none (some (n : Int)) = xs.take n := by
  unfold DL.cutD
  rw [HT.sIx_none, HT.sIx_nat, List.drop_zero, Nat.sub_zero, Nat.min_eq_left h]
theorem cut_drop {α : Type} (xs : List α) (n : Nat) (h : n ≤ xs.length) : DL.cutD xs (some (n : Int)) none = xs.drop n := by
  unfold DL.cutD
  rw [HT.sIx_none, HT.sIx_nat, Nat.min_eq_left h]
  exact List.take_of_length_le (by simp)
theorem cut_last {α : Type} (xs : List α) : DL.cutD xs none (some (-1)) = xs.dropLast := by
  unfold DL.cutD
  have : HT.sIx xs.length xs.length (some (-1)) = xs.length - 1 := by
    show (if (-1 : Int) < 0 then ((-1 : Int) + (xs.length : Int)).toNat else min (-1 : Int).toNat xs.length) = _
    rw [if_pos (by decide)]
    omega
  rw [HT.sIx_none, this, List.drop_zero, Nat.sub_zero, List.dropLast_eq_take]

/-! ### points in the plane -/
def em (W : Int) (p : Pt) : PG.P2 := ⟨p.x * (W / p.w), p.y * (W / p.w)⟩
structure Good (W : Int) (p : Pt) : Prop where
  nm : p.nm
  sm : p.sm
  dv : p.w ∣ W
theorem em_x {W : Int} {p : Pt} (h : Good W p) : (em W p).x * p.w = p.x * W := by
  have := Int.ediv_mul_cancel h.dv
  unfold em
  simp only
  rw [Int.mul_assoc, this]
theorem em_y {W : Int} {p : Pt} (h : Good W p) : (em W p).y * p.w = p.y * W := by
  have := Int.ediv_mul_cancel h.dv
  unfold em
  simp only
  rw [Int.mul_assoc, this]
theorem em_lt {W : Int} (hW : 0 < W) {p q : Pt} (hp : Good W p) (hq : Good W q) : PG.lt (em W p) (em W q) ↔ bef p q = true := by
  have hpw := hp.nm.w
  have hqw := hq.nm.w
  have key : ∀ (a b X Y : Int), X * p.w = a * W → Y * q.w = b * W → (X < Y ↔ a * q.w < b * p.w) ∧ (X = Y ↔ a * q.w = b * p.w) := by
    intro a b X Y e1 e2
    have k1 : W * (a * q.w) = (p.w * q.w) * X := by grind
    have k2 : W * (b * p.w) = (p.w * q.w) * Y := by grind
    have pq : 0 < p.w * q.w := Int.mul_pos hpw hqw
    constructor
    · constructor
      · intro h
        have := Int.mul_lt_mul_of_pos_left h pq
        rw [← k1, ← k2] at this
        exact Int.lt_of_mul_lt_mul_left this (by omega)
      · intro h
        have := Int.mul_lt_mul_of_pos_left h hW
        rw [k1, k2] at this
        exact Int.lt_of_mul_lt_mul_left this (by omega)
    · constructor
      · intro h
        rw [h, ← k2] at k1
        exact Int.eq_of_mul_eq_mul_left (by omega) k1
      · intro h
        rw [h, k2] at k1
        exact (Int.eq_of_mul_eq_mul_left (by omega) k1).symm
  have kx := key p.x q.x _ _ (em_x hp) (em_x hq)
  have ky := key p.y q.y _ _ (em_y hp) (em_y hq)
  unfold PG.lt PG.Fw PG.sub bef
  simp only
  by_cases c : p.x * q.w = q.x * p.w
  · have c2 := kx.2.mpr c
    rw [if_neg (by simpa using c), decide_eq_true_eq, ← ky.1]
    omega
  · have c2 : ¬ (em W p).x = (em W q).x := fun h => c (kx.2.mp h)
    rw [if_pos c, decide_eq_true_eq, ← kx.1]
    omega
theorem em_det {W : Int} {a b c : Pt} (ha : Good W a) (hb : Good W b) (hc : Good W c) : det a b c * (W * W) = (a.w * b.w * c.w) * PG.cr (em W a) (em W b) (em W c) := by
  have a1 := em_x ha
  have a2 := em_y ha
  have b1 := em_x hb
  have b2 := em_y hb
  have c1 := em_x hc
  have c2 := em_y hc
  generalize (em W a) = A at *
  generalize (em W b) = B at *
  generalize (em W c) = C at *
  have e : det a b c * (W * W) = (a.x * W) * (b.y * W) * c.w - (a.x * W) * (c.y * W) * b.w + ((b.x * W) * (c.y * W) * a.w - (b.x * W) * (a.y * W) * c.w) + ((c.x * W) * (a.y * W) * b.w - (c.x * W) * (b.y * W) * a.w) := by
    unfold det; grind
  rw [e, ← a1, ← a2, ← b1, ← b2, ← c1, ← c2]
  unfold PG.cr PG.cross PG.sub
  simp only
  grind
theorem em_pos {W : Int} (hW : 0 < W) {a b c : Pt} (ha : Good W a) (hb : Good W b) (hc : Good W c) : 0 < det a b c ↔ 0 < PG.cr (em W a) (em W b) (em W c) := by
  have e := em_det ha hb hc
  have h1 : 0 < W * W := Int.mul_pos hW hW
  have h2 : 0 < a.w * b.w * c.w := Int.mul_pos (Int.mul_pos ha.nm.w hb.nm.w) hc.nm.w
  constructor
  · intro h
    have := Int.mul_pos h h1
    rw [e] at this
    exact Int.pos_of_mul_pos_right this h2
  · intro h
    have := Int.mul_pos h2 h
    rw [← e] at this
    exact Int.pos_of_mul_pos_left this h1
theorem em_inj {W : Int} (hW : 0 < W) {p q : Pt} (hp : Good W p) (hq : Good W q) (h : em W p = em W q) : p = q := by
  have x1 := em_x hp
  have x2 := em_x hq
  have y1 := em_y hp
  have y2 := em_y hq
  rw [h] at x1 y1
  generalize em W q = Q at *
  refine nm_eq hp.nm hq.nm ?_ ?_
  · refine Int.eq_of_mul_eq_mul_right (a := W) (by omega) ?_
    grind
  · refine Int.eq_of_mul_eq_mul_right (a := W) (by omega) ?_
    grind
end KC

set_option Elab.async false
set_option linter.all false
set_option maxRecDepth 100000
/-! PF: the chain, in plain words. A stack lies top first. -/
namespace KC
open PG (P2 cr cross sub lt Fw)
def pop (p b : Pt) : List Pt → List Pt
  | [] => [b]
  | a :: r => if det a b p ≤ 0 then pop p a r else b :: a :: r
def chR : Pt → List Pt → List Pt → List Pt
  | b, r, [] => b :: r
  | b, r, p :: ps => match pop p b r with
    | [] => chR p [] ps
    | c :: t => chR p (c :: t) ps
theorem tr0 {u v w : P2} (hu : Fw u) (hv : Fw v) (hw : Fw w) (h : 0 ≤ cross u v) (k : 0 ≤ cross v w) : 0 ≤ cross u w := by
  have e1 : cross u w * v.x = cross u v * w.x + cross v w * u.x := by unfold cross; grind
  have wx : 0 ≤ w.x := by unfold Fw at hw; omega
  have ux : 0 ≤ u.x := by unfold Fw at hu; omega
  have vx : 0 ≤ v.x := by unfold Fw at hv; omega
  have n1 : 0 ≤ cross u v * w.x := Int.mul_nonneg h wx
  have n2 : 0 ≤ cross v w * u.x := Int.mul_nonneg k ux
  by_cases c : v.x = 0
  · have vy : 0 < v.y := by unfold Fw at hv; omega
    have q : cross v w = -(v.y * w.x) := by unfold cross; rw [c]; omega
    have w0 : w.x = 0 := by
      rcases Int.lt_or_eq_of_le wx with z | z
      · have := Int.mul_pos vy z; omega
      · exact z.symm
    have wy : 0 < w.y := by unfold Fw at hw; omega
    have q2 : cross u w = u.x * w.y := by unfold cross; rw [w0]; omega
    rw [q2]
    exact Int.mul_nonneg ux (by omega)
  · by_cases g : 0 ≤ cross u w
    · exact g
    · exfalso
      have := Int.mul_neg_of_neg_of_pos (show cross u w < 0 by omega) (show 0 < v.x by omega)
      omega
def Chn (m : Pt → P2) : List Pt → Prop
  | [] => True
  | c :: l => (∀ b r, l = b :: r → lt (m b) (m c) ∧ ∀ a r2, r = a :: r2 → 0 < cr (m a) (m b) (m c)) ∧ Chn m l
theorem Chn.tail {m : Pt → P2} {pre t : List Pt} (h : Chn m (pre ++ t)) : Chn m t := by
  induction pre with
  | nil => exact h
  | cons a r ih => exact ih h.2
theorem pop_suf (p : Pt) : ∀ (r : List Pt) (b : Pt), ∃ pre c t, b :: r = pre ++ c :: t ∧ pop p b r = c :: t ∧ (∀ a r2, t = a :: r2 → 0 < det a c p) ∧ (t = [] → r = [] ∨ ∃ pre2 s2, b :: r = pre2 ++ [s2, c] ∧ det c s2 p ≤ 0)
  | [], b => ⟨[], b, [], rfl, rfl, by simp, fun _ => Or.inl rfl⟩
  | a :: r, b => by
    unfold pop
    by_cases h : det a b p ≤ 0
    · rw [if_pos h]
      obtain ⟨pre, c, t, e1, e2, e3, e4⟩ := pop_suf p r a
      refine ⟨b :: pre, c, t, by rw [e1]; rfl, e2, e3, ?_⟩
      intro ht
      rcases e4 ht with z | ⟨pre2, s2, z1, z2⟩
      · subst z
        subst ht
        have : a = c := by
          have := e2
          simp [pop] at this
          exact this
        subst this
        exact Or.inr ⟨[], b, rfl, h⟩
      · exact Or.inr ⟨b :: pre2, s2, by rw [z1]; rfl, z2⟩
    · rw [if_neg h]
      refine ⟨[], b, a :: r, rfl, rfl, ?_, by simp⟩
      intro a' r2 e
      cases e
      omega
section
variable {m : Pt → P2} {A : Pt → Prop}
theorem Chn.at2 : ∀ {l : List Pt}, Chn m l → ∀ (j : Nat) x y, l[j]? = some x → l[j + 1]? = some y → lt (m y) (m x)
  | [], _, j, x, y, h, _ => by simp at h
  | c :: l, h, 0, x, y, h1, h2 => by
    simp at h1 h2
    subst h1
    match l, h2 with
    | b :: r, h2 =>
      simp at h2
      subst h2
      exact (h.1 b r rfl).1
  | c :: l, h, j + 1, x, y, h1, h2 => by
    simp at h1 h2
    exact Chn.at2 h.2 j x y h1 h2
theorem Chn.at3 : ∀ {l : List Pt}, Chn m l → ∀ (j : Nat) x y z, l[j]? = some x → l[j + 1]? = some y → l[j + 2]? = some z → 0 < cr (m z) (m y) (m x)
  | [], _, j, x, y, z, h, _, _ => by simp at h
  | c :: l, h, 0, x, y, z, h1, h2, h3 => by
    simp at h1 h2 h3
    subst h1
    match l, h2, h3 with
    | b :: a :: r, h2, h3 =>
      simp at h2 h3
      subst h2
      subst h3
      exact (h.1 b (a :: r) rfl).2 a r rfl
    | [b], h2, h3 => simp at h3
  | c :: l, h, j + 1, x, y, z, h1, h2, h3 => by
    simp at h1 h2 h3
    exact Chn.at3 h.2 j x y z h1 h2 h3
/-- the chain as a row, from the bottom -/
def row (m : Pt → P2) (l : List Pt) (i : Nat) : P2 := m ((l[l.length - 1 - i]?).getD ⟨0, 0, 0⟩)
theorem row_at {l : List Pt} {i j : Nat} {x : Pt} (h : l[j]? = some x) (e : l.length - 1 - i = j) : row m l i = m x := by
  unfold row; rw [e, h]; rfl
theorem Chn.ch {l : List Pt} (h : Chn m l) : PG.Ch (row m l) (l.length - 1) := by
  constructor
  · intro i hi
    obtain ⟨x, hx⟩ : ∃ x, l[l.length - 1 - (i + 1)]? = some x := ⟨_, List.getElem?_eq_getElem (by omega)⟩
    obtain ⟨y, hy⟩ : ∃ y, l[l.length - 1 - (i + 1) + 1]? = some y := ⟨_, List.getElem?_eq_getElem (by omega)⟩
    rw [row_at (i := i) hy (by omega), row_at (i := i + 1) hx rfl]
    exact h.at2 _ x y hx hy
  · intro i hi
    obtain ⟨x, hx⟩ : ∃ x, l[l.length - 1 - (i + 2)]? = some x := ⟨_, List.getElem?_eq_getElem (by omega)⟩
    obtain ⟨y, hy⟩ : ∃ y, l[l.length - 1 - (i + 2) + 1]? = some y := ⟨_, List.getElem?_eq_getElem (by omega)⟩
    obtain ⟨z, hz⟩ : ∃ z, l[l.length - 1 - (i + 2) + 2]? = some z := ⟨_, List.getElem?_eq_getElem (by omega)⟩
    rw [row_at (i := i) hz (by omega), row_at (i := i + 1) hy (by omega), row_at (i := i + 2) hx rfl]
    exact h.at3 _ x y z hx hy hz
theorem cr_self (a b : P2) : cr a b b = 0 := by unfold cr cross; grind
theorem cr_first (a b : P2) : cr a b a = 0 := by unfold cr cross sub; simp only; grind
structure Inv (m : Pt → P2) (f : Pt) (S : List Pt) (b : Pt) (r : List Pt) : Prop where
  ch : Chn m (b :: r)
  last : (b :: r).getLast? = some f
  mem : ∀ x ∈ b :: r, x ∈ S
  edge : ∀ x ∈ S, ∀ pre s2, b :: r = pre ++ [s2, f] → 0 ≤ cr (m f) (m s2) (m x)
  top : ∀ x ∈ S, x = f ∨ lt (m f) (m x)
  one : r = [] → ∀ x ∈ S, x = f
theorem Inv.push (hs : ∀ a b c, A a → A b → A c → (0 < det a b c ↔ 0 < cr (m a) (m b) (m c))) {f b p : Pt} {S r : List Pt} (I : Inv m f S b r) (hS : ∀ x ∈ S, A x) (hp : A p) (hf : f ∈ S) (hlt : ∀ x ∈ S, lt (m x) (m p)) :
    ∃ c t, pop p b r = c :: t ∧ Inv m f (S ++ [p]) p (c :: t) := by
  obtain ⟨pre, c, t, e1, e2, e3, e4⟩ := pop_suf p r b
  refine ⟨c, t, e2, ?_⟩
  have hmem : ∀ x ∈ c :: t, x ∈ S := fun x hx => I.mem x (by rw [e1]; exact List.mem_append_right _ hx)
  have hch : Chn m (p :: c :: t) := by
    refine ⟨?_, Chn.tail (pre := pre) (e1 ▸ I.ch)⟩
    intro b' r' e
    cases e
    refine ⟨hlt c (hmem c (by simp)), ?_⟩
    intro a r2 e
    have := e3 a r2 e
    subst e
    exact (hs a c p (hS a (hmem a (by simp))) (hS c (hmem c (by simp))) hp).mp this
  have hlast : (c :: t).getLast? = some f := by
    have := I.last
    rw [e1, List.getLast?_append] at this
    simpa using this
  have hfp : lt (m f) (m p) := hlt f hf
  refine ⟨hch, ?_, ?_, ?_, ?_, ?_⟩
  · rw [List.getLast?_cons_cons]; exact hlast
  · intro x hx
    rcases List.mem_cons.mp hx with h | h
    · subst h; simp
    · exact List.mem_append_left _ (hmem x h)
  · intro x hx pre2 s2 e
    match pre2, e with
    | [], e =>
      -- the stack is p above f
      simp at e
      obtain ⟨z1, z2, z3⟩ := e
      subst z1; subst z2; subst z3
      rcases List.mem_append.mp hx with h | h
      · rcases e4 rfl with z | ⟨pre3, s3, z, z'⟩
        · rw [I.one z x h, cr_first]; exact Int.le_refl 0
        · rcases I.top x h with w | w
          · subst w; rw [cr_first]; exact Int.le_refl 0
          · have q1 := I.edge x h pre3 s3 z
            have s3S : s3 ∈ S := I.mem s3 (by rw [z]; simp)
            have q2 : ¬ 0 < cr (m c) (m s3) (m p) := fun k => by
              have := (hs c s3 p (hS c hf) (hS s3 s3S) hp).mpr k
              omega
            have q3 : lt (m c) (m s3) := by
              have z4 := Chn.tail (pre := pre3) (z ▸ I.ch)
              exact (z4.1 c [] rfl).1
            have q4 : 0 ≤ cross (sub (m p) (m c)) (sub (m s3) (m c)) := by
              have : cross (sub (m p) (m c)) (sub (m s3) (m c)) = -cr (m c) (m s3) (m p) := by unfold cr cross; grind
              omega
            exact tr0 hfp q3 w q4 q1
      · simp at h; subst h; rw [cr_self]; exact Int.le_refl 0
    | q :: pre3, e' =>
      simp at e'
      obtain ⟨_, e'⟩ := e'
      rcases List.mem_append.mp hx with h | h
      · exact I.edge x h (pre ++ pre3) s2 (by rw [e1, e', List.append_assoc])
      · simp at h
        subst h
        -- f, s2, p in the chain
        have C := hch.ch
        have ln : (x :: c :: t).length = pre3.length + 3 := by rw [e']; simp
        have k1 : (x :: c :: t)[pre3.length + 1]? = some s2 := by rw [e']; simp
        have k2 : (x :: c :: t)[pre3.length + 2]? = some f := by rw [e']; simp
        have := C.cr (i := 0) (j := 1) (l := pre3.length + 2) (by omega) (by omega) (by omega)
        rw [row_at (i := 0) (j := pre3.length + 2) k2 (by omega), row_at (i := 1) (j := pre3.length + 1) k1 (by omega), row_at (i := pre3.length + 2) (j := 0) (x := x) rfl (by omega)] at this
        omega
  · intro x hx
    rcases List.mem_append.mp hx with h | h
    · exact I.top x h
    · simp at h; subst h; exact Or.inr hfp
  · intro h; simp at h
theorem chR_spec (hs : ∀ a b c, A a → A b → A c → (0 < det a b c ↔ 0 < cr (m a) (m b) (m c))) {f : Pt} : ∀ (ps S : List Pt) (b : Pt) (r : List Pt), Inv m f S b r → (∀ x ∈ S, A x) → (∀ x ∈ ps, A x) → f ∈ S → (∀ x ∈ S, ∀ y ∈ ps, lt (m x) (m y)) → ps.Pairwise (fun a b => lt (m a) (m b)) →
    ∃ b' r', chR b r ps = b' :: r' ∧ Inv m f (S ++ ps) b' r' ∧ (b :: ps).getLast? = some b' ∧ r'.length ≤ r.length + ps.length
  | [], S, b, r, I, _, _, _, _, _ => ⟨b, r, rfl, by simpa using I, rfl, by simp⟩
  | p :: ps, S, b, r, I, hS, hps, hf, hlt, hpw => by
    obtain ⟨c, t, e, I2⟩ := I.push hs hS (hps p (by simp)) hf (fun x hx => hlt x hx p (by simp))
    have hpw' := List.pairwise_cons.mp hpw
    obtain ⟨b', r', e2, I3, l, n⟩ := chR_spec hs ps (S ++ [p]) p (c :: t) I2 (by
        intro x hx
        rcases List.mem_append.mp hx with h | h
        · exact hS x h
        · simp at h; subst h; exact hps x (by simp)) (fun x hx => hps x (by simp [hx])) (by simp [hf]) (by
        intro x hx y hy
        rcases List.mem_append.mp hx with h | h
        · exact hlt x h y (by simp [hy])
        · simp at h; subst h; exact hpw'.1 y hy) hpw'.2
    refine ⟨b', r', ?_, by simpa using I3, by rw [List.getLast?_cons_cons]; exact l, ?_⟩
    · rw [chR, e]; exact e2
    · obtain ⟨pre, c2, t2, e1', e2', _, _⟩ := pop_suf p r b
      rw [e] at e2'
      cases e2'
      have : (b :: r).length = (pre ++ c :: t).length := by rw [e1']
      simp at this n ⊢
      omega
theorem Inv.start (f : Pt) : Inv m f [f] f [] := ⟨⟨by simp, trivial⟩, rfl, by simp, by
  intro x _ pre s2 e
  have := congrArg List.length e
  simp at this, by simp, by simp⟩
end
end KC

set_option Elab.async false
set_option linter.all false
set_option maxRecDepth 100000
/-! PH: the law's chain computes the plain one. -/
namespace KC
open PySem PySem.Spec PyProof.Rows L2 DL
noncomputable def inS : D → En → Option Out := fun d env => (tn 3 d env).bind (ifF (andF (tcF dGt (lnF (vnl 1)) (vc (.int 1))) (tcF dLe (callF m__law_turn (consF (ixF (vnl 1) (b1 dNeg (vc (.int 2)))) (consF (ixF (vnl 1) (b1 dNeg (vc (.int 1)))) (consF (vn 2) (nilF))))) (vc (.int 0)))) (mut0F 1 hPop) (nxF))
abbrev pD (ps : List Pt) : List D := ps.map ptD
theorem in0 (d v q : D) (s : Slot) : inS d [.val v, .own [], .val q, s] = some (.nx [.val v, .own [], .val q, .val d]) := by simp [inS]
theorem in1 (d v q b : D) (s : Slot) : inS d [.val v, .own [b], .val q, s] = some (.nx [.val v, .own [b], .val q, .val d]) := by simp [inS]
theorem last2 (a b : Pt) (r : List Pt) : atI (pD (b :: a :: r).reverse) (-2) = some (ptD a) := by
  refine atR (n := r.length) ?_ (by decide) ?_ <;> simp [pD]
  omega
theorem last1 (b : Pt) (r : List Pt) : atI (pD (b :: r).reverse) (-1) = some (ptD b) := by
  refine atR (n := r.length) ?_ (by decide) ?_ <;> simp [pD]
  omega
theorem in2 (d v : D) (s : Slot) (p a b : Pt) (r : List Pt) (hp : p.sm) (ha : a.sm) (hb : b.sm) : inS d [.val v, .own (pD (b :: a :: r).reverse), .val (ptD p), s] = some (.nx [.val v, .own (pD (if det a b p ≤ 0 then a :: r else b :: a :: r).reverse), .val (ptD p), .val d]) := by
  have e1 := last2 a b r
  have e2 := last1 b (a :: r)
  have e3 := m_turn_eq a b p ha hb hp
  have ln : (1 : Int) < (((pD (b :: a :: r).reverse).length : Nat) : Int) := by simp [pD]; omega
  have ne : (pD (b :: a :: r).reverse).isEmpty = false := by simp [pD]
  have dl : (pD (b :: a :: r).reverse).dropLast = pD (a :: r).reverse := by simp [pD]
  by_cases c : det a b p ≤ 0
  · rw [if_pos c]
    generalize pD (b :: a :: r).reverse = L at *
    simp [inS, ln, e1, e2, e3, c, hPop, ne, dl]
  · rw [if_neg c]
    generalize pD (b :: a :: r).reverse = L at *
    simp [inS, ln, e1, e2, e3, c]
theorem inL0 (v q : D) : ∀ (L : List D) (s : Slot), ∃ s', loopF inS L [.val v, .own [], .val q, s] = some (.nx [.val v, .own [], .val q, s'])
  | [], s => ⟨s, rfl⟩
  | d :: L, s => by
    rw [loopF, in0]
    exact inL0 v q L _
theorem inL1 (v q b : D) : ∀ (L : List D) (s : Slot), ∃ s', loopF inS L [.val v, .own [b], .val q, s] = some (.nx [.val v, .own [b], .val q, s'])
  | [], s => ⟨s, rfl⟩
  | d :: L, s => by
    rw [loopF, in1]
    exact inL1 v q b L _
theorem inL2 (v : D) (p a b : Pt) (r : List Pt) (hp : p.sm) (ha : a.sm) (hb : b.sm) (h : ¬ det a b p ≤ 0) : ∀ (L : List D) (s : Slot), ∃ s', loopF inS L [.val v, .own (pD (b :: a :: r).reverse), .val (ptD p), s] = some (.nx [.val v, .own (pD (b :: a :: r).reverse), .val (ptD p), s'])
  | [], s => ⟨s, rfl⟩
  | d :: L, s => by
    rw [loopF, in2 _ _ _ _ _ _ _ hp ha hb, if_neg h]
    exact inL2 v p a b r hp ha hb h L _
theorem inLoop (v : D) (p : Pt) (hp : p.sm) : ∀ (L : List D) (b : Pt) (r : List Pt) (s : Slot), (∀ x ∈ b :: r, x.sm) → r.length ≤ L.length → ∃ s', loopF inS L [.val v, .own (pD (b :: r).reverse), .val (ptD p), s] = some (.nx [.val v, .own (pD (pop p b r).reverse), .val (ptD p), s'])
  | L, b, [], s, _, _ => inL1 v (ptD p) (ptD b) L s
  | [], b, a :: r, s, _, h => by simp at h
  | d :: L, b, a :: r, s, hs, h => by
    have ha := hs a (by simp)
    have hb := hs b (by simp)
    by_cases c : det a b p ≤ 0
    · rw [loopF, in2 _ _ _ _ _ _ _ hp ha hb, if_pos c, pop, if_pos c]
      exact inLoop v p hp L a r _ (fun x hx => hs x (List.mem_cons_of_mem _ hx)) (by simpa using h)
    · rw [pop, if_neg c]
      exact inL2 v p a b r hp ha hb c (d :: L) s
noncomputable def outS : D → En → Option Out := fun d env => (tn 2 d env).bind (seqF (forF (r1F (consF (callF cLen (consF (vn 0) (nilF))) (nilF))) (tn 3) (ifF (andF (tcF dGt (lnF (vnl 1)) (vc (.int 1))) (tcF dLe (callF m__law_turn (consF (ixF (vnl 1) (b1 dNeg (vc (.int 2)))) (consF (ixF (vnl 1) (b1 dNeg (vc (.int 1)))) (consF (vn 2) (nilF))))) (vc (.int 0)))) (mut0F 1 hPop) (nxF)))
  (mutF 1 hApp (vn 2)))
theorem out_of (d : D) (V st st' : List D) (s2 s3 s' : Slot) (hV : V.length ≤ 1000000) (hst : st'.length ≤ 1000000) (h : loopF inS (rangeD 0 V.length) [.val (.list V), .own st, .val d, s3] = some (.nx [.val (.list V), .own st', .val d, s'])) :
    outS d [.val (.list V), .own st, s2, s3] = some (.nx [.val (.list V), .own (st' ++ [d]), .val d, s']) := by
  have hr := rg1_nat V.length hV
  unfold inS at h
  simp -implicitDefEqProofs at h
  simp -implicitDefEqProofs [outS, hr, h, hApp, fits, hst]
theorem pop_len (p b : Pt) (r : List Pt) : (pop p b r).length ≤ r.length + 1 := by
  obtain ⟨pre, c, t, e1, e2, _, _⟩ := pop_suf p r b
  have : (b :: r).length = (pre ++ c :: t).length := by rw [e1]
  rw [e2]
  simp at this ⊢
  omega
theorem outLoop (V : List D) (hV : V.length ≤ 1000000) : ∀ (ps : List Pt) (b : Pt) (r : List Pt) (s2 s3 : Slot), (∀ x ∈ b :: r, x.sm) → (∀ x ∈ ps, x.sm) → r.length + ps.length + 1 ≤ V.length → ∃ s2' s3', loopF outS (pD ps) [.val (.list V), .own (pD (b :: r).reverse), s2, s3] = some (.nx [.val (.list V), .own (pD (chR b r ps).reverse), s2', s3'])
  | [], b, r, s2, s3, _, _, _ => ⟨s2, s3, rfl⟩
  | p :: ps, b, r, s2, s3, hs, hps, hl => by
    simp at hl
    obtain ⟨s', e⟩ := inLoop (.list V) p (hps p (by simp)) (rangeD 0 V.length) b r s3 hs (by rw [range_len]; omega)
    have hn := pop_len p b r
    have e2 := out_of (ptD p) V _ _ s2 s3 s' hV (by simp [pD]; omega) e
    obtain ⟨pre, c, t, e3, e4, _, _⟩ := pop_suf p r b
    rw [pD, List.map_cons, loopF, e2]
    simp only [Option.bind_some]
    rw [e4] at hn ⊢
    have e5 : pD (c :: t).reverse ++ [ptD p] = pD (p :: c :: t).reverse := by simp [pD]
    rw [e5]
    have := outLoop V hV ps p (c :: t) (.val (ptD p)) s' (by
      intro x hx
      rcases List.mem_cons.mp hx with h | h
      · subst h; exact hps x (by simp)
      · exact hs x (by rw [e3]; exact List.mem_append_right _ h)) (fun x hx => hps x (by simp [hx])) (by simp at hn ⊢; omega)
    rw [chR, e4]
    exact this
theorem m_chain_eq (f : Pt) (ps : List Pt) (hf : f.sm) (hps : ∀ x ∈ ps, x.sm) (hl : ps.length ≤ 999999) : m__law_chain [.list (pD (f :: ps))] = some (.list (pD (chR f [] ps).reverse)) := by
  have hV : (pD (f :: ps)).length ≤ 1000000 := by simp [pD]; omega
  obtain ⟨s', e0⟩ := inL0 (.list (pD (f :: ps))) (ptD f) (rangeD 0 (pD (f :: ps)).length) .no
  have e1 := out_of (ptD f) (pD (f :: ps)) [] [] .no .no s' hV (by simp) e0
  obtain ⟨s2, s3, e2⟩ := outLoop (pD (f :: ps)) hV ps f [] (.val (ptD f)) s' (by simpa using hf) hps (by simp [pD])
  have e3 : loopF outS (pD (f :: ps)) [.val (.list (pD (f :: ps))), .own [], .no, .no] = some (.nx [.val (.list (pD (f :: ps))), .own (pD (chR f [] ps).reverse), s2, s3]) := by
    rw [← e2]
    show loopF outS (ptD f :: pD ps) _ = _
    rw [loopF, e1]
    rfl
  generalize pD (f :: ps) = V at *
  unfold outS at e3
  simp -implicitDefEqProofs at e3
  simp -implicitDefEqProofs [m__law_chain, b__law_chain, runF, fitsL, fits, e3]
end KC

set_option Elab.async false
set_option linter.all false
set_option maxRecDepth 100000
/-! PI: the order of the points, and what the hull is. -/
namespace KC
open PG (P2 cr cross sub lt Fw)
theorem lt_total {a b : P2} (h1 : ¬ lt a b) (h2 : ¬ lt b a) : a = b := by
  unfold lt Fw sub at *
  simp only at *
  cases a; cases b
  simp only at *
  congr 1 <;> omega
structure Poly (H : List Pt) : Prop where
  len : 3 ≤ H.length
  nm : ∀ p ∈ H, p.nm
  sm : ∀ p ∈ H, p.sm
  nd : H.Nodup
  turn : ∀ i a b c, H[i]? = some a → H[i + 1]? = some b → H[i + 2]? = some c → 0 < det a b c
  t1 : ∀ a b c, H[H.length - 2]? = some a → H[H.length - 1]? = some b → H[0]? = some c → 0 < det a b c
  t2 : ∀ a b c, H[H.length - 1]? = some a → H[0]? = some b → H[1]? = some c → 0 < det a b c
  fan : ∀ i a b c, 1 ≤ i → H[0]? = some a → H[i]? = some b → H[i + 1]? = some c → 0 < det a b c
  first : ∀ i a b, 1 ≤ i → H[0]? = some a → H[i]? = some b → bef b a = false
/-- two chains that meet make a polygon -/
theorem poly_of {W : Int} (hW : 0 < W) {H : List Pt} {L U : Nat → P2} {k m : Nat} (T : PG.Two L U k m) (hl : H.length = k + m) (h3 : 3 ≤ k + m) (hg : ∀ p ∈ H, Good W p) (hr : ∀ i p, H[i]? = some p → em W p = PG.rnd L U k i) : Poly H := by
  have g : ∀ {i : Nat} {p : Pt}, H[i]? = some p → Good W p := fun h => hg _ (List.mem_of_getElem? h)
  have lt_len : ∀ {i : Nat} {p : Pt}, H[i]? = some p → i < k + m := fun h => hl ▸ (List.getElem?_eq_some_iff.mp h).1
  have r0 : PG.rnd L U k 0 = L 0 := by unfold PG.rnd; rw [if_pos (by have := T.k1; omega)]
  refine ⟨by omega, fun p hp => (hg p hp).nm, fun p hp => (hg p hp).sm, ?_, ?_, ?_, ?_, ?_, ?_⟩
  · rw [List.nodup_iff_pairwise_ne, List.pairwise_iff_getElem]
    intro i j hi hj hij e
    have h1 := hr i _ (List.getElem?_eq_getElem hi)
    have h2 := hr j _ (List.getElem?_eq_getElem hj)
    rw [e, h2] at h1
    exact T.ne hij (by omega) h1.symm
  · intro i a b c ha hb hc
    rw [em_pos hW (g ha) (g hb) (g hc), hr _ _ ha, hr _ _ hb, hr _ _ hc]
    exact T.turn (lt_len hc)
  · intro a b c ha hb hc
    rw [em_pos hW (g ha) (g hb) (g hc), hr _ _ ha, hr _ _ hb, hr _ _ hc, hl, r0]
    exact T.turn1 h3
  · intro a b c ha hb hc
    rw [em_pos hW (g ha) (g hb) (g hc), hr _ _ ha, hr _ _ hb, hr _ _ hc, hl, r0]
    exact T.turn2 h3
  · intro i a b c hi ha hb hc
    rw [em_pos hW (g ha) (g hb) (g hc), hr _ _ ha, hr _ _ hb, hr _ _ hc, r0]
    exact T.fan hi (lt_len hc)
  · intro i a b hi ha hb
    have := T.first hi (lt_len hb)
    rw [← r0, ← hr _ _ ha, ← hr _ _ hb] at this
    have h2 := PG.lt_asymm this
    rw [em_lt hW (g hb) (g ha)] at h2
    simpa using h2
/-! ### putting in -/
def Srt (W : Int) (os : List Pt) : Prop := os.Pairwise (fun a b => lt (em W a) (em W b))
def cntB (p : Pt) (os : List Pt) : Nat := (os.filter (fun q => bef q p)).length
def insP (os : List Pt) (p : Pt) : List Pt := if p ∈ os then os else os.take (cntB p os) ++ [p] ++ os.drop (cntB p os)
theorem cnt_split {W : Int} (hW : 0 < W) {p : Pt} (hp : Good W p) : ∀ {os : List Pt}, (∀ x ∈ os, Good W x) → Srt W os → p ∉ os → (∀ x ∈ os.take (cntB p os), lt (em W x) (em W p)) ∧ (∀ x ∈ os.drop (cntB p os), lt (em W p) (em W x))
  | [], _, _, _ => by simp [cntB]
  | q :: r, hg, hs, hn => by
    have hq := hg q (by simp)
    have hs' := List.pairwise_cons.mp hs
    have ih := cnt_split hW hp (os := r) (fun x hx => hg x (by simp [hx])) hs'.2 (fun h => hn (by simp [h]))
    by_cases c : bef q p = true
    · have e : cntB p (q :: r) = cntB p r + 1 := by simp [cntB, c]
      rw [e, List.take_succ_cons, List.drop_succ_cons]
      refine ⟨?_, ih.2⟩
      intro x hx
      rcases List.mem_cons.mp hx with h | h
      · subst h; exact (em_lt hW hq hp).mpr c
      · exact ih.1 x h
    · have hlt : lt (em W p) (em W q) := by
        by_cases z : lt (em W p) (em W q)
        · exact z
        · exfalso
          have z2 : ¬ lt (em W q) (em W p) := fun h => c ((em_lt hW hq hp).mp h)
          exact hn (by rw [em_inj hW hp hq (lt_total z z2)]; simp)
      have hall : ∀ x ∈ q :: r, lt (em W p) (em W x) := by
        intro x hx
        rcases List.mem_cons.mp hx with h | h
        · subst h; exact hlt
        · exact PG.lt_trans hlt (hs'.1 x h)
      have e : cntB p (q :: r) = 0 := by
        unfold cntB
        rw [List.length_eq_zero_iff, List.filter_eq_nil_iff]
        intro x hx hb
        exact PG.lt_asymm (hall x hx) ((em_lt hW (hg x hx) hp).mpr hb)
      rw [e]
      exact ⟨by simp, hall⟩
theorem insP_mem (os : List Pt) (p x : Pt) : x ∈ insP os p ↔ x = p ∨ x ∈ os := by
  unfold insP
  by_cases c : p ∈ os
  · rw [if_pos c]
    exact ⟨Or.inr, fun h => h.elim (fun e => e ▸ c) id⟩
  · rw [if_neg c]
    have : x ∈ os ↔ x ∈ os.take (cntB p os) ∨ x ∈ os.drop (cntB p os) := by
      rw [← List.mem_append, List.take_append_drop]
    rw [this]
    simp only [List.mem_append, List.mem_singleton]
    constructor
    · rintro ((h | h) | h)
      · exact Or.inr (Or.inl h)
      · exact Or.inl h
      · exact Or.inr (Or.inr h)
    · rintro (h | h | h)
      · exact Or.inl (Or.inr h)
      · exact Or.inl (Or.inl h)
      · exact Or.inr h
theorem insP_len (os : List Pt) (p : Pt) : (insP os p).length ≤ os.length + 1 := by
  unfold insP
  split
  · omega
  · simp; omega
theorem insP_srt {W : Int} (hW : 0 < W) {p : Pt} (hp : Good W p) {os : List Pt} (hg : ∀ x ∈ os, Good W x) (hs : Srt W os) : Srt W (insP os p) := by
  unfold insP
  by_cases c : p ∈ os
  · rw [if_pos c]; exact hs
  · rw [if_neg c]
    obtain ⟨h1, h2⟩ := cnt_split hW hp hg hs c
    have hs2 := hs
    unfold Srt at hs2
    rw [← List.take_append_drop (cntB p os) os, List.pairwise_append] at hs2
    unfold Srt
    rw [List.append_assoc, List.pairwise_append]
    refine ⟨hs2.1, ?_, ?_⟩
    · rw [List.singleton_append, List.pairwise_cons]
      exact ⟨h2, hs2.2.1⟩
    · intro a ha b hb
      rw [List.singleton_append] at hb
      rcases List.mem_cons.mp hb with h | h
      · subst h; exact h1 a ha
      · exact hs2.2.2 a ha b h
theorem fold_spec {W : Int} (hW : 0 < W) : ∀ (ps os : List Pt), (∀ x ∈ ps, Good W x) → (∀ x ∈ os, Good W x) → Srt W os → Srt W (ps.foldl insP os) ∧ (∀ x, x ∈ ps.foldl insP os ↔ x ∈ ps ∨ x ∈ os) ∧ (ps.foldl insP os).length ≤ os.length + ps.length
  | [], os, _, _, hs => ⟨hs, by simp, by simp⟩
  | p :: ps, os, hg, ho, hs => by
    obtain ⟨a, b, c⟩ := fold_spec hW ps (insP os p) (fun x hx => hg x (by simp [hx])) (fun x hx => by
      rcases (insP_mem os p x).mp hx with h | h
      · subst h; exact hg x (by simp)
      · exact ho x h) (insP_srt hW (hg p (by simp)) ho hs)
    refine ⟨a, ?_, ?_⟩
    · intro x
      rw [List.foldl_cons, b, insP_mem, List.mem_cons]
      constructor
      · rintro (h | h | h)
        · exact Or.inl (Or.inr h)
        · exact Or.inl (Or.inl h)
        · exact Or.inr h
      · rintro ((h | h) | h)
        · exact Or.inr (Or.inl h)
        · exact Or.inl h
        · exact Or.inr (Or.inr h)
    · have := insP_len os p
      rw [List.foldl_cons, List.length_cons]
      omega
/-! ### the hull -/
theorem getLast_row {m : Pt → P2} {l : List Pt} {f : Pt} (h : l.getLast? = some f) : row m l 0 = m f := by
  rw [List.getLast?_eq_getElem?] at h
  exact row_at h (by omega)
theorem head_row {m : Pt → P2} {b : Pt} {r : List Pt} : row m (b :: r) r.length = m b := row_at (j := 0) rfl (by simp)
theorem rev_at {l : List Pt} {i : Nat} {p : Pt} (h : l.reverse.dropLast[i]? = some p) (m : Pt → P2) : i < l.length - 1 ∧ m p = row m l i := by
  have hi : i < l.length - 1 := by
    have := (List.getElem?_eq_some_iff.mp h).1
    simpa using this
  refine ⟨hi, ?_⟩
  rw [List.getElem?_dropLast, if_pos (by simpa using hi), List.getElem?_reverse (by omega)] at h
  exact (row_at h rfl).symm
theorem col_zero {f l a b c : P2} (hfl : lt f l) (ha : cr f l a = 0) (hb : cr f l b = 0) (hc : cr f l c = 0) : cr a b c = 0 := by
  unfold lt Fw sub at hfl
  simp only at hfl
  have e1 : (l.x - f.x) * cr a b c = 0 := by unfold cr cross sub at *; simp only at *; grind
  have e2 : (l.y - f.y) * cr a b c = 0 := by unfold cr cross sub at *; simp only at *; grind
  rcases Int.mul_eq_zero.mp e1 with h | h
  · rcases Int.mul_eq_zero.mp e2 with h2 | h2
    · omega
    · exact h2
  · exact h
def loC (os : List Pt) : List Pt := match os with
  | [] => []
  | f :: r => chR f [] r
def hullL (os : List Pt) : List Pt := (loC os).reverse.dropLast ++ (loC os.reverse).reverse.dropLast
theorem cr_zero_det {W : Int} (hW : 0 < W) {a b c : Pt} (ha : Good W a) (hb : Good W b) (hc : Good W c) (h : cr (em W a) (em W b) (em W c) = 0) : det a b c = 0 := by
  have e := em_det ha hb hc
  rw [h, Int.mul_zero] at e
  rcases Int.mul_eq_zero.mp e with z | z
  · exact z
  · have := Int.mul_pos hW hW; omega
theorem det_same1 (a b : Pt) : det a a b = 0 := by unfold det; grind
theorem det_same2 (a b : Pt) : det a b a = 0 := by unfold det; grind
theorem det_same3 (a b : Pt) : det a b b = 0 := by unfold det; grind
theorem few {os : List Pt} (h : os.length < 3) (hp : ∀ a b c, a ∈ os → b ∈ os → c ∈ os → a ≠ b → b ≠ c → a ≠ c → False) : True := trivial
theorem few_det {os : List Pt} (h : os.length < 3) {a b c : Pt} (ha : a ∈ os) (hb : b ∈ os) (hc : c ∈ os) : det a b c = 0 := by
  match os, h with
  | [], _ => simp at ha
  | [x], _ => simp at ha hb hc; subst ha; subst hb; exact det_same1 _ _
  | [x, y], _ =>
    simp at ha hb hc
    rcases ha with h | h <;> rcases hb with h2 | h2 <;> rcases hc with h3 | h3 <;> subst h <;> subst h2 <;> first | exact det_same1 _ _ | (subst h3; first | exact det_same1 _ _ | exact det_same2 _ _ | exact det_same3 _ _)
theorem hull_two {W : Int} (hW : 0 < W) {os : List Pt} (hg : ∀ x ∈ os, Good W x) (hs : Srt W os) (h3 : 3 ≤ os.length) :
    (3 ≤ (hullL os).length → Poly (hullL os)) ∧ ((hullL os).length < 3 → ∀ a b c, a ∈ os → b ∈ os → c ∈ os → det a b c = 0) ∧ (∀ x ∈ hullL os, x ∈ os) ∧ (hullL os).length ≤ 2 * os.length := by
  obtain ⟨f, r, eo⟩ : ∃ f r, os = f :: r := by
    cases os with
    | nil => simp at h3
    | cons f r => exact ⟨f, r, rfl⟩
  obtain ⟨l, q, er⟩ : ∃ l q, os.reverse = l :: q := by
    cases h : os.reverse with
    | nil => rw [List.reverse_eq_nil_iff] at h; subst h; simp at h3
    | cons l q => exact ⟨l, q, rfl⟩
  have hsr : (l :: q).Pairwise (fun a b => lt (PG.neg (em W a)) (PG.neg (em W b))) := by
    rw [← er, List.pairwise_reverse]
    exact List.Pairwise.imp (fun h => PG.lt_neg h) hs
  have hs1 : (f :: r).Pairwise (fun a b => lt (em W a) (em W b)) := eo ▸ hs
  have mo : ∀ x, x ∈ os ↔ x ∈ f :: r := by intro x; rw [eo]
  have mr : ∀ x, x ∈ os ↔ x ∈ l :: q := by intro x; rw [← er, List.mem_reverse]
  obtain ⟨b1, r1, c1, I1, t1, n1⟩ := chR_spec (m := em W) (A := Good W) (fun a b c ha hb hc => em_pos hW ha hb hc) (f := f) r [f] f [] (Inv.start f) (fun x hx => hg x ((mo x).mpr (by simp at hx; simp [hx]))) (fun x hx => hg x ((mo x).mpr (by simp [hx]))) (by simp) (by
    intro x hx y hy
    simp at hx
    subst hx
    exact (List.pairwise_cons.mp hs1).1 y hy) (List.pairwise_cons.mp hs1).2
  obtain ⟨b2, r2, c2, I2, t2, n2⟩ := chR_spec (m := fun p => PG.neg (em W p)) (A := Good W) (fun a b c ha hb hc => by rw [PG.cr_neg]; exact em_pos hW ha hb hc) (f := l) q [l] l [] (Inv.start l) (fun x hx => hg x ((mr x).mpr (by simp at hx; simp [hx]))) (fun x hx => hg x ((mr x).mpr (by simp [hx]))) (by simp) (by
    intro x hx y hy
    simp at hx
    subst hx
    exact (List.pairwise_cons.mp hsr).1 y hy) (List.pairwise_cons.mp hsr).2
  have tl : (f :: r).getLast? = some l := by
    have : os.getLast? = some l := by rw [List.getLast?_eq_head?_reverse, er]; rfl
    rw [← eo]; exact this
  have tf : (l :: q).getLast? = some f := by
    rw [← er, List.getLast?_reverse, eo]; rfl
  rw [tl] at t1
  rw [tf] at t2
  cases t1
  cases t2
  have lr : r.length + 1 = os.length := by rw [eo]; rfl
  have lq : q.length + 1 = os.length := by have := congrArg List.length er; simp at this; omega
  have hr1 : r1 ≠ [] := by
    intro z
    have := I1.one z
    match r, lr with
    | [], lr => simp at lr; omega
    | y :: r', _ =>
      have e1 := this y (by simp)
      have e2 := (List.pairwise_cons.mp hs1).1 y (by simp)
      rw [e1] at e2
      exact PG.lt_irrefl _ e2
  have hr2 : r2 ≠ [] := by
    intro z
    have := I2.one z
    match q, lq with
    | [], lq => simp at lq; omega
    | y :: r', _ =>
      have e1 := this y (by simp)
      have e2 := (List.pairwise_cons.mp hsr).1 y (by simp)
      rw [e1] at e2
      exact PG.lt_irrefl _ e2
  have k1 : 1 ≤ r1.length := List.length_pos_iff.mpr hr1
  have k2 : 1 ≤ r2.length := List.length_pos_iff.mpr hr2
  have eL : loC os = l :: r1 := by rw [eo]; exact c1
  have eU : loC os.reverse = f :: r2 := by rw [er]; exact c2
  have T : PG.Two (row (em W) (l :: r1)) (row (em W) (f :: r2)) r1.length r2.length := by
    refine ⟨by simpa using I1.ch.ch, ?_, k1, k2, ?_, ?_⟩
    · have C := I2.ch.ch
      constructor
      · intro i hi
        have := PG.lt_neg (C.up i (by simpa using hi))
        have h2 := this
        unfold row at h2
        rw [PG.neg_neg, PG.neg_neg] at h2
        exact h2
      · intro i hi
        have := C.tn i (by simpa using hi)
        unfold row at this
        rw [PG.cr_neg] at this
        exact this
    · rw [head_row, getLast_row I1.last]
    · rw [head_row, getLast_row I2.last]
  have hlen : (hullL os).length = r1.length + r2.length := by unfold hullL; rw [eL, eU]; simp
  have hmem : ∀ x ∈ hullL os, x ∈ os := by
    intro x hx
    unfold hullL at hx
    rw [eL, eU] at hx
    rcases List.mem_append.mp hx with h | h
    · have := List.mem_reverse.mp ((List.dropLast_sublist _).subset h)
      have := I1.mem x this
      exact (mo x).mpr (by simpa using this)
    · have := List.mem_reverse.mp ((List.dropLast_sublist _).subset h)
      have := I2.mem x this
      exact (mr x).mpr (by simpa using this)
  refine ⟨?_, ?_, hmem, by rw [hlen]; simp at n1 n2; omega⟩
  · intro h
    refine poly_of hW T hlen (by omega) (fun p hp => hg p (hmem p hp)) ?_
    intro i p hi
    unfold hullL at hi
    rw [eL, eU] at hi
    unfold PG.rnd
    by_cases c : i < r1.length
    · rw [List.getElem?_append_left (by simpa using c)] at hi
      rw [if_pos c]
      exact (rev_at hi (em W)).2
    · rw [List.getElem?_append_right (by simp; omega)] at hi
      rw [if_neg c]
      have := (rev_at hi (em W)).2
      rw [this]
      simp
  · intro h a b c ha hb hc
    have z1 : r1.length = 1 := by omega
    have z2 : r2.length = 1 := by omega
    obtain ⟨f', e1⟩ : ∃ f', r1 = [f'] := List.length_eq_one_iff.mp z1
    obtain ⟨l', e2⟩ : ∃ l', r2 = [l'] := List.length_eq_one_iff.mp z2
    subst e1
    subst e2
    have y1 : f' = f := by simpa using I1.last
    have y2 : l' = l := by simpa using I2.last
    subst y1
    subst y2
    have hz : ∀ x ∈ os, cr (em W f') (em W l') (em W x) = 0 := by
      intro x hx
      have g1 := I1.edge x (by simpa using (mo x).mp hx) [] l' rfl
      have g2 := I2.edge x (by simpa using (mr x).mp hx) [] f' rfl
      rw [PG.cr_neg, PG.cr_swap] at g2
      omega
    have hfl : lt (em W f') (em W l') := by
      have := T.lo.lt (i := 0) (j := 1) (by omega) (by simp)
      rw [getLast_row I1.last] at this
      have e : row (em W) [l', f'] 1 = em W l' := head_row (r := [f'])
      rwa [e] at this
    exact cr_zero_det hW (hg a ha) (hg b hb) (hg c hc) (col_zero hfl (hz a ha) (hz b hb) (hz c hc))
end KC

set_option Elab.async false
set_option linter.all false
set_option maxRecDepth 100000
/-! PJ: the law's hull. -/
namespace KC
open PySem PySem.Spec PyProof.Rows L2 DL
noncomputable def hlS : D → En → Option Out := fun d env => (tn 2 d env).bind (ifF (tcF dNotIn (vn 2) (vn 1)) (seqF (asgF (lnF (lcF [5] (iaF (vn 1)) (tn 5) (tvF (callF m__law_before (consF (vn 5) (consF (vn 2) (nilF))))) (vn 5))) (tn 4))
  (asgF (toL (catF (catF (loF (dslF (vn 1) (onF) (oiF (vn 4)))) (lstF (consF (vn 2) (nilF)))) (loF (dslF (vn 1) (oiF (vn 4)) (onF))))) (tn 1))) (nxF))
theorem lc_before (p : Pt) (hp : p.sm) (v0 v1 s3 s4 : Slot) : ∀ (os : List Pt), (∀ x ∈ os, x.sm) → lcL (tn 5) (tvF (callF m__law_before (consF (vn 5) (consF (vn 2) (nilF))))) (vn 5) [v0, v1, .val (ptD p), s3, s4, .no] (pD os) = some (pD (os.filter (fun q => bef q p)))
  | [], _ => rfl
  | q :: os, h => by
    have ih := lc_before p hp v0 v1 s3 s4 os (fun x hx => h x (by simp [hx]))
    have e := m_before_eq q p (h q (by simp)) hp
    rw [pD, List.map_cons, lcL]
    by_cases c : bef q p = true
    · rw [c] at e
      simp -implicitDefEqProofs [e, ih, c]
    · rw [Bool.not_eq_true] at c
      rw [c] at e
      simp -implicitDefEqProofs [e, ih, c]
theorem hl1 (p : Pt) (hp : p.sm) (v : D) (os : List Pt) (hs : ∀ x ∈ os, x.sm) (hl : os.length < 1000000) (s2 s3 s4 s5 : Slot) : ∃ s4', hlS (ptD p) [.val v, .val (.list (pD os)), s2, s3, s4, s5] = some (.nx [.val v, .val (.list (pD (insP os p))), .val (ptD p), s3, s4', s5]) := by
  have hin : dIn (ptD p) (.list (pD os)) = some (.bool (decide (p ∈ os))) := dIn_pts p os
  by_cases c : p ∈ os
  · refine ⟨s4, ?_⟩
    unfold insP
    rw [if_pos c]
    rw [decide_eq_true c] at hin
    simp -implicitDefEqProofs [hlS, dNotIn, hin, dNot]
  · refine ⟨.val (.int (cntB p os : Nat)), ?_⟩
    unfold insP
    rw [if_neg c]
    rw [decide_eq_false c] at hin
    have e1 := lc_before p hp (.val v) (.val (.list (pD os))) s3 s4 os hs
    have cl : cntB p os ≤ os.length := List.length_filter_le _ _
    have e2 := cut_take (pD os) (cntB p os) (by simpa using cl)
    have e3 := cut_drop (pD os) (cntB p os) (by simpa using cl)
    have f1 : (pD os).length ≤ 1000000 := by simp; omega
    have f2 : (pD (os.filter (fun q => bef q p))).length = cntB p os := by simp [cntB]
    have f3 : ((pD os).take (cntB p os) ++ [ptD p]).length ≤ 1000000 := by simp; omega
    have f4 : ((pD os).take (cntB p os) ++ [ptD p] ++ (pD os).drop (cntB p os)).length ≤ 1000000 := by simp; omega
    have f5 : (pD os).take (cntB p os) ++ [ptD p] ++ (pD os).drop (cntB p os) = pD (os.take (cntB p os) ++ [p] ++ os.drop (cntB p os)) := by simp [pD]
    rw [← f5]
    generalize pD os = V at *
    simp -implicitDefEqProofs only [hlS, dNotIn, hin, dNot, e_tn, e_ifF, e_tcF, e_b2, e_vn, Option.bind_some, Option.map_some, List.getElem?_cons_zero, List.getElem?_cons_succ, List.set_cons_zero, List.set_cons_succ, e_boolOf, Bool.not_false, if_true, e_seqF, e_asgF, e_lnF, e_lcF, e_iaF, e_tlOfL, Option.some_or, f1, wipeE, e1, f2, e_toL, e_catF, e_loF, e_dslF, e_onF, e_oiF, e_intOf, dCut, e2, e3, e_lsOf, e_lstF, e_consF, e_nilF, fitsL, fits, f3, f4, decide_true, List.length_cons, List.length_nil]
    have f3' := f3
    have f4' := f4
    simp at f3' f4'
    simp [f3', show min (cntB p os) V.length + 1 + (V.length - cntB p os) ≤ 1000000 by omega]
theorem hlLoop (v : D) : ∀ (ps os : List Pt) (s2 s3 s4 s5 : Slot), (∀ x ∈ ps, x.sm) → (∀ x ∈ os, x.sm) → os.length + ps.length < 1000000 → ∃ s2' s4', loopF hlS (pD ps) [.val v, .val (.list (pD os)), s2, s3, s4, s5] = some (.nx [.val v, .val (.list (pD (ps.foldl insP os))), s2', s3, s4', s5])
  | [], os, s2, s3, s4, s5, _, _, _ => ⟨s2, s4, rfl⟩
  | p :: ps, os, s2, s3, s4, s5, hp, ho, hl => by
    simp at hl
    have hn := insP_len os p
    obtain ⟨s4', e⟩ := hl1 p (hp p (by simp)) v os ho (by omega) s2 s3 s4 s5
    rw [pD, List.map_cons, loopF, e]
    exact hlLoop v ps (insP os p) _ s3 s4' s5 (fun x hx => hp x (by simp [hx])) (fun x hx => by
      rcases (insP_mem os p x).mp hx with h | h
      · subst h; exact hp x (by simp)
      · exact ho x h) (by omega)
theorem m_chain_lo (os : List Pt) (h : os ≠ []) (hs : ∀ x ∈ os, x.sm) (hl : os.length < 1000000) : m__law_chain [.list (pD os)] = some (.list (pD (loC os).reverse)) := by
  cases os with
  | nil => exact absurd rfl h
  | cons f r => exact m_chain_eq f r (hs f (by simp)) (fun x hx => hs x (by simp [hx])) (by simp at hl; omega)
theorem dl_pD (l : List Pt) : (pD l).dropLast = pD l.dropLast := by simp [pD]
theorem m_hull_eq {W : Int} (hW : 0 < W) (ps : List Pt) (hg : ∀ x ∈ ps, Good W x) (hl : ps.length ≤ 1000) :
    (m__law_hull [.list (pD ps)] = some .none ∧ ∀ a b c, a ∈ ps → b ∈ ps → c ∈ ps → det a b c = 0) ∨ ∃ H : List Pt, m__law_hull [.list (pD ps)] = some (.tuple (pD H)) ∧ Poly H ∧ (∀ x ∈ H, x ∈ ps) ∧ H.length ≤ 2 * ps.length := by
  obtain ⟨hs, hm, hn⟩ := fold_spec hW ps [] hg (by simp) List.Pairwise.nil
  obtain ⟨s2', s4', e⟩ := hlLoop (.list (pD ps)) ps [] .no .no .no .no (fun x hx => (hg x hx).sm) (by simp) (by simp; omega)
  generalize ps.foldl insP [] = os at *
  simp at hn
  have hm' : ∀ x, x ∈ os ↔ x ∈ ps := by simpa using hm
  have hgo : ∀ x ∈ os, Good W x := fun x hx => hg x ((hm' x).mp hx)
  unfold hlS at e
  simp -implicitDefEqProofs only [pD, List.map_nil] at e
  have key : ∀ o, (seqF (ifF (tcF dLt (callF cLen (consF (vn 1) (nilF))) (vc (.int 3))) (retF (vc .none)) (nxF))
  (seqF (asgF (b2 dAdd (dslF (callF m__law_chain (consF (vn 1) (nilF))) (onF) (oiF (b1 dNeg (vc (.int 1))))) (dslF (callF m__law_chain (consF (toL (revF (vnl 1))) (nilF))) (onF) (oiF (b1 dNeg (vc (.int 1)))))) (tn 3))
  (seqF (ifF (tcF dLt (callF cLen (consF (vn 3) (nilF))) (vc (.int 3))) (retF (vc .none)) (nxF))
  (retF (callF cTuple (consF (vn 3) (nilF))))))) [.val (.list (pD ps)), .val (.list (pD os)), s2', .no, s4', .no] = some (.rt o) → m__law_hull [.list (pD ps)] = some o := by
    intro o ho
    simp -implicitDefEqProofs only [m__law_hull, b__law_hull, runF]
    rw [show (([.list (pD ps)] : List D).map Slot.val ++ List.replicate (6 - ([.list (pD ps)] : List D).length) Slot.no) = [.val (.list (pD ps)), .no, .no, .no, .no, .no] from rfl]
    rw [e_seqF]
    have a1 : asgF (toL (lstF nilF)) (tn 1) [.val (.list (pD ps)), .no, .no, .no, .no, .no] = some (.nx [.val (.list (pD ps)), .val (.list []), .no, .no, .no, .no]) := by simp [fitsL, fits]
    rw [a1]
    simp only [Option.bind_some]
    rw [e_seqF, e_forF]
    have a2 : iaF (vn 0) [.val (.list (pD ps)), .val (.list []), .no, .no, .no, .no] = some (pD ps) := by simp
    rw [a2]
    simp only [Option.bind_some]
    rw [e]
    simp only [Option.bind_some]
    rw [ho]
    rfl
  by_cases h3 : os.length < 3
  · left
    refine ⟨key _ ?_, fun a b c ha hb hc => few_det h3 ((hm' a).mpr ha) ((hm' b).mpr hb) ((hm' c).mpr hc)⟩
    have : ((pD os).length : Int) < 3 := by simp; omega
    simp only [e_seqF, e_ifF, e_tcF, e_b2, e_callF, e_consF, e_nilF, e_vn, e_vc, List.getElem?_cons_zero, List.getElem?_cons_succ, Option.bind_some, Option.map_some, e_cLenL, e_dLt, this, decide_true, e_boolOf, if_true, e_retF]
  · obtain ⟨q1, q2, q3, q4⟩ := hull_two hW hgo hs (by omega)
    have ne : os ≠ [] := by intro z; subst z; simp at h3
    have c1 := m_chain_lo os ne (fun x hx => (hgo x hx).sm) (by omega)
    have c2 := m_chain_lo os.reverse (by simpa using ne) (fun x hx => (hgo x (List.mem_reverse.mp hx)).sm) (by simp; omega)
    have n1 : ¬ ((pD os).length : Int) < 3 := by simp; omega
    have eR : (pD os).reverse = pD os.reverse := by simp [pD]
    have eH : (pD (loC os).reverse).dropLast ++ (pD (loC os.reverse).reverse).dropLast = pD (hullL os) := by
      rw [dl_pD, dl_pD]; simp [pD, hullL]
    have fH : fits ((pD (loC os).reverse).dropLast.length + (pD (loC os.reverse).reverse).dropLast.length) = true := by
      rw [← List.length_append, eH]
      simp [fits]; omega
    have asg : ∀ v0 s2 s4 s5, asgF (b2 dAdd (dslF (callF m__law_chain (consF (vn 1) (nilF))) (onF) (oiF (b1 dNeg (vc (.int 1))))) (dslF (callF m__law_chain (consF (toL (revF (vnl 1))) (nilF))) (onF) (oiF (b1 dNeg (vc (.int 1)))))) (tn 3) [v0, .val (.list (pD os)), s2, .no, s4, s5] = some (.nx [v0, .val (.list (pD os)), s2, .val (.list (pD (hullL os))), s4, s5]) := by
      intro v0 s2 s4 s5
      have hd : dAdd (.list ((pD (loC os).reverse).dropLast)) (.list ((pD (loC os.reverse).reverse).dropLast)) = some (.list (pD (hullL os))) := by
        unfold dAdd
        simp only
        rw [if_pos fH, eH]
      simp -implicitDefEqProofs only [e_asgF, e_b2, e_dslF, e_callF, e_consF, e_nilF, e_vn, e_vc, e_onF, e_oiF, e_b1, e_toL, e_revF, e_vnl, List.getElem?_cons_zero, List.getElem?_cons_succ, Option.bind_some, Option.map_some, c1, eR, c2, e_dNeg, e_intOf, dCut, cut_last, hd, e_tn, List.set_cons_zero, List.set_cons_succ]
    by_cases h4 : (hullL os).length < 3
    · left
      refine ⟨key _ ?_, fun a b c ha hb hc => q2 h4 a b c ((hm' a).mpr ha) ((hm' b).mpr hb) ((hm' c).mpr hc)⟩
      have n2 : ((pD (hullL os)).length : Int) < 3 := by simp; omega
      rw [e_seqF, e_ifF]
      simp only [e_tcF, e_b2, e_callF, e_consF, e_nilF, e_vn, e_vc, List.getElem?_cons_zero, List.getElem?_cons_succ, Option.bind_some, Option.map_some, e_cLenL, e_dLt, n1, decide_false, e_boolOf, Bool.false_eq_true, if_false, e_nxF]
      rw [e_seqF, asg]
      simp only [Option.bind_some]
      simp only [e_seqF, e_ifF, e_tcF, e_b2, e_callF, e_consF, e_nilF, e_vn, e_vc, List.getElem?_cons_zero, List.getElem?_cons_succ, Option.bind_some, Option.map_some, e_cLenL, e_dLt, n2, decide_true, e_boolOf, if_true, e_retF]
    · right
      refine ⟨hullL os, key _ ?_, q1 (by omega), fun x hx => (hm' x).mp (q3 x hx), by omega⟩
      have n2 : ¬ ((pD (hullL os)).length : Int) < 3 := by simp; omega
      rw [e_seqF, e_ifF]
      simp only [e_tcF, e_b2, e_callF, e_consF, e_nilF, e_vn, e_vc, List.getElem?_cons_zero, List.getElem?_cons_succ, Option.bind_some, Option.map_some, e_cLenL, e_dLt, n1, decide_false, e_boolOf, Bool.false_eq_true, if_false, e_nxF]
      rw [e_seqF, asg]
      simp only [Option.bind_some]
      simp only [e_seqF, e_ifF, e_tcF, e_b2, e_callF, e_consF, e_nilF, e_vn, e_vc, List.getElem?_cons_zero, List.getElem?_cons_succ, Option.bind_some, Option.map_some, e_cLenL, e_dLt, n2, decide_false, e_boolOf, Bool.false_eq_true, if_false, e_retF, e_nxF, e_cTupL]
end KC

set_option Elab.async false
set_option linter.all false
set_option maxRecDepth 100000
/-! PK: the law's polygons. -/
namespace KC
open PySem PySem.Spec PyProof.Rows L2 DL
structure Bx (n : Nat) (p : Pt) : Prop where
  x : p.x.natAbs ≤ n
  y : p.y.natAbs ≤ n
  w : p.w.natAbs ≤ n
theorem Bx.sm {n : Nat} {p : Pt} (h : Bx n p) (hn : n < 18446744073709551616) : p.sm := ⟨by unfold KC.sm; have := h.x; omega, by unfold KC.sm; have := h.y; omega, by unfold KC.sm; have := h.w; omega⟩
theorem Bx.mono {n m : Nat} {p : Pt} (h : Bx n p) (k : n ≤ m) : Bx m p := ⟨Nat.le_trans h.x k, Nat.le_trans h.y k, Nat.le_trans h.w k⟩
theorem abs_div {g : Nat} {x a : Int} (hg : 0 < g) (e : x = (g : Int) * a) : a.natAbs ≤ x.natAbs := by
  rw [e, Int.natAbs_mul, Int.natAbs_natCast]
  exact Nat.le_mul_of_pos_left _ hg
theorem abs_mul {u v : Int} {a b : Nat} (h : u.natAbs ≤ a) (k : v.natAbs ≤ b) : (u * v).natAbs ≤ a * b := by
  rw [Int.natAbs_mul]
  exact Nat.mul_le_mul h k
theorem bd_at {qs ss : List Int} (b : Bd qs ss) {n : Nat} {s : Int} (h : ss[n]? = some s) : ∃ a, qs[n]? = some a ∧ 0 ≤ a ∧ a < s := by
  have hn : n < ss.length := (List.getElem?_eq_some_iff.mp h).1
  have hn2 : n < qs.length := by rw [b.1]; exact hn
  exact ⟨qs[n], List.getElem?_eq_getElem hn2, b.2 n _ s (List.getElem?_eq_getElem hn2) h⟩
theorem at_int {qs : List Int} {n : Nat} {a i : Int} (h : qs[n]? = some a) (e : i = (n : Nat)) : atI (qs.map PyData.int) i = some (.int a) := atN (n := n) (by rw [List.getElem?_map, h]; rfl) e
abbrev szs : List Int := [4, 3, 7, 7, 7, 7, 7, 7, 7, 7, 7, 7]
noncomputable def plS : D → En → Option Out := fun d env => (tn 4 d env).bind (mutF 3 hApp (callF m__law_point (consF (b2 dIx (vn 1) (b2 dAdd (vc (.int 2)) (b2 dMul (vc (.int 2)) (vn 4)))) (consF (b2 dIx (vn 1) (b2 dAdd (vc (.int 3)) (b2 dMul (vc (.int 2)) (vn 4)))) (consF (vn 2) (nilF))))))
theorem pl1 (c : D) (qs : List Int) (b : Bd qs szs) (w : Int) (hw : 0 < w) (hw3 : w ≤ 3) (k : Nat) (hk : k ≤ 4) (ps : List Pt) (hl : ps.length ≤ 1000000) (s4 s5 : Slot) :
    ∃ p, plS (.int (k : Nat)) [.val c, .val (.list (qs.map PyData.int)), .val (.int w), .own (pD ps), s4, s5] = some (.nx [.val c, .val (.list (qs.map PyData.int)), .val (.int w), .own (pD (ps ++ [p])), .val (.int (k : Nat)), s5]) ∧ Good w p ∧ Bx 7 p := by
  have hz : szs[2 + 2 * k]? = some 7 ∧ szs[3 + 2 * k]? = some 7 := by
    have : k = 0 ∨ k = 1 ∨ k = 2 ∨ k = 3 ∨ k = 4 := by omega
    rcases this with h | h | h | h | h <;> subst h <;> exact ⟨rfl, rfl⟩
  obtain ⟨x, x1, x2, x3⟩ := bd_at b hz.1
  obtain ⟨y, y1, y2, y3⟩ := bd_at b hz.2
  obtain ⟨p, g, e, nm, g0, ex, ey, ew⟩ := m_lawpoint_eq x y w (by unfold sm; omega) (by unfold sm; omega) (by unfold sm; omega) hw
  have bx : Bx 7 p := ⟨by have := abs_div g0 ex; omega, by have := abs_div g0 ey; omega, by have := abs_div g0 ew; omega⟩
  refine ⟨p, ?_, ⟨nm, bx.sm (by decide), ⟨(g : Int), by rw [ew, Int.mul_comm]⟩⟩, bx⟩
  have ax := at_int (i := 2 + 2 * (k : Int)) x1 (by omega)
  have ay := at_int (i := 3 + 2 * (k : Int)) y1 (by omega)
  have m2 : mulOk 2 (k : Int) = true := mulOk_l (by decide)
  have fl : (pD ps).length ≤ 1000000 := by simpa using hl
  have ep : pD ps ++ [ptD p] = pD (ps ++ [p]) := by simp [pD]
  generalize qs.map PyData.int = V at *
  rw [← ep]
  generalize pD ps = P at *
  simp -implicitDefEqProofs [plS, ax, ay, dMul, m2, e, hApp, fits, fl]
theorem plLoop (c : D) (qs : List Int) (b : Bd qs szs) (w : Int) (hw : 0 < w) (hw3 : w ≤ 3) : ∀ (n k : Nat) (ps : List Pt) (s4 s5 : Slot), k + n ≤ 5 → ps.length + n ≤ 1000000 → (∀ p ∈ ps, Good w p ∧ Bx 7 p) →
    ∃ ps' s4', loopF plS (rangeD (k : Nat) n) [.val c, .val (.list (qs.map PyData.int)), .val (.int w), .own (pD ps), s4, s5] = some (.nx [.val c, .val (.list (qs.map PyData.int)), .val (.int w), .own (pD ps'), s4', s5]) ∧ ps'.length = ps.length + n ∧ (∀ p ∈ ps', Good w p ∧ Bx 7 p)
  | 0, k, ps, s4, s5, _, _, h => ⟨ps, s4, rfl, rfl, h⟩
  | n + 1, k, ps, s4, s5, hk, hl, h => by
    obtain ⟨p, e, g, bx⟩ := pl1 c qs b w hw hw3 k (by omega) ps (by omega) s4 s5
    obtain ⟨ps', s4', e2, l, a⟩ := plLoop c qs b w hw hw3 n (k + 1) (ps ++ [p]) (.val (.int (k : Nat))) s5 (by omega) (by simp; omega) (by
      intro q hq
      rcases List.mem_append.mp hq with z | z
      · exact h q z
      · simp at z; subst z; exact ⟨g, bx⟩)
    refine ⟨ps', s4', ?_, by rw [l]; simp; omega, a⟩
    rw [range_succ', loopF, e]
    exact e2
/-- a figure's polygon, with what is known of its points -/
structure Fig (n : Nat) (W : Int) (H : List Pt) : Prop where
  po : Poly H
  W0 : 0 < W
  gd : ∀ p ∈ H, Good W p
  bx : ∀ p ∈ H, Bx n p
theorem tri {a b : Int} (ha : 0 ≤ a) (ha7 : a < 7) (hb : 0 ≤ b) (hb7 : b < 7) : Fig 7 1 [⟨0, 0, 1⟩, ⟨1 + a, 0, 1⟩, ⟨b, 2, 1⟩] := by
  have nm : ∀ x y : Int, Pt.nm ⟨x, y, 1⟩ := fun x y => ⟨by simp, by simp⟩
  have bx : ∀ p ∈ ([⟨0, 0, 1⟩, ⟨1 + a, 0, 1⟩, ⟨b, 2, 1⟩] : List Pt), Bx 7 p := by
    intro p hp
    simp at hp
    rcases hp with h | h | h <;> subst h <;> refine ⟨?_, ?_, ?_⟩ <;> simp only <;> omega
  have nm' : ∀ p ∈ ([⟨0, 0, 1⟩, ⟨1 + a, 0, 1⟩, ⟨b, 2, 1⟩] : List Pt), p.nm := by
    intro p hp
    simp at hp
    rcases hp with h | h | h <;> subst h <;> exact nm _ _
  have d1 : det ⟨0, 0, 1⟩ ⟨1 + a, 0, 1⟩ ⟨b, 2, 1⟩ = 2 * (1 + a) := by unfold det; simp only; grind
  have d2 : det ⟨1 + a, 0, 1⟩ ⟨b, 2, 1⟩ ⟨0, 0, 1⟩ = 2 * (1 + a) := by unfold det; simp only; grind
  have d3 : det ⟨b, 2, 1⟩ ⟨0, 0, 1⟩ ⟨1 + a, 0, 1⟩ = 2 * (1 + a) := by unfold det; simp only; grind
  refine ⟨⟨by simp, nm', fun p hp => (bx p hp).sm (by decide), ?_, ?_, ?_, ?_, ?_, ?_⟩, by decide, ?_, bx⟩
  · simp; omega
  · intro i x y z hx hy hz
    match i, hx, hy, hz with
    | 0, hx, hy, hz => simp at hx hy hz; subst hx; subst hy; subst hz; omega
    | i + 1, hx, hy, hz => simp at hz
  · intro x y z hx hy hz
    simp at hx hy hz; subst hx; subst hy; subst hz; omega
  · intro x y z hx hy hz
    simp at hx hy hz; subst hx; subst hy; subst hz; omega
  · intro i x y z hi hx hy hz
    match i, hi, hx, hy, hz with
    | 1, _, hx, hy, hz => simp at hx hy hz; subst hx; subst hy; subst hz; omega
    | i + 2, _, hx, hy, hz => simp at hz
  · intro i x y hi hx hy
    match i, hi, hx, hy with
    | 1, _, hx, hy => simp at hx hy; subst hx; subst hy; unfold bef; simp; omega
    | 2, _, hx, hy => simp at hx hy; subst hx; subst hy; unfold bef; simp; intro _; exact hb
    | i + 3, _, hx, hy => simp at hy
  · intro p hp
    refine ⟨nm' p hp, (bx p hp).sm (by decide), ?_⟩
    simp at hp
    rcases hp with h | h | h <;> subst h <;> exact ⟨1, rfl⟩
theorem m_polygon_eq (c : Int) : ∃ H W, m__law_polygon [.int c] = some (.tuple (pD H)) ∧ Fig 7 W H ∧ H.length ≤ 10 := by
  obtain ⟨qs, e1, b⟩ := m_parts_eq c szs (by decide) (by decide)
  obtain ⟨q0, a0, b0, c0⟩ := bd_at (n := 0) b rfl
  obtain ⟨q1, a1, b1', c1⟩ := bd_at (n := 1) b rfl
  obtain ⟨q2, a2, b2', c2⟩ := bd_at (n := 2) b rfl
  obtain ⟨q3, a3, b3, c3⟩ := bd_at (n := 3) b rfl
  have A0 := at_int (i := 0) a0 rfl
  have A1 := at_int (i := 1) a1 rfl
  have A2 := at_int (i := 2) a2 rfl
  have A3 := at_int (i := 3) a3 rfl
  obtain ⟨w, hw, w0, w3⟩ : ∃ w : Int, atI [PyData.int 1, .int 1, .int 2, .int 3] q0 = some (.int w) ∧ 0 < w ∧ w ≤ 3 := by
    have : q0 = 0 ∨ q0 = 1 ∨ q0 = 2 ∨ q0 = 3 := by omega
    rcases this with h | h | h | h <;> subst h
    · exact ⟨1, atN (n := 0) rfl rfl, by decide, by decide⟩
    · exact ⟨1, atN (n := 1) rfl rfl, by decide, by decide⟩
    · exact ⟨2, atN (n := 2) rfl rfl, by decide, by decide⟩
    · exact ⟨3, atN (n := 3) rfl rfl, by decide, by decide⟩
  obtain ⟨ps, s4, e2, l, g⟩ := plLoop (.int c) qs b w w0 w3 (3 + q1).toNat 0 [] .no .no (by omega) (by simp; omega) (by simp)
  have hr : rg1 [.int (3 + q1)] = some (rangeD 0 (3 + q1).toNat) := by
    have := rg1_nat (3 + q1).toNat (by omega)
    rwa [Int.toNat_of_nonneg (by omega)] at this
  have e1' : m__law_parts [.int c, .list [.int 4, .int 3, .int 7, .int 7, .int 7, .int 7, .int 7, .int 7, .int 7, .int 7, .int 7, .int 7]] = some (.list (qs.map PyData.int)) := e1
  have hh := m_hull_eq w0 ps (fun x hx => (g x hx).1) (by simp at l; omega)
  have nl : pD ([] : List Pt) = [] := rfl
  rw [nl] at e2
  have e2' : loopF plS (rangeD 0 (3 + q1).toNat) [.val (.int c), .val (.list (qs.map PyData.int)), .val (.int w), .own [], .no, .no] = _ := e2
  generalize qs.map PyData.int = V at *
  unfold plS at e2'
  simp -implicitDefEqProofs at e2'
  rcases hh with ⟨h, _⟩ | ⟨H, h, po, mem, n⟩
  · refine ⟨_, 1, ?_, tri b2' c2 b3 c3, by simp⟩
    simp -implicitDefEqProofs [m__law_polygon, b__law_polygon, runF, fitsL, fits, e1', A0, A1, A2, A3, hw, hr, e2', h, dIs, isNn, ptD]
  · refine ⟨H, w, ?_, ⟨po, w0, fun p hp => (g p (mem p hp)).1, fun p hp => (g p (mem p hp)).2⟩, by simp at l; omega⟩
    simp -implicitDefEqProofs [m__law_polygon, b__law_polygon, runF, fitsL, fits, e1', A0, A1, hw, hr, e2', h, dIs, isNn]
end KC

set_option Elab.async false
set_option linter.all false
set_option maxRecDepth 100000
/-! PM: polygons far away. -/
namespace KC
open PySem PySem.Spec PyProof.Rows L2 DL
noncomputable def faS : D → En → Option Out := fun d env => (tn 3 d env).bind (mutF 2 hApp (callF m__law_point (consF (b2 dAdd (b2 dMul (b2 dIx (vn 3) (vc (.int 0))) (vc (.int 97))) (b2 dMul (b2 dSub (b2 dIx (vn 1) (vc (.int 1))) (vc (.int 40000))) (b2 dIx (vn 3) (vc (.int 2))))) (consF (b2 dSub (b2 dMul (b2 dIx (vn 3) (vc (.int 1))) (vc (.int 97))) (b2 dMul (b2 dIx (vn 1) (vc (.int 1))) (b2 dIx (vn 3) (vc (.int 2))))) (consF (b2 dMul (b2 dIx (vn 3) (vc (.int 2))) (b2 dAdd (vc (.int 1)) (b2 dIx (vn 1) (vc (.int 2))))) (nilF))))))
/-- q is p, moved and made smaller -/
def Mvd (b c : Int) (p q : Pt) : Prop := ∃ g : Nat, 0 < g ∧ p.x * 97 + (b - 40000) * p.w = (g : Int) * q.x ∧ p.y * 97 - b * p.w = (g : Int) * q.y ∧ p.w * (1 + c) = (g : Int) * q.w
theorem fa1 (v : D) (qs : List Int) (a b c : Int) (ha : atI (qs.map PyData.int) 1 = some (.int b)) (hc : atI (qs.map PyData.int) 2 = some (.int c)) (hb0 : 0 ≤ b) (hb : b < 80000) (hc0 : 0 ≤ c) (hc1 : c < 300) {W : Int} (p : Pt) (hp : Good W p) (bp : Bx 7 p) (ps : List Pt) (hl : ps.length ≤ 1000000) (s3 : Slot) :
    ∃ q, faS (ptD p) [.val v, .val (.list (qs.map PyData.int)), .own (pD ps), s3] = some (.nx [.val v, .val (.list (qs.map PyData.int)), .own (pD (ps ++ [q])), .val (ptD p)]) ∧ Good (W * (1 + c)) q ∧ Bx 1000000 q ∧ Mvd b c p q := by
  obtain ⟨p1, p2, p3⟩ := hp.sm
  have n1 : (p.x * 97 + (b - 40000) * p.w).natAbs ≤ 1000000 := by
    have h1 := bp.x
    have h2 := abs_mul (u := b - 40000) (v := p.w) (a := 40000) (b := 7) (by omega) bp.w
    generalize (b - 40000) * p.w = z at *
    omega
  have n2 : (p.y * 97 - b * p.w).natAbs ≤ 1000000 := by
    have h1 := bp.y
    have h2 := abs_mul (u := b) (v := p.w) (a := 80000) (b := 7) (by omega) bp.w
    generalize b * p.w = z at *
    omega
  have n3 : (p.w * (1 + c)).natAbs ≤ 1000000 := by
    have h2 := abs_mul (u := p.w) (v := 1 + c) (a := 7) (b := 300) bp.w (by omega)
    omega
  have w0 : 0 < p.w * (1 + c) := Int.mul_pos hp.nm.w (by omega)
  obtain ⟨q, g, e, nm, g0, ex, ey, ew⟩ := m_lawpoint_eq _ _ _ (show sm (p.x * 97 + (b - 40000) * p.w) by unfold sm; omega) (show sm (p.y * 97 - b * p.w) by unfold sm; omega) (show sm (p.w * (1 + c)) by unfold sm; omega) w0
  have bx : Bx 1000000 q := ⟨Nat.le_trans (abs_div g0 ex) n1, Nat.le_trans (abs_div g0 ey) n2, Nat.le_trans (abs_div g0 ew) n3⟩
  refine ⟨q, ?_, ⟨nm, bx.sm (by decide), ?_⟩, bx, g, g0, ex, ey, ew⟩
  · have i0 : dIx (ptD p) (.int 0) = some (.int p.x) := by simp [ptD, at0]
    have i1 : dIx (ptD p) (.int 1) = some (.int p.y) := by simp [ptD, at1]
    have i2 : dIx (ptD p) (.int 2) = some (.int p.w) := by simp [ptD, at2]
    have m1 : mulOk p.x 97 = true := mulOk_l p1
    have m2 : mulOk (b - 40000) p.w = true := mulOk_r p3
    have m3 : mulOk p.y 97 = true := mulOk_l p2
    have m4 : mulOk b p.w = true := mulOk_r p3
    have m5 : mulOk p.w (1 + c) = true := mulOk_l p3
    have fl : (pD ps).length ≤ 1000000 := by simpa using hl
    have ep : pD ps ++ [ptD q] = pD (ps ++ [q]) := by simp [pD]
    generalize qs.map PyData.int = V at *
    rw [← ep]
    generalize pD ps = P at *
    generalize ptD p = dp at *
    simp -implicitDefEqProofs [faS, ha, hc, i0, i1, i2, dMul, m1, m2, m3, m4, m5, e, hApp, fits, fl]
  · have : q.w ∣ p.w * (1 + c) := ⟨(g : Int), by rw [ew, Int.mul_comm]⟩
    exact Int.dvd_trans this (Int.mul_dvd_mul hp.dv (Int.dvd_refl _))
theorem faLoop (v : D) (qs : List Int) (a b c : Int) (ha : atI (qs.map PyData.int) 1 = some (.int b)) (hc : atI (qs.map PyData.int) 2 = some (.int c)) (hb0 : 0 ≤ b) (hb : b < 80000) (hc0 : 0 ≤ c) (hc1 : c < 300) {W : Int} : ∀ (H ps : List Pt) (s3 : Slot), (∀ p ∈ H, Good W p ∧ Bx 7 p) → ps.length + H.length ≤ 1000000 →
    ∃ qs' s3', loopF faS (pD H) [.val v, .val (.list (qs.map PyData.int)), .own (pD ps), s3] = some (.nx [.val v, .val (.list (qs.map PyData.int)), .own (pD (ps ++ qs')), s3']) ∧ (∀ q ∈ qs', Good (W * (1 + c)) q ∧ Bx 1000000 q) ∧ qs'.length = H.length ∧ ∀ (i : Nat) p, H[i]? = some p → ∃ q, qs'[i]? = some q ∧ Mvd b c p q
  | [], ps, s3, _, _ => ⟨[], s3, by simp [pD], by simp, rfl, by simp⟩
  | p :: H, ps, s3, h, hl => by
    obtain ⟨h1, h2⟩ := h p (by simp)
    simp at hl
    obtain ⟨q, e, g, bx, mv⟩ := fa1 v qs a b c ha hc hb0 hb hc0 hc1 p h1 h2 ps (by omega) s3
    obtain ⟨qs', s3', e2, g2, l2, m2⟩ := faLoop v qs a b c ha hc hb0 hb hc0 hc1 H (ps ++ [q]) (.val (ptD p)) (fun x hx => h x (by simp [hx])) (by simp; omega)
    refine ⟨q :: qs', s3', ?_, ?_, by simp [l2], ?_⟩
    · rw [pD, List.map_cons, loopF, e]
      simp only [Option.bind_some]
      rw [e2]
      simp
    · intro x hx
      rcases List.mem_cons.mp hx with z | z
      · subst z; exact ⟨g, bx⟩
      · exact g2 x z
    · intro i x hx
      cases i with
      | zero => simp at hx; subst hx; exact ⟨q, rfl, mv⟩
      | succ i => simpa using m2 i x (by simpa using hx)
theorem mvd_det {b c : Int} (hc : 0 ≤ c) {p1 p2 p3 q1 q2 q3 : Pt} (h1 : Mvd b c p1 q1) (h2 : Mvd b c p2 q2) (h3 : Mvd b c p3 q3) (hd : 0 < det p1 p2 p3) : det q1 q2 q3 ≠ 0 := by
  obtain ⟨g1, _, x1, y1, w1⟩ := h1
  obtain ⟨g2, _, x2, y2, w2⟩ := h2
  obtain ⟨g3, _, x3, y3, w3⟩ := h3
  intro z
  have e : (g1 : Int) * g2 * g3 * det q1 q2 q3 = 9409 * (1 + c) * det p1 p2 p3 := by
    have e1 : (g1 : Int) * g2 * g3 * det q1 q2 q3 = ((g1 : Int) * q1.x) * (((g2 : Int) * q2.y) * ((g3 : Int) * q3.w) - ((g3 : Int) * q3.y) * ((g2 : Int) * q2.w)) + ((g2 : Int) * q2.x) * (((g3 : Int) * q3.y) * ((g1 : Int) * q1.w) - ((g1 : Int) * q1.y) * ((g3 : Int) * q3.w)) + ((g3 : Int) * q3.x) * (((g1 : Int) * q1.y) * ((g2 : Int) * q2.w) - ((g2 : Int) * q2.y) * ((g1 : Int) * q1.w)) := by unfold det; grind
    rw [e1, ← x1, ← x2, ← x3, ← y1, ← y2, ← y3, ← w1, ← w2, ← w3]
    unfold det
    grind
  rw [z, Int.mul_zero] at e
  have : 0 < 9409 * (1 + c) * det p1 p2 p3 := Int.mul_pos (Int.mul_pos (by decide) (by omega)) hd
  omega
theorem m_far_eq {W : Int} {H : List Pt} (F : Fig 7 W H) (hl : H.length ≤ 10) (k : Int) : ∃ qs : List Int, m__law_parts [.int k, .list [.int 3, .int 80000, .int 300]] = some (.list (qs.map PyData.int)) ∧ ∃ H' W', m__law_far [.tuple (pD H), .list (qs.map PyData.int)] = some (.tuple (pD H')) ∧ Fig 1000000 W' H' ∧ H'.length ≤ 20 := by
  obtain ⟨qs, e1, bd⟩ := m_parts_eq k [3, 80000, 300] (by decide) (by decide)
  refine ⟨qs, e1, ?_⟩
  obtain ⟨a, a0, a1, a2⟩ := bd_at (n := 0) bd rfl
  obtain ⟨b, b0, b1', b2'⟩ := bd_at (n := 1) bd rfl
  obtain ⟨c, c0, c1, c2⟩ := bd_at (n := 2) bd rfl
  have A0 := at_int (i := 0) a0 rfl
  have A1 := at_int (i := 1) b0 rfl
  have A2 := at_int (i := 2) c0 rfl
  by_cases ha : 0 < a
  · refine ⟨H, W, ?_, ⟨F.po, F.W0, F.gd, fun p hp => (F.bx p hp).mono (by decide)⟩, by omega⟩
    simp -implicitDefEqProofs [m__law_far, b__law_far, runF, A0, ha]
  · obtain ⟨qs', s3', e2, g, l, mv⟩ := faLoop (.tuple (pD H)) qs a b c A1 A2 b1' b2' c1 c2 H [] .no (fun p hp => ⟨F.gd p hp, F.bx p hp⟩) (by simp; omega)
    have W'0 : 0 < W * (1 + c) := Int.mul_pos F.W0 (by omega)
    have e2' : loopF faS (pD H) [.val (.tuple (pD H)), .val (.list (qs.map PyData.int)), .own [], .no] = some (.nx [.val (.tuple (pD H)), .val (.list (qs.map PyData.int)), .own (pD qs'), s3']) := e2
    have hh := m_hull_eq W'0 qs' (fun x hx => (g x hx).1) (by omega)
    rcases hh with ⟨_, h0⟩ | ⟨H', h, po, mem, n⟩
    · exfalso
      have h3 := F.po.len
      obtain ⟨q0, r0, v0⟩ := mv 0 _ (List.getElem?_eq_getElem (by omega))
      obtain ⟨q1, r1, v1⟩ := mv 1 _ (List.getElem?_eq_getElem (by omega))
      obtain ⟨q2, r2, v2⟩ := mv 2 _ (List.getElem?_eq_getElem (by omega))
      have d := F.po.turn 0 _ _ _ (List.getElem?_eq_getElem (by omega)) (List.getElem?_eq_getElem (by omega)) (List.getElem?_eq_getElem (by omega))
      exact mvd_det c1 v0 v1 v2 d (h0 _ _ _ (List.mem_of_getElem? r0) (List.mem_of_getElem? r1) (List.mem_of_getElem? r2))
    · refine ⟨H', W * (1 + c), ?_, ⟨po, W'0, fun p hp => (g p (mem p hp)).1, fun p hp => (g p (mem p hp)).2⟩, by omega⟩
      generalize qs.map PyData.int = V at *
      unfold faS at e2'
      generalize pD H = P at *
      simp -implicitDefEqProofs at e2'
      simp -implicitDefEqProofs [m__law_far, b__law_far, runF, fitsL, fits, A0, ha, e2', h]
end KC

set_option Elab.async false
set_option linter.all false
set_option maxRecDepth 100000
/-! PN: what a polygon answers to the program's questions. -/
namespace KC
open PySem PySem.Spec PyProof.Rows L2 DL
theorem loop_fix (step : D → En → Option Out) (mk : Slot → En) : ∀ (n lo : Nat) (s : Slot), (∀ i, lo ≤ i → i < lo + n → ∀ s, step (.int (i : Nat)) (mk s) = some (.nx (mk (.val (.int (i : Nat)))))) → ∃ s', loopF step (rangeD (lo : Nat) n) (mk s) = some (.nx (mk s'))
  | 0, lo, s, _ => ⟨s, rfl⟩
  | n + 1, lo, s, h => by
    obtain ⟨s', e⟩ := loop_fix step mk n (lo + 1) (.val (.int (lo : Nat))) (fun i h1 h2 => h i (by omega) (by omega))
    refine ⟨s', ?_⟩
    rw [range_succ', loopF, h lo (Nat.le_refl _) (by omega)]
    exact e
theorem tups_pD : ∀ (H : List Pt), tupsD (pD H) = some (H.map fun p => [p.x, p.y, p.w])
  | [] => rfl
  | p :: H => by
    have ih := tups_pD H
    rw [pD] at ih
    simp only [pD, List.map_cons, ptD, tupsD, intsD, Option.map_some, Option.bind_some]
    rw [ih]
    rfl
theorem lenSet_pD {H : List Pt} (h : H.Nodup) (hl : H.length < 64) : lenSetD (.tuple (pD H)) = some (.int (H.length : Nat)) := by
  have nd : (H.map fun p => [p.x, p.y, p.w]).Nodup := by
    rw [List.nodup_iff_pairwise_ne, List.pairwise_map]
    refine List.Pairwise.imp ?_ h
    intro a b hab e
    cases a; cases b
    simp at e
    exact hab (by simp [e])
  unfold lenSetD
  simp only
  rw [tups_pD]
  simp only [Option.bind_some, List.length_map]
  rw [if_pos hl, cnt_nodup _ nd, List.length_map]
theorem ix_pD {H : List Pt} {n : Nat} {p : Pt} (h : H[n]? = some p) : atI (pD H) (n : Nat) = some (ptD p) := atN (n := n) (by rw [List.getElem?_map, h]; rfl) rfl
theorem ixr_pD {H : List Pt} {n : Nat} {p : Pt} (h : H[n]? = some p) {i : Int} (hi : i < 0) (e : i + (H.length : Int) = (n : Int)) : atI (pD H) i = some (ptD p) := atR (n := n) (by rw [List.getElem?_map, h]; rfl) hi (by rw [List.length_map]; exact e)
theorem sgn_pos {t : Int} (h : 0 < t) : sgn t = 1 := by
  unfold sgn
  rw [decide_eq_true h, decide_eq_false (by omega)]
  rfl
theorem side_pos {a b c : Pt} (ha : a.sm) (hb : b.sm) (hc : c.sm) (h : 0 < det a b c) : m_side [ptD a, ptD b, ptD c] = some (.int 1) := by
  rw [m_side_eq a b c ha hb hc, sgn_pos h]
theorem grr {H : List Pt} (P : Poly H) (hl : H.length < 64) : m_goes_round_once [.tuple (pD H)] = some (.bool true) := by
  have h3 := P.len
  obtain ⟨p0, r0⟩ : ∃ p, H[0]? = some p := ⟨_, List.getElem?_eq_getElem (by omega)⟩
  have sm : ∀ {i : Nat} {p : Pt}, H[i]? = some p → p.sm := fun h => P.sm _ (List.mem_of_getElem? h)
  have i0 : atI (pD H) 0 = some (ptD p0) := ix_pD r0
  have hr : rg2 [.int 1, .int ((((pD H).length : Nat) : Int) - 1)] = some (rangeD (1 : Nat) (H.length - 2)) := by
    have e1 : (pD H).length = H.length := by simp
    rw [e1]
    have q : ((H.length : Nat) : Int) - 1 < 4611686018427387904 := by omega
    have q2 : (-4611686018427387904 : Int) ≤ ((H.length : Nat) : Int) - 1 := by omega
    have q3 : (((H.length : Nat) : Int) - 1 - 1).toNat = H.length - 2 := by omega
    simp -implicitDefEqProofs [rg2, q, q2, q3]
  obtain ⟨s', e⟩ := loop_fix (fun d env => (tn 2 d env).bind (ifF (tcF dLe (callF m_side (consF (vn 1) (consF (b2 dIx (vn 0) (vn 2)) (consF (b2 dIx (vn 0) (b2 dAdd (vn 2) (vc (.int 1)))) (nilF))))) (vc (.int 0))) (retF (vc (.bool false))) (nxF))) (fun s => [.val (.tuple (pD H)), .val (ptD p0), s]) (H.length - 2) 1 .no (by
    intro i h1 h2 s
    obtain ⟨a, ra⟩ : ∃ p, H[i]? = some p := ⟨_, List.getElem?_eq_getElem (by omega)⟩
    obtain ⟨b, rb⟩ : ∃ p, H[i + 1]? = some p := ⟨_, List.getElem?_eq_getElem (by omega)⟩
    have d := P.fan i _ _ _ h1 r0 ra rb
    have i1 := ix_pD ra
    have i2 : atI (pD H) ((i : Int) + 1) = some (ptD b) := ix_pD rb
    have sd := side_pos (sm r0) (sm ra) (sm rb) d
    generalize pD H = V at *
    simp -implicitDefEqProofs [i1, i2, sd])
  generalize pD H = V at *
  simp -implicitDefEqProofs at e
  simp -implicitDefEqProofs [m_goes_round_once, b_goes_round_once, runF, i0, hr, e]
theorem is_poly {H : List Pt} (P : Poly H) (hl : H.length < 64) : m_is_polygon [.tuple (pD H)] = some (.bool true) := by
  have h3 := P.len
  have sm : ∀ {i : Nat} {p : Pt}, H[i]? = some p → p.sm := fun h => P.sm _ (List.mem_of_getElem? h)
  have g := grr P hl
  have ls := lenSet_pD P.nd hl
  have e1 : (pD H).length = H.length := by simp
  have hr := rg1_nat H.length (by omega)
  have ne := dNe_int (H.length : Nat) (H.length : Nat)
  rw [decide_eq_true rfl] at ne
  have c3 : ¬ ((H.length : Nat) : Int) < 3 := by omega
  obtain ⟨p0, r0⟩ : ∃ p, H[0]? = some p := ⟨_, List.getElem?_eq_getElem (by omega)⟩
  have i0 : atI (pD H) 0 = some (ptD p0) := ix_pD r0
  obtain ⟨s', e⟩ := loop_fix (fun d env => (tn 1 d env).bind (seqF (ifF (tcF dLe (callF m_side (consF (b2 dIx (vn 0) (b2 dSub (vn 1) (vc (.int 2)))) (consF (b2 dIx (vn 0) (b2 dSub (vn 1) (vc (.int 1)))) (consF (b2 dIx (vn 0) (vn 1)) (nilF))))) (vc (.int 0))) (retF (vc (.bool false))) (nxF))
  (ifF (andF (tcF dGt (vn 1) (vc (.int 0))) (tvF (callF m_comes_before (consF (b2 dIx (vn 0) (vn 1)) (consF (b2 dIx (vn 0) (vc (.int 0))) (nilF)))))) (retF (vc (.bool false))) (nxF)))) (fun s => [.val (.tuple (pD H)), s]) H.length 0 .no (by
    intro i h1 h2 s
    have h2' : i < H.length := by omega
    obtain ⟨c, rc⟩ : ∃ p, H[i]? = some p := ⟨_, List.getElem?_eq_getElem (by omega)⟩
    have ic := ix_pD rc
    obtain ⟨a, b, ia, ib, sd⟩ : ∃ a b : Pt, atI (pD H) ((i : Int) - 2) = some (ptD a) ∧ atI (pD H) ((i : Int) - 1) = some (ptD b) ∧ m_side [ptD a, ptD b, ptD c] = some (.int 1) := by
      by_cases k0 : i = 0
      · subst k0
        obtain ⟨a, ra⟩ : ∃ p, H[H.length - 2]? = some p := ⟨_, List.getElem?_eq_getElem (by omega)⟩
        obtain ⟨b, rb⟩ : ∃ p, H[H.length - 1]? = some p := ⟨_, List.getElem?_eq_getElem (by omega)⟩
        exact ⟨a, b, ixr_pD ra (by decide) (by omega), ixr_pD rb (by decide) (by omega), side_pos (sm ra) (sm rb) (sm rc) (P.t1 _ _ _ ra rb rc)⟩
      · by_cases k1 : i = 1
        · subst k1
          obtain ⟨a, ra⟩ : ∃ p, H[H.length - 1]? = some p := ⟨_, List.getElem?_eq_getElem (by omega)⟩
          exact ⟨a, p0, ixr_pD ra (by decide) (by omega), i0, side_pos (sm ra) (sm r0) (sm rc) (P.t2 _ _ _ ra r0 rc)⟩
        · obtain ⟨j, rfl⟩ : ∃ j, i = j + 2 := ⟨i - 2, by omega⟩
          obtain ⟨a, ra⟩ : ∃ p, H[j]? = some p := ⟨_, List.getElem?_eq_getElem (by omega)⟩
          obtain ⟨b, rb⟩ : ∃ p, H[j + 1]? = some p := ⟨_, List.getElem?_eq_getElem (by omega)⟩
          have ia := ix_pD ra
          have ib := ix_pD rb
          refine ⟨a, b, ?_, ?_, side_pos (sm ra) (sm rb) (sm rc) (P.turn j _ _ _ ra rb rc)⟩
          · rw [show (((j + 2 : Nat) : Int) - 2) = ((j : Nat) : Int) by omega]; exact ia
          · rw [show (((j + 2 : Nat) : Int) - 1) = ((j + 1 : Nat) : Int) by omega]; exact ib
    by_cases k0 : i = 0
    · subst k0
      generalize pD H = V at *
      simp -implicitDefEqProofs [ia, ib, ic, sd]
      simp at ia ib ic
      simp -implicitDefEqProofs [ia, ib, ic, sd]
    · have bf := m_comes_eq c p0 (sm rc) (sm r0)
      rw [P.first i _ _ (by omega) r0 rc] at bf
      have ip : (0 : Int) < (i : Int) := by omega
      generalize pD H = V at *
      simp -implicitDefEqProofs [ia, ib, ic, sd, ip, i0, bf])
  have er : rangeD ((0 : Nat) : Int) H.length = rangeD 0 H.length := rfl
  rw [er] at e
  have ln : cLen [.tuple (pD H)] = some (.int (H.length : Nat)) := by rw [e_cLenT, e1]
  have hr' : rg1 [.int (((pD H).length : Nat) : Int)] = some (rangeD 0 H.length) := by rw [e1]; exact hr
  have c3' : ¬ (((pD H).length : Nat) : Int) < 3 := by rw [e1]; exact c3
  have ne' : dNe (.int (H.length : Nat)) (.int (((pD H).length : Nat) : Int)) = some (.bool false) := by rw [e1]; exact ne
  generalize pD H = V at *
  simp -implicitDefEqProofs at e
  simp -implicitDefEqProofs [m_is_polygon, b_is_polygon, runF, ls, hr', c3', ne', e, g]
end KC

set_option Elab.async false
set_option linter.all false
set_option maxRecDepth 100000
/-! PO: numbers as words. -/
namespace KC
open PySem PySem.Spec PyProof.Rows L2 DL
open TL (tl len_tl ext_tl tl_append tl_ofString tl_num numL numL_len numL_free numL_digits numL_ne numL_val numL_lt split_join join_eq tl_join joinL int_num)
def sI (i : Int) : Str := Str.ofString (toString i)
theorem cStr_eq {i : Int} (h : i.natAbs ≤ 1000000) : cStr [.int i] = some (.str (sI i)) := by
  have : i.natAbs.log2 < 1920 := by
    by_cases z : i.natAbs = 0
    · rw [z]; decide
    · exact Nat.lt_of_lt_of_le ((Nat.log2_lt z (k := 20)).mpr (by omega)) (by decide)
  unfold cStr
  simp only
  rw [if_pos (by simpa using this)]
  rfl
theorem tl_sI (i : Int) : tl (sI i) = if i < 0 then 45 :: numL i.natAbs else numL i.natAbs := by
  by_cases h : i < 0
  · rw [if_pos h]
    obtain ⟨n, rfl⟩ : ∃ n : Nat, i = -((n + 1 : Nat) : Int) := ⟨i.natAbs - 1, by omega⟩
    have e : toString (-((n + 1 : Nat) : Int)) = "-" ++ toString ((n + 1 : Nat) : Int) := by
      show toString (Int.negSucc n) = _
      rfl
    have e2 := tl_num (n + 1)
    unfold sI
    rw [e, tl_ofString, String.toList_append, List.map_append]
    rw [tl_ofString] at e2
    rw [e2, Int.natAbs_neg, Int.natAbs_natCast]
    rfl
  · rw [if_neg h]
    obtain ⟨n, rfl⟩ : ∃ n : Nat, i = (n : Int) := ⟨i.natAbs, by omega⟩
    exact tl_num n
theorem sI_len {i : Int} (h : i.natAbs ≤ 1000000) : (sI i).length ≤ 8 := by
  have := numL_len (n := i.natAbs) (k := 7) (by decide) (by omega)
  rw [len_tl, tl_sI]
  split
  · simp; omega
  · omega
theorem sI_free {i : Int} {s : Nat} (h : s < 45 ∨ 57 < s) : s ∉ tl (sI i) := by
  rw [tl_sI]
  have := numL_free (n := i.natAbs) (s := s) (by omega)
  split
  · intro h2
    rcases List.mem_cons.mp h2 with z | z
    · omega
    · exact this z
  · exact this
theorem sI_ok (i : Int) : PyData.strOk (sI i) = true := by
  unfold PyData.strOk
  rw [Array.all_eq_true_iff_forall_mem]
  intro c hc
  have hc' : c ∈ tl (sI i) := Array.mem_toList_iff.mpr hc
  have : ¬ 57 < c := fun z => sI_free (Or.inr z) hc'
  simp; omega
theorem int_sI {i : Int} (h : i.natAbs ≤ 1000000) : intText? (sI i) = some i := by
  have l := sI_len h
  have nl := numL_len (n := i.natAbs) (k := 7) (by decide) (by omega)
  by_cases c : i < 0
  · have e := intText_neg (x := sI i) (cs := numL i.natAbs) (by have := tl_sI i; rw [if_pos c] at this; exact this) (numL_digits _) (numL_ne _) (by omega)
    rw [e, numL_val]
    congr 1
    omega
  · obtain ⟨n, rfl⟩ : ∃ n : Nat, i = (n : Int) := ⟨i.natAbs, by omega⟩
    exact int_num (by simp at nl; omega)
theorem starts_minus (x : Str) : Txt.startswith x "-" = ((tl x).head? == some 45) := by
  obtain ⟨⟨l⟩⟩ := x
  cases l with
  | nil => rfl
  | cons c r =>
    show (decide (0 + 1 ≤ r.length + 1) && ((⟨c :: r⟩ : Array Nat).extract 0 (0 + 1) == #[45])) = (some c == some 45)
    have : (⟨c :: r⟩ : Array Nat).extract 0 (0 + 1) = #[c] := by
      apply Array.toList_inj.mp
      simp
    rw [this]
    by_cases h : c = 45
    · subst h; simp
    · have : (c == 45) = false := by simpa using h
      simp [h]
      try exact this
theorem starts_sI (i : Int) : Txt.startswith (sI i) "-" = decide (i < 0) := by
  rw [starts_minus, tl_sI]
  by_cases h : i < 0
  · rw [if_pos h, decide_eq_true h]; rfl
  · rw [if_neg h, decide_eq_false h]
    have d := numL_digits i.natAbs
    cases e : numL i.natAbs with
    | nil => rfl
    | cons c r =>
      have := d c (by rw [e]; simp)
      simp; omega
/-- the digits behind the sign -/
theorem digs_cut {i : Int} : i < 0 → tl (cutS (sI i) (some 1) none) = numL i.natAbs := by
  intro h
  have l1 : (sI i).length = (numL i.natAbs).length + 1 := by rw [len_tl, tl_sI, if_pos h]; rfl
  have e : (sI i).cps.toList = 45 :: numL i.natAbs := by have := tl_sI i; rw [if_pos h] at this; exact this
  unfold cutS
  have a : HT.sIx (sI i).length 0 (some 1) = 1 := by
    have := HT.sIx_nat (sI i).length 0 1
    rw [show ((1 : Nat) : Int) = 1 from rfl] at this
    rw [this]; omega
  rw [a, HT.sIx_none, e, l1]
  show List.take _ (List.drop 1 (45 :: numL i.natAbs)) = _
  simp
theorem dig_in (c : Nat) (h : 48 ≤ c ∧ c ≤ 57) : dNotIn (.str ⟨#[c]⟩) (.str "0123456789") = some (.bool false) := by
  have : c ∈ ("0123456789" : Str).cps.toList := by
    have e : ("0123456789" : Str).cps.toList = [48, 49, 50, 51, 52, 53, 54, 55, 56, 57] := by decide
    rw [e]
    have : c = 48 ∨ c = 49 ∨ c = 50 ∨ c = 51 ∨ c = 52 ∨ c = 53 ∨ c = 54 ∨ c = 55 ∨ c = 56 ∨ c = 57 := by omega
    rcases this with h | h | h | h | h | h | h | h | h | h <;> subst h <;> decide
  have d : dIn (.str ⟨#[c]⟩) (.str "0123456789") = some (.bool true) := by
    unfold dIn
    simp only
    rw [show sign1 ⟨#[c]⟩ = some c from rfl, Option.map_some, decide_eq_true this]
  unfold dNotIn
  rw [d]
  rfl
theorem lc_digs (v0 v1 v2 : Slot) : ∀ (l : List Nat), NumText.AllDigits l → lcL (tn 3) yesF (b2 dNotIn (vn 3) (vc (.str "0123456789"))) [v0, v1, v2, .no] (l.map fun c => PyData.str ⟨#[c]⟩) = some (l.map fun _ => PyData.bool false)
  | [], _ => rfl
  | c :: l, h => by
    have ih := lc_digs v0 v1 v2 l h.tail
    have e := dig_in c h.head
    rw [List.map_cons, lcL]
    generalize l.map (fun c => PyData.str ⟨#[c]⟩) = L at *
    simp -implicitDefEqProofs [e, ih]
theorem any_false (l : List Nat) : cAny [.list (l.map fun _ => PyData.bool false)] = some (.bool false) := by
  have : blsOf (l.map fun _ => PyData.bool false) = some (l.map fun _ => false) := by
    induction l with
    | nil => rfl
    | cons a r ih => simp only [List.map_cons, blsOf]; rw [ih]; rfl
  show (blsOf (l.map fun _ => PyData.bool false)).map _ = _
  rw [this]
  simp
theorem lay_str {n : Nat} {x : Str} (h : PyData.strOk x = true) : Lay n (.str x) := ⟨by simp only [PyData.canLay0]; exact h, by simp [PyData.depth]⟩
theorem m_integer_eq {i : Int} (h : i.natAbs ≤ 1000000) : m_integer_of [.str (sI i)] = some (.int i) := by
  obtain ⟨dg, hdg, hif⟩ : ∃ dg : Str, tl dg = numL i.natAbs ∧ (asgF (ifE (tvF (b2 startsD (vn 0) (vc (.str "-")))) (dslF (vn 0) (oiF (vc (.int 1))) (onF)) (vn 0)) (tn 1)) [.val (.str (sI i)), .no, .no, .no] = some (.nx [.val (.str (sI i)), .val (.str dg), .no, .no]) := by
    have sl := sI_len h
    have st : startsD (.str (sI i)) (.str "-") = some (.bool (decide (i < 0))) := by
      show some (PyData.bool (Txt.startswith (sI i) "-")) = _
      rw [starts_sI]
    by_cases c : i < 0
    · refine ⟨cutS (sI i) (some 1) none, digs_cut c, ?_⟩
      rw [decide_eq_true c] at st
      have cu : dCut (.str (sI i)) (some 1) none = some (.str (cutS (sI i) (some 1) none)) := by
        show (if decide ((sI i).length ≤ 1000000) then _ else _) = _
        rw [if_pos (by simp; omega)]
      simp -implicitDefEqProofs [st, cu]
    · refine ⟨sI i, by rw [tl_sI, if_neg c], ?_⟩
      rw [decide_eq_false c] at st
      simp -implicitDefEqProofs [st]
  have sl := sI_len h
  have nl := numL_len (n := i.natAbs) (k := 7) (by decide) (by omega)
  have dl : dg.length = (numL i.natAbs).length := by rw [len_tl, hdg]
  have n0 : (numL i.natAbs).length ≠ 0 := fun z => numL_ne i.natAbs (List.length_eq_zero_iff.mp z)
  have tr : truth (.str dg) = some true := by
    show (if decide (dg.length ≤ 1000000) then some ((dg.length : Int) != 0) else none) = _
    rw [if_pos (by simp; omega)]
    simp
    intro z
    apply n0
    rw [← dl, z]
  have sd : stOf (.str dg) = some ((numL i.natAbs).map fun c => PyData.str ⟨#[c]⟩) := by
    show some (strD dg) = _
    unfold strD
    rw [show dg.cps.toList = numL i.natAbs from hdg]
  have lc := lc_digs (.val (.str (sI i))) (.val (.str dg)) .no (numL i.natAbs) (numL_digits _)
  have fl : ((numL i.natAbs).map fun c => PyData.str ⟨#[c]⟩).length ≤ 1000000 := by simp; omega
  have af := any_false (numL i.natAbs)
  have ci : cInt [.str (sI i)] = some (.int i) := by
    show (if decide ((sI i).length ≤ 640) then (PySem.intText? (sI i)).map PyData.int else none) = _
    rw [if_pos (by simp; omega), int_sI h]
    rfl
  have cs := cStr_eq h
  have sh := lay_shaped (n := 0) (lay_str (sI_ok i)) (by decide)
  have eq : dEq (.str (sI i)) (.str (sI i)) = some (.bool true) := by
    unfold dEq
    rw [sh]
    simp [PyData.eqv]
  have tl0 : tlOf (.str dg) = none := rfl
  simp -implicitDefEqProofs only [m_integer_of, b_integer_of, runF]
  rw [show (([.str (sI i)] : List D).map Slot.val ++ List.replicate (4 - ([.str (sI i)] : List D).length) Slot.no) = [.val (.str (sI i)), .no, .no, .no] from rfl]
  rw [e_seqF, hif]
  generalize (numL i.natAbs).map (fun c => PyData.str ⟨#[c]⟩) = L at *
  generalize (numL i.natAbs).map (fun _ => PyData.bool false) = M at *
  generalize sI i = si at *
  simp -implicitDefEqProofs [tr, sd, tl0, fits, fl, wipeE, lc, af, ci, cs, eq]
end KC

set_option Elab.async false
set_option linter.all false
set_option maxRecDepth 100000
/-! PQ: the text of a figure. -/
namespace KC
open PySem PySem.Spec PyProof.Rows L2 DL
open TL (tl len_tl ext_tl tl_append tl_ofString tl_num numL numL_len numL_free numL_digits numL_ne numL_val numL_lt split_join join_eq tl_join joinL int_num)
def nums : List Pt → List Int
  | [] => []
  | p :: r => p.x :: p.y :: p.w :: nums r
def wds (H : List Pt) : List Str := (nums H).map sI
def Small (H : List Pt) : Prop := ∀ p ∈ H, Bx 1000000 p
theorem nums_len : ∀ H : List Pt, (nums H).length = 3 * H.length
  | [] => rfl
  | p :: r => by simp only [nums, List.length_cons, nums_len r]; omega
theorem nums_small : ∀ {H : List Pt}, Small H → ∀ i ∈ nums H, i.natAbs ≤ 1000000
  | [], _, i, hi => by simp [nums] at hi
  | p :: r, h, i, hi => by
    have b := h p (by simp)
    simp only [nums, List.mem_cons] at hi
    rcases hi with z | z | z | z
    · subst z; exact b.x
    · subst z; exact b.y
    · subst z; exact b.w
    · exact nums_small (fun q hq => h q (by simp [hq])) i z
abbrev sD (l : List Str) : List D := l.map PyData.str
theorem lc2_words (v : D) : ∀ (H : List Pt), Small H → lc2L (tn 1) yesF (iaF (vn 1)) (tn 2) yesF (callF cStr (consF (vn 2) nilF)) [2] [.val v, .no, .no] (pD H) = some (sD (wds H))
  | [], _ => rfl
  | p :: r, h => by
    have ih := lc2_words v r (fun q hq => h q (by simp [hq]))
    have b := h p (by simp)
    have c1 := cStr_eq b.x
    have c2 := cStr_eq b.y
    have c3 := cStr_eq b.w
    rw [pD, List.map_cons, lc2L]
    have e : (tn 1 (ptD p) [.val v, .no, .no]) = some [.val v, .val (ptD p), .no] := rfl
    rw [e]
    simp only [Option.bind_some, e_yesF, if_true, e_iaF, e_vn, List.getElem?_cons_zero, List.getElem?_cons_succ]
    have e2 : (tlOf (ptD p)).or (stOf (ptD p)) = some [.int p.x, .int p.y, .int p.w] := rfl
    rw [e2]
    simp only [Option.bind_some, lc2I, wipeE, e_tn, List.set_cons_zero, List.set_cons_succ, e_yesF, if_true, e_callF, e_consF, e_nilF, e_vn, List.getElem?_cons_zero, List.getElem?_cons_succ, Option.map_some, c1, c2, c3]
    rw [ih]
    rfl
theorem m_words_eq {H : List Pt} (h : Small H) (hl : H.length ≤ 1000) : m_words_of [.tuple (pD H)] = some (.list (sD (wds H))) := by
  have e := lc2_words (.tuple (pD H)) H h
  have fl : fitsL (sD (wds H)) = some (sD (wds H)) := by
    have := nums_len H
    unfold fitsL fits
    rw [if_pos]
    simp [wds]; omega
  simp only [m_words_of, b_words_of, runF]
  rw [show (([.tuple (pD H)] : List D).map Slot.val ++ List.replicate (3 - ([.tuple (pD H)] : List D).length) Slot.no) = [.val (.tuple (pD H)), .no, .no] from rfl]
  rw [e_retF, e_toL]
  unfold lc2F
  have w : wipeE [Slot.val (.tuple (pD H)), .no, .no] [1, 2] = [.val (.tuple (pD H)), .no, .no] := rfl
  have i : iaF (vn 0) [.val (.tuple (pD H)), .no, .no] = some (pD H) := by simp
  rw [i]
  simp only [Option.bind_some]
  rw [w, e]
  simp only [Option.bind_some]
  rw [fl]
  rfl
def prts (H : List Pt) : List Str := "polygon" :: wds H
def lineS (H : List Pt) : Str := Txt.join " " (prts H)
def lineN (H : List Pt) : Str := lineS H ++ "\n"
def textS (Fs : List (List Pt)) : Str := Txt.join "" (Fs.map lineN)
theorem joinL_cons (s : Nat) : ∀ (ps : List (List Nat)) (p : List Nat), joinL [s] (p :: ps) = p ++ ps.flatMap (fun q => s :: q)
  | [], p => by simp [joinL]
  | q :: r, p => by
    show p ++ ([s] ++ joinL [s] (q :: r)) = _
    rw [joinL_cons s r q]
    simp
theorem joinL_nil : ∀ (ps : List (List Nat)), joinL [] ps = ps.flatMap id
  | [] => rfl
  | [p] => by simp [joinL]
  | p :: q :: r => by
    show p ++ ([] ++ joinL [] (q :: r)) = _
    rw [joinL_nil (q :: r)]
    simp
theorem tl_line (H : List Pt) : tl (lineS H) = tl "polygon" ++ (nums H).flatMap (fun i => 32 :: tl (sI i)) := by
  unfold lineS
  rw [join_eq, tl_join]
  have : tl (" " : Str) = [32] := by decide
  rw [this, prts, List.map_cons, joinL_cons, wds, List.map_map, List.flatMap_map]
  rfl
theorem tl_text (Fs : List (List Pt)) : tl (textS Fs) = Fs.flatMap (fun H => tl (lineN H)) := by
  unfold textS
  rw [join_eq, tl_join]
  have : tl ("" : Str) = [] := by decide
  rw [this, joinL_nil, List.map_map, List.flatMap_map]
  rfl
theorem fm_len {α : Type} (f : α → List Nat) (n : Nat) : ∀ (l : List α), (∀ x ∈ l, (f x).length ≤ n) → (l.flatMap f).length ≤ n * l.length
  | [], _ => by simp
  | a :: l, h => by
    have ih := fm_len f n l (fun x hx => h x (by simp [hx]))
    have := h a (by simp)
    rw [List.flatMap_cons, List.length_append, List.length_cons, Nat.mul_succ]
    omega
theorem line_len {H : List Pt} (h : Small H) (hl : H.length ≤ 20) : (lineS H).length ≤ 600 := by
  rw [len_tl, tl_line, List.length_append]
  have := fm_len (fun i => 32 :: tl (sI i)) 9 (nums H) (by
    intro i hi
    have := sI_len (nums_small h i hi)
    rw [len_tl] at this
    simp
    simp at this
    omega)
  rw [nums_len] at this
  have : (tl ("polygon" : Str)).length = 7 := by decide
  omega
theorem lineN_len {H : List Pt} (h : Small H) (hl : H.length ≤ 20) : (lineN H).length ≤ 601 := by
  have := line_len h hl
  have e : (lineN H).length = (lineS H).length + 1 := by
    unfold lineN
    rw [len_tl, tl_append, List.length_append, ← len_tl]
    rfl
  omega
def Okay (Fs : List (List Pt)) : Prop := Fs.length ≤ 8 ∧ ∀ H ∈ Fs, Small H ∧ H.length ≤ 20 ∧ Poly H
theorem text_len {Fs : List (List Pt)} (h : Okay Fs) : (textS Fs).length ≤ 5000 := by
  rw [len_tl, tl_text]
  have := fm_len (fun H => tl (lineN H)) 601 Fs (by
    intro H hH
    have q := h.2 H hH
    have := lineN_len q.1 q.2.1
    rwa [len_tl] at this)
  have := h.1
  omega
/-- a figure as data -/
abbrev fD (Fs : List (List Pt)) : List D := Fs.map fun H => .tuple (pD H)
theorem strs_sD : ∀ l : List Str, strsOf (sD l) = some l
  | [] => rfl
  | a :: l => by simp only [sD, List.map_cons, strsOf]; rw [strs_sD l]; rfl
theorem joinD_sD {z : Str} {l : List Str} (h : (l.map (·.length)).sum + l.length * z.length ≤ 1000000) : joinD (.str z) (sD l) = some (.str (Txt.join z l)) := by
  unfold joinD
  simp only
  rw [strs_sD]
  simp only [Option.bind_some]
  rw [if_pos (by simpa [fits] using h)]
theorem sum_le (n : Nat) : ∀ l : List Str, (∀ x ∈ l, x.length ≤ n) → (l.map (·.length)).sum ≤ n * l.length
  | [], _ => by simp
  | a :: l, h => by
    have ih := sum_le n l (fun x hx => h x (by simp [hx]))
    have := h a (by simp)
    rw [List.map_cons, List.sum_cons, List.length_cons, Nat.mul_succ]
    omega
theorem prts_len {H : List Pt} (h : Small H) : ∀ x ∈ prts H, x.length ≤ 8 := by
  intro x hx
  rcases List.mem_cons.mp hx with z | z
  · subst z; decide
  · obtain ⟨i, hi, rfl⟩ := List.mem_map.mp z
    exact sI_len (nums_small h i hi)
theorem join_line {H : List Pt} (h : Small H) (hl : H.length ≤ 20) : joinD (.str " ") (sD (prts H)) = some (.str (lineS H)) := by
  refine joinD_sD ?_
  have a := sum_le 8 _ (prts_len h)
  have b : (prts H).length = 3 * H.length + 1 := by simp [prts, wds, nums_len]
  have c : (" " : Str).length = 1 := by decide
  rw [c]
  omega
theorem lc_lines (v : Slot) : ∀ (Fs : List (List Pt)), (∀ H ∈ Fs, Small H ∧ H.length ≤ 20) → lcL (tn 1) yesF (b2 dAdd (jnF (vc (.str " ")) (lstF (consF (vc (.str "polygon")) (starF (loF (callF m_words_of (consF (vn 1) (nilF)))) (nilF))))) (vc (.str "\n"))) [v, .no] (fD Fs) = some (sD (Fs.map lineN))
  | [], _ => rfl
  | H :: Fs, h => by
    have ih := lc_lines v Fs (fun q hq => h q (by simp [hq]))
    obtain ⟨h1, h2⟩ := h H (by simp)
    have w := m_words_eq h1 (by omega)
    have j := join_line h1 h2
    have ll := line_len h1 h2
    have fl : fitsL (.str "polygon" :: (sD (wds H))) = some (sD (prts H)) := by
      unfold fitsL fits
      rw [if_pos]
      · rfl
      · simp [wds, nums_len]; omega
    have ad : dAdd (.str (lineS H)) (.str "\n") = some (.str (lineN H)) := by
      unfold dAdd
      simp only
      have : ("\n" : Str).length = 1 := by decide
      rw [if_pos (by simp [fits, this]; omega)]
      rfl
    rw [fD, List.map_cons, lcL]
    simp only [e_tn, Option.bind_some, e_yesF, if_true, e_b2, e_jnF, e_vc, e_lstF, e_consF, e_starF, e_loF, e_callF, e_vn, e_nilF, List.set_cons_zero, List.set_cons_succ, List.getElem?_cons_zero, List.getElem?_cons_succ, Option.map_some, w, e_lsOf, List.append_nil, fl, j, ad]
    rw [ih]
    rfl
theorem m_write_eq {Fs : List (List Pt)} (h : Okay Fs) : m_write_figure [.list (fD Fs)] = some (.str (textS Fs)) := by
  have e := lc_lines (.val (.list (fD Fs))) Fs (fun H hH => ⟨(h.2 H hH).1, (h.2 H hH).2.1⟩)
  have j : joinD (.str "") (sD (Fs.map lineN)) = some (.str (textS Fs)) := by
    refine joinD_sD ?_
    have a := sum_le 601 (Fs.map lineN) (by
      intro x hx
      obtain ⟨H, hH, rfl⟩ := List.mem_map.mp hx
      exact lineN_len (h.2 H hH).1 (h.2 H hH).2.1)
    have c : ("" : Str).length = 0 := by decide
    have := h.1
    rw [List.length_map] at a ⊢
    rw [c]
    omega
  have fl : fits (fD Fs).length = true := by have := h.1; simp [fits]; omega
  simp only [m_write_figure, b_write_figure, runF]
  rw [show (([.list (fD Fs)] : List D).map Slot.val ++ List.replicate (2 - ([.list (fD Fs)] : List D).length) Slot.no) = [.val (.list (fD Fs)), .no] from rfl]
  generalize fD Fs = F at *
  generalize sD (Fs.map lineN) = S at *
  simp -implicitDefEqProofs [fl, wipeE, e, j]
end KC

set_option Elab.async false
set_option linter.all false
set_option maxRecDepth 100000
/-! PR: reading a line. -/
namespace KC
open PySem PySem.Spec PyProof.Rows L2 DL
open TL (tl len_tl ext_tl tl_append tl_ofString tl_num numL numL_len numL_free numL_digits numL_ne numL_val numL_lt split_join join_eq tl_join joinL int_num)
abbrev iD (l : List Int) : List D := l.map PyData.int
theorem lc_ints (v0 v1 : Slot) : ∀ l : List Int, (∀ i ∈ l, i.natAbs ≤ 1000000) → lcL (tn 2) yesF (callF m_integer_of (consF (vn 2) (nilF))) [v0, v1, .no] (sD (l.map sI)) = some (iD l)
  | [], _ => rfl
  | i :: l, h => by
    have ih := lc_ints v0 v1 l (fun j hj => h j (by simp [hj]))
    have e := m_integer_eq (h i (by simp))
    rw [List.map_cons, sD, List.map_cons, lcL]
    simp only [e_tn, Option.bind_some, e_yesF, if_true, e_callF, e_consF, e_vn, e_nilF, List.set_cons_zero, List.set_cons_succ, List.getElem?_cons_zero, List.getElem?_cons_succ, Option.map_some, e]
    rw [ih]
    rfl
theorem in_none (l : List Int) : dIn .none (.list (iD l)) = some (.bool false) := by
  have h1 : SeqAt.shaped .none = true := lay_shaped (n := 0) (lay_none 0) (by decide)
  have h2 : SeqAt.shaped (.list (iD l)) = true := lay_shaped (n := 1) (lay_list (n := 0) (by
    intro d hd
    obtain ⟨i, _, rfl⟩ := List.mem_map.mp hd
    exact lay_int 0 i)) (by decide)
  have h3 : inL .none (iD l) = false := by
    unfold inL
    rw [List.any_eq_false]
    intro d hd
    obtain ⟨i, _, rfl⟩ := List.mem_map.mp hd
    simp [PyData.eqv]
  have : dIn .none (.list (iD l)) = if SeqAt.shaped .none && SeqAt.shaped (.list (iD l)) then some (.bool (inL .none (iD l))) else none := rfl
  rw [this, h1, h2, h3]
  rfl
theorem m_integers_eq {l : List Int} (h : ∀ i ∈ l, i.natAbs ≤ 1000000) (hl : l.length ≤ 1000000) : m_integers_of [.list (sD (l.map sI))] = some (.list (iD l)) := by
  have e := lc_ints (.val (.list (sD (l.map sI)))) .no l h
  have n := in_none l
  have fl : fits (sD (l.map sI)).length = true := by simp [fits]; omega
  simp only [m_integers_of, b_integers_of, runF]
  rw [show (([.list (sD (l.map sI))] : List D).map Slot.val ++ List.replicate (3 - ([.list (sD (l.map sI))] : List D).length) Slot.no) = [.val (.list (sD (l.map sI))), .no, .no] from rfl]
  generalize sD (l.map sI) = S at *
  generalize iD l = I at *
  simp -implicitDefEqProofs [fl, wipeE, e, n]
theorem nums_app : ∀ a b : List Pt, nums (a ++ b) = nums a ++ nums b
  | [], b => rfl
  | p :: a, b => by simp only [List.cons_append, nums, nums_app a b]
theorem cut3 (pre suf : List Pt) (p : Pt) : DL.cutD (iD (nums (pre ++ p :: suf))) (some (((pre.length : Nat) : Int) * 3)) (some (((pre.length : Nat) : Int) * 3 + 3)) = [.int p.x, .int p.y, .int p.w] := by
  have e1 : ((pre.length : Nat) : Int) * 3 = ((3 * pre.length : Nat) : Int) := by omega
  have e2 : ((pre.length : Nat) : Int) * 3 + 3 = ((3 * pre.length + 3 : Nat) : Int) := by omega
  have l1 := nums_len pre
  have l2 : (iD (nums (pre ++ p :: suf))).length = 3 * pre.length + 3 + 3 * suf.length := by
    rw [List.length_map, nums_len]; simp; omega
  unfold DL.cutD
  rw [e2, e1, HT.sIx_nat, HT.sIx_nat, l2, Nat.min_eq_left (by omega), Nat.min_eq_left (by omega)]
  rw [nums_app, iD, List.map_append, List.drop_left' (by rw [List.length_map, l1])]
  rw [show 3 * pre.length + 3 - 3 * pre.length = 3 by omega]
  rfl
def idx (k n : Nat) : List D := (List.range n).map fun i => .int (0 + ((k + i : Nat) : Int) * 3)
theorem idx_succ (k n : Nat) : idx k (n + 1) = .int (((k : Nat) : Int) * 3) :: idx (k + 1) n := by
  unfold idx
  rw [List.range_succ_eq_map, List.map_cons, List.map_map]
  congr 1
  · congr 1; simp
  · apply List.map_congr_left
    intro i _
    simp only [Function.comp]
    congr 1
    have : k + (i + 1) = k + 1 + i := by omega
    rw [Nat.succ_eq_add_one, this]
theorem rg3_idx (n : Nat) (h : n ≤ 1000000) : rg3 [.int 0, .int (3 * n : Nat), .int 3] = some (idx 0 n) := by
  have q : ((3 * n : Nat) : Int) < 1152921504606846976 := by omega
  have q2 : (-1152921504606846976 : Int) ≤ ((3 * n : Nat) : Int) := by omega
  have m : (if (0 : Int) < ((3 * n : Nat) : Int) then ((((3 * n : Nat) : Int) - 0 - 1) / 3 + 1).toNat else 0) = n := by
    split <;> omega
  unfold rg3
  simp only
  rw [m, if_pos (by simp only [decide_eq_true_eq]; omega)]
  unfold idx
  simp
noncomputable def poS : D → En → Option Out := fun d env => (tn 2 d env).bind (seqF (asgF (dslF (vn 0) (oiF (vn 2)) (oiF (b2 dAdd (vn 2) (vc (.int 3))))) (tt 3 (gsCons (tn 3) (gsCons (tn 4) (gsCons (tn 5) (gsNil))))))
  (seqF (ifF (orF (tcF dLt (vn 5) (vc (.int 1))) (tcF dNe (callF m_point (consF (vn 3) (consF (vn 4) (consF (vn 5) (nilF))))) (tupF (consF (vn 3) (consF (vn 4) (consF (vn 5) (nilF))))))) (retF (vc .none)) (nxF))
  (mutF 1 hApp (tupF (consF (vn 3) (consF (vn 4) (consF (vn 5) (nilF)))))))) 
theorem po1 (pre suf : List Pt) (p : Pt) (hp : p.nm) (ps : List D) (hl : ps.length ≤ 1000000) (s2 s3 s4 s5 : Slot) : ∃ t3 t4 t5, poS (.int (((pre.length : Nat) : Int) * 3)) [.val (.list (iD (nums (pre ++ p :: suf)))), .own ps, s2, s3, s4, s5] = some (.nx [.val (.list (iD (nums (pre ++ p :: suf)))), .own (ps ++ [ptD p]), .val (.int (((pre.length : Nat) : Int) * 3)), t3, t4, t5]) := by
  have c := cut3 pre suf p
  have e := m_point_eq p hp
  have w : ¬ p.w < 1 := by have := hp.w; omega
  have sh := lay_shaped (lay_pt p) (by decide)
  have ne : dNe (ptD p) (ptD p) = some (.bool false) := by
    unfold dNe
    rw [sh, eqv_pt]
    simp
  have fl : fits ps.length = true := by simpa [fits] using hl
  have f3 : fitsL [PyData.int p.x, .int p.y, .int p.w] = some [PyData.int p.x, .int p.y, .int p.w] := rfl
  have tp : PyData.tuple [PyData.int p.x, .int p.y, .int p.w] = ptD p := rfl
  generalize iD (nums (pre ++ p :: suf)) = I at *
  refine ⟨.val (.int p.x), .val (.int p.y), .val (.int p.w), ?_⟩
  simp -implicitDefEqProofs only [poS, e_tn, Option.bind_some, e_seqF, e_asgF, e_dslF, e_vn, e_oiF, e_b2, e_vc, e_dAddI, e_intOf, dCut, c, e_tt, e_tlOfL, List.length_cons, List.length_nil, e_gsCons, e_gsNil, if_true, e_ifF, e_orF, e_tcF, e_dLt, w, decide_false, e_boolOf, Bool.false_eq_true, if_false, e_callF, e_consF, e_nilF, Option.map_some, List.set_cons_zero, List.set_cons_succ, List.getElem?_cons_zero, List.getElem?_cons_succ, e, e_tupF, f3, tp, ne, e_nxF, e_mutF, hApp, fl]
theorem poLoop : ∀ (suf pre : List Pt) (ps : List D) (s2 s3 s4 s5 : Slot), (∀ p ∈ suf, p.nm) → ps.length + suf.length ≤ 1000000 → ∃ t2 t3 t4 t5, loopF poS (idx pre.length suf.length) [.val (.list (iD (nums (pre ++ suf)))), .own ps, s2, s3, s4, s5] = some (.nx [.val (.list (iD (nums (pre ++ suf)))), .own (ps ++ pD suf), t2, t3, t4, t5])
  | [], pre, ps, s2, s3, s4, s5, _, _ => ⟨s2, s3, s4, s5, by simp [idx, pD]⟩
  | p :: suf, pre, ps, s2, s3, s4, s5, h, hl => by
    simp at hl
    obtain ⟨t3, t4, t5, e⟩ := po1 pre suf p (h p (by simp)) ps (by omega) s2 s3 s4 s5
    obtain ⟨u2, u3, u4, u5, e2⟩ := poLoop suf (pre ++ [p]) (ps ++ [ptD p]) (.val (.int (((pre.length : Nat) : Int) * 3))) t3 t4 t5 (fun q hq => h q (by simp [hq])) (by simp; omega)
    refine ⟨u2, u3, u4, u5, ?_⟩
    rw [List.length_cons, idx_succ, loopF, e]
    simp only [Option.bind_some]
    rw [List.append_assoc, List.singleton_append] at e2
    rw [List.length_append] at e2
    rw [show pre.length + [p].length = pre.length + 1 from rfl] at e2
    rw [e2]
    simp [pD]
theorem forF_of {fi : En → Option (List D)} {gt : D → En → Option En} {b : En → Option Out} {env : En} {ds : List D} {r : Option Out} (h1 : fi env = some ds) (h2 : loopF (fun d env => (gt d env).bind b) ds env = r) : forF fi gt b env = r := by
  rw [e_forF, h1]; exact h2
theorem dMod3 (n : Nat) : dMod (.int ((3 * n : Nat) : Int)) (.int 3) = some (.int 0) := by
  unfold dMod
  simp only
  rw [if_pos (by decide)]
  have : Int.fmod ((3 * n : Nat) : Int) 3 = 0 := by
    rw [Int.fmod_eq_emod_of_nonneg _ (by decide)]
    omega
  rw [this]
theorem fo_eq {I : List D} {n : Nat} {o : Option Out} (hn : n ≤ 1000000) (cl : cLen [.list I] = some (.int ((3 * n : Nat) : Int))) (e' : loopF poS (idx 0 n) [.val (.list I), .own [], .no, .no, .no, .no] = o) : forF (r3F (consF (vc (.int 0)) (consF (callF cLen (consF (vn 0) (nilF))) (consF (vc (.int 3)) (nilF))))) (tn 2) (seqF (asgF (dslF (vn 0) (oiF (vn 2)) (oiF (b2 dAdd (vn 2) (vc (.int 3))))) (tt 3 (gsCons (tn 3) (gsCons (tn 4) (gsCons (tn 5) (gsNil))))))
  (seqF (ifF (orF (tcF dLt (vn 5) (vc (.int 1))) (tcF dNe (callF m_point (consF (vn 3) (consF (vn 4) (consF (vn 5) (nilF))))) (tupF (consF (vn 3) (consF (vn 4) (consF (vn 5) (nilF))))))) (retF (vc .none)) (nxF))
  (mutF 1 hApp (tupF (consF (vn 3) (consF (vn 4) (consF (vn 5) (nilF)))))))) [.val (.list I), .own [], .no, .no, .no, .no] = o := by
  refine forF_of (ds := idx 0 n) ?_ e'
  have r := rg3_idx n hn
  rw [e_r3F]
  have : (consF (vc (.int 0)) (consF (callF cLen (consF (vn 0) (nilF))) (consF (vc (.int 3)) (nilF)))) [.val (.list I), .own [], .no, .no, .no, .no] = some [.int 0, .int ((3 * n : Nat) : Int), .int 3] := by
    simp -implicitDefEqProofs only [e_consF, e_vc, e_callF, e_vn, e_nilF, List.getElem?_cons_zero, Option.bind_some, Option.map_some, cl]
  rw [this, Option.bind_some, r]
theorem m_points_eq {H : List Pt} (h : ∀ p ∈ H, p.nm) (hl : H.length ≤ 1000) : m_points_of [.list (iD (nums H))] = some (.list (pD H)) := by
  obtain ⟨t2, t3, t4, t5, e⟩ := poLoop H [] [] .no .no .no .no h (by simp; omega)
  have n : (iD (nums H)).length = 3 * H.length := by rw [List.length_map, nums_len]
  have m := dMod3 H.length
  have ne := dNe_int 0 0
  rw [decide_eq_true rfl] at ne
  have cl : cLen [.list (iD (nums H))] = some (.int ((3 * H.length : Nat) : Int)) := by rw [e_cLenL, n]
  have e' : loopF poS (idx 0 H.length) [.val (.list (iD (nums H))), .own [], .no, .no, .no, .no] = some (.nx [.val (.list (iD (nums H))), .own (pD H), t2, t3, t4, t5]) := e
  simp -implicitDefEqProofs only [m_points_of, b_points_of, runF]
  rw [show (([.list (iD (nums H))] : List D).map Slot.val ++ List.replicate (6 - ([.list (iD (nums H))] : List D).length) Slot.no) = [.val (.list (iD (nums H))), .no, .no, .no, .no, .no] from rfl]
  generalize iD (nums H) = I at *
  have fo := fo_eq (by omega) cl e'
  rw [e_seqF]
  have a1 : ifF (tcF dNe (b2 dMod (callF cLen (consF (vn 0) (nilF))) (vc (.int 3))) (vc (.int 0))) (retF (vc .none)) (nxF) [.val (.list I), .no, .no, .no, .no, .no] = some (.nx [.val (.list I), .no, .no, .no, .no, .no]) := by
    simp -implicitDefEqProofs only [e_ifF, e_tcF, e_b2, e_callF, e_consF, e_vn, e_nilF, e_vc, List.getElem?_cons_zero, Option.bind_some, Option.map_some, cl, m, ne, e_boolOf, Bool.not_true, Bool.false_eq_true, if_false, e_nxF]
  rw [a1]
  simp -implicitDefEqProofs only [Option.bind_some]
  rw [e_seqF]
  have a2 : ownF 1 (lstF (nilF)) [.val (.list I), .no, .no, .no, .no, .no] = some (.nx [.val (.list I), .own [], .no, .no, .no, .no]) := by simp -implicitDefEqProofs [fitsL, fits]
  rw [a2]
  simp -implicitDefEqProofs only [Option.bind_some]
  rw [e_seqF, fo]
  simp -implicitDefEqProofs
theorem m_pow_eq {H : List Pt} (hs : Small H) (h : ∀ p ∈ H, p.nm) (hl : H.length ≤ 1000) : m_points_of_words [.list (sD (wds H))] = some (.list (pD H)) := by
  have a := m_integers_eq (nums_small hs) (by rw [nums_len]; omega)
  have b := m_points_eq h hl
  have a' : m_integers_of [.list (sD (wds H))] = some (.list (iD (nums H))) := a
  have c : dIs (.list (iD (nums H))) .none = some (.bool false) := rfl
  generalize sD (wds H) = S at *
  generalize iD (nums H) = I at *
  simp -implicitDefEqProofs [m_points_of_words, b_points_of_words, runF, a', b, c]
theorem small_free {x : Str} (h : ∀ c ∈ tl x, c < 256) : x.cps.all (· < 256) = true := by
  rw [Array.all_eq_true_iff_forall_mem]
  intro c hc
  simpa using h c (Array.mem_toList_iff.mpr hc)
theorem strOk_free {x : Str} (h : ∀ c ∈ tl x, c < 0x110000) : PyData.strOk x = true := by
  unfold PyData.strOk
  rw [Array.all_eq_true_iff_forall_mem]
  intro c hc
  simpa using h c (Array.mem_toList_iff.mpr hc)
theorem dNe_str {a b : Str} (ha : PyData.strOk a = true) (hb : PyData.strOk b = true) : dNe (.str a) (.str b) = some (.bool (!(a == b))) := by
  unfold dNe
  rw [lay_shaped (n := 0) (lay_str ha) (by decide), lay_shaped (n := 0) (lay_str hb) (by decide)]
  simp [PyData.eqv]
theorem split_line {H : List Pt} : Txt.split (lineS H) " " = prts H := by
  refine split_join (s := 32) (S := []) (by decide) (small_free (by decide)) (by simp [prts]) ?_
  intro x hx
  rcases List.mem_cons.mp hx with z | z
  · subst z; decide
  · obtain ⟨i, hi, rfl⟩ := List.mem_map.mp z
    exact sI_free (Or.inl (by decide))
theorem m_readp_eq {H : List Pt} (hs : Small H) (P : Poly H) (hl : H.length ≤ 20) : m_read_polygon [.str (lineS H)] = some (.tuple (pD H)) := by
  have ll := line_len hs hl
  have sp : splitD (.str (lineS H)) (.str " ") = some (sD (prts H)) := by
    unfold splitD
    simp only
    have : (" " : Str).length = 1 := by decide
    rw [if_pos (by simp only [decide_eq_true_eq]; omega), split_line]
  have cd : DL.cutD (sD (prts H)) (some 1) none = sD (wds H) := by
    have := cut_drop (sD (prts H)) 1 (by simp [prts])
    rw [show ((1 : Nat) : Int) = 1 from rfl] at this
    rw [this]
    rfl
  have pw := m_pow_eq hs P.nm (by omega)
  have ip := is_poly P (by omega)
  have i0 : atI (sD (prts H)) 0 = some (.str "polygon") := at0 _ _
  have ok : PyData.strOk "polygon" = true := strOk_free (by decide)
  have ne := dNe_str ok ok
  have c : dIs (.list (pD H)) .none = some (.bool false) := rfl
  generalize sD (prts H) = S at *
  generalize sD (wds H) = W at *
  generalize pD H = V at *
  generalize lineS H = l at *
  simp at ne
  simp -implicitDefEqProofs [m_read_polygon, b_read_polygon, runF, sp, dCut, cd, pw, ip, i0, ne, c]
end KC

set_option Elab.async false
set_option linter.all false
set_option maxRecDepth 100000
/-! PS: reading a figure; telling it. -/
namespace KC
open PySem PySem.Spec PyProof.Rows L2 DL
open TL (tl len_tl ext_tl tl_append tl_ofString tl_num numL numL_len numL_free numL_digits numL_ne numL_val numL_lt split_join join_eq tl_join joinL int_num)
theorem joinL_last (s : Nat) : ∀ (ls : List (List Nat)), joinL [s] (ls ++ [[]]) = ls.flatMap (fun l => l ++ [s])
  | [] => rfl
  | [a] => by simp [joinL]
  | a :: b :: r => by
    show a ++ ([s] ++ joinL [s] ((b :: r) ++ [[]])) = _
    rw [joinL_last s (b :: r)]
    simp
theorem line_free (H : List Pt) : 10 ∉ tl (lineS H) := by
  rw [tl_line]
  intro h
  rcases List.mem_append.mp h with z | z
  · revert z; decide
  · obtain ⟨i, _, hi⟩ := List.mem_flatMap.mp z
    rcases List.mem_cons.mp hi with w | w
    · omega
    · exact sI_free (Or.inl (by decide)) w
theorem text_join (Fs : List (List Pt)) : textS Fs = Txt.join "\n" (Fs.map lineS ++ [("" : Str)]) := by
  refine ext_tl ?_
  rw [tl_text, join_eq, tl_join, List.map_append, List.map_map]
  have a : tl ("\n" : Str) = [10] := by decide
  have b : List.map tl ([""] : List Str) = [[]] := by decide
  rw [a, b, joinL_last, List.flatMap_map]
  have : ∀ H, tl (lineN H) = tl (lineS H) ++ [10] := by
    intro H
    unfold lineN
    rw [tl_append, a]
  simp only [this, Function.comp]
theorem split_text (Fs : List (List Pt)) : Txt.split (textS Fs) "\n" = Fs.map lineS ++ [("" : Str)] := by
  rw [text_join]
  refine split_join (s := 10) (S := []) (by decide) (small_free (by decide)) (by simp) ?_
  intro x hx
  rcases List.mem_append.mp hx with z | z
  · obtain ⟨H, _, rfl⟩ := List.mem_map.mp z
    exact line_free H
  · simp at z; subst z; decide
def enumK (k : Nat) (ds : List D) : List D := (ds.zipIdx k).map fun p => .tuple [.int ((p.2 : Nat) : Int), p.1]
theorem enumK_cons (k : Nat) (d : D) (ds : List D) : enumK k (d :: ds) = .tuple [.int ((k : Nat) : Int), d] :: enumK (k + 1) ds := by
  unfold enumK
  rw [List.zipIdx_cons, List.map_cons]
noncomputable def rdS (F_read : Addr) (m_read : List D → Option D) : D → En → Option Out := fun d env => (tt 2 (gsCons (tn 4) (gsCons (tn 5) (gsNil))) d env).bind (seqF (asgF (prF 1 F_read m_read (consF (vn 5) (nilF))) (tn 6))
  (seqF (ifF (tcF dIs (vn 6) (vc .none)) (nvrF) (nxF))
  (mutF 3 hApp (vn 6))))
theorem e_prF {i : Nat} {f : Addr} {m : List D → Option D} {ts : En → Option (List D)} {env : En} (h : env[i]? = some (.raw (.ref f))) : prF i f m ts env = (ts env).bind m := by
  unfold prF
  rw [if_pos h]
theorem rd1 (F_read : Addr) (m_read : List D → Option D) (v0 v2 l d k : D) (ps : List D) (hl : ps.length ≤ 1000000) (s4 s5 s6 : Slot) (h : m_read [l] = some d) (hn : dIs d .none = some (.bool false)) :
    rdS F_read m_read (.tuple [k, l]) [.val v0, .raw (.ref F_read), .val v2, .own ps, s4, s5, s6] = some (.nx [.val v0, .raw (.ref F_read), .val v2, .own (ps ++ [d]), .val k, .val l, .val d]) := by
  have e := e_prF (i := 1) (f := F_read) (m := m_read) (ts := consF (vn 5) (nilF)) (env := [.val v0, .raw (.ref F_read), .val v2, .own ps, .val k, .val l, s6]) rfl
  have fl : fits ps.length = true := by simpa [fits] using hl
  unfold rdS
  have a : (tt 2 (gsCons (tn 4) (gsCons (tn 5) (gsNil))) (.tuple [k, l]) [.val v0, .raw (.ref F_read), .val v2, .own ps, s4, s5, s6]) = some [.val v0, .raw (.ref F_read), .val v2, .own ps, .val k, .val l, s6] := rfl
  rw [a]
  simp -implicitDefEqProofs only [Option.bind_some, e_seqF, e_asgF, e, e_consF, e_vn, e_nilF, List.getElem?_cons_zero, List.getElem?_cons_succ, Option.map_some, h, e_tn, List.set_cons_zero, List.set_cons_succ, e_ifF, e_tcF, e_b2, e_vc, hn, e_boolOf, Bool.false_eq_true, if_false, e_nxF, e_mutF, hApp, fl, if_true]
theorem rdLoop (F_read : Addr) (m_read : List D → Option D) {α : Type} (g : α → Str) (q : α → D) (v0 v2 : D) : ∀ (Fs : List α) (k : Nat) (ps : List D) (s4 s5 s6 : Slot), (∀ H ∈ Fs, m_read [.str (g H)] = some (q H) ∧ dIs (q H) .none = some (.bool false)) → ps.length + Fs.length ≤ 1000000 →
    ∃ t4 t5 t6, loopF (rdS F_read m_read) (enumK k (sD (Fs.map g))) [.val v0, .raw (.ref F_read), .val v2, .own ps, s4, s5, s6] = some (.nx [.val v0, .raw (.ref F_read), .val v2, .own (ps ++ Fs.map q), t4, t5, t6])
  | [], k, ps, s4, s5, s6, _, _ => ⟨s4, s5, s6, by simp [enumK, sD]⟩
  | H :: Fs, k, ps, s4, s5, s6, h, hl => by
    simp at hl
    obtain ⟨h1, h2⟩ := h H (by simp)
    obtain ⟨t4, t5, t6, e⟩ := rdLoop F_read m_read g q v0 v2 Fs (k + 1) (ps ++ [q H]) (.val (.int ((k : Nat) : Int))) (.val (.str (g H))) (.val (q H)) (fun x hx => h x (by simp [hx])) (by simp; omega)
    refine ⟨t4, t5, t6, ?_⟩
    rw [List.map_cons, sD, List.map_cons, enumK_cons, loopF, rd1 F_read m_read v0 v2 _ _ _ ps (by omega) s4 s5 s6 h1 h2]
    simp -implicitDefEqProofs only [Option.bind_some]
    rw [List.map_cons]
    rw [List.append_assoc, List.singleton_append] at e
    exact e
theorem m_lines_eq (F_read : Addr) (m_read : List D → Option D) {α : Type} (g : α → Str) (q : α → D) (Fs : List α) (text : Str) (ht : text.length ≤ 1000000) (hsp : Txt.split text "\n" = Fs.map g ++ [("" : Str)]) (h : ∀ H ∈ Fs, m_read [.str (g H)] = some (q H) ∧ dIs (q H) .none = some (.bool false)) (hl : Fs.length ≤ 1000000) :
    m_read_lines F_read m_read (.str text) = some (.list (Fs.map q)) := by
  have sp : splitD (.str text) (.str "\n") = some (sD (Fs.map g) ++ [.str ""]) := by
    unfold splitD
    simp only
    have : ("\n" : Str).length = 1 := by decide
    rw [if_pos (by simp only [decide_eq_true_eq]; omega), hsp, List.map_append]
    rfl
  obtain ⟨t4, t5, t6, e⟩ := rdLoop F_read m_read g q (.str text) (.list (sD (Fs.map g) ++ [.str ""])) Fs 0 [] .no .no .no h (by simpa using hl)
  have cd : DL.cutD (sD (Fs.map g) ++ [.str ""]) none (some (-1)) = sD (Fs.map g) := by
    rw [cut_last]; simp
  have ok : PyData.strOk "" = true := strOk_free (by decide)
  have ne := dNe_str ok ok
  have la : atI (sD (Fs.map g) ++ [.str ""]) (-1) = some (.str "") := by
    refine atR (n := (sD (Fs.map g)).length) ?_ (by decide) ?_
    · simp
    · rw [List.length_append]; simp; omega
  have en : enumD (sD (Fs.map g)) = enumK 0 (sD (Fs.map g)) := rfl
  rw [List.nil_append] at e
  simp -implicitDefEqProofs only [m_read_lines, runF2, b_read_lines]
  rw [show (Slot.val (.str text) :: Slot.raw (.ref F_read) :: List.replicate (7 - 2) Slot.no) = [.val (.str text), .raw (.ref F_read), .no, .no, .no, .no, .no] from rfl]
  generalize sD (Fs.map g) = S at *
  generalize Fs.map q = Q at *
  rw [e_seqF]
  have a1 : asgF (toL (spF (vn 0) (vc (.str "\n")))) (tn 2) [.val (.str text), .raw (.ref F_read), .no, .no, .no, .no, .no] = some (.nx [.val (.str text), .raw (.ref F_read), .val (.list (S ++ [.str ""])), .no, .no, .no, .no]) := by
    simp -implicitDefEqProofs only [e_asgF, e_toL, e_spF, e_vn, e_vc, List.getElem?_cons_zero, Option.bind_some, Option.map_some, sp, e_tn, List.set_cons_zero, List.set_cons_succ]
  rw [a1]
  simp -implicitDefEqProofs only [Option.bind_some]
  rw [e_seqF]
  have a2 : ownF 3 (lstF (nilF)) [.val (.str text), .raw (.ref F_read), .val (.list (S ++ [.str ""])), .no, .no, .no, .no] = some (.nx [.val (.str text), .raw (.ref F_read), .val (.list (S ++ [.str ""])), .own [], .no, .no, .no]) := by simp -implicitDefEqProofs [fitsL, fits]
  rw [a2]
  simp -implicitDefEqProofs only [Option.bind_some]
  rw [e_seqF]
  have a3 : enF (dslF (vn 2) (onF) (oiF (b1 dNeg (vc (.int 1))))) [.val (.str text), .raw (.ref F_read), .val (.list (S ++ [.str ""])), .own [], .no, .no, .no] = some (enumK 0 S) := by
    simp -implicitDefEqProofs only [e_enF, e_dslF, e_vn, e_onF, e_oiF, e_b1, e_vc, e_dNeg, e_intOf, dCut, cd, List.getElem?_cons_zero, List.getElem?_cons_succ, Option.bind_some, Option.map_some, e_lsOf, en]
  rw [forF_of a3 e]
  simp -implicitDefEqProofs only [Option.bind_some]
  have ne' : dNe (.str "") (.str "") = some (.bool false) := by rw [ne]; simp
  simp -implicitDefEqProofs only [e_seqF, e_ifF, e_tcF, e_b2, e_vn, e_b1, e_vc, e_dNeg, List.getElem?_cons_zero, List.getElem?_cons_succ, Option.bind_some, Option.map_some, e_dIxL, e_ixL, la, ne', e_boolOf, Bool.false_eq_true, if_false, e_nxF, e_fzF, e_frzE, e_retF, List.set_cons_zero, List.set_cons_succ, outD]
theorem m_readf_eq (F_read : Addr) {Fs : List (List Pt)} (h : Okay Fs) : m_read_figure F_read m_read_polygon [.str (textS Fs)] = some (.list (fD Fs)) := by
  have tlen := text_len h
  have e := m_lines_eq F_read m_read_polygon lineS (fun H => .tuple (pD H)) Fs (textS Fs) (by omega) (split_text Fs) (fun H hH => ⟨m_readp_eq (h.2 H hH).1 (h.2 H hH).2.2 (h.2 H hH).2.1, rfl⟩) (by have := h.1; omega)
  have e' : m_read_lines F_read m_read_polygon (.str (textS Fs)) = some (.list (fD Fs)) := e
  simp -implicitDefEqProofs [m_read_figure, b_read_figure, runF, e']
/-! ### telling -/
theorem shownAll_map : ∀ ds : List D, PyData.shownAll ds = ds.map PyData.shown
  | [] => by simp only [PyData.shownAll, List.map_nil]
  | d :: ds => by simp only [PyData.shownAll, List.map_cons, shownAll_map ds]
def Ok (x : Str) : Prop := ∀ c ∈ tl x, c < 0x110000
theorem ok_join {y : Str} (hy : Ok y) : ∀ {ps : List Str}, (∀ p ∈ ps, Ok p) → Ok (Str.join y ps)
  | [], _ => by intro c hc; exact absurd hc (by simp [Str.join, tl, Str.empty])
  | [p], h => h p (by simp)
  | p :: q :: r, h => by
    have ih := ok_join hy (ps := q :: r) (fun x hx => h x (by simp at hx ⊢; exact Or.inr hx))
    intro c hc
    have hc' : c ∈ tl (p ++ y ++ Str.join y (q :: r)) := hc
    rw [tl_append, tl_append] at hc'
    rcases List.mem_append.mp hc' with z | z
    · rcases List.mem_append.mp z with w | w
      · exact h p (by simp) c w
      · exact hy c w
    · exact ih c z
theorem ok_app {x y : Str} (hx : Ok x) (hy : Ok y) : Ok (x ++ y) := by
  intro c hc
  rw [tl_append] at hc
  rcases List.mem_append.mp hc with z | z
  · exact hx c z
  · exact hy c z
theorem ok_list {ds : List D} (h : ∀ d ∈ ds, Ok d.shown) : Ok (PyData.list ds).shown := by
  rw [PyData.shown_list, shownAll_map]
  refine ok_app (ok_app (by unfold Ok; decide) (ok_join (by unfold Ok; decide) ?_)) (by unfold Ok; decide)
  intro p hp
  obtain ⟨d, hd, rfl⟩ := List.mem_map.mp hp
  exact h d hd
theorem ok_tuple {ds : List D} (h : ∀ d ∈ ds, Ok d.shown) : Ok (PyData.tuple ds).shown := by
  rw [PyData.shown_tuple, shownAll_map]
  refine ok_app (ok_app (by unfold Ok; decide) (ok_join (by unfold Ok; decide) ?_)) ?_
  · intro p hp
    obtain ⟨d, hd, rfl⟩ := List.mem_map.mp hp
    exact h d hd
  · split <;> (unfold Ok; decide)
theorem ok_int (i : Int) : Ok (PyData.int i).shown := by
  rw [PyData.shown_int]
  intro c hc
  have : ¬ 57 < c := fun z => sI_free (i := i) (Or.inr z) hc
  omega
/-- data that repr tells within its bounds -/
structure Tell (b : Nat) (d : D) : Prop where
  ok : Ok d.shown
  lay : Lay 8 d
  sh : d.showable = true
  le : d.leavesShort 8 = true
  bk : d.bulk ≤ b
theorem tell_int {i : Int} (h : i.natAbs ≤ 1000000) : Tell 0 (.int i) := by
  refine ⟨ok_int i, lay_int 8 i, ?_, ?_, by simp [PyData.bulk]⟩
  · have := cStr_eq h
    unfold cStr at this
    simp only at this
    simp only [PyData.showable]
    by_cases c : decide (i.natAbs.log2 < 1920) = true
    · exact c
    · rw [if_neg c] at this
      exact absurd this (by simp)
  · simp only [PyData.leavesShort, PyData.shown_int, decide_eq_true_eq]
    exact sI_len h
theorem tell_all {b : Nat} : ∀ {ds : List D}, (∀ d ∈ ds, Tell b d) → PyData.showableAll ds = true ∧ PyData.leavesShortAll 8 ds = true ∧ PyData.bulkAll ds ≤ (b + 1) * ds.length
  | [], _ => ⟨by simp [PyData.showableAll], by simp [PyData.leavesShortAll], by simp [PyData.bulkAll]⟩
  | d :: ds, h => by
    have h1 := h d (by simp)
    obtain ⟨a, c, e⟩ := tell_all (ds := ds) (fun x hx => h x (by simp [hx]))
    refine ⟨by simp [PyData.showableAll, h1.sh, a], by simp [PyData.leavesShortAll, h1.le, c], ?_⟩
    have := h1.bk
    simp only [PyData.bulkAll, List.length_cons, Nat.mul_succ]
    omega
theorem tell_tuple {b n : Nat} {ds : List D} (h : ∀ d ∈ ds, Tell b d) (hl : Lay 8 (.tuple ds)) (hn : ds.length ≤ n) : Tell ((b + 1) * n) (.tuple ds) := by
  obtain ⟨a, c, e⟩ := tell_all h
  refine ⟨ok_tuple fun d hd => (h d hd).ok, hl, by simpa only [PyData.showable] using a, by simpa only [PyData.leavesShort] using c, ?_⟩
  have := Nat.mul_le_mul_left (b + 1) hn
  simp only [PyData.bulk]
  omega
theorem tell_list {b n : Nat} {ds : List D} (h : ∀ d ∈ ds, Tell b d) (hl : Lay 8 (.list ds)) (hn : ds.length ≤ n) : Tell ((b + 1) * n) (.list ds) := by
  obtain ⟨a, c, e⟩ := tell_all h
  refine ⟨ok_list fun d hd => (h d hd).ok, hl, by simpa only [PyData.showable] using a, by simpa only [PyData.leavesShort] using c, ?_⟩
  have := Nat.mul_le_mul_left (b + 1) hn
  simp only [PyData.bulk]
  omega
theorem Lay.mono {n m : Nat} {d : D} (h : Lay n d) (k : n ≤ m) : Lay m d := ⟨h.1, Nat.le_trans h.2 k⟩
theorem tell_pt {p : Pt} (h : Bx 1000000 p) : Tell 3 (ptD p) := by
  refine tell_tuple (b := 0) (n := 3) ?_ ((lay_pt p).mono (by decide)) (by simp)
  intro d hd
  simp at hd
  rcases hd with z | z | z <;> subst z
  · exact tell_int h.x
  · exact tell_int h.y
  · exact tell_int h.w
theorem tell_poly {H : List Pt} (h : Small H) (hl : H.length ≤ 20) : Tell 80 (.tuple (pD H)) := by
  refine tell_tuple (b := 3) (n := 20) ?_ ((lay_tup (lay_pts H)).mono (by decide)) (by simpa using hl)
  intro d hd
  obtain ⟨p, hp, rfl⟩ := List.mem_map.mp hd
  exact tell_pt (h p hp)
theorem lay_fig (Fs : List (List Pt)) : Lay 3 (.list (fD Fs)) := lay_list (n := 2) (by
  intro d hd
  obtain ⟨H, _, rfl⟩ := List.mem_map.mp hd
  exact lay_tup (lay_pts H))
theorem tell_fig {Fs : List (List Pt)} (h : Okay Fs) : Tell 648 (.list (fD Fs)) := by
  refine tell_list (b := 80) (n := 8) ?_ ((lay_fig Fs).mono (by decide)) (by have := h.1; simpa using this)
  intro d hd
  obtain ⟨H, hH, rfl⟩ := List.mem_map.mp hd
  exact tell_poly (h.2 H hH).1 (h.2 H hH).2.1
theorem repr_of {b : Nat} {ds : List D} (h : Tell b (.list ds)) (hb : b ≤ 99000) : ∃ x : Str, cRepr [.list ds] = some (.str x) ∧ dEq (.str x) (.str x) = some (.bool true) := by
  refine ⟨(PyData.list ds).shown, ?_, ?_⟩
  · have l := PyData.shown_le_bulk 8 (by decide) _ h.le
    have := h.bk
    have f : fits (PyData.list ds).shown.length = true := by
      unfold fits
      rw [decide_eq_true_eq]
      omega
    unfold cRepr
    simp only
    rw [h.sh, lay_shaped h.lay (by decide), f]
    rfl
  · unfold dEq
    rw [lay_shaped (n := 0) (lay_str (strOk_free h.ok)) (by decide)]
    simp [PyData.eqv]
theorem eq_self {d : D} {n : Nat} (h : Lay n d) (hn : n ≤ 64) : dEq d d = some (.bool true) := by
  unfold dEq
  rw [lay_shaped h hn, SeqAt.eqv_refl d h.1]
  rfl
end KC

set_option Elab.async false
set_option linter.all false
set_option maxRecDepth 100000
namespace KC
open PySem PySem.Spec PyProof.Rows L2 DL
noncomputable def b_write_paper : En → Option Out :=
  seqF (ownF 1 (lstF (nilF)))
  (seqF (forF (iaF (vn 0)) (tt 2 (gsCons (tn 2) (gsCons (tn 3) (gsNil)))) (mutF 1 hApp (b2 dAdd (jnF (vc (.str " ")) (lstF (consF (vc (.str "piece")) (consF (callF cStr (consF (b2 dIx (vn 3) (vc (.int 0))) (nilF))) (starF (loF (callF m_words_of (consF (toL (lstF (consF (b2 dIx (vn 3) (vc (.int 1))) (starF (ltF (vn 2)) (nilF))))) (nilF)))) (nilF)))))) (vc (.str "\n")))))
  (retF (jnF (vc (.str "")) (vnl 1))))
noncomputable def m_write_paper : List D → Option D := runF 4 (b_write_paper)

noncomputable def b__law_motion : En → Option Out :=
  seqF (asgF (callF m__law_parts (consF (vn 0) (consF (toL (lstF (consF (vc (.int 4)) (consF (vc (.int 7)) (consF (vc (.int 7)) (consF (vc (.int 3)) (nilF))))))) (nilF)))) (tn 3))
  (seqF (asgF (b2 dAdd (b2 dSub (b2 dMul (vc (.int 80)) (vn 1)) (vc (.int 160))) (b2 dIx (vn 3) (vc (.int 1)))) (tn 4))
  (seqF (asgF (b2 dAdd (vc (.int 1)) (b2 dIx (vn 3) (vc (.int 3)))) (tn 5))
  (seqF (ifF (tcF dEq (vn 2) (vc (.str "level"))) (retF (tupF (consF (vc (.int 0)) (consF (callF m__law_point (consF (b2 dAdd (b2 dMul (b2 dSub (b2 dMul (vc (.int 80)) (vn 1)) (vc (.int 160))) (vn 5)) (b2 dIx (vn 3) (vc (.int 1)))) (consF (vc (.int 0)) (consF (vn 5) (nilF))))) (nilF))))) (nxF))
  (seqF (ifF (tcF dIn (vn 2) (toL (lstF (consF (vc (.str "grid")) (consF (vc (.str "grid2")) (consF (vc (.str "grid4")) (nilF))))))) (seqF (asgF (dix3F "grid" "grid2" "grid4" (vc (.int 0)) (b2 dMul (vc (.int 2)) (b2 dDiv (b2 dIx (vn 3) (vc (.int 0))) (vc (.int 2)))) (b2 dIx (vn 3) (vc (.int 0))) (vn 2)) (tn 6))
  (retF (tupF (consF (vn 6) (consF (tupF (consF (vn 4) (consF (b2 dSub (b2 dIx (vn 3) (vc (.int 2))) (vc (.int 3))) (consF (vc (.int 1)) (nilF))))) (nilF)))))) (nxF))
  (seqF (asgF (dix3F "free" "free2" "free4" (vc (.int 0)) (b2 dMul (vc (.int 2)) (b2 dDiv (b2 dIx (vn 3) (vc (.int 0))) (vc (.int 2)))) (b2 dIx (vn 3) (vc (.int 0))) (vn 2)) (tn 6))
  (retF (tupF (consF (vn 6) (consF (callF m__law_point (consF (b2 dAdd (b2 dMul (b2 dSub (b2 dMul (vc (.int 80)) (vn 1)) (vc (.int 160))) (vn 5)) (b2 dIx (vn 3) (vc (.int 1)))) (consF (b2 dSub (b2 dIx (vn 3) (vc (.int 2))) (vc (.int 3))) (consF (vn 5) (nilF))))) (nilF))))))))))
noncomputable def m__law_motion : List D → Option D := runF 7 (b__law_motion)

noncomputable def b_read_piece : En → Option Out :=
  seqF (asgF (toL (spF (vn 0) (vc (.str " ")))) (tn 1))
  (seqF (ifF (orF (tcF dNe (b2 dIx (vn 1) (vc (.int 0))) (vc (.str "piece"))) (orF (tcF dLt (callF cLen (consF (vn 1) (nilF))) (vc (.int 5))) (tcF dNotIn (b2 dIx (vn 1) (vc (.int 1))) (tupF (consF (vc (.str "0")) (consF (vc (.str "1")) (consF (vc (.str "2")) (consF (vc (.str "3")) (nilF))))))))) (retF (vc .none)) (nxF))
  (seqF (asgF (callF m_points_of_words (consF (dslF (vn 1) (oiF (vc (.int 2))) (onF)) (nilF))) (tn 2))
  (seqF (ifF (orF (tcF dIs (vn 2) (vc .none)) (ntF (tvF (callF m_is_polygon (consF (callF cTuple (consF (dslF (vn 2) (oiF (vc (.int 1))) (onF)) (nilF))) (nilF)))))) (retF (vc .none)) (nxF))
  (retF (tupF (consF (callF cTuple (consF (dslF (vn 2) (oiF (vc (.int 1))) (onF)) (nilF))) (consF (tupF (consF (callF cInt (consF (b2 dIx (vn 1) (vc (.int 1))) (nilF))) (consF (b2 dIx (vn 2) (vc (.int 0))) (nilF)))) (nilF))))))))
noncomputable def m_read_piece : List D → Option D := runF 3 (b_read_piece)

noncomputable def b_read_paper (F_read : Addr) (m_read : List D → Option D) : En → Option Out :=
  retF (b1 (m_read_lines F_read m_read) (vn 0))
noncomputable def m_read_paper (F_read : Addr) (m_read : List D → Option D) : List D → Option D := runF 1 (b_read_paper F_read m_read)

end KC

set_option Elab.async false
set_option linter.all false
set_option maxRecDepth 100000
/-! PT: motions of the law, pieces as texts. -/
namespace KC
open PySem PySem.Spec PyProof.Rows L2 DL
open TL (tl len_tl ext_tl tl_append tl_ofString tl_num numL numL_len numL_free numL_digits numL_ne numL_val numL_lt split_join join_eq tl_join joinL int_num)
theorem dEq_str {a b : Str} (ha : PyData.strOk a = true) (hb : PyData.strOk b = true) : dEq (.str a) (.str b) = some (.bool (decide (a = b))) := by
  unfold dEq
  rw [lay_shaped (n := 0) (lay_str ha) (by decide), lay_shaped (n := 0) (lay_str hb) (by decide)]
  by_cases h : a = b <;> simp [PyData.eqv, h]
theorem inL_strs (a : Str) (l : List Str) : inL (.str a) (sD l) = decide (a ∈ l) := by
  induction l with
  | nil => simp [inL, sD]
  | cons b r ih =>
    have e : inL (.str a) (sD (b :: r)) = (PyData.eqv (.str b) (.str a) || inL (.str a) (sD r)) := by
      unfold inL
      rw [sD, List.map_cons, List.any_cons]
    have e2 : PyData.eqv (.str b) (.str a) = decide (b = a) := by
      by_cases h : b = a <;> simp [PyData.eqv, h]
    rw [e, e2, ih, Bool.eq_iff_iff]
    simp only [Bool.or_eq_true, decide_eq_true_eq, List.mem_cons]
    exact ⟨fun h => h.imp Eq.symm id, fun h => h.imp Eq.symm id⟩
theorem lay_strs {l : List Str} (h : ∀ x ∈ l, PyData.strOk x = true) : ∀ d ∈ sD l, Lay 0 d := by
  intro d hd
  obtain ⟨x, hx, rfl⟩ := List.mem_map.mp hd
  exact lay_str (h x hx)
theorem dIn_strsL {a : Str} {l : List Str} (ha : PyData.strOk a = true) (h : ∀ x ∈ l, PyData.strOk x = true) : dIn (.str a) (.list (sD l)) = some (.bool (decide (a ∈ l))) := by
  have : dIn (.str a) (.list (sD l)) = if SeqAt.shaped (.str a) && SeqAt.shaped (.list (sD l)) then some (.bool (inL (.str a) (sD l))) else none := rfl
  rw [this, lay_shaped (n := 0) (lay_str ha) (by decide), lay_shaped (lay_list (lay_strs h)) (by decide), inL_strs]
  rfl
theorem dIn_strsT {a : Str} {l : List Str} (ha : PyData.strOk a = true) (h : ∀ x ∈ l, PyData.strOk x = true) : dIn (.str a) (.tuple (sD l)) = some (.bool (decide (a ∈ l))) := by
  have : dIn (.str a) (.tuple (sD l)) = if SeqAt.shaped (.str a) && SeqAt.shaped (.tuple (sD l)) then some (.bool (inL (.str a) (sD l))) else none := rfl
  rw [this, lay_shaped (n := 0) (lay_str ha) (by decide), lay_shaped (lay_tup (lay_strs h)) (by decide), inL_strs]
  rfl
theorem e_dix3F {k1 k2 k3 g : Str} {f1 f2 f3 fi : En → Option D} {env : En} {d1 d2 d3 : D} (e1 : f1 env = some d1) (e2 : f2 env = some d2) (e3 : f3 env = some d3) (ei : fi env = some (.str g)) :
    dix3F k1 k2 k3 f1 f2 f3 fi env = if g = k1 then some d1 else if g = k2 then some d2 else if g = k3 then some d3 else none := by
  unfold dix3F
  rw [e1, e2, e3, ei]
  rfl
def mtD (t : Int) (p : Pt) : D := .tuple [.int t, ptD p]
abbrev grps : List Str := ["level", "grid", "grid2", "grid4", "free", "free2", "free4"]
theorem ok_grps : ∀ g ∈ grps, PyData.strOk g = true := by
  intro g hg
  simp only [List.mem_cons, List.not_mem_nil, or_false] at hg
  rcases hg with h | h | h | h | h | h | h <;> subst h <;> exact strOk_free (by decide)
theorem nm_one (x y : Int) : Pt.nm ⟨x, y, 1⟩ := ⟨by simp, by simp⟩
theorem m_motion_eq (c k : Int) (g : Str) (hg : g ∈ grps) (k0 : 0 ≤ k) (k1 : k < 200) : ∃ t p, m__law_motion [.int c, .int k, .str g] = some (mtD t p) ∧ 0 ≤ t ∧ t ≤ 3 ∧ p.nm ∧ Bx 1000000 p := by
  obtain ⟨qs, e1, bd⟩ := m_parts_eq c [4, 7, 7, 3] (by decide) (by decide)
  obtain ⟨a, a0, a1, a2⟩ := bd_at (n := 0) bd rfl
  obtain ⟨b, b0, b1', b2'⟩ := bd_at (n := 1) bd rfl
  obtain ⟨y, y0, y1, y2⟩ := bd_at (n := 2) bd rfl
  obtain ⟨d, d0, d1, d2⟩ := bd_at (n := 3) bd rfl
  have A0 := at_int (i := 0) a0 rfl
  have A1 := at_int (i := 1) b0 rfl
  have A2 := at_int (i := 2) y0 rfl
  have A3 := at_int (i := 3) d0 rfl
  have e1' : m__law_parts [.int c, .list [.int 4, .int 7, .int 7, .int 3]] = some (.list (qs.map PyData.int)) := e1
  have f4 : fitsL [PyData.int 4, .int 7, .int 7, .int 3] = some [PyData.int 4, .int 7, .int 7, .int 3] := rfl
  have m80 : mulOk 80 k = true := mulOk_l (by decide)
  have bound : ((80 * k - 160) * (1 + d)).natAbs ≤ 15840 * 3 := abs_mul (by omega) (by omega)
  have mw : mulOk (80 * k - 160) (1 + d) = true := mulOk_l (by unfold sm; omega)
  have dk : divOk 2 = true := by decide
  have m2 : ∀ j, mulOk 2 j = true := fun j => mulOk_l (by decide)
  have fd : a.fdiv 2 = a / 2 := Int.fdiv_eq_ediv_of_nonneg a (by decide)
  have sg := ok_grps g hg
  have hL := dEq_str sg (ok_grps "level" (by simp))
  have hG := dIn_strsL (l := ["grid", "grid2", "grid4"]) sg (fun x hx => ok_grps x (by simp at hx ⊢; rcases hx with h | h | h <;> simp [h]))
  have hG' : dIn (.str g) (.list [.str "grid", .str "grid2", .str "grid4"]) = some (.bool (decide (g ∈ (["grid", "grid2", "grid4"] : List Str)))) := hG
  have f3 : fitsL [PyData.str "grid", .str "grid2", .str "grid4"] = some [PyData.str "grid", .str "grid2", .str "grid4"] := rfl
  obtain ⟨pL, gL, eL, nL, gL0, xL, yL, wL⟩ := m_lawpoint_eq ((80 * k - 160) * (1 + d) + b) 0 (1 + d) (by unfold sm; omega) (by decide) (by unfold sm; omega) (by omega)
  obtain ⟨pF, gF, eF, nF, gF0, xF, yF, wF⟩ := m_lawpoint_eq ((80 * k - 160) * (1 + d) + b) (y - 3) (1 + d) (by unfold sm; omega) (by unfold sm; omega) (by unfold sm; omega) (by omega)
  have bL : Bx 1000000 pL := ⟨by have := abs_div gL0 xL; omega, by have := abs_div gL0 yL; omega, by have := abs_div gL0 wL; omega⟩
  have bF : Bx 1000000 pF := ⟨by have := abs_div gF0 xF; omega, by have := abs_div gF0 yF; omega, by have := abs_div gF0 wF; omega⟩
  have ft : ∀ x z : D, fitsL [x, z] = some [x, z] := fun _ _ => rfl
  have ft3 : ∀ x z u : D, fitsL [x, z, u] = some [x, z, u] := fun _ _ _ => rfl
  generalize hV : qs.map PyData.int = V at *
  generalize hx : (80 * k - 160) * (1 + d) = X at *
  -- the common beginning
  have start : ∀ o, (seqF (ifF (tcF dEq (vn 2) (vc (.str "level"))) (retF (tupF (consF (vc (.int 0)) (consF (callF m__law_point (consF (b2 dAdd (b2 dMul (b2 dSub (b2 dMul (vc (.int 80)) (vn 1)) (vc (.int 160))) (vn 5)) (b2 dIx (vn 3) (vc (.int 1)))) (consF (vc (.int 0)) (consF (vn 5) (nilF))))) (nilF))))) (nxF))
  (seqF (ifF (tcF dIn (vn 2) (toL (lstF (consF (vc (.str "grid")) (consF (vc (.str "grid2")) (consF (vc (.str "grid4")) (nilF))))))) (seqF (asgF (dix3F "grid" "grid2" "grid4" (vc (.int 0)) (b2 dMul (vc (.int 2)) (b2 dDiv (b2 dIx (vn 3) (vc (.int 0))) (vc (.int 2)))) (b2 dIx (vn 3) (vc (.int 0))) (vn 2)) (tn 6))
  (retF (tupF (consF (vn 6) (consF (tupF (consF (vn 4) (consF (b2 dSub (b2 dIx (vn 3) (vc (.int 2))) (vc (.int 3))) (consF (vc (.int 1)) (nilF))))) (nilF)))))) (nxF))
  (seqF (asgF (dix3F "free" "free2" "free4" (vc (.int 0)) (b2 dMul (vc (.int 2)) (b2 dDiv (b2 dIx (vn 3) (vc (.int 0))) (vc (.int 2)))) (b2 dIx (vn 3) (vc (.int 0))) (vn 2)) (tn 6))
  (retF (tupF (consF (vn 6) (consF (callF m__law_point (consF (b2 dAdd (b2 dMul (b2 dSub (b2 dMul (vc (.int 80)) (vn 1)) (vc (.int 160))) (vn 5)) (b2 dIx (vn 3) (vc (.int 1)))) (consF (b2 dSub (b2 dIx (vn 3) (vc (.int 2))) (vc (.int 3))) (consF (vn 5) (nilF))))) (nilF)))))))) [.val (.int c), .val (.int k), .val (.str g), .val (.list V), .val (.int (80 * k - 160 + b)), .val (.int (1 + d)), .no] = some (.rt o) → m__law_motion [.int c, .int k, .str g] = some o := by
    intro o ho
    simp -implicitDefEqProofs only [m__law_motion, b__law_motion, runF]
    rw [show (([.int c, .int k, .str g] : List D).map Slot.val ++ List.replicate (7 - ([.int c, .int k, .str g] : List D).length) Slot.no) = [.val (.int c), .val (.int k), .val (.str g), .no, .no, .no, .no] from rfl]
    rw [e_seqF]
    have q1 : asgF (callF m__law_parts (consF (vn 0) (consF (toL (lstF (consF (vc (.int 4)) (consF (vc (.int 7)) (consF (vc (.int 7)) (consF (vc (.int 3)) (nilF))))))) (nilF)))) (tn 3) [.val (.int c), .val (.int k), .val (.str g), .no, .no, .no, .no] = some (.nx [.val (.int c), .val (.int k), .val (.str g), .val (.list V), .no, .no, .no]) := by
      simp -implicitDefEqProofs only [e_asgF, e_callF, e_consF, e_vn, e_toL, e_lstF, e_vc, e_nilF, f4, e1', e_tn, List.getElem?_cons_zero, List.getElem?_cons_succ, Option.bind_some, Option.map_some, List.set_cons_zero, List.set_cons_succ]
    rw [q1]
    simp -implicitDefEqProofs only [Option.bind_some]
    rw [e_seqF]
    have q2 : asgF (b2 dAdd (b2 dSub (b2 dMul (vc (.int 80)) (vn 1)) (vc (.int 160))) (b2 dIx (vn 3) (vc (.int 1)))) (tn 4) [.val (.int c), .val (.int k), .val (.str g), .val (.list V), .no, .no, .no] = some (.nx [.val (.int c), .val (.int k), .val (.str g), .val (.list V), .val (.int (80 * k - 160 + b)), .no, .no]) := by
      simp -implicitDefEqProofs only [e_asgF, e_b2, e_vn, e_vc, dMul, m80, if_true, e_dSubI, e_dIxL, e_ixL, A1, e_dAddI, e_tn, List.getElem?_cons_zero, List.getElem?_cons_succ, Option.bind_some, Option.map_some, List.set_cons_zero, List.set_cons_succ]
    rw [q2]
    simp -implicitDefEqProofs only [Option.bind_some]
    rw [e_seqF]
    have q3 : asgF (b2 dAdd (vc (.int 1)) (b2 dIx (vn 3) (vc (.int 3)))) (tn 5) [.val (.int c), .val (.int k), .val (.str g), .val (.list V), .val (.int (80 * k - 160 + b)), .no, .no] = some (.nx [.val (.int c), .val (.int k), .val (.str g), .val (.list V), .val (.int (80 * k - 160 + b)), .val (.int (1 + d)), .no]) := by
      simp -implicitDefEqProofs only [e_asgF, e_b2, e_vn, e_vc, e_dIxL, e_ixL, A3, e_dAddI, e_tn, List.getElem?_cons_zero, List.getElem?_cons_succ, Option.bind_some, Option.map_some, List.set_cons_zero, List.set_cons_succ]
    rw [q3]
    simp -implicitDefEqProofs only [Option.bind_some]
    rw [ho]
    rfl
  have mk : ∀ t p, (m__law_motion [.int c, .int k, .str g] = some (mtD t p) ∧ 0 ≤ t ∧ t ≤ 3 ∧ p.nm ∧ Bx 1000000 p) → ∃ t p, m__law_motion [.int c, .int k, .str g] = some (mtD t p) ∧ 0 ≤ t ∧ t ≤ 3 ∧ p.nm ∧ Bx 1000000 p := fun t p h => ⟨t, p, h⟩
  by_cases cl : g = "level"
  · rw [decide_eq_true cl] at hL
    refine ⟨0, pL, start _ ?_, by decide, by decide, nL, bL⟩
    simp -implicitDefEqProofs only [e_seqF, e_ifF, e_tcF, e_b2, e_vn, e_vc, hL, e_boolOf, if_true, e_retF, e_tupF, e_consF, e_nilF, e_callF, dMul, m80, mw, hx, e_dSubI, e_dIxL, e_ixL, A1, e_dAddI, eL, ft, List.getElem?_cons_zero, List.getElem?_cons_succ, Option.bind_some, Option.map_some]
    rfl
  · rw [decide_eq_false cl] at hL
    have tw : ∃ t, 0 ≤ t ∧ t ≤ 3 ∧ ((g ∈ (["grid", "grid2", "grid4"] : List Str) ∧ (if g = "grid" then some (PyData.int 0) else if g = "grid2" then some (.int (2 * (a / 2))) else if g = "grid4" then some (.int a) else none) = some (.int t)) ∨ (g ∉ (["grid", "grid2", "grid4"] : List Str) ∧ (if g = "free" then some (PyData.int 0) else if g = "free2" then some (.int (2 * (a / 2))) else if g = "free4" then some (.int a) else none) = some (.int t))) := by
      simp only [List.mem_cons, List.not_mem_nil, or_false] at hg
      rcases hg with h | h | h | h | h | h | h
      · exact absurd h cl
      · subst h; exact ⟨0, by decide, by decide, Or.inl ⟨by decide, if_pos rfl⟩⟩
      · subst h; exact ⟨2 * (a / 2), by omega, by omega, Or.inl ⟨by decide, by rw [if_neg (by decide), if_pos rfl]⟩⟩
      · subst h; exact ⟨a, by omega, by omega, Or.inl ⟨by decide, by rw [if_neg (by decide), if_neg (by decide), if_pos rfl]⟩⟩
      · subst h; exact ⟨0, by decide, by decide, Or.inr ⟨by decide, if_pos rfl⟩⟩
      · subst h; exact ⟨2 * (a / 2), by omega, by omega, Or.inr ⟨by decide, by rw [if_neg (by decide), if_pos rfl]⟩⟩
      · subst h; exact ⟨a, by omega, by omega, Or.inr ⟨by decide, by rw [if_neg (by decide), if_neg (by decide), if_pos rfl]⟩⟩
    obtain ⟨t, t0, t3, ⟨hin, ht⟩ | ⟨hin, ht⟩⟩ := tw
    · rw [decide_eq_true hin] at hG'
      refine ⟨t, ⟨80 * k - 160 + b, y - 3, 1⟩, start _ ?_, t0, t3, nm_one _ _, ⟨by simp only; omega, by simp only; omega, by simp only; omega⟩⟩
      have dx : dix3F "grid" "grid2" "grid4" (vc (.int 0)) (b2 dMul (vc (.int 2)) (b2 dDiv (b2 dIx (vn 3) (vc (.int 0))) (vc (.int 2)))) (b2 dIx (vn 3) (vc (.int 0))) (vn 2) [.val (.int c), .val (.int k), .val (.str g), .val (.list V), .val (.int (80 * k - 160 + b)), .val (.int (1 + d)), .no] = some (.int t) := by
        rw [← ht]
        refine e_dix3F rfl ?_ ?_ rfl
        · simp -implicitDefEqProofs only [e_b2, e_vn, e_vc, e_dIxL, e_ixL, A0, dDiv, dk, dMul, m2, fd, if_true, List.getElem?_cons_zero, List.getElem?_cons_succ, Option.bind_some]
        · simp -implicitDefEqProofs only [e_b2, e_vn, e_vc, e_dIxL, e_ixL, A0, List.getElem?_cons_zero, List.getElem?_cons_succ, Option.bind_some]
      rw [e_seqF]
      simp -implicitDefEqProofs only [e_ifF, e_tcF, e_b2, e_vn, e_vc, hL, e_boolOf, Bool.false_eq_true, if_false, e_nxF, List.getElem?_cons_zero, List.getElem?_cons_succ, Option.bind_some]
      rw [e_seqF, e_ifF]
      simp -implicitDefEqProofs only [e_tcF, e_b2, e_vn, e_toL, e_lstF, e_consF, e_vc, e_nilF, f3, hG', e_boolOf, if_true, List.getElem?_cons_zero, List.getElem?_cons_succ, Option.bind_some, Option.map_some]
      rw [e_seqF, e_asgF, dx]
      simp -implicitDefEqProofs only [e_tn, Option.bind_some, Option.map_some, e_retF, e_tupF, e_consF, e_nilF, e_vn, e_b2, e_vc, e_dIxL, e_ixL, A2, e_dSubI, ft, ft3, List.getElem?_cons_zero, List.getElem?_cons_succ, List.set_cons_zero, List.set_cons_succ]
      rfl
    · rw [decide_eq_false hin] at hG'
      refine ⟨t, pF, start _ ?_, t0, t3, nF, bF⟩
      have dx : dix3F "free" "free2" "free4" (vc (.int 0)) (b2 dMul (vc (.int 2)) (b2 dDiv (b2 dIx (vn 3) (vc (.int 0))) (vc (.int 2)))) (b2 dIx (vn 3) (vc (.int 0))) (vn 2) [.val (.int c), .val (.int k), .val (.str g), .val (.list V), .val (.int (80 * k - 160 + b)), .val (.int (1 + d)), .no] = some (.int t) := by
        rw [← ht]
        refine e_dix3F rfl ?_ ?_ rfl
        · simp -implicitDefEqProofs only [e_b2, e_vn, e_vc, e_dIxL, e_ixL, A0, dDiv, dk, dMul, m2, fd, if_true, List.getElem?_cons_zero, List.getElem?_cons_succ, Option.bind_some]
        · simp -implicitDefEqProofs only [e_b2, e_vn, e_vc, e_dIxL, e_ixL, A0, List.getElem?_cons_zero, List.getElem?_cons_succ, Option.bind_some]
      rw [e_seqF]
      simp -implicitDefEqProofs only [e_ifF, e_tcF, e_b2, e_vn, e_vc, hL, e_boolOf, Bool.false_eq_true, if_false, e_nxF, List.getElem?_cons_zero, List.getElem?_cons_succ, Option.bind_some]
      rw [e_seqF, e_ifF]
      simp -implicitDefEqProofs only [e_tcF, e_b2, e_vn, e_toL, e_lstF, e_consF, e_vc, e_nilF, f3, hG', e_boolOf, Bool.false_eq_true, if_false, e_nxF, List.getElem?_cons_zero, List.getElem?_cons_succ, Option.bind_some, Option.map_some]
      rw [e_seqF, e_asgF, dx]
      simp -implicitDefEqProofs only [e_tn, Option.bind_some, Option.map_some, e_retF, e_tupF, e_consF, e_nilF, e_callF, e_vn, e_b2, e_vc, dMul, m80, mw, hx, if_true, e_dIxL, e_ixL, A1, A2, e_dSubI, e_dAddI, eF, ft, List.getElem?_cons_zero, List.getElem?_cons_succ, List.set_cons_zero, List.set_cons_succ]
      rfl
end KC

set_option Elab.async false
set_option linter.all false
set_option maxRecDepth 100000
/-! PU: pieces as texts and back. -/
namespace KC
open PySem PySem.Spec PyProof.Rows L2 DL
open TL (tl len_tl ext_tl tl_append tl_ofString tl_num numL numL_len numL_free numL_digits numL_ne numL_val numL_lt split_join join_eq tl_join joinL int_num)
structure Pc where
  H : List Pt
  t : Int
  p : Pt
def Pc.D (c : Pc) : D := .tuple [.tuple (pD c.H), mtD c.t c.p]
structure Pc.Ok (c : Pc) : Prop where
  sm : Small c.H
  len : c.H.length ≤ 20
  po : Poly c.H
  t0 : 0 ≤ c.t
  t3 : c.t ≤ 3
  bx : Bx 1000000 c.p
  nm : c.p.nm
def Pc.pts (c : Pc) : List Pt := c.p :: c.H
theorem Pc.Ok.small {c : Pc} (h : c.Ok) : Small c.pts := by
  intro q hq
  rcases List.mem_cons.mp hq with z | z
  · subst z; exact h.bx
  · exact h.sm q z
def Pc.prts (c : Pc) : List Str := "piece" :: sI c.t :: wds c.pts
def Pc.line (c : Pc) : Str := Txt.join " " c.prts
def Pc.lineN (c : Pc) : Str := c.line ++ "\n"
def textP (cs : List Pc) : Str := Txt.join "" (cs.map Pc.lineN)
abbrev cD (cs : List Pc) : List PyData := cs.map Pc.D
theorem tl_lineP (c : Pc) : tl c.line = tl "piece" ++ (32 :: tl (sI c.t) ++ (nums c.pts).flatMap (fun i => 32 :: tl (sI i))) := by
  unfold Pc.line
  rw [join_eq, tl_join]
  have : tl (" " : Str) = [32] := by decide
  rw [this, Pc.prts, List.map_cons, joinL_cons, List.map_cons, List.flatMap_cons, wds, List.map_map, List.flatMap_map]
  rfl
theorem tl_textP (cs : List Pc) : tl (textP cs) = cs.flatMap (fun c => tl c.lineN) := by
  unfold textP
  rw [join_eq, tl_join]
  have : tl ("" : Str) = [] := by decide
  rw [this, joinL_nil, List.map_map, List.flatMap_map]
  rfl
theorem abs_t {c : Pc} (h : c.Ok) : c.t.natAbs ≤ 1000000 := by have := h.t0; have := h.t3; omega
theorem pts_len (c : Pc) : c.pts.length = c.H.length + 1 := rfl
theorem lineP_len {c : Pc} (h : c.Ok) : c.line.length ≤ 600 := by
  rw [len_tl, tl_lineP, List.length_append, List.length_append]
  have := fm_len (fun i => 32 :: tl (sI i)) 9 (nums c.pts) (by
    intro i hi
    have := sI_len (nums_small h.small i hi)
    rw [len_tl] at this
    simp
    simp at this
    omega)
  rw [nums_len, pts_len] at this
  have a : (tl ("piece" : Str)).length = 5 := by decide
  have b := sI_len (abs_t h)
  rw [len_tl] at b
  have := h.len
  rw [List.length_cons]
  omega
theorem lineNP_len {c : Pc} (h : c.Ok) : c.lineN.length ≤ 601 := by
  have := lineP_len h
  have e : c.lineN.length = c.line.length + 1 := by
    unfold Pc.lineN
    rw [len_tl, tl_append, List.length_append, ← len_tl]
    rfl
  omega
def OkayP (cs : List Pc) : Prop := cs.length ≤ 8 ∧ ∀ c ∈ cs, c.Ok
theorem textP_len {cs : List Pc} (h : OkayP cs) : (textP cs).length ≤ 5000 := by
  rw [len_tl, tl_textP]
  have := fm_len (fun c : Pc => tl c.lineN) 601 cs (by
    intro c hc
    have := lineNP_len (h.2 c hc)
    rwa [len_tl] at this)
  have := h.1
  omega
theorem prtsP_len {c : Pc} (h : c.Ok) : ∀ x ∈ c.prts, x.length ≤ 8 := by
  intro x hx
  rcases List.mem_cons.mp hx with z | z
  · subst z; decide
  · rcases List.mem_cons.mp z with z | z
    · subst z; exact sI_len (abs_t h)
    · obtain ⟨i, hi, rfl⟩ := List.mem_map.mp z
      exact sI_len (nums_small h.small i hi)
theorem join_lineP {c : Pc} (h : c.Ok) : joinD (.str " ") (sD c.prts) = some (.str c.line) := by
  refine joinD_sD ?_
  have a := sum_le 8 _ (prtsP_len h)
  have b : c.prts.length = 3 * c.pts.length + 2 := by simp [Pc.prts, wds, nums_len]
  have d : (" " : Str).length = 1 := by decide
  have := h.len
  rw [d]
  rw [pts_len] at b
  omega
theorem m_words_eqL {H : List Pt} (h : Small H) (hl : H.length ≤ 1000) : m_words_of [.list (pD H)] = some (.list (sD (wds H))) := by
  have e := lc2_words (.list (pD H)) H h
  have fl : fitsL (sD (wds H)) = some (sD (wds H)) := by
    have := nums_len H
    unfold fitsL fits
    rw [if_pos]
    simp [wds]; omega
  simp only [m_words_of, b_words_of, runF]
  rw [show (([.list (pD H)] : List D).map Slot.val ++ List.replicate (3 - ([.list (pD H)] : List D).length) Slot.no) = [.val (.list (pD H)), .no, .no] from rfl]
  rw [e_retF, e_toL]
  unfold lc2F
  have w : wipeE [Slot.val (.list (pD H)), .no, .no] [1, 2] = [.val (.list (pD H)), .no, .no] := rfl
  have i : iaF (vn 0) [.val (.list (pD H)), .no, .no] = some (pD H) := by simp
  rw [i]
  simp only [Option.bind_some]
  rw [w, e]
  simp only [Option.bind_some]
  rw [fl]
  rfl
noncomputable def wpS : D → En → Option Out := fun d env => (tt 2 (gsCons (tn 2) (gsCons (tn 3) (gsNil))) d env).bind (mutF 1 hApp (b2 dAdd (jnF (vc (.str " ")) (lstF (consF (vc (.str "piece")) (consF (callF cStr (consF (b2 dIx (vn 3) (vc (.int 0))) (nilF))) (starF (loF (callF m_words_of (consF (toL (lstF (consF (b2 dIx (vn 3) (vc (.int 1))) (starF (ltF (vn 2)) (nilF))))) (nilF)))) (nilF)))))) (vc (.str "\n"))))
theorem wp1 (v : D) (ps : List D) (hl : ps.length ≤ 1000000) (c : Pc) (h : c.Ok) (s2 s3 : Slot) : wpS c.D [.val v, .own ps, s2, s3] = some (.nx [.val v, .own (ps ++ [.str c.lineN]), .val (.tuple (pD c.H)), .val (mtD c.t c.p)]) := by
  have w := m_words_eqL h.small (by have := h.len; rw [pts_len]; omega)
  have j := join_lineP h
  have ll := lineP_len h
  have cs := cStr_eq (abs_t h)
  have i0 : dIx (mtD c.t c.p) (.int 0) = some (.int c.t) := by simp [mtD, at0]
  have i1 : dIx (mtD c.t c.p) (.int 1) = some (ptD c.p) := by simp [mtD, at1]
  have f1 : fitsL (ptD c.p :: (pD c.H ++ [])) = some (pD c.pts) := by
    rw [List.append_nil]
    have : ptD c.p :: pD c.H = pD c.pts := rfl
    rw [this]
    unfold fitsL fits
    rw [if_pos]
    have := h.len
    simp [pts_len]; omega
  have f2 : fitsL (.str "piece" :: .str (sI c.t) :: (sD (wds c.pts) ++ [])) = some (sD c.prts) := by
    rw [List.append_nil]
    have : PyData.str "piece" :: .str (sI c.t) :: sD (wds c.pts) = sD c.prts := rfl
    rw [this]
    unfold fitsL fits
    rw [if_pos]
    have := h.len
    have := nums_len c.pts
    simp [Pc.prts, wds]; rw [pts_len] at this; omega
  have ad : dAdd (.str c.line) (.str "\n") = some (.str c.lineN) := by
    unfold dAdd
    simp only
    have : ("\n" : Str).length = 1 := by decide
    rw [if_pos (by simp [fits, this]; omega)]
    rfl
  have fl : fits ps.length = true := by simpa [fits] using hl
  unfold wpS
  have a : (tt 2 (gsCons (tn 2) (gsCons (tn 3) (gsNil))) c.D [.val v, .own ps, s2, s3]) = some [.val v, .own ps, .val (.tuple (pD c.H)), .val (mtD c.t c.p)] := rfl
  rw [a]
  have lt : ltF (vn 2) [.val v, .own ps, .val (.tuple (pD c.H)), .val (mtD c.t c.p)] = some (pD c.H) := rfl
  generalize mtD c.t c.p = M at *
  simp -implicitDefEqProofs only [Option.bind_some, e_mutF, List.getElem?_cons_zero, List.getElem?_cons_succ, e_b2, e_jnF, e_vc, e_lstF, e_consF, e_callF, e_vn, e_nilF, i0, i1, cs, Option.map_some, e_starF, e_loF, e_toL, lt, f1, w, e_lsOf, f2, j, ad, hApp, fl, if_true, List.set_cons_zero, List.set_cons_succ]
theorem wpLoop (v : D) : ∀ (cs : List Pc) (ps : List D) (s2 s3 : Slot), (∀ c ∈ cs, c.Ok) → ps.length + cs.length ≤ 1000000 → ∃ t2 t3, loopF wpS (cD cs) [.val v, .own ps, s2, s3] = some (.nx [.val v, .own (ps ++ sD (cs.map Pc.lineN)), t2, t3])
  | [], ps, s2, s3, _, _ => ⟨s2, s3, by simp [cD, sD]⟩
  | c :: cs, ps, s2, s3, h, hl => by
    simp only [List.length_cons] at hl
    obtain ⟨t2, t3, e⟩ := wpLoop v cs (ps ++ [.str c.lineN]) (.val (.tuple (pD c.H))) (.val (mtD c.t c.p)) (fun x hx => h x (by simp [hx])) (by simp; omega)
    refine ⟨t2, t3, ?_⟩
    rw [cD, List.map_cons, loopF, wp1 v ps (by omega) c (h c (by simp)) s2 s3]
    simp -implicitDefEqProofs only [Option.bind_some]
    rw [e, List.append_assoc]
    rfl
theorem m_writep_eq {cs : List Pc} (h : OkayP cs) : m_write_paper [.list (cD cs)] = some (.str (textP cs)) := by
  obtain ⟨t2, t3, e⟩ := wpLoop (.list (cD cs)) cs [] .no .no h.2 (by have := h.1; simp; omega)
  have j : joinD (.str "") (sD (cs.map Pc.lineN)) = some (.str (textP cs)) := by
    refine joinD_sD ?_
    have a := sum_le 601 (cs.map Pc.lineN) (by
      intro x hx
      obtain ⟨c, hc, rfl⟩ := List.mem_map.mp hx
      exact lineNP_len (h.2 c hc))
    have d : ("" : Str).length = 0 := by decide
    have := h.1
    rw [List.length_map] at a ⊢
    rw [d]
    omega
  rw [List.nil_append] at e
  simp -implicitDefEqProofs only [m_write_paper, b_write_paper, runF]
  rw [show (([.list (cD cs)] : List D).map Slot.val ++ List.replicate (4 - ([.list (cD cs)] : List D).length) Slot.no) = [.val (.list (cD cs)), .no, .no, .no] from rfl]
  generalize cD cs = F at *
  generalize sD (cs.map Pc.lineN) = S at *
  rw [e_seqF]
  have a1 : ownF 1 (lstF (nilF)) [.val (.list F), .no, .no, .no] = some (.nx [.val (.list F), .own [], .no, .no]) := by simp -implicitDefEqProofs [fitsL, fits]
  rw [a1]
  simp -implicitDefEqProofs only [Option.bind_some]
  rw [e_seqF, forF_of (ds := F) (r := _) ?_ e]
  · simp -implicitDefEqProofs only [Option.bind_some, e_retF, e_jnF, e_vc, e_vnl, List.getElem?_cons_zero, List.getElem?_cons_succ, j, Option.map_some]
  · simp -implicitDefEqProofs only [e_iaF, e_vn, List.getElem?_cons_zero, List.getElem?_cons_succ, Option.bind_some, e_tlOfL, Option.some_or]
/-! ### reading a piece -/
abbrev turns : List Str := ["0", "1", "2", "3"]
theorem ok_turns : ∀ g ∈ turns, PyData.strOk g = true := by
  intro g hg
  simp only [List.mem_cons, List.not_mem_nil, or_false] at hg
  rcases hg with h | h | h | h <;> subst h <;> exact strOk_free (by decide)
theorem sI_turn {t : Int} (h0 : 0 ≤ t) (h3 : t ≤ 3) : sI t ∈ turns := by
  have key : ∀ (n : Nat) (x : Str), n < 10 → tl x = [48 + n] → sI (n : Int) = x := by
    intro n x hn hx
    refine ext_tl ?_
    rw [tl_sI, if_neg (by omega), Int.natAbs_natCast, numL_lt hn, hx]
  have : t = ((0 : Nat) : Int) ∨ t = ((1 : Nat) : Int) ∨ t = ((2 : Nat) : Int) ∨ t = ((3 : Nat) : Int) := by omega
  rcases this with h | h | h | h <;> subst h
  · rw [key 0 "0" (by decide) (by decide)]; simp
  · rw [key 1 "1" (by decide) (by decide)]; simp
  · rw [key 2 "2" (by decide) (by decide)]; simp
  · rw [key 3 "3" (by decide) (by decide)]; simp
theorem split_lineP {c : Pc} : Txt.split c.line " " = c.prts := by
  refine split_join (s := 32) (S := []) (by decide) (small_free (by decide)) (by simp [Pc.prts]) ?_
  intro x hx
  rcases List.mem_cons.mp hx with z | z
  · subst z; decide
  · rcases List.mem_cons.mp z with z | z
    · subst z; exact sI_free (Or.inl (by decide))
    · obtain ⟨i, hi, rfl⟩ := List.mem_map.mp z
      exact sI_free (Or.inl (by decide))
theorem m_piece_eq {c : Pc} (h : c.Ok) : m_read_piece [.str c.line] = some c.D := by
  have ll := lineP_len h
  have hl := h.len
  have sp : splitD (.str c.line) (.str " ") = some (sD c.prts) := by
    unfold splitD
    simp only
    have : (" " : Str).length = 1 := by decide
    rw [if_pos (by simp only [decide_eq_true_eq]; omega), split_lineP]
  have cd : DL.cutD (sD c.prts) (some 2) none = sD (wds c.pts) := by
    have := cut_drop (sD c.prts) 2 (by simp [Pc.prts])
    rw [show ((2 : Nat) : Int) = 2 from rfl] at this
    rw [this]
    rfl
  have pw := m_pow_eq h.small (fun p hp => by
    rcases List.mem_cons.mp hp with z | z
    · subst z; exact h.nm
    · exact h.po.nm p z) (by rw [pts_len]; omega)
  have ip := is_poly h.po (by omega)
  have i0 : atI (sD c.prts) 0 = some (.str "piece") := at0 _ _
  have i1 : atI (sD c.prts) 1 = some (.str (sI c.t)) := at1 _ _ _
  have ok : PyData.strOk "piece" = true := strOk_free (by decide)
  have ne := dNe_str ok ok
  have ne' : dNe (.str "piece") (.str "piece") = some (.bool false) := by rw [ne]; simp
  have ln : ¬ (((sD c.prts).length : Nat) : Int) < 5 := by
    have := h.po.len
    have b : c.prts.length = 3 * c.pts.length + 2 := by simp [Pc.prts, wds, nums_len]
    rw [pts_len] at b
    rw [List.length_map]
    omega
  have tin := dIn_strsT (sI_ok c.t) ok_turns
  rw [decide_eq_true (sI_turn h.t0 h.t3)] at tin
  have tni : dNotIn (.str (sI c.t)) (.tuple [.str "0", .str "1", .str "2", .str "3"]) = some (.bool false) := by
    unfold dNotIn
    rw [show PyData.tuple [.str "0", .str "1", .str "2", .str "3"] = .tuple (sD turns) from rfl, tin]
    rfl
  have f4 : fitsL [PyData.str "0", .str "1", .str "2", .str "3"] = some [PyData.str "0", .str "1", .str "2", .str "3"] := rfl
  have nn : dIs (.list (pD c.pts)) .none = some (.bool false) := rfl
  have cd1 : DL.cutD (pD c.pts) (some 1) none = pD c.H := by
    have := cut_drop (pD c.pts) 1 (by simp [Pc.pts])
    rw [show ((1 : Nat) : Int) = 1 from rfl] at this
    rw [this]
    rfl
  have j0 : atI (pD c.pts) 0 = some (ptD c.p) := at0 _ _
  have ci : cInt [.str (sI c.t)] = some (.int c.t) := by
    show (if decide ((sI c.t).length ≤ 640) then (PySem.intText? (sI c.t)).map PyData.int else none) = _
    have := sI_len (abs_t h)
    rw [if_pos (by simp; omega), int_sI (abs_t h)]
    rfl
  have f2 : ∀ x z : D, fitsL [x, z] = some [x, z] := fun _ _ => rfl
  have res : c.D = .tuple [.tuple (pD c.H), .tuple [.int c.t, ptD c.p]] := rfl
  rw [res]
  simp -implicitDefEqProofs only [m_read_piece, b_read_piece, runF]
  rw [show (([.str c.line] : List D).map Slot.val ++ List.replicate (3 - ([.str c.line] : List D).length) Slot.no) = [.val (.str c.line), .no, .no] from rfl]
  generalize sD c.prts = S at *
  generalize sD (wds c.pts) = W at *
  generalize pD c.pts = V at *
  generalize c.line = l at *
  simp -implicitDefEqProofs only [e_seqF, e_asgF, e_toL, e_spF, e_vn, e_vc, sp, e_tn, e_ifF, e_orF, e_tcF, e_b2, e_dIxL, e_ixL, i0, i1, ne', e_boolOf, Bool.false_eq_true, if_false, if_true, e_callF, e_consF, e_nilF, e_cLenL, e_dLt, ln, decide_false, e_tupF, f4, tni, e_nxF, e_dslF, e_oiF, e_onF, e_intOf, dCut, cd, pw, nn, e_ntF, e_tvF, cd1, e_cTupL, ip, e_truthB, Bool.not_true, e_retF, ci, j0, f2, Option.bind_some, Option.map_some, List.getElem?_cons_zero, List.getElem?_cons_succ, List.set_cons_zero, List.set_cons_succ]
theorem lineP_free (c : Pc) : 10 ∉ tl c.line := by
  rw [tl_lineP]
  intro h
  rcases List.mem_append.mp h with z | z
  · revert z; decide
  · rcases List.mem_append.mp z with z | z
    · rcases List.mem_cons.mp z with w | w
      · omega
      · exact sI_free (Or.inl (by decide)) w
    · obtain ⟨i, _, hi⟩ := List.mem_flatMap.mp z
      rcases List.mem_cons.mp hi with w | w
      · omega
      · exact sI_free (Or.inl (by decide)) w
theorem textP_join (cs : List Pc) : textP cs = Txt.join "\n" (cs.map Pc.line ++ [("" : Str)]) := by
  refine ext_tl ?_
  rw [tl_textP, join_eq, tl_join, List.map_append, List.map_map]
  have a : tl ("\n" : Str) = [10] := by decide
  have b : List.map tl ([""] : List Str) = [[]] := by decide
  rw [a, b, joinL_last, List.flatMap_map]
  have : ∀ c : Pc, tl c.lineN = tl c.line ++ [10] := by
    intro c
    unfold Pc.lineN
    rw [tl_append, a]
  simp only [this, Function.comp]
theorem split_textP (cs : List Pc) : Txt.split (textP cs) "\n" = cs.map Pc.line ++ [("" : Str)] := by
  rw [textP_join]
  refine split_join (s := 10) (S := []) (by decide) (small_free (by decide)) (by simp) ?_
  intro x hx
  rcases List.mem_append.mp hx with z | z
  · obtain ⟨c, _, rfl⟩ := List.mem_map.mp z
    exact lineP_free c
  · simp at z; subst z; decide
theorem m_readpaper_eq (F_read : Addr) {cs : List Pc} (h : OkayP cs) : m_read_paper F_read m_read_piece [.str (textP cs)] = some (.list (cD cs)) := by
  have tlen := textP_len h
  have e := m_lines_eq F_read m_read_piece Pc.line Pc.D cs (textP cs) (by omega) (split_textP cs) (fun c hc => ⟨m_piece_eq (h.2 c hc), rfl⟩) (by have := h.1; omega)
  have e' : m_read_lines F_read m_read_piece (.str (textP cs)) = some (.list (cD cs)) := e
  simp -implicitDefEqProofs [m_read_paper, b_read_paper, runF, e']
theorem strOk_textP (cs : List Pc) : PyData.strOk (textP cs) = true := by
  refine strOk_free ?_
  intro k hk
  rw [tl_textP] at hk
  obtain ⟨c, _, hc⟩ := List.mem_flatMap.mp hk
  unfold Pc.lineN at hc
  rw [tl_append, tl_lineP] at hc
  rcases List.mem_append.mp hc with z | z
  · rcases List.mem_append.mp z with w | w
    · exact (by decide : ∀ c ∈ tl ("piece" : Str), c < 0x110000) k w
    · rcases List.mem_append.mp w with w | w
      · rcases List.mem_cons.mp w with u | u
        · omega
        · have : ¬ 57 < k := fun q => sI_free (Or.inr q) u
          omega
      · obtain ⟨i, _, hi⟩ := List.mem_flatMap.mp w
        rcases List.mem_cons.mp hi with u | u
        · omega
        · have : ¬ 57 < k := fun q => sI_free (Or.inr q) u
          omega
  · have : tl ("\n" : Str) = [10] := by decide
    rw [this] at z
    simp at z
    omega
theorem Tell.mono {a b : Nat} {d : D} (h : Tell a d) (k : a ≤ b) : Tell b d := ⟨h.ok, h.lay, h.sh, h.le, Nat.le_trans h.bk k⟩
theorem lay_mt (t : Int) (p : Pt) : Lay 2 (mtD t p) := lay_tup (n := 1) (by
  intro d hd
  simp at hd
  rcases hd with z | z <;> subst z
  · exact lay_int _ _
  · exact lay_pt p)
theorem lay_pc (c : Pc) : Lay 3 c.D := lay_tup (n := 2) (by
  intro d hd
  simp at hd
  rcases hd with z | z <;> subst z
  · exact lay_tup (lay_pts c.H)
  · exact lay_mt _ _)
theorem lay_pcs (cs : List Pc) : Lay 4 (.list (cD cs)) := lay_list (n := 3) (by
  intro d hd
  obtain ⟨c, _, rfl⟩ := List.mem_map.mp hd
  exact lay_pc c)
theorem tell_pc {c : Pc} (h : c.Ok) : Tell 162 c.D := by
  refine tell_tuple (b := 80) (n := 2) ?_ ((lay_pc c).mono (by decide)) (by simp)
  intro d hd
  simp at hd
  rcases hd with z | z <;> subst z
  · exact tell_poly h.sm h.len
  · refine Tell.mono (a := 8) (tell_tuple (b := 3) (n := 2) ?_ ((lay_mt c.t c.p).mono (by decide)) (by simp)) (by decide)
    intro d hd
    simp at hd
    rcases hd with z | z <;> subst z
    · exact Tell.mono (tell_int (abs_t h)) (by decide)
    · exact tell_pt h.bx
theorem tell_pcs {cs : List Pc} (h : OkayP cs) : Tell 1304 (.list (cD cs)) := by
  refine tell_list (b := 162) (n := 8) ?_ ((lay_pcs cs).mono (by decide)) (by have := h.1; simpa using this)
  intro d hd
  obtain ⟨c, hc, rfl⟩ := List.mem_map.mp hd
  exact tell_pc (h.2 c hc)
end KC

set_option Elab.async false
set_option linter.all false
set_option maxRecDepth 100000
namespace K46
open PySem PySem.Spec PyProof.Rows L2 DL
open KC
noncomputable def b_law (F_read : Addr) : En → Option Out :=
  seqF (ownF 1 (lstF (nilF)))
  (seqF (asgF (toL (lstF (consF (vc (.str "level")) (consF (vc (.str "grid")) (consF (vc (.str "grid2")) (consF (vc (.str "grid4")) (consF (vc (.str "free")) (consF (vc (.str "free2")) (consF (vc (.str "free4")) (nilF)))))))))) (tn 2))
  (seqF (forF (r1F (consF (callF cLen (consF (dslF (vn 0) (onF) (oiF (vc (.int 8)))) (nilF))) (nilF))) (tn 3) (seqF (asgF (callF m__law_parts (consF (b2 dAdd (b2 dIx (vn 0) (vn 3)) (vc (.int 1))) (consF (toL (lstF (consF (vc (.int 7)) (consF (vc (.int 200)) (nilF))))) (nilF)))) (tn 7))
  (seqF (asgF (callF m__law_motion (consF (b2 dAdd (b2 dIx (vn 0) (vn 3)) (vc (.int 2))) (consF (b2 dIx (vn 7) (vc (.int 1))) (consF (b2 dIx (vn 2) (b2 dIx (vn 7) (vc (.int 0)))) (nilF))))) (tn 8))
  (mutF 1 hApp (tupF (consF (callF m__law_polygon (consF (b2 dIx (vn 0) (vn 3)) (nilF))) (consF (vn 8) (nilF))))))))
  (seqF (asgF (vc (.str "")) (tn 4))
  (seqF (fzF 1 (forF (iaF (vn 1)) (tt 2 (gsCons (tn 9) (gsCons (tn 8) (gsNil)))) (seqF (asgF (vn 8) (tt 2 (gsCons (tn 3) (gsCons (tn 11) (gsNil)))))
  (seqF (asgF (b2 dAdd (b2 dAdd (vn 4) (vc (.str "piece "))) (callF cStr (consF (vn 3) (nilF)))) (tn 4))
  (seqF (forF (iaF (b2 dAdd (tupF (consF (vn 11) (nilF))) (vn 9))) (tn 10) (asgF (b2 dAdd (b2 dAdd (b2 dAdd (b2 dAdd (b2 dAdd (b2 dAdd (vn 4) (vc (.str " "))) (callF cStr (consF (b2 dIx (vn 10) (vc (.int 0))) (nilF)))) (vc (.str " "))) (callF cStr (consF (b2 dIx (vn 10) (vc (.int 1))) (nilF)))) (vc (.str " "))) (callF cStr (consF (b2 dIx (vn 10) (vc (.int 2))) (nilF)))) (tn 4)))
  (asgF (b2 dAdd (vn 4) (vc (.str "\n"))) (tn 4)))))))
  (seqF (asgF (toL (vnl 1)) (tn 5))
  (seqF (asgF (callF m_write_paper (consF (vn 5) (nilF))) (tn 6))
  (fzF 1 (retF (andE (b2 dEq (vn 5) (vn 1)) (andE (b2 dEq (vn 6) (vn 4)) (b2 dEq (callF cRepr (consF (callF (m_read_paper F_read m_read_piece) (consF (vn 6) (nilF))) (nilF))) (callF cRepr (consF (vn 1) (nilF))))))))))))))
end K46

set_option Elab.async false
set_option linter.all false
set_option maxRecDepth 100000
/-! PL46: the law of papers' texts, in plain words. -/
namespace K46
open PySem PySem.Spec PyProof.Rows L2 DL
open KC
open TL (tl len_tl ext_tl tl_append tl_ofString)
theorem cut_takeP {α : Type} (xs : List α) (n : Nat) : DL.cutD xs none (some (n : Int)) = xs.take n := by
  unfold DL.cutD
  rw [HT.sIx_none, HT.sIx_nat, List.drop_zero, Nat.sub_zero]
  by_cases h : n ≤ xs.length
  · rw [Nat.min_eq_left h]
  · rw [Nat.min_eq_right (by omega), List.take_of_length_le (Nat.le_refl _), List.take_of_length_le (by omega)]
theorem addP {a b : Str} (h : a.length + b.length ≤ 1000000) : dAdd (.str a) (.str b) = some (.str (a ++ b)) := by
  unfold dAdd
  simp only
  rw [if_pos (by simpa [fits] using h)]
theorem la (a b : Str) : (a ++ b).length = a.length + b.length := by rw [len_tl, tl_append, List.length_append, ← len_tl, ← len_tl]
noncomputable def pcS : D → En → Option Out := fun d env => (tn 3 d env).bind (seqF (asgF (callF m__law_parts (consF (b2 dAdd (b2 dIx (vn 0) (vn 3)) (vc (.int 1))) (consF (toL (lstF (consF (vc (.int 7)) (consF (vc (.int 200)) (nilF))))) (nilF)))) (tn 7))
  (seqF (asgF (callF m__law_motion (consF (b2 dAdd (b2 dIx (vn 0) (vn 3)) (vc (.int 2))) (consF (b2 dIx (vn 7) (vc (.int 1))) (consF (b2 dIx (vn 2) (b2 dIx (vn 7) (vc (.int 0)))) (nilF))))) (tn 8))
  (mutF 1 hApp (tupF (consF (callF m__law_polygon (consF (b2 dIx (vn 0) (vn 3)) (nilF))) (consF (vn 8) (nilF)))))))
theorem pc1 (ns : List Int) (k : Nat) (x : Int) (hk : ns[k]? = some x) (ps : List D) (hl : ps.length ≤ 1000000) (s3 s4 s5 s6 s7 s8 s9 s10 s11 : Slot) : ∃ (c : Pc) (t7 t8 : Slot), pcS (.int (k : Nat)) [.val (.list (ns.map PyData.int)), .own ps, .val (.list (sD grps)), s3, s4, s5, s6, s7, s8, s9, s10, s11] = some (.nx [.val (.list (ns.map PyData.int)), .own (ps ++ [c.D]), .val (.list (sD grps)), .val (.int (k : Nat)), s4, s5, s6, t7, t8, s9, s10, s11]) ∧ c.Ok := by
  obtain ⟨H, W, e, F, l⟩ := m_polygon_eq x
  obtain ⟨qs, e2, bd⟩ := m_parts_eq (x + 1) [7, 200] (by decide) (by decide)
  obtain ⟨a, a0, a1, a2⟩ := bd_at (n := 0) bd rfl
  obtain ⟨b, b0, b1', b2'⟩ := bd_at (n := 1) bd rfl
  have A0 := at_int (i := 0) a0 rfl
  have A1 := at_int (i := 1) b0 rfl
  obtain ⟨n, rfl⟩ : ∃ n : Nat, a = (n : Int) := ⟨a.toNat, by omega⟩
  have hn : n < grps.length := by show n < 7; omega
  obtain ⟨g, hg⟩ : ∃ g, grps[n]? = some g := ⟨_, List.getElem?_eq_getElem hn⟩
  have gi : atI (sD grps) (n : Nat) = some (.str g) := atN (n := n) (by rw [List.getElem?_map, hg]; rfl) rfl
  obtain ⟨t, p, em, t0, t3, nm, bx⟩ := m_motion_eq (x + 2) b g (List.mem_of_getElem? hg) b1' b2'
  have e2' : m__law_parts [.int (x + 1), .list [.int 7, .int 200]] = some (.list (qs.map PyData.int)) := e2
  have ix := at_int hk (i := (k : Nat)) rfl
  refine ⟨⟨H, t, p⟩, .val (.list (qs.map PyData.int)), .val (mtD t p), ?_, ⟨fun q hq => (F.bx q hq).mono (by decide), by simp only; omega, F.po, t0, t3, bx, nm⟩⟩
  have fl : fits ps.length = true := by simpa [fits] using hl
  have f2 : ∀ x z : D, fitsL [x, z] = some [x, z] := fun _ _ => rfl
  have res : Pc.D ⟨H, t, p⟩ = .tuple [.tuple (pD H), mtD t p] := rfl
  rw [res]
  generalize qs.map PyData.int = Q at *
  generalize ns.map PyData.int = N at *
  generalize pD H = V at *
  generalize mtD t p = M at *
  generalize sD grps = G at *
  simp -implicitDefEqProofs only [pcS, e_tn, Option.bind_some, e_seqF, e_asgF, e_mutF, e_callF, e_consF, e_vn, e_nilF, e_b2, e_vc, e_dAddI, e_toL, e_lstF, f2, List.getElem?_cons_zero, List.getElem?_cons_succ, Option.map_some, List.set_cons_zero, List.set_cons_succ, e_dIxL, e_ixL, ix, e2', A0, A1, gi, em, e, e_tupF, hApp, fl, if_true]
theorem pcLoop (ns : List Int) (s4 s5 s6 s9 s10 s11 : Slot) : ∀ (n k : Nat) (ps : List D) (s3 s7 s8 : Slot), k + n ≤ ns.length → ps.length + n ≤ 1000000 → ∃ (cs : List Pc) (t3 t7 t8 : Slot), loopF pcS (rangeD (k : Nat) n) [.val (.list (ns.map PyData.int)), .own ps, .val (.list (sD grps)), s3, s4, s5, s6, s7, s8, s9, s10, s11] = some (.nx [.val (.list (ns.map PyData.int)), .own (ps ++ cD cs), .val (.list (sD grps)), t3, s4, s5, s6, t7, t8, s9, s10, s11]) ∧ cs.length = n ∧ ∀ c ∈ cs, c.Ok
  | 0, k, ps, s3, s7, s8, _, _ => ⟨[], s3, s7, s8, by simp [rangeD, cD], rfl, by simp⟩
  | n + 1, k, ps, s3, s7, s8, hk, hl => by
    obtain ⟨x, hx⟩ : ∃ x, ns[k]? = some x := ⟨_, List.getElem?_eq_getElem (by omega)⟩
    obtain ⟨c, t7, t8, e, o⟩ := pc1 ns k x hx ps (by omega) s3 s4 s5 s6 s7 s8 s9 s10 s11
    obtain ⟨cs, u3, u7, u8, e2, l, o2⟩ := pcLoop ns s4 s5 s6 s9 s10 s11 n (k + 1) (ps ++ [c.D]) (.val (.int (k : Nat))) t7 t8 (by omega) (by simp; omega)
    refine ⟨c :: cs, u3, u7, u8, ?_, by simp [l], ?_⟩
    · rw [range_succ', loopF, e]
      simp -implicitDefEqProofs only [Option.bind_some]
      rw [show ((k : Nat) : Int) + 1 = ((k + 1 : Nat) : Int) by omega, e2, List.append_assoc]
      rfl
    · intro y hy
      rcases List.mem_cons.mp hy with z | z
      · subst z; exact o
      · exact o2 y z
noncomputable def ptS : D → En → Option Out := fun d env => (tn 10 d env).bind (asgF (b2 dAdd (b2 dAdd (b2 dAdd (b2 dAdd (b2 dAdd (b2 dAdd (vn 4) (vc (.str " "))) (callF cStr (consF (b2 dIx (vn 10) (vc (.int 0))) (nilF)))) (vc (.str " "))) (callF cStr (consF (b2 dIx (vn 10) (vc (.int 1))) (nilF)))) (vc (.str " "))) (callF cStr (consF (b2 dIx (vn 10) (vc (.int 2))) (nilF)))) (tn 4))
theorem pt1 (s0 s1 s2 s3 s5 s6 s7 s8 s9 s10 s11 : Slot) (d : Str) (p : Pt) (h : Bx 1000000 p) (hl : d.length ≤ 900000) : ∃ d', ptS (ptD p) [s0, s1, s2, s3, .val (.str d), s5, s6, s7, s8, s9, s10, s11] = some (.nx [s0, s1, s2, s3, .val (.str d'), s5, s6, s7, s8, s9, .val (ptD p), s11]) ∧ tl d' = tl d ++ (nums [p]).flatMap (fun i => 32 :: tl (sI i)) ∧ d'.length ≤ d.length + 27 := by
  have c1 := cStr_eq h.x
  have c2 := cStr_eq h.y
  have c3 := cStr_eq h.w
  have l1 := sI_len h.x
  have l2 := sI_len h.y
  have l3 := sI_len h.w
  have sp : (" " : Str).length = 1 := by decide
  have i0 : dIx (ptD p) (.int 0) = some (.int p.x) := by simp [ptD, at0]
  have i1 : dIx (ptD p) (.int 1) = some (.int p.y) := by simp [ptD, at1]
  have i2 : dIx (ptD p) (.int 2) = some (.int p.w) := by simp [ptD, at2]
  refine ⟨d ++ " " ++ sI p.x ++ " " ++ sI p.y ++ " " ++ sI p.w, ?_, ?_, ?_⟩
  · have a1 : dAdd (.str d) (.str " ") = _ := addP (by rw [sp]; omega)
    have a2 : dAdd (.str (d ++ " ")) (.str (sI p.x)) = _ := addP (by rw [la, sp]; omega)
    have a3 : dAdd (.str (d ++ " " ++ sI p.x)) (.str " ") = _ := addP (by rw [la, la, sp]; omega)
    have a4 : dAdd (.str (d ++ " " ++ sI p.x ++ " ")) (.str (sI p.y)) = _ := addP (by rw [la, la, la, sp]; omega)
    have a5 : dAdd (.str (d ++ " " ++ sI p.x ++ " " ++ sI p.y)) (.str " ") = _ := addP (by rw [la, la, la, la, sp]; omega)
    have a6 : dAdd (.str (d ++ " " ++ sI p.x ++ " " ++ sI p.y ++ " ")) (.str (sI p.w)) = _ := addP (by rw [la, la, la, la, la, sp]; omega)
    generalize ptD p = P at *
    simp -implicitDefEqProofs only [ptS, e_tn, Option.bind_some, e_asgF, e_b2, e_vn, e_vc, e_callF, e_consF, e_nilF, i0, i1, i2, c1, c2, c3, a1, a2, a3, a4, a5, a6, List.getElem?_cons_zero, List.getElem?_cons_succ, Option.map_some, List.set_cons_zero, List.set_cons_succ]
  · have : tl (" " : Str) = [32] := by decide
    rw [tl_append, tl_append, tl_append, tl_append, tl_append, tl_append, this]
    simp [nums]
  · rw [la, la, la, la, la, la, sp]
    omega
theorem ptLoop (s0 s1 s2 s3 s5 s6 s7 s8 s9 s11 : Slot) : ∀ (H : List Pt) (d : Str) (s10 : Slot), Small H → d.length + 27 * H.length ≤ 900000 → ∃ d' t10, loopF ptS (pD H) [s0, s1, s2, s3, .val (.str d), s5, s6, s7, s8, s9, s10, s11] = some (.nx [s0, s1, s2, s3, .val (.str d'), s5, s6, s7, s8, s9, t10, s11]) ∧ tl d' = tl d ++ (nums H).flatMap (fun i => 32 :: tl (sI i)) ∧ d'.length ≤ d.length + 27 * H.length
  | [], d, s10, _, _ => ⟨d, s10, rfl, by simp [nums], by simp⟩
  | p :: H, d, s10, h, hl => by
    simp only [List.length_cons] at hl
    obtain ⟨d1, e, t, l⟩ := pt1 s0 s1 s2 s3 s5 s6 s7 s8 s9 s10 s11 d p (h p (by simp)) (by omega)
    obtain ⟨d2, t10, e2, t2, l2⟩ := ptLoop s0 s1 s2 s3 s5 s6 s7 s8 s9 s11 H d1 (.val (ptD p)) (fun q hq => h q (by simp [hq])) (by omega)
    refine ⟨d2, t10, ?_, ?_, by simp only [List.length_cons]; omega⟩
    · rw [pD, List.map_cons, loopF, e]
      exact e2
    · rw [t2, t, show nums (p :: H) = nums [p] ++ nums H from rfl, List.flatMap_append, List.append_assoc]
noncomputable def lnS : D → En → Option Out := fun d env => (tt 2 (gsCons (tn 9) (gsCons (tn 8) (gsNil))) d env).bind (seqF (asgF (vn 8) (tt 2 (gsCons (tn 3) (gsCons (tn 11) (gsNil)))))
  (seqF (asgF (b2 dAdd (b2 dAdd (vn 4) (vc (.str "piece "))) (callF cStr (consF (vn 3) (nilF)))) (tn 4))
  (seqF (forF (iaF (b2 dAdd (tupF (consF (vn 11) (nilF))) (vn 9))) (tn 10) (asgF (b2 dAdd (b2 dAdd (b2 dAdd (b2 dAdd (b2 dAdd (b2 dAdd (vn 4) (vc (.str " "))) (callF cStr (consF (b2 dIx (vn 10) (vc (.int 0))) (nilF)))) (vc (.str " "))) (callF cStr (consF (b2 dIx (vn 10) (vc (.int 1))) (nilF)))) (vc (.str " "))) (callF cStr (consF (b2 dIx (vn 10) (vc (.int 2))) (nilF)))) (tn 4)))
  (asgF (b2 dAdd (vn 4) (vc (.str "\n"))) (tn 4)))))
theorem ln1 (s0 s1 s2 s3 s5 s6 s7 s8 s9 s10 s11 : Slot) (d : Str) (c : Pc) (h : c.Ok) (hl : d.length ≤ 800000) : ∃ d' t3 t8 t9 t10 t11, lnS c.D [s0, s1, s2, s3, .val (.str d), s5, s6, s7, s8, s9, s10, s11] = some (.nx [s0, s1, s2, t3, .val (.str d'), s5, s6, s7, t8, t9, t10, t11]) ∧ tl d' = tl d ++ tl c.lineN ∧ d'.length ≤ d.length + 601 := by
  have lp : ("piece " : Str).length = 6 := by decide
  have ln : ("\n" : Str).length = 1 := by decide
  have lt := sI_len (abs_t h)
  have h20 := h.len
  obtain ⟨d', t10, e, t, l⟩ := ptLoop s0 s1 s2 (.val (.int c.t)) s5 s6 s7 (.val (mtD c.t c.p)) (.val (.tuple (pD c.H))) (.val (ptD c.p)) c.pts (d ++ "piece " ++ sI c.t) s10 h.small (by rw [la, la, lp, pts_len]; omega)
  have tf : tl (d' ++ "\n") = tl d ++ tl c.lineN := by
    unfold Pc.lineN
    rw [tl_append, t, tl_append, tl_append, tl_append, tl_lineP]
    have e1 : tl ("piece " : Str) = tl ("piece" : Str) ++ [32] := by decide
    rw [e1]
    simp
  refine ⟨d' ++ "\n", .val (.int c.t), .val (mtD c.t c.p), .val (.tuple (pD c.H)), t10, .val (ptD c.p), ?_, tf, ?_⟩
  rotate_left
  · have q := lineNP_len h
    rw [len_tl, tf, List.length_append, ← len_tl, ← len_tl]
    omega
  have a1 : dAdd (.str d) (.str "piece ") = _ := addP (by rw [lp]; omega)
  have a1' : dAdd (.str (d ++ "piece ")) (.str (sI c.t)) = _ := addP (by rw [la, lp]; omega)
  have a2 : dAdd (.str d') (.str "\n") = _ := addP (by rw [la, la, lp, pts_len] at l; rw [ln]; omega)
  have cs := cStr_eq (abs_t h)
  have cat : dAdd (.tuple [ptD c.p]) (.tuple (pD c.H)) = some (.tuple (pD c.pts)) := by
    have h3 := h.po.len
    obtain ⟨H, t, p⟩ := c
    simp only at h3 h20
    cases H with
    | nil => simp at h3
    | cons a r =>
      show dAdd (.tuple (ptD p :: [])) (.tuple (ptD a :: pD r)) = _
      unfold dAdd
      simp only
      rw [if_pos (by simp [fits]; simp at h20; omega)]
      rfl
  have f1 : ∀ x : D, fitsL [x] = some [x] := fun _ => rfl
  unfold lnS
  have b0 : (tt 2 (gsCons (tn 9) (gsCons (tn 8) (gsNil))) c.D [s0, s1, s2, s3, .val (.str d), s5, s6, s7, s8, s9, s10, s11]) = some [s0, s1, s2, s3, .val (.str d), s5, s6, s7, .val (mtD c.t c.p), .val (.tuple (pD c.H)), s10, s11] := rfl
  rw [b0, Option.bind_some, e_seqF]
  have b1 : asgF (vn 8) (tt 2 (gsCons (tn 3) (gsCons (tn 11) (gsNil)))) [s0, s1, s2, s3, .val (.str d), s5, s6, s7, .val (mtD c.t c.p), .val (.tuple (pD c.H)), s10, s11] = some (.nx [s0, s1, s2, .val (.int c.t), .val (.str d), s5, s6, s7, .val (mtD c.t c.p), .val (.tuple (pD c.H)), s10, .val (ptD c.p)]) := rfl
  rw [b1]
  simp -implicitDefEqProofs only [Option.bind_some]
  rw [e_seqF]
  have b2' : asgF (b2 dAdd (b2 dAdd (vn 4) (vc (.str "piece "))) (callF cStr (consF (vn 3) (nilF)))) (tn 4) [s0, s1, s2, .val (.int c.t), .val (.str d), s5, s6, s7, .val (mtD c.t c.p), .val (.tuple (pD c.H)), s10, .val (ptD c.p)] = some (.nx [s0, s1, s2, .val (.int c.t), .val (.str (d ++ "piece " ++ sI c.t)), s5, s6, s7, .val (mtD c.t c.p), .val (.tuple (pD c.H)), s10, .val (ptD c.p)]) := by
    simp -implicitDefEqProofs only [e_asgF, e_b2, e_vn, e_vc, e_callF, e_consF, e_nilF, a1, cs, a1', e_tn, List.getElem?_cons_zero, List.getElem?_cons_succ, Option.map_some, List.set_cons_zero, List.set_cons_succ, Option.bind_some]
  rw [b2']
  simp -implicitDefEqProofs only [Option.bind_some]
  rw [e_seqF, forF_of (ds := pD c.pts) (r := _) ?_ e]
  · simp -implicitDefEqProofs only [Option.bind_some, e_asgF, e_b2, e_vn, e_vc, a2, e_tn, List.getElem?_cons_zero, List.getElem?_cons_succ, Option.map_some, List.set_cons_zero, List.set_cons_succ]
  · simp -implicitDefEqProofs only [e_iaF, e_b2, e_tupF, e_consF, e_nilF, e_vn, List.getElem?_cons_zero, List.getElem?_cons_succ, Option.bind_some, Option.map_some, f1, cat, e_tlOfT, Option.some_or]
theorem lnLoop (s0 s1 s2 s5 s6 s7 : Slot) : ∀ (cs : List Pc) (d : Str) (s3 s8 s9 s10 s11 : Slot), (∀ c ∈ cs, c.Ok) → d.length + 601 * cs.length ≤ 800000 → ∃ d' t3 t8 t9 t10 t11, loopF lnS (cD cs) [s0, s1, s2, s3, .val (.str d), s5, s6, s7, s8, s9, s10, s11] = some (.nx [s0, s1, s2, t3, .val (.str d'), s5, s6, s7, t8, t9, t10, t11]) ∧ tl d' = tl d ++ cs.flatMap (fun c => tl c.lineN)
  | [], d, s3, s8, s9, s10, s11, _, _ => ⟨d, s3, s8, s9, s10, s11, rfl, by simp⟩
  | c :: cs, d, s3, s8, s9, s10, s11, h, hl => by
    simp only [List.length_cons] at hl
    obtain ⟨d1, t3, t8, t9, t10, t11, e, t, l⟩ := ln1 s0 s1 s2 s3 s5 s6 s7 s8 s9 s10 s11 d c (h c (by simp)) (by omega)
    obtain ⟨d2, u3, u8, u9, u10, u11, e2, t2⟩ := lnLoop s0 s1 s2 s5 s6 s7 cs d1 t3 t8 t9 t10 t11 (fun q hq => h q (by simp [hq])) (by omega)
    refine ⟨d2, u3, u8, u9, u10, u11, ?_, ?_⟩
    · rw [cD, List.map_cons, loopF, e]
      exact e2
    · rw [t2, t, List.flatMap_cons, List.append_assoc]
theorem plain (F_read : Addr) (ns : List Int) (_ : ns.length ≤ 63) : runF 12 (b_law F_read) [.list (ns.map PyData.int)] = some (.bool true) := by
  obtain ⟨cs, t3, t7, t8, e1, l, o⟩ := pcLoop ns .no .no .no .no .no .no (ns.take 8).length 0 [] .no .no .no (by simp; omega) (by simp; omega)
  have ok : OkayP cs := ⟨by rw [l]; simp; omega, o⟩
  obtain ⟨due, u3, u8, u9, u10, u11, e2, t⟩ := lnLoop (.val (.list (ns.map PyData.int))) (.val (.list (cD cs))) (.val (.list (sD grps))) .no .no t7 cs "" t3 t8 .no .no .no o (by
    have := ok.1
    have : ("" : Str).length = 0 := by decide
    omega)
  have ed : due = textP cs := by
    refine ext_tl ?_
    rw [t, tl_textP]
    have : tl ("" : Str) = [] := by decide
    rw [this, List.nil_append]
  subst ed
  have cd : DL.cutD (ns.map PyData.int) none (some 8) = (ns.take 8).map PyData.int := by
    have := cut_takeP (ns.map PyData.int) 8
    rw [show ((8 : Nat) : Int) = 8 from rfl] at this
    rw [this, List.map_take]
  have hr : rg1 [.int ((((ns.take 8).map PyData.int).length : Nat) : Int)] = some (rangeD 0 (ns.take 8).length) := by
    rw [List.length_map]
    exact rg1_nat _ (by simp; omega)
  have w := m_writep_eq ok
  have rd := m_readpaper_eq F_read ok
  obtain ⟨x, r1, r2⟩ := repr_of (tell_pcs ok) (by decide)
  have q1 := eq_self (lay_pcs cs) (by decide)
  have q2 := eq_self (lay_str (n := 0) (strOk_textP cs)) (by decide)
  rw [List.nil_append] at e1
  have er : rangeD ((0 : Nat) : Int) (ns.take 8).length = rangeD 0 (ns.take 8).length := rfl
  rw [er] at e1
  have f7 : fitsL (sD grps) = some (sD grps) := rfl
  simp -implicitDefEqProofs only [runF, b_law]
  rw [show (([.list (ns.map PyData.int)] : List D).map Slot.val ++ List.replicate (12 - ([.list (ns.map PyData.int)] : List D).length) Slot.no) = [.val (.list (ns.map PyData.int)), .no, .no, .no, .no, .no, .no, .no, .no, .no, .no, .no] from rfl]
  generalize ns.map PyData.int = N at *
  generalize (ns.take 8).map PyData.int = N8 at *
  generalize rangeD 0 (ns.take 8).length = R8 at *
  generalize cD cs = F at *
  generalize textP cs = T at *
  rw [e_seqF]
  have a1 : ownF 1 (lstF (nilF)) [.val (.list N), .no, .no, .no, .no, .no, .no, .no, .no, .no, .no, .no] = some (.nx [.val (.list N), .own [], .no, .no, .no, .no, .no, .no, .no, .no, .no, .no]) := by simp -implicitDefEqProofs [fitsL, fits]
  rw [a1]
  simp -implicitDefEqProofs only [Option.bind_some]
  rw [e_seqF]
  have a0 : asgF (toL (lstF (consF (vc (.str "level")) (consF (vc (.str "grid")) (consF (vc (.str "grid2")) (consF (vc (.str "grid4")) (consF (vc (.str "free")) (consF (vc (.str "free2")) (consF (vc (.str "free4")) (nilF)))))))))) (tn 2) [.val (.list N), .own [], .no, .no, .no, .no, .no, .no, .no, .no, .no, .no] = some (.nx [.val (.list N), .own [], .val (.list (sD grps)), .no, .no, .no, .no, .no, .no, .no, .no, .no]) := by
    have f7' : fitsL [PyData.str "level", .str "grid", .str "grid2", .str "grid4", .str "free", .str "free2", .str "free4"] = some (sD grps) := f7
    simp -implicitDefEqProofs only [e_asgF, e_toL, e_lstF, e_consF, e_vc, e_nilF, Option.bind_some, Option.map_some, f7', e_tn, List.set_cons_zero, List.set_cons_succ]
  rw [a0]
  simp -implicitDefEqProofs only [Option.bind_some]
  rw [e_seqF, forF_of (ds := R8) (r := _) ?_ e1]
  · simp -implicitDefEqProofs only [Option.bind_some]
    rw [e_seqF]
    have a2 : ∀ (v : Slot), asgF (vc (.str "")) (tn 4) [.val (.list N), .own F, v, t3, .no, .no, .no, t7, t8, .no, .no, .no] = some (.nx [.val (.list N), .own F, v, t3, .val (.str ""), .no, .no, t7, t8, .no, .no, .no]) := fun _ => rfl
    rw [a2]
    simp -implicitDefEqProofs only [Option.bind_some]
    rw [e_seqF, e_fzF]
    have a3 : ∀ (v : Slot), frzE 1 [.val (.list N), .own F, v, t3, .val (.str ""), .no, .no, t7, t8, .no, .no, .no] = [.val (.list N), .val (.list F), v, t3, .val (.str ""), .no, .no, t7, t8, .no, .no, .no] := fun _ => rfl
    rw [a3, forF_of (ds := F) (r := _) ?_ e2]
    · simp -implicitDefEqProofs only [Option.bind_some]
      simp -implicitDefEqProofs only [e_seqF, e_asgF, e_toL, e_vnl, e_vn, List.getElem?_cons_zero, List.getElem?_cons_succ, Option.bind_some, Option.map_some, e_tn, List.set_cons_zero, List.set_cons_succ, e_callF, e_consF, e_nilF, w, e_fzF, e_frzE, e_retF, e_andE, e_b2, q1, q2, rd, r1, r2, e_truthB, if_true]
    · simp -implicitDefEqProofs only [e_iaF, e_vn, List.getElem?_cons_zero, List.getElem?_cons_succ, Option.bind_some, e_tlOfL, Option.some_or]
  · rw [e_r1F]
    have : (consF (callF cLen (consF (dslF (vn 0) (onF) (oiF (vc (.int 8)))) (nilF))) (nilF)) [.val (.list N), .own [], .val (.list (sD grps)), .no, .no, .no, .no, .no, .no, .no, .no, .no] = some [.int ((N8.length : Nat) : Int)] := by
      simp -implicitDefEqProofs only [e_consF, e_callF, e_dslF, e_vn, e_onF, e_oiF, e_vc, e_intOf, dCut, cd, e_nilF, e_cLenL, List.getElem?_cons_zero, List.getElem?_cons_succ, Option.bind_some, Option.map_some]
    rw [this, Option.bind_some, hr]
end K46

set_option Elab.async false
set_option linter.all false
set_option maxRecDepth 100000
namespace K46
open PySem PySem.Spec PyProof.Rows L2 DL
open KC
def topS (i : Nat) : Stmt := PySem.Challenge.pw_cutandlaid_k46_texts_of_papers.main.body.getD i (.Pass ⟨0, 0, 0, 0⟩)
structure Blt (mg : Str → Option Value) : Prop where
  abs : mg "abs" = none
  any : mg "any" = none
  enumerate : mg "enumerate" = none
  int : mg "int" = none
  len : mg "len" = none
  list : mg "list" = none
  max : mg "max" = none
  min : mg "min" = none
  range : mg "range" = none
  repr : mg "repr" = none
  set : mg "set" = none
  str : mg "str" = none
  tuple : mg "tuple" = none
  zip : mg "zip" = none
section
variable {P : Program} {w : World} {K : PySem.W.Frag} {mg : Str → Option Value} {base : Heap}
abbrev N_common_divisor : List Str := ["a", "b"]
abbrev s_common_divisor : Stmt := topS 4
theorem sc_common_divisor : FnScope N_common_divisor ["a", "b"] (defScope s_common_divisor) := ⟨rfl, rfl, rfl, by decide +kernel, rfl, by decide +kernel, by decide +kernel⟩

theorem ok_common_divisor {f : Addr} {fd : FuncData} (T : Blt mg) (F : Fun K "common_divisor" "common_divisor" s_common_divisor f fd) (hm : mg "common_divisor" = some (.ref f)) (hb : Binds K fd ["a", "b"] []) : Cal P w K mg base 1 "common_divisor" 2 m_common_divisor :=
  cal_mk (k := 0) F sc_common_divisor hm hb fun cdv A outer s H E hr => dss_cons (ds_set (i := 0) sc_common_divisor.nd (de_callB c_abs (da_cons (de_name 0) (da_nil)) T.abs (by decide +kernel)))
    (dss_cons (ds_set (i := 1) sc_common_divisor.nd (de_callB c_abs (da_cons (de_name 1) (da_nil)) T.abs (by decide +kernel)))
    (dss_cons (ds_while PassesOwn.never (dt_val (de_name 1)) (dss_one (ds_par (i := 0) (j := 1) rfl sc_common_divisor.nd (da_cons (de_name 1) (da_cons (de_bin r_mod (de_name 0) (de_name 1)) (da_nil))) (by rfl))))
    (dss_one (ds_ret (de_name 0)))))

abbrev N_comes_before : List Str := ["p", "q", "left", "right"]
abbrev s_comes_before : Stmt := topS 7
theorem sc_comes_before : FnScope N_comes_before ["p", "q"] (defScope s_comes_before) := ⟨rfl, rfl, rfl, by decide +kernel, rfl, by decide +kernel, by decide +kernel⟩

theorem ok_comes_before {f : Addr} {fd : FuncData} (T : Blt mg) (F : Fun K "comes_before" "comes_before" s_comes_before f fd) (hm : mg "comes_before" = some (.ref f)) (hb : Binds K fd ["p", "q"] []) : Cal P w K mg base 1 "comes_before" 2 m_comes_before :=
  cal_mk (k := 0) F sc_comes_before hm hb fun cdv A outer s H E hr => dss_cons (ds_set (i := 2) sc_comes_before.nd (de_bin r_mul (de_ix (de_name 0) (de_int)) (de_ix (de_name 1) (de_int))))
    (dss_cons (ds_set (i := 3) sc_comes_before.nd (de_bin r_mul (de_ix (de_name 1) (de_int)) (de_ix (de_name 0) (de_int))))
    (dss_cons (ds_if (dt_cmp (r_ne hr) (de_name 2) (de_name 3)) (dss_one (ds_ret (de_cmp r_lt (de_name 2) (de_name 3)))) (dss_nil))
    (dss_one (ds_ret (de_cmp r_lt (de_bin r_mul (de_ix (de_name 0) (de_int)) (de_ix (de_name 1) (de_int))) (de_bin r_mul (de_ix (de_name 1) (de_int)) (de_ix (de_name 0) (de_int))))))))

abbrev N_side : List Str := ["a", "b", "c", "turn"]
abbrev s_side : Stmt := topS 8
theorem sc_side : FnScope N_side ["a", "b", "c"] (defScope s_side) := ⟨rfl, rfl, rfl, by decide +kernel, rfl, by decide +kernel, by decide +kernel⟩

theorem ok_side {f : Addr} {fd : FuncData} (T : Blt mg) (F : Fun K "side" "side" s_side f fd) (hm : mg "side" = some (.ref f)) (hb : Binds K fd ["a", "b", "c"] []) : Cal P w K mg base 1 "side" 3 m_side :=
  cal_mk (k := 0) F sc_side hm hb fun cdv A outer s H E hr => dss_cons (ds_set (i := 3) sc_side.nd (de_bin r_mul (de_ix (de_name 0) (de_int)) (de_bin r_sub (de_bin r_mul (de_ix (de_name 1) (de_int)) (de_ix (de_name 2) (de_int))) (de_bin r_mul (de_ix (de_name 2) (de_int)) (de_ix (de_name 1) (de_int))))))
    (dss_cons (ds_aug (i := 3) sc_side.nd i_add (de_bin r_mul (de_ix (de_name 1) (de_int)) (de_bin r_sub (de_bin r_mul (de_ix (de_name 2) (de_int)) (de_ix (de_name 0) (de_int))) (de_bin r_mul (de_ix (de_name 0) (de_int)) (de_ix (de_name 2) (de_int))))))
    (dss_cons (ds_aug (i := 3) sc_side.nd i_add (de_bin r_mul (de_ix (de_name 2) (de_int)) (de_bin r_sub (de_bin r_mul (de_ix (de_name 0) (de_int)) (de_ix (de_name 1) (de_int))) (de_bin r_mul (de_ix (de_name 1) (de_int)) (de_ix (de_name 0) (de_int))))))
    (dss_one (ds_ret (de_bin r_sub (de_cmp r_gt (de_name 3) (de_int)) (de_cmp r_lt (de_name 3) (de_int)))))))

abbrev N_words_of : List Str := ["points", "p", "n"]
abbrev s_words_of : Stmt := topS 14
theorem sc_words_of : FnScope N_words_of ["points"] (defScope s_words_of) := ⟨rfl, rfl, rfl, by decide +kernel, rfl, by decide +kernel, by decide +kernel⟩

theorem ok_words_of {f : Addr} {fd : FuncData} (T : Blt mg) (F : Fun K "words_of" "words_of" s_words_of f fd) (hm : mg "words_of" = some (.ref f)) (hb : Binds K fd ["points"] []) : Cal P w K mg base 1 "words_of" 1 m_words_of :=
  cal_mk (k := 0) F sc_words_of hm hb fun cdv A outer s H E hr => dss_one (ds_ret (de_new (df_lc2 (own := [("p", 1), ("n", 2)]) rfl sc_words_of.nd (di_any (de_name 0)) (blkOk_by (own := [("p", 1), ("n", 2)]) (N := N_words_of) (sc := defScope s_words_of) (by decide +kernel)) (fun _ _ _ _ _ => dg_name (i := 1) sc_words_of.nd) (fun _ _ _ _ _ => dts_nil) (fun _ _ _ _ _ => di_any (de_name 1)) (fun _ _ _ _ _ => dg_name (i := 2) sc_words_of.nd) (fun _ _ _ _ _ => dts_nil) (fun _ _ _ _ _ => de_callTy c_str (da_cons (de_name 2) (da_nil)) T.str (by decide +kernel)))))

abbrev N_integer_of : List Str := ["word", "digits", "n", "sign"]
abbrev s_integer_of : Stmt := topS 16
theorem sc_integer_of : FnScope N_integer_of ["word"] (defScope s_integer_of) := ⟨rfl, rfl, rfl, by decide +kernel, rfl, by decide +kernel, by decide +kernel⟩

theorem ok_integer_of {f : Addr} {fd : FuncData} (T : Blt mg) (F : Fun K "integer_of" "integer_of" s_integer_of f fd) (hm : mg "integer_of" = some (.ref f)) (hb : Binds K fd ["word"] []) : Cal P w K mg base 1 "integer_of" 1 m_integer_of :=
  cal_mk (k := 0) F sc_integer_of hm hb fun cdv A outer s H E hr => dss_cons (ds_set (i := 1) sc_integer_of.nd (de_if (dt_val (de_starts (de_name 0) (de_str))) (de_slice (de_name 0) (do_some (de_int)) (do_none)) (de_name 0)))
    (dss_cons (ds_if (dt_w (dw_or (dt_not (dt_val (de_name 1))) (dw_or1 (dt_val (de_callB (c_any rfl) (da_cons (de_new (df_lc (own := [("sign", 3)]) rfl sc_integer_of.nd (di_any (de_name 1)) (blkOk_by (own := [("sign", 3)]) (N := N_integer_of) (sc := defScope s_integer_of) (by decide +kernel)) (fun _ _ _ _ _ => dg_name (i := 3) sc_integer_of.nd) (fun _ _ _ _ _ => dts_nil) (fun _ _ _ _ _ => de_cmp (r_notin hr) (de_name 3) (de_str)))) (da_nil)) T.any (by decide +kernel)))))) (dss_one (ds_ret (de_none))) (dss_nil))
    (dss_cons (ds_set (i := 2) sc_integer_of.nd (de_callTy c_int (da_cons (de_name 0) (da_nil)) T.int (by decide +kernel)))
    (dss_one (ds_ret (de_if (dt_cmp (r_eq hr) (de_callTy c_str (da_cons (de_name 2) (da_nil)) T.str (by decide +kernel)) (de_name 0)) (de_name 2) (de_none))))))

abbrev N__law_parts : List Str := ["_law_cell_here", "_law_sizes", "_law_parts_here", "_law_rest", "_law_k", "_law_mixed"]
abbrev s__law_parts : Stmt := topS 25
theorem sc__law_parts : FnScope N__law_parts ["_law_cell_here", "_law_sizes"] (defScope s__law_parts) := ⟨rfl, rfl, rfl, by decide +kernel, rfl, by decide +kernel, by decide +kernel⟩

theorem ok__law_parts {f : Addr} {fd : FuncData} (T : Blt mg) (F : Fun K "_law_parts" "_law_parts" s__law_parts f fd) (hm : mg "_law_parts" = some (.ref f)) (hb : Binds K fd ["_law_cell_here", "_law_sizes"] []) : Cal P w K mg base 1 "_law_parts" 2 m__law_parts :=
  cal_mk (k := 0) F sc__law_parts hm hb fun cdv A outer s H E hr => dss_cons (ds_own (i := 2) sc__law_parts.nd (df_lst (da_nil)))
    (dss_cons (ds_set (i := 3) sc__law_parts.nd (de_bin r_sub (de_name 0) (de_bin r_pow (de_int) (de_int))))
    (dss_cons (ds_for PassesOwn.never rfl (di_range1 (da_cons (de_callB c_len (da_cons (de_name 1) (da_nil)) T.len (by decide +kernel)) (da_nil)) T.range) (dg_name (i := 4) sc__law_parts.nd) (dss_one (ds_if (dt_cmp r_ge (de_name 3) (de_int)) (dss_cons (ds_append (i := 2) (de_bin r_mod (de_callTy c_int (da_cons (de_name 3) (da_nil)) T.int (by decide +kernel)) (de_ix (de_name 1) (de_name 4))))
    (dss_one (ds_set (i := 3) sc__law_parts.nd (de_bin r_div (de_name 3) (de_ix (de_name 1) (de_name 4)))))) (dss_cons (ds_set (i := 5) sc__law_parts.nd (de_bin r_mod (de_callTy c_int (da_cons (de_bin r_add (de_bin r_add (de_bin r_mul (de_name 0) (de_int)) (de_bin r_mul (de_name 4) (de_int))) (de_int)) (da_nil)) T.int (by decide +kernel)) (de_int)))
    (dss_cons (ds_set (i := 5) sc__law_parts.nd (de_bin r_mod (de_callTy c_int (da_cons (de_bin r_add (de_bin r_add (de_bin r_mul (de_name 5) (de_name 5)) (de_bin r_mul (de_int) (de_name 4))) (de_int)) (da_nil)) T.int (by decide +kernel)) (de_int)))
    (dss_one (ds_append (i := 2) (de_bin r_mod (de_callTy c_int (da_cons (de_name 5) (da_nil)) T.int (by decide +kernel)) (de_ix (de_name 1) (de_name 4))))))))))
    (dss_one (ds_frz 2 (ds_ret (de_name 2))))))

abbrev N__law_divisor : List Str := ["_law_a", "_law_b", "_law_k"]
abbrev s__law_divisor : Stmt := topS 26
theorem sc__law_divisor : FnScope N__law_divisor ["_law_a", "_law_b"] (defScope s__law_divisor) := ⟨rfl, rfl, rfl, by decide +kernel, rfl, by decide +kernel, by decide +kernel⟩

theorem ok__law_divisor {f : Addr} {fd : FuncData} (T : Blt mg) (F : Fun K "_law_divisor" "_law_divisor" s__law_divisor f fd) (hm : mg "_law_divisor" = some (.ref f)) (hb : Binds K fd ["_law_a", "_law_b"] []) : Cal P w K mg base 1 "_law_divisor" 2 m__law_divisor :=
  cal_mk (k := 0) F sc__law_divisor hm hb fun cdv A outer s H E hr => dss_cons (ds_set (i := 0) sc__law_divisor.nd (de_callB c_abs (da_cons (de_name 0) (da_nil)) T.abs (by decide +kernel)))
    (dss_cons (ds_set (i := 1) sc__law_divisor.nd (de_callB c_abs (da_cons (de_name 1) (da_nil)) T.abs (by decide +kernel)))
    (dss_cons (ds_for PassesOwn.never rfl (di_range1 (da_cons (de_int) (da_nil)) T.range) (dg_name (i := 2) sc__law_divisor.nd) (dss_cons (ds_if (dt_cmp (r_eq hr) (de_name 1) (de_int)) (dss_one (ds_ret (de_name 0))) (dss_nil))
    (dss_one (ds_par (i := 0) (j := 1) rfl sc__law_divisor.nd (da_cons (de_name 1) (da_cons (de_bin r_mod (de_callTy c_int (da_cons (de_name 0) (da_nil)) T.int (by decide +kernel)) (de_name 1)) (da_nil))) (by rfl)))))
    (dss_one (ds_ret (de_name 0)))))

abbrev N__law_turn : List Str := ["_law_a", "_law_b", "_law_c", "_law_turn_here"]
abbrev s__law_turn : Stmt := topS 31
theorem sc__law_turn : FnScope N__law_turn ["_law_a", "_law_b", "_law_c"] (defScope s__law_turn) := ⟨rfl, rfl, rfl, by decide +kernel, rfl, by decide +kernel, by decide +kernel⟩

theorem ok__law_turn {f : Addr} {fd : FuncData} (T : Blt mg) (F : Fun K "_law_turn" "_law_turn" s__law_turn f fd) (hm : mg "_law_turn" = some (.ref f)) (hb : Binds K fd ["_law_a", "_law_b", "_law_c"] []) : Cal P w K mg base 1 "_law_turn" 3 m__law_turn :=
  cal_mk (k := 0) F sc__law_turn hm hb fun cdv A outer s H E hr => dss_cons (ds_set (i := 3) sc__law_turn.nd (de_bin r_add (de_bin r_mul (de_ix (de_name 0) (de_int)) (de_bin r_sub (de_bin r_mul (de_ix (de_name 1) (de_int)) (de_ix (de_name 2) (de_int))) (de_bin r_mul (de_ix (de_name 2) (de_int)) (de_ix (de_name 1) (de_int))))) (de_bin r_mul (de_ix (de_name 1) (de_int)) (de_bin r_sub (de_bin r_mul (de_ix (de_name 2) (de_int)) (de_ix (de_name 0) (de_int))) (de_bin r_mul (de_ix (de_name 0) (de_int)) (de_ix (de_name 2) (de_int)))))))
    (dss_one (ds_ret (de_bin r_add (de_name 3) (de_bin r_mul (de_ix (de_name 2) (de_int)) (de_bin r_sub (de_bin r_mul (de_ix (de_name 0) (de_int)) (de_ix (de_name 1) (de_int))) (de_bin r_mul (de_ix (de_name 1) (de_int)) (de_ix (de_name 0) (de_int))))))))

abbrev N__law_before : List Str := ["_law_p", "_law_q"]
abbrev s__law_before : Stmt := topS 32
theorem sc__law_before : FnScope N__law_before ["_law_p", "_law_q"] (defScope s__law_before) := ⟨rfl, rfl, rfl, by decide +kernel, rfl, by decide +kernel, by decide +kernel⟩

theorem ok__law_before {f : Addr} {fd : FuncData} (T : Blt mg) (F : Fun K "_law_before" "_law_before" s__law_before f fd) (hm : mg "_law_before" = some (.ref f)) (hb : Binds K fd ["_law_p", "_law_q"] []) : Cal P w K mg base 1 "_law_before" 2 m__law_before :=
  cal_mk (k := 0) F sc__law_before hm hb fun cdv A outer s H E hr => dss_cons (ds_if (dt_cmp (r_ne hr) (de_bin r_mul (de_ix (de_name 0) (de_int)) (de_ix (de_name 1) (de_int))) (de_bin r_mul (de_ix (de_name 1) (de_int)) (de_ix (de_name 0) (de_int)))) (dss_one (ds_ret (de_cmp r_lt (de_bin r_mul (de_ix (de_name 0) (de_int)) (de_ix (de_name 1) (de_int))) (de_bin r_mul (de_ix (de_name 1) (de_int)) (de_ix (de_name 0) (de_int)))))) (dss_nil))
    (dss_one (ds_ret (de_cmp r_lt (de_bin r_mul (de_ix (de_name 0) (de_int)) (de_ix (de_name 1) (de_int))) (de_bin r_mul (de_ix (de_name 1) (de_int)) (de_ix (de_name 0) (de_int))))))

abbrev N_point : List Str := ["x", "y", "w", "divisor"]
abbrev s_point : Stmt := topS 6
theorem sc_point : FnScope N_point ["x", "y", "w"] (defScope s_point) := ⟨rfl, rfl, rfl, by decide +kernel, rfl, by decide +kernel, by decide +kernel⟩

theorem ok_point {f : Addr} {fd : FuncData} (T : Blt mg) (C_common_divisor : Cal P w K mg base 1 "common_divisor" 2 m_common_divisor) (F : Fun K "point" "point" s_point f fd) (hm : mg "point" = some (.ref f)) (hb : Binds K fd ["x", "y", "w"] []) : Cal P w K mg base 2 "point" 3 m_point :=
  cal_mk (k := 1) F sc_point hm hb fun cdv A outer s H E hr => dss_cons (ds_set (i := 3) sc_point.nd (de_call C_common_divisor hr (by decide) (da_cons (de_call C_common_divisor hr (by decide) (da_cons (de_name 0) (da_cons (de_name 1) (da_nil))) (lenIs_cons (lenIs_cons (lenIs_nil)))) (da_cons (de_name 2) (da_nil))) (lenIs_cons (lenIs_cons (lenIs_nil)))))
    (dss_cons (ds_if (dt_cmp r_lt (de_name 2) (de_int)) (dss_one (ds_set (i := 3) sc_point.nd (de_un r_neg (de_name 3)))) (dss_nil))
    (dss_one (ds_ret (de_tup (da_cons (de_bin r_div (de_name 0) (de_name 3)) (da_cons (de_bin r_div (de_name 1) (de_name 3)) (da_cons (de_bin r_div (de_name 2) (de_name 3)) (da_nil))))))))

abbrev N_goes_round_once : List Str := ["corners", "first", "at"]
abbrev s_goes_round_once : Stmt := topS 10
theorem sc_goes_round_once : FnScope N_goes_round_once ["corners"] (defScope s_goes_round_once) := ⟨rfl, rfl, rfl, by decide +kernel, rfl, by decide +kernel, by decide +kernel⟩

theorem ok_goes_round_once {f : Addr} {fd : FuncData} (T : Blt mg) (C_side : Cal P w K mg base 1 "side" 3 m_side) (F : Fun K "goes_round_once" "goes_round_once" s_goes_round_once f fd) (hm : mg "goes_round_once" = some (.ref f)) (hb : Binds K fd ["corners"] []) : Cal P w K mg base 2 "goes_round_once" 1 m_goes_round_once :=
  cal_mk (k := 1) F sc_goes_round_once hm hb fun cdv A outer s H E hr => dss_cons (ds_set (i := 1) sc_goes_round_once.nd (de_ix (de_name 0) (de_int)))
    (dss_cons (ds_for PassesOwn.never rfl (di_range2 (da_cons (de_int) (da_cons (de_bin r_sub (de_callB c_len (da_cons (de_name 0) (da_nil)) T.len (by decide +kernel)) (de_int)) (da_nil))) T.range) (dg_name (i := 2) sc_goes_round_once.nd) (dss_one (ds_if (dt_cmp r_le (de_call C_side hr (by decide) (da_cons (de_name 1) (da_cons (de_ix (de_name 0) (de_name 2)) (da_cons (de_ix (de_name 0) (de_bin r_add (de_name 2) (de_int))) (da_nil)))) (lenIs_cons (lenIs_cons (lenIs_cons (lenIs_nil))))) (de_int)) (dss_one (ds_ret (de_bool))) (dss_nil))))
    (dss_one (ds_ret (de_bool))))

abbrev N_write_paper : List Str := ["paper", "lines", "piece", "motion"]
abbrev s_write_paper : Stmt := topS 15
theorem sc_write_paper : FnScope N_write_paper ["paper"] (defScope s_write_paper) := ⟨rfl, rfl, rfl, by decide +kernel, rfl, by decide +kernel, by decide +kernel⟩

theorem ok_write_paper {f : Addr} {fd : FuncData} (T : Blt mg) (C_words_of : Cal P w K mg base 1 "words_of" 1 m_words_of) (G_PIECE : GlobOk K mg "PIECE" (.str "piece")) (F : Fun K "write_paper" "write_paper" s_write_paper f fd) (hm : mg "write_paper" = some (.ref f)) (hb : Binds K fd ["paper"] []) : Cal P w K mg base 2 "write_paper" 1 m_write_paper :=
  cal_mk (k := 1) F sc_write_paper hm hb fun cdv A outer s H E hr => dss_cons (ds_own (i := 1) sc_write_paper.nd (df_lst (da_nil)))
    (dss_cons (ds_for PassesOwn.never rfl (di_any (de_name 0)) (dg_tup rfl (dgs_cons (dg_name (i := 2) sc_write_paper.nd) (dgs_cons (dg_name (i := 3) sc_write_paper.nd) (dgs_nil)))) (dss_one (ds_append (i := 1) (de_bin r_add (de_join (de_str) (dl_new (df_lst (da_cons (de_globK G_PIECE) (da_cons (de_callTy c_str (da_cons (de_ix (de_name 3) (de_int)) (da_nil)) T.str (by decide +kernel)) (da_star (dl_of (de_call C_words_of hr (by decide) (da_cons (de_new (df_lst (da_cons (de_ix (de_name 3) (de_int)) (da_starV (de_name 2) (da_nil))))) (da_nil)) (lenIs_cons (lenIs_nil)))) (da_nil))))))) (de_str)))))
    (dss_one (ds_ret (de_join (de_str) (dl_name 1)))))

abbrev N_integers_of : List Str := ["words", "found", "word"]
abbrev s_integers_of : Stmt := topS 17
theorem sc_integers_of : FnScope N_integers_of ["words"] (defScope s_integers_of) := ⟨rfl, rfl, rfl, by decide +kernel, rfl, by decide +kernel, by decide +kernel⟩

theorem ok_integers_of {f : Addr} {fd : FuncData} (T : Blt mg) (C_integer_of : Cal P w K mg base 1 "integer_of" 1 m_integer_of) (F : Fun K "integers_of" "integers_of" s_integers_of f fd) (hm : mg "integers_of" = some (.ref f)) (hb : Binds K fd ["words"] []) : Cal P w K mg base 2 "integers_of" 1 m_integers_of :=
  cal_mk (k := 1) F sc_integers_of hm hb fun cdv A outer s H E hr => dss_cons (ds_setLc (i := 1) (own := [("word", 2)]) rfl sc_integers_of.nd (sw_t rfl rfl rfl (by decide +kernel)) (di_any (de_name 0)) (blkOk_by (own := [("word", 2)]) (N := N_integers_of) (sc := defScope s_integers_of) (by decide +kernel)) (fun _ _ _ _ _ => dg_name (i := 2) sc_integers_of.nd) (fun _ _ _ _ _ => dts_nil) (fun _ _ _ _ _ => de_call C_integer_of hr (by decide) (da_cons (de_name 2) (da_nil)) (lenIs_cons (lenIs_nil))))
    (dss_one (ds_ret (de_if (dt_cmp (r_in hr) (de_none) (de_name 1)) (de_none) (de_name 1))))

abbrev N__law_point : List Str := ["_law_x", "_law_y", "_law_w", "_law_divisor_here"]
abbrev s__law_point : Stmt := topS 30
theorem sc__law_point : FnScope N__law_point ["_law_x", "_law_y", "_law_w"] (defScope s__law_point) := ⟨rfl, rfl, rfl, by decide +kernel, rfl, by decide +kernel, by decide +kernel⟩

theorem ok__law_point {f : Addr} {fd : FuncData} (T : Blt mg) (C__law_divisor : Cal P w K mg base 1 "_law_divisor" 2 m__law_divisor) (F : Fun K "_law_point" "_law_point" s__law_point f fd) (hm : mg "_law_point" = some (.ref f)) (hb : Binds K fd ["_law_x", "_law_y", "_law_w"] []) : Cal P w K mg base 2 "_law_point" 3 m__law_point :=
  cal_mk (k := 1) F sc__law_point hm hb fun cdv A outer s H E hr => dss_cons (ds_set (i := 3) sc__law_point.nd (de_call C__law_divisor hr (by decide) (da_cons (de_call C__law_divisor hr (by decide) (da_cons (de_name 0) (da_cons (de_name 1) (da_nil))) (lenIs_cons (lenIs_cons (lenIs_nil)))) (da_cons (de_name 2) (da_nil))) (lenIs_cons (lenIs_cons (lenIs_nil)))))
    (dss_one (ds_ret (de_tup (da_cons (de_bin r_div (de_name 0) (de_name 3)) (da_cons (de_bin r_div (de_name 1) (de_name 3)) (da_cons (de_bin r_div (de_name 2) (de_name 3)) (da_nil)))))))

abbrev N__law_chain : List Str := ["_law_points", "_law_chain_here", "_law_p", "_law_k"]
abbrev s__law_chain : Stmt := topS 33
theorem sc__law_chain : FnScope N__law_chain ["_law_points"] (defScope s__law_chain) := ⟨rfl, rfl, rfl, by decide +kernel, rfl, by decide +kernel, by decide +kernel⟩

theorem ok__law_chain {f : Addr} {fd : FuncData} (T : Blt mg) (C__law_turn : Cal P w K mg base 1 "_law_turn" 3 m__law_turn) (F : Fun K "_law_chain" "_law_chain" s__law_chain f fd) (hm : mg "_law_chain" = some (.ref f)) (hb : Binds K fd ["_law_points"] []) : Cal P w K mg base 2 "_law_chain" 1 m__law_chain :=
  cal_mk (k := 1) F sc__law_chain hm hb fun cdv A outer s H E hr => dss_cons (ds_own (i := 1) sc__law_chain.nd (df_lst (da_nil)))
    (dss_cons (ds_for PassesOwn.never rfl (di_any (de_name 0)) (dg_name (i := 2) sc__law_chain.nd) (dss_cons (ds_for PassesOwn.never rfl (di_range1 (da_cons (de_callB c_len (da_cons (de_name 0) (da_nil)) T.len (by decide +kernel)) (da_nil)) T.range) (dg_name (i := 3) sc__law_chain.nd) (dss_one (ds_if (dt_w (dw_and (dt_cmp r_gt (de_lenL (dl_name 1) T.len) (de_int)) (dw_and1 (dt_cmp r_le (de_call C__law_turn hr (by decide) (da_cons (de_ixl (dl_name 1) (de_un r_neg (de_int))) (da_cons (de_ixl (dl_name 1) (de_un r_neg (de_int))) (da_cons (de_name 2) (da_nil)))) (lenIs_cons (lenIs_cons (lenIs_cons (lenIs_nil))))) (de_int))))) (dss_one (ds_pop (i := 1))) (dss_nil))))
    (dss_one (ds_append (i := 1) (de_name 2)))))
    (dss_one (ds_frz 1 (ds_ret (de_name 1)))))

abbrev N_is_polygon : List Str := ["value", "at"]
abbrev s_is_polygon : Stmt := topS 11
theorem sc_is_polygon : FnScope N_is_polygon ["value"] (defScope s_is_polygon) := ⟨rfl, rfl, rfl, by decide +kernel, rfl, by decide +kernel, by decide +kernel⟩

theorem ok_is_polygon {f : Addr} {fd : FuncData} (T : Blt mg) (C_side : Cal P w K mg base 1 "side" 3 m_side) (C_comes_before : Cal P w K mg base 1 "comes_before" 2 m_comes_before) (C_goes_round_once : Cal P w K mg base 2 "goes_round_once" 1 m_goes_round_once) (F : Fun K "is_polygon" "is_polygon" s_is_polygon f fd) (hm : mg "is_polygon" = some (.ref f)) (hb : Binds K fd ["value"] []) : Cal P w K mg base 3 "is_polygon" 1 m_is_polygon :=
  cal_mk (k := 2) F sc_is_polygon hm hb fun cdv A outer s H E hr => dss_cons (ds_if (dt_w (dw_or (dt_cmp r_lt (de_callB c_len (da_cons (de_name 0) (da_nil)) T.len (by decide +kernel)) (de_int)) (dw_or1 (dt_cmp (r_ne hr) (de_lenSet hr (de_name 0) T.len T.set) (de_callB c_len (da_cons (de_name 0) (da_nil)) T.len (by decide +kernel)))))) (dss_one (ds_ret (de_bool))) (dss_nil))
    (dss_cons (ds_for PassesOwn.never rfl (di_range1 (da_cons (de_callB c_len (da_cons (de_name 0) (da_nil)) T.len (by decide +kernel)) (da_nil)) T.range) (dg_name (i := 1) sc_is_polygon.nd) (dss_cons (ds_if (dt_cmp r_le (de_call C_side hr (by decide) (da_cons (de_ix (de_name 0) (de_bin r_sub (de_name 1) (de_int))) (da_cons (de_ix (de_name 0) (de_bin r_sub (de_name 1) (de_int))) (da_cons (de_ix (de_name 0) (de_name 1)) (da_nil)))) (lenIs_cons (lenIs_cons (lenIs_cons (lenIs_nil))))) (de_int)) (dss_one (ds_ret (de_bool))) (dss_nil))
    (dss_one (ds_if (dt_w (dw_and (dt_cmp r_gt (de_name 1) (de_int)) (dw_and1 (dt_val (de_call C_comes_before hr (by decide) (da_cons (de_ix (de_name 0) (de_name 1)) (da_cons (de_ix (de_name 0) (de_int)) (da_nil))) (lenIs_cons (lenIs_cons (lenIs_nil)))))))) (dss_one (ds_ret (de_bool))) (dss_nil)))))
    (dss_one (ds_ret (de_call C_goes_round_once hr (by decide) (da_cons (de_name 0) (da_nil)) (lenIs_cons (lenIs_nil))))))

abbrev N_points_of : List Str := ["integers", "found", "at", "x", "y", "w"]
abbrev s_points_of : Stmt := topS 18
theorem sc_points_of : FnScope N_points_of ["integers"] (defScope s_points_of) := ⟨rfl, rfl, rfl, by decide +kernel, rfl, by decide +kernel, by decide +kernel⟩

theorem ok_points_of {f : Addr} {fd : FuncData} (T : Blt mg) (C_point : Cal P w K mg base 2 "point" 3 m_point) (F : Fun K "points_of" "points_of" s_points_of f fd) (hm : mg "points_of" = some (.ref f)) (hb : Binds K fd ["integers"] []) : Cal P w K mg base 3 "points_of" 1 m_points_of :=
  cal_mk (k := 2) F sc_points_of hm hb fun cdv A outer s H E hr => dss_cons (ds_if (dt_cmp (r_ne hr) (de_bin r_mod (de_callB c_len (da_cons (de_name 0) (da_nil)) T.len (by decide +kernel)) (de_int)) (de_int)) (dss_one (ds_ret (de_none))) (dss_nil))
    (dss_cons (ds_own (i := 1) sc_points_of.nd (df_lst (da_nil)))
    (dss_cons (ds_for PassesOwn.never rfl (di_range3 (da_cons (de_int) (da_cons (de_callB c_len (da_cons (de_name 0) (da_nil)) T.len (by decide +kernel)) (da_cons (de_int) (da_nil)))) T.range) (dg_name (i := 2) sc_points_of.nd) (dss_cons (ds_asg (de_slice (de_name 0) (do_some (de_name 2)) (do_some (de_bin r_add (de_name 2) (de_int)))) (dg_tup rfl (dgs_cons (dg_name (i := 3) sc_points_of.nd) (dgs_cons (dg_name (i := 4) sc_points_of.nd) (dgs_cons (dg_name (i := 5) sc_points_of.nd) (dgs_nil))))))
    (dss_cons (ds_if (dt_w (dw_or (dt_cmp r_lt (de_name 5) (de_int)) (dw_or1 (dt_cmp (r_ne hr) (de_call C_point hr (by decide) (da_cons (de_name 3) (da_cons (de_name 4) (da_cons (de_name 5) (da_nil)))) (lenIs_cons (lenIs_cons (lenIs_cons (lenIs_nil))))) (de_tup (da_cons (de_name 3) (da_cons (de_name 4) (da_cons (de_name 5) (da_nil))))))))) (dss_one (ds_ret (de_none))) (dss_nil))
    (dss_one (ds_append (i := 1) (de_tup (da_cons (de_name 3) (da_cons (de_name 4) (da_cons (de_name 5) (da_nil))))))))))
    (dss_one (ds_frz 1 (ds_ret (de_name 1))))))

abbrev N__law_hull : List Str := ["_law_points", "_law_order", "_law_p", "_law_hull_here", "_law_at", "_law_q"]
abbrev s__law_hull : Stmt := topS 34
theorem sc__law_hull : FnScope N__law_hull ["_law_points"] (defScope s__law_hull) := ⟨rfl, rfl, rfl, by decide +kernel, rfl, by decide +kernel, by decide +kernel⟩

theorem ok__law_hull {f : Addr} {fd : FuncData} (T : Blt mg) (C__law_before : Cal P w K mg base 1 "_law_before" 2 m__law_before) (C__law_chain : Cal P w K mg base 2 "_law_chain" 1 m__law_chain) (F : Fun K "_law_hull" "_law_hull" s__law_hull f fd) (hm : mg "_law_hull" = some (.ref f)) (hb : Binds K fd ["_law_points"] []) : Cal P w K mg base 3 "_law_hull" 1 m__law_hull :=
  cal_mk (k := 2) F sc__law_hull hm hb fun cdv A outer s H E hr => dss_cons (ds_set (i := 1) sc__law_hull.nd (de_new (df_lst (da_nil))))
    (dss_cons (ds_for PassesOwn.never rfl (di_any (de_name 0)) (dg_name (i := 2) sc__law_hull.nd) (dss_one (ds_if (dt_cmp (r_notin hr) (de_name 2) (de_name 1)) (dss_cons (ds_set (i := 4) sc__law_hull.nd (de_lenL (dl_new (df_lc (own := [("_law_q", 5)]) rfl sc__law_hull.nd (di_any (de_name 1)) (blkOk_by (own := [("_law_q", 5)]) (N := N__law_hull) (sc := defScope s__law_hull) (by decide +kernel)) (fun _ _ _ _ _ => dg_name (i := 5) sc__law_hull.nd) (fun _ _ _ _ _ => dts_one (dt_val (de_call C__law_before hr (by decide) (da_cons (de_name 5) (da_cons (de_name 2) (da_nil))) (lenIs_cons (lenIs_cons (lenIs_nil)))))) (fun _ _ _ _ _ => de_name 5))) T.len))
    (dss_one (ds_set (i := 1) sc__law_hull.nd (de_new (df_cat (dl_new (df_cat (dl_of (de_slice (de_name 1) (do_none) (do_some (de_name 4)))) (dl_new (df_lst (da_cons (de_name 2) (da_nil)))))) (dl_of (de_slice (de_name 1) (do_some (de_name 4)) (do_none)))))))) (dss_nil))))
    (dss_cons (ds_if (dt_cmp r_lt (de_callB c_len (da_cons (de_name 1) (da_nil)) T.len (by decide +kernel)) (de_int)) (dss_one (ds_ret (de_none))) (dss_nil))
    (dss_cons (ds_set (i := 3) sc__law_hull.nd (de_bin r_add (de_slice (de_call C__law_chain hr (by decide) (da_cons (de_name 1) (da_nil)) (lenIs_cons (lenIs_nil))) (do_none) (do_some (de_un r_neg (de_int)))) (de_slice (de_call C__law_chain hr (by decide) (da_cons (de_new (df_rev (dl_name 1))) (da_nil)) (lenIs_cons (lenIs_nil))) (do_none) (do_some (de_un r_neg (de_int))))))
    (dss_cons (ds_if (dt_cmp r_lt (de_callB c_len (da_cons (de_name 3) (da_nil)) T.len (by decide +kernel)) (de_int)) (dss_one (ds_ret (de_none))) (dss_nil))
    (dss_one (ds_ret (de_callTy c_tuple (da_cons (de_name 3) (da_nil)) T.tuple (by decide +kernel))))))))

abbrev N__law_motion : List Str := ["_law_cell_here", "_law_k", "_law_group", "_law_parts_here", "_law_x", "_law_w", "_law_turns"]
abbrev s__law_motion : Stmt := topS 36
theorem sc__law_motion : FnScope N__law_motion ["_law_cell_here", "_law_k", "_law_group"] (defScope s__law_motion) := ⟨rfl, rfl, rfl, by decide +kernel, rfl, by decide +kernel, by decide +kernel⟩

theorem ok__law_motion {f : Addr} {fd : FuncData} (T : Blt mg) (C__law_parts : Cal P w K mg base 1 "_law_parts" 2 m__law_parts) (C__law_point : Cal P w K mg base 2 "_law_point" 3 m__law_point) (F : Fun K "_law_motion" "_law_motion" s__law_motion f fd) (hm : mg "_law_motion" = some (.ref f)) (hb : Binds K fd ["_law_cell_here", "_law_k", "_law_group"] []) : Cal P w K mg base 3 "_law_motion" 3 m__law_motion :=
  cal_mk (k := 2) F sc__law_motion hm hb fun cdv A outer s H E hr => dss_cons (ds_set (i := 3) sc__law_motion.nd (de_call C__law_parts hr (by decide) (da_cons (de_name 0) (da_cons (de_new (df_lst (da_cons (de_int) (da_cons (de_int) (da_cons (de_int) (da_cons (de_int) (da_nil))))))) (da_nil))) (lenIs_cons (lenIs_cons (lenIs_nil)))))
    (dss_cons (ds_set (i := 4) sc__law_motion.nd (de_bin r_add (de_bin r_sub (de_bin r_mul (de_int) (de_name 1)) (de_int)) (de_ix (de_name 3) (de_int))))
    (dss_cons (ds_set (i := 5) sc__law_motion.nd (de_bin r_add (de_int) (de_ix (de_name 3) (de_int))))
    (dss_cons (ds_if (dt_cmp (r_eq hr) (de_name 2) (de_str)) (dss_one (ds_ret (de_tup (da_cons (de_int) (da_cons (de_call C__law_point hr (by decide) (da_cons (de_bin r_add (de_bin r_mul (de_bin r_sub (de_bin r_mul (de_int) (de_name 1)) (de_int)) (de_name 5)) (de_ix (de_name 3) (de_int))) (da_cons (de_int) (da_cons (de_name 5) (da_nil)))) (lenIs_cons (lenIs_cons (lenIs_cons (lenIs_nil))))) (da_nil)))))) (dss_nil))
    (dss_cons (ds_if (dt_cmp (r_in hr) (de_name 2) (de_new (df_lst (da_cons (de_str) (da_cons (de_str) (da_cons (de_str) (da_nil))))))) (dss_cons (ds_set (i := 6) sc__law_motion.nd (de_dix3 hr (de_str) (de_int) (de_str) (de_bin r_mul (de_int) (de_bin r_div (de_ix (de_name 3) (de_int)) (de_int))) (de_str) (de_ix (de_name 3) (de_int)) (de_name 2)))
    (dss_one (ds_ret (de_tup (da_cons (de_name 6) (da_cons (de_tup (da_cons (de_name 4) (da_cons (de_bin r_sub (de_ix (de_name 3) (de_int)) (de_int)) (da_cons (de_int) (da_nil))))) (da_nil))))))) (dss_nil))
    (dss_cons (ds_set (i := 6) sc__law_motion.nd (de_dix3 hr (de_str) (de_int) (de_str) (de_bin r_mul (de_int) (de_bin r_div (de_ix (de_name 3) (de_int)) (de_int))) (de_str) (de_ix (de_name 3) (de_int)) (de_name 2)))
    (dss_one (ds_ret (de_tup (da_cons (de_name 6) (da_cons (de_call C__law_point hr (by decide) (da_cons (de_bin r_add (de_bin r_mul (de_bin r_sub (de_bin r_mul (de_int) (de_name 1)) (de_int)) (de_name 5)) (de_ix (de_name 3) (de_int))) (da_cons (de_bin r_sub (de_ix (de_name 3) (de_int)) (de_int)) (da_cons (de_name 5) (da_nil)))) (lenIs_cons (lenIs_cons (lenIs_cons (lenIs_nil))))) (da_nil)))))))))))

abbrev N_points_of_words : List Str := ["words", "integers"]
abbrev s_points_of_words : Stmt := topS 19
theorem sc_points_of_words : FnScope N_points_of_words ["words"] (defScope s_points_of_words) := ⟨rfl, rfl, rfl, by decide +kernel, rfl, by decide +kernel, by decide +kernel⟩

theorem ok_points_of_words {f : Addr} {fd : FuncData} (T : Blt mg) (C_integers_of : Cal P w K mg base 2 "integers_of" 1 m_integers_of) (C_points_of : Cal P w K mg base 3 "points_of" 1 m_points_of) (F : Fun K "points_of_words" "points_of_words" s_points_of_words f fd) (hm : mg "points_of_words" = some (.ref f)) (hb : Binds K fd ["words"] []) : Cal P w K mg base 4 "points_of_words" 1 m_points_of_words :=
  cal_mk (k := 3) F sc_points_of_words hm hb fun cdv A outer s H E hr => dss_cons (ds_set (i := 1) sc_points_of_words.nd (de_call C_integers_of hr (by decide) (da_cons (de_name 0) (da_nil)) (lenIs_cons (lenIs_nil))))
    (dss_one (ds_ret (de_if (dt_cmp r_is (de_name 1) (de_none)) (de_none) (de_call C_points_of hr (by decide) (da_cons (de_name 1) (da_nil)) (lenIs_cons (lenIs_nil))))))

abbrev N__law_polygon : List Str := ["_law_cell_here", "_law_parts_here", "_law_w", "_law_points", "_law_k", "_law_hull_here"]
abbrev s__law_polygon : Stmt := topS 35
theorem sc__law_polygon : FnScope N__law_polygon ["_law_cell_here"] (defScope s__law_polygon) := ⟨rfl, rfl, rfl, by decide +kernel, rfl, by decide +kernel, by decide +kernel⟩

theorem ok__law_polygon {f : Addr} {fd : FuncData} (T : Blt mg) (C__law_parts : Cal P w K mg base 1 "_law_parts" 2 m__law_parts) (C__law_point : Cal P w K mg base 2 "_law_point" 3 m__law_point) (C__law_hull : Cal P w K mg base 3 "_law_hull" 1 m__law_hull) (F : Fun K "_law_polygon" "_law_polygon" s__law_polygon f fd) (hm : mg "_law_polygon" = some (.ref f)) (hb : Binds K fd ["_law_cell_here"] []) : Cal P w K mg base 4 "_law_polygon" 1 m__law_polygon :=
  cal_mk (k := 3) F sc__law_polygon hm hb fun cdv A outer s H E hr => dss_cons (ds_set (i := 1) sc__law_polygon.nd (de_call C__law_parts hr (by decide) (da_cons (de_name 0) (da_cons (de_new (df_lst (da_cons (de_int) (da_cons (de_int) (da_cons (de_int) (da_cons (de_int) (da_cons (de_int) (da_cons (de_int) (da_cons (de_int) (da_cons (de_int) (da_cons (de_int) (da_cons (de_int) (da_cons (de_int) (da_cons (de_int) (da_nil))))))))))))))) (da_nil))) (lenIs_cons (lenIs_cons (lenIs_nil)))))
    (dss_cons (ds_set (i := 2) sc__law_polygon.nd (de_ixl (dl_new (df_lst (da_cons (de_int) (da_cons (de_int) (da_cons (de_int) (da_cons (de_int) (da_nil))))))) (de_ix (de_name 1) (de_int))))
    (dss_cons (ds_own (i := 3) sc__law_polygon.nd (df_lst (da_nil)))
    (dss_cons (ds_for PassesOwn.never rfl (di_range1 (da_cons (de_bin r_add (de_int) (de_ix (de_name 1) (de_int))) (da_nil)) T.range) (dg_name (i := 4) sc__law_polygon.nd) (dss_one (ds_append (i := 3) (de_call C__law_point hr (by decide) (da_cons (de_ix (de_name 1) (de_bin r_add (de_int) (de_bin r_mul (de_int) (de_name 4)))) (da_cons (de_ix (de_name 1) (de_bin r_add (de_int) (de_bin r_mul (de_int) (de_name 4)))) (da_cons (de_name 2) (da_nil)))) (lenIs_cons (lenIs_cons (lenIs_cons (lenIs_nil))))))))
    (dss_cons (ds_frz 3 (ds_set (i := 5) sc__law_polygon.nd (de_call C__law_hull hr (by decide) (da_cons (de_name 3) (da_nil)) (lenIs_cons (lenIs_nil)))))
    (dss_cons (ds_if (dt_cmp r_is (de_name 5) (de_none)) (dss_one (ds_ret (de_tup (da_cons (de_tup (da_cons (de_int) (da_cons (de_int) (da_cons (de_int) (da_nil))))) (da_cons (de_tup (da_cons (de_bin r_add (de_int) (de_ix (de_name 1) (de_int))) (da_cons (de_int) (da_cons (de_int) (da_nil))))) (da_cons (de_tup (da_cons (de_ix (de_name 1) (de_int)) (da_cons (de_int) (da_cons (de_int) (da_nil))))) (da_nil))))))) (dss_nil))
    (dss_one (ds_ret (de_name 5))))))))

abbrev N_read_piece : List Str := ["line", "words", "found"]
abbrev s_read_piece : Stmt := topS 20
theorem sc_read_piece : FnScope N_read_piece ["line"] (defScope s_read_piece) := ⟨rfl, rfl, rfl, by decide +kernel, rfl, by decide +kernel, by decide +kernel⟩

theorem ok_read_piece {f : Addr} {fd : FuncData} (T : Blt mg) (C_points_of_words : Cal P w K mg base 4 "points_of_words" 1 m_points_of_words) (C_is_polygon : Cal P w K mg base 3 "is_polygon" 1 m_is_polygon) (G_PIECE : GlobOk K mg "PIECE" (.str "piece")) (F : Fun K "read_piece" "read_piece" s_read_piece f fd) (hm : mg "read_piece" = some (.ref f)) (hb : Binds K fd ["line"] []) : Cal P w K mg base 5 "read_piece" 1 m_read_piece :=
  cal_mk (k := 4) F sc_read_piece hm hb fun cdv A outer s H E hr => dss_cons (ds_set (i := 1) sc_read_piece.nd (de_new (df_split (de_name 0) (de_str))))
    (dss_cons (ds_if (dt_w (dw_or (dt_cmp (r_ne hr) (de_ix (de_name 1) (de_int)) (de_globK G_PIECE)) (dw_or (dt_cmp r_lt (de_callB c_len (da_cons (de_name 1) (da_nil)) T.len (by decide +kernel)) (de_int)) (dw_or1 (dt_cmp (r_notin hr) (de_ix (de_name 1) (de_int)) (de_tup (da_cons (de_str) (da_cons (de_str) (da_cons (de_str) (da_cons (de_str) (da_nil))))))))))) (dss_one (ds_ret (de_none))) (dss_nil))
    (dss_cons (ds_set (i := 2) sc_read_piece.nd (de_call C_points_of_words hr (by decide) (da_cons (de_slice (de_name 1) (do_some (de_int)) (do_none)) (da_nil)) (lenIs_cons (lenIs_nil))))
    (dss_cons (ds_if (dt_w (dw_or (dt_cmp r_is (de_name 2) (de_none)) (dw_or1 (dt_not (dt_val (de_call C_is_polygon hr (by decide) (da_cons (de_callTy c_tuple (da_cons (de_slice (de_name 2) (do_some (de_int)) (do_none)) (da_nil)) T.tuple (by decide +kernel)) (da_nil)) (lenIs_cons (lenIs_nil)))))))) (dss_one (ds_ret (de_none))) (dss_nil))
    (dss_one (ds_ret (de_tup (da_cons (de_callTy c_tuple (da_cons (de_slice (de_name 2) (do_some (de_int)) (do_none)) (da_nil)) T.tuple (by decide +kernel)) (da_cons (de_tup (da_cons (de_callTy c_int (da_cons (de_ix (de_name 1) (de_int)) (da_nil)) T.int (by decide +kernel)) (da_cons (de_ix (de_name 2) (de_int)) (da_nil)))) (da_nil)))))))))

abbrev N_read_lines : List Str := ["text", "read", "lines", "found", "at", "line", "one"]
abbrev s_read_lines : Stmt := topS 21
theorem sc_read_lines : FnScope N_read_lines ["text", "read"] (defScope s_read_lines) := ⟨rfl, rfl, rfl, by decide +kernel, rfl, by decide +kernel, by decide +kernel⟩

theorem ok_read_lines {f F_read : Addr} {fd : FuncData} {m_read : List D → Option D} (T : Blt mg) (C_read : Prc P w K mg base 5 F_read 1 m_read) (F : Fun K "read_lines" "read_lines" s_read_lines f fd) (hm : mg "read_lines" = some (.ref f)) (hb : Binds K fd ["text", "read"] []) : CalF P w K mg base 6 "read_lines" F_read (m_read_lines F_read m_read) :=
  calF_mk (k := 5) F sc_read_lines hm hb fun cdv A outer s H E hr => dss_cons (ds_set (i := 2) sc_read_lines.nd (de_new (df_split (de_name 0) (de_str))))
    (dss_cons (ds_own (i := 3) sc_read_lines.nd (df_lst (da_nil)))
    (dss_cons (ds_for PassesOwn.never rfl (di_enum (de_slice (de_name 2) (do_none) (do_some (de_un r_neg (de_int)))) T.enumerate) (dg_tup rfl (dgs_cons (dg_name (i := 4) sc_read_lines.nd) (dgs_cons (dg_name (i := 5) sc_read_lines.nd) (dgs_nil)))) (dss_cons (ds_set (i := 6) sc_read_lines.nd (de_callP 1 C_read hr (by decide) (da_cons (de_name 5) (da_nil)) (lenIs_cons (lenIs_nil))))
    (dss_cons (ds_if (dt_cmp r_is (de_name 6) (de_none)) (dss_one (ds_never)) (dss_nil))
    (dss_one (ds_append (i := 3) (de_name 6))))))
    (dss_cons (ds_if (dt_cmp (r_ne hr) (de_ix (de_name 2) (de_un r_neg (de_int))) (de_str)) (dss_one (ds_never)) (dss_nil))
    (dss_one (ds_frz 3 (ds_ret (de_name 3)))))))

abbrev N_read_paper : List Str := ["text"]
abbrev s_read_paper : Stmt := topS 22
theorem sc_read_paper : FnScope N_read_paper ["text"] (defScope s_read_paper) := ⟨rfl, rfl, rfl, by decide +kernel, rfl, by decide +kernel, by decide +kernel⟩

theorem ok_read_paper {f F_read : Addr} {fd : FuncData} {m_read : List D → Option D} (T : Blt mg) (C_read_lines : CalF P w K mg base 6 "read_lines" F_read (m_read_lines F_read m_read)) (hfr : mg "read_piece" = some (.ref F_read)) (F : Fun K "read_paper" "read_paper" s_read_paper f fd) (hm : mg "read_paper" = some (.ref f)) (hb : Binds K fd ["text"] []) : Cal P w K mg base 7 "read_paper" 1 (m_read_paper F_read m_read) :=
  cal_mk (k := 6) F sc_read_paper hm hb fun cdv A outer s H E hr => dss_one (ds_ret (de_call2P C_read_lines hfr hr (by decide) (de_name 0)))

abbrev N_law : List Str := ["_law_script", "_law_paper", "_law_groups", "_law_k", "_law_due", "_law_passed", "_law_text", "_law_parts_here", "_law_motion_here", "_law_polygon_here", "_law_p", "_law_v"]
abbrev s_law : Stmt := topS 37
theorem sc_law : FnScope N_law ["_law_script"] (defScope s_law) := ⟨rfl, rfl, rfl, by decide +kernel, rfl, by decide +kernel, by decide +kernel⟩

theorem ok_law {fa F_read : Addr} {fd : FuncData} (T : Blt mg) (C__law_parts : Cal P w K mg base 1 "_law_parts" 2 m__law_parts) (C__law_motion : Cal P w K mg base 3 "_law_motion" 3 m__law_motion) (C__law_polygon : Cal P w K mg base 4 "_law_polygon" 1 m__law_polygon) (C_write_paper : Cal P w K mg base 2 "write_paper" 1 m_write_paper) (C_read_paper : Cal P w K mg base 7 "read_paper" 1 (m_read_paper F_read m_read_piece)) (F : Fun K "law" "law" s_law fa fd) (hfb : ∀ ns : List Int, ns.length ≤ 63 → runF 12 (b_law F_read) [.list (ns.map .int)] = some (.bool true)) : LawAt P w K mg base fa fd "_law_script" 63 :=
  lawAt_mk (k := 7) (N := N_law) F sc_law ⟨rfl, by decide, by decide⟩ (fun cdv s H hr => have hgd : (callerA.deeper (envOfC "law" (defScope s_law) s.heap.objs.size fa cdv)).guards = some [] := rfl; dss_cons (ds_own (i := 1) sc_law.nd (df_lst (da_nil)))
    (dss_cons (ds_set (i := 2) sc_law.nd (de_new (df_lst (da_cons (de_str) (da_cons (de_str) (da_cons (de_str) (da_cons (de_str) (da_cons (de_str) (da_cons (de_str) (da_cons (de_str) (da_nil)))))))))))
    (dss_cons (ds_for PassesOwn.never rfl (di_range1 (da_cons (de_callB c_len (da_cons (de_slice (de_name 0) (do_none) (do_some (de_int))) (da_nil)) T.len (by decide +kernel)) (da_nil)) T.range) (dg_name (i := 3) sc_law.nd) (dss_cons (ds_set (i := 7) sc_law.nd (de_call C__law_parts hr (by decide) (da_cons (de_bin r_add (de_ix (de_name 0) (de_name 3)) (de_int)) (da_cons (de_new (df_lst (da_cons (de_int) (da_cons (de_int) (da_nil))))) (da_nil))) (lenIs_cons (lenIs_cons (lenIs_nil)))))
    (dss_cons (ds_set (i := 8) sc_law.nd (de_call C__law_motion hr (by decide) (da_cons (de_bin r_add (de_ix (de_name 0) (de_name 3)) (de_int)) (da_cons (de_ix (de_name 7) (de_int)) (da_cons (de_ix (de_name 2) (de_ix (de_name 7) (de_int))) (da_nil)))) (lenIs_cons (lenIs_cons (lenIs_cons (lenIs_nil))))))
    (dss_one (ds_append (i := 1) (de_tup (da_cons (de_call C__law_polygon hr (by decide) (da_cons (de_ix (de_name 0) (de_name 3)) (da_nil)) (lenIs_cons (lenIs_nil))) (da_cons (de_name 8) (da_nil)))))))))
    (dss_cons (ds_set (i := 4) sc_law.nd (de_str))
    (dss_cons (ds_frz 1 (ds_for PassesOwn.never rfl (di_any (de_name 1)) (dg_tup rfl (dgs_cons (dg_name (i := 9) sc_law.nd) (dgs_cons (dg_name (i := 8) sc_law.nd) (dgs_nil)))) (dss_cons (ds_asg (de_name 8) (dg_tup rfl (dgs_cons (dg_name (i := 3) sc_law.nd) (dgs_cons (dg_name (i := 11) sc_law.nd) (dgs_nil)))))
    (dss_cons (ds_set (i := 4) sc_law.nd (de_bin r_add (de_bin r_add (de_name 4) (de_str)) (de_callTy c_str (da_cons (de_name 3) (da_nil)) T.str (by decide +kernel))))
    (dss_cons (ds_for PassesOwn.never rfl (di_any (de_bin r_add (de_tup (da_cons (de_name 11) (da_nil))) (de_name 9))) (dg_name (i := 10) sc_law.nd) (dss_one (ds_set (i := 4) sc_law.nd (de_bin r_add (de_bin r_add (de_bin r_add (de_bin r_add (de_bin r_add (de_bin r_add (de_name 4) (de_str)) (de_callTy c_str (da_cons (de_ix (de_name 10) (de_int)) (da_nil)) T.str (by decide +kernel))) (de_str)) (de_callTy c_str (da_cons (de_ix (de_name 10) (de_int)) (da_nil)) T.str (by decide +kernel))) (de_str)) (de_callTy c_str (da_cons (de_ix (de_name 10) (de_int)) (da_nil)) T.str (by decide +kernel))))))
    (dss_one (ds_set (i := 4) sc_law.nd (de_bin r_add (de_name 4) (de_str)))))))))
    (dss_cons (ds_set (i := 5) sc_law.nd (de_new (df_listL (dl_name 1) T.list)))
    (dss_cons (ds_set (i := 6) sc_law.nd (de_call C_write_paper hr (by decide) (da_cons (de_name 5) (da_nil)) (lenIs_cons (lenIs_nil))))
    (dss_one (ds_frz 1 (ds_ret (de_and (de_cmp (r_eq hr) (de_name 5) (de_name 1)) (de_and (de_cmp (r_eq hr) (de_name 6) (de_name 4)) (de_one (de_cmp (r_eq hr) (de_callB (c_repr hgd hr) (da_cons (de_call C_read_paper hr (by decide) (da_cons (de_name 6) (da_nil)) (lenIs_cons (lenIs_nil))) (da_nil)) T.repr (by decide +kernel)) (de_callB (c_repr hgd hr) (da_cons (de_name 1) (da_nil)) T.repr (by decide +kernel)))))))))))))))) hfb
/-- a def of the text stands in the module -/
def At (K : PySem.W.Frag) (x : Str) (st : Stmt) : Prop := ∃ f fd, PySem.W.nsIn K mainGlobals x = some (some (.ref f)) ∧ Fun K x x st f fd
structure Facts (K : PySem.W.Frag) : Prop where
  d_common_divisor : At K "common_divisor" s_common_divisor
  d_comes_before : At K "comes_before" s_comes_before
  d_side : At K "side" s_side
  d_words_of : At K "words_of" s_words_of
  d_integer_of : At K "integer_of" s_integer_of
  d__law_parts : At K "_law_parts" s__law_parts
  d__law_divisor : At K "_law_divisor" s__law_divisor
  d__law_turn : At K "_law_turn" s__law_turn
  d__law_before : At K "_law_before" s__law_before
  d_point : At K "point" s_point
  d_goes_round_once : At K "goes_round_once" s_goes_round_once
  d_write_paper : At K "write_paper" s_write_paper
  d_integers_of : At K "integers_of" s_integers_of
  d__law_point : At K "_law_point" s__law_point
  d__law_chain : At K "_law_chain" s__law_chain
  d_is_polygon : At K "is_polygon" s_is_polygon
  d_points_of : At K "points_of" s_points_of
  d__law_hull : At K "_law_hull" s__law_hull
  d__law_motion : At K "_law_motion" s__law_motion
  d_points_of_words : At K "points_of_words" s_points_of_words
  d__law_polygon : At K "_law_polygon" s__law_polygon
  d_read_piece : At K "read_piece" s_read_piece
  d_read_lines : At K "read_lines" s_read_lines
  d_read_paper : At K "read_paper" s_read_paper
  d_law : At K "law" s_law
  z_abs : PySem.W.nsIn K mainGlobals "abs" = some none
  z_any : PySem.W.nsIn K mainGlobals "any" = some none
  z_enumerate : PySem.W.nsIn K mainGlobals "enumerate" = some none
  z_int : PySem.W.nsIn K mainGlobals "int" = some none
  z_len : PySem.W.nsIn K mainGlobals "len" = some none
  z_list : PySem.W.nsIn K mainGlobals "list" = some none
  z_max : PySem.W.nsIn K mainGlobals "max" = some none
  z_min : PySem.W.nsIn K mainGlobals "min" = some none
  z_range : PySem.W.nsIn K mainGlobals "range" = some none
  z_repr : PySem.W.nsIn K mainGlobals "repr" = some none
  z_set : PySem.W.nsIn K mainGlobals "set" = some none
  z_str : PySem.W.nsIn K mainGlobals "str" = some none
  z_tuple : PySem.W.nsIn K mainGlobals "tuple" = some none
  z_zip : PySem.W.nsIn K mainGlobals "zip" = some none
  g_PIECE : ∃ t, PySem.W.nsIn K mainGlobals "PIECE" = some (some (.str "piece" t))
theorem law_of {prog : Program} {w : World} {K : PySem.W.Frag} {h : Heap} {mg : Str → Option Value} {fa : Addr} (T : Facts K) (X : K.In h) (G : h.Ns mainGlobals mg) (hfa : mg "law" = some (.ref fa)) (hlaw : ∀ F_read, ∀ ns : List Int, ns.length ≤ 63 → runF 12 (b_law F_read) [.list (ns.map .int)] = some (.bool true)) :
    ∃ fd : FuncData, (∀ (s : Shared) (u : Value), BindsTo s fd ⟨[u], []⟩ [("_law_script", u)]) ∧ ∀ base : Heap, K.In base → base.Ns mainGlobals mg → LawAt prog w K mg base fa fd "_law_script" 63 := by
  have B : Blt mg := ⟨PySem.W.mg_none_of X G T.z_abs, PySem.W.mg_none_of X G T.z_any, PySem.W.mg_none_of X G T.z_enumerate, PySem.W.mg_none_of X G T.z_int, PySem.W.mg_none_of X G T.z_len, PySem.W.mg_none_of X G T.z_list, PySem.W.mg_none_of X G T.z_max, PySem.W.mg_none_of X G T.z_min, PySem.W.mg_none_of X G T.z_range, PySem.W.mg_none_of X G T.z_repr, PySem.W.mg_none_of X G T.z_set, PySem.W.mg_none_of X G T.z_str, PySem.W.mg_none_of X G T.z_tuple, PySem.W.mg_none_of X G T.z_zip⟩
  obtain ⟨f_common_divisor, fd_common_divisor, a_common_divisor, F_common_divisor⟩ := T.d_common_divisor
  have b_common_divisor := F_common_divisor.binds (ps := ["a", "b"]) fun _ _ _ _ _ _ us hl => match us, hl with | [_, _], _ => rfl
  obtain ⟨f_comes_before, fd_comes_before, a_comes_before, F_comes_before⟩ := T.d_comes_before
  have b_comes_before := F_comes_before.binds (ps := ["p", "q"]) fun _ _ _ _ _ _ us hl => match us, hl with | [_, _], _ => rfl
  obtain ⟨f_side, fd_side, a_side, F_side⟩ := T.d_side
  have b_side := F_side.binds (ps := ["a", "b", "c"]) fun _ _ _ _ _ _ us hl => match us, hl with | [_, _, _], _ => rfl
  obtain ⟨f_words_of, fd_words_of, a_words_of, F_words_of⟩ := T.d_words_of
  have b_words_of := F_words_of.binds (ps := ["points"]) fun _ _ _ _ _ _ us hl => match us, hl with | [_], _ => rfl
  obtain ⟨f_integer_of, fd_integer_of, a_integer_of, F_integer_of⟩ := T.d_integer_of
  have b_integer_of := F_integer_of.binds (ps := ["word"]) fun _ _ _ _ _ _ us hl => match us, hl with | [_], _ => rfl
  obtain ⟨f__law_parts, fd__law_parts, a__law_parts, F__law_parts⟩ := T.d__law_parts
  have b__law_parts := F__law_parts.binds (ps := ["_law_cell_here", "_law_sizes"]) fun _ _ _ _ _ _ us hl => match us, hl with | [_, _], _ => rfl
  obtain ⟨f__law_divisor, fd__law_divisor, a__law_divisor, F__law_divisor⟩ := T.d__law_divisor
  have b__law_divisor := F__law_divisor.binds (ps := ["_law_a", "_law_b"]) fun _ _ _ _ _ _ us hl => match us, hl with | [_, _], _ => rfl
  obtain ⟨f__law_turn, fd__law_turn, a__law_turn, F__law_turn⟩ := T.d__law_turn
  have b__law_turn := F__law_turn.binds (ps := ["_law_a", "_law_b", "_law_c"]) fun _ _ _ _ _ _ us hl => match us, hl with | [_, _, _], _ => rfl
  obtain ⟨f__law_before, fd__law_before, a__law_before, F__law_before⟩ := T.d__law_before
  have b__law_before := F__law_before.binds (ps := ["_law_p", "_law_q"]) fun _ _ _ _ _ _ us hl => match us, hl with | [_, _], _ => rfl
  obtain ⟨f_point, fd_point, a_point, F_point⟩ := T.d_point
  have b_point := F_point.binds (ps := ["x", "y", "w"]) fun _ _ _ _ _ _ us hl => match us, hl with | [_, _, _], _ => rfl
  obtain ⟨f_goes_round_once, fd_goes_round_once, a_goes_round_once, F_goes_round_once⟩ := T.d_goes_round_once
  have b_goes_round_once := F_goes_round_once.binds (ps := ["corners"]) fun _ _ _ _ _ _ us hl => match us, hl with | [_], _ => rfl
  obtain ⟨f_write_paper, fd_write_paper, a_write_paper, F_write_paper⟩ := T.d_write_paper
  have b_write_paper := F_write_paper.binds (ps := ["paper"]) fun _ _ _ _ _ _ us hl => match us, hl with | [_], _ => rfl
  obtain ⟨f_integers_of, fd_integers_of, a_integers_of, F_integers_of⟩ := T.d_integers_of
  have b_integers_of := F_integers_of.binds (ps := ["words"]) fun _ _ _ _ _ _ us hl => match us, hl with | [_], _ => rfl
  obtain ⟨f__law_point, fd__law_point, a__law_point, F__law_point⟩ := T.d__law_point
  have b__law_point := F__law_point.binds (ps := ["_law_x", "_law_y", "_law_w"]) fun _ _ _ _ _ _ us hl => match us, hl with | [_, _, _], _ => rfl
  obtain ⟨f__law_chain, fd__law_chain, a__law_chain, F__law_chain⟩ := T.d__law_chain
  have b__law_chain := F__law_chain.binds (ps := ["_law_points"]) fun _ _ _ _ _ _ us hl => match us, hl with | [_], _ => rfl
  obtain ⟨f_is_polygon, fd_is_polygon, a_is_polygon, F_is_polygon⟩ := T.d_is_polygon
  have b_is_polygon := F_is_polygon.binds (ps := ["value"]) fun _ _ _ _ _ _ us hl => match us, hl with | [_], _ => rfl
  obtain ⟨f_points_of, fd_points_of, a_points_of, F_points_of⟩ := T.d_points_of
  have b_points_of := F_points_of.binds (ps := ["integers"]) fun _ _ _ _ _ _ us hl => match us, hl with | [_], _ => rfl
  obtain ⟨f__law_hull, fd__law_hull, a__law_hull, F__law_hull⟩ := T.d__law_hull
  have b__law_hull := F__law_hull.binds (ps := ["_law_points"]) fun _ _ _ _ _ _ us hl => match us, hl with | [_], _ => rfl
  obtain ⟨f__law_motion, fd__law_motion, a__law_motion, F__law_motion⟩ := T.d__law_motion
  have b__law_motion := F__law_motion.binds (ps := ["_law_cell_here", "_law_k", "_law_group"]) fun _ _ _ _ _ _ us hl => match us, hl with | [_, _, _], _ => rfl
  obtain ⟨f_points_of_words, fd_points_of_words, a_points_of_words, F_points_of_words⟩ := T.d_points_of_words
  have b_points_of_words := F_points_of_words.binds (ps := ["words"]) fun _ _ _ _ _ _ us hl => match us, hl with | [_], _ => rfl
  obtain ⟨f__law_polygon, fd__law_polygon, a__law_polygon, F__law_polygon⟩ := T.d__law_polygon
  have b__law_polygon := F__law_polygon.binds (ps := ["_law_cell_here"]) fun _ _ _ _ _ _ us hl => match us, hl with | [_], _ => rfl
  obtain ⟨f_read_piece, fd_read_piece, a_read_piece, F_read_piece⟩ := T.d_read_piece
  have b_read_piece := F_read_piece.binds (ps := ["line"]) fun _ _ _ _ _ _ us hl => match us, hl with | [_], _ => rfl
  obtain ⟨f_read_lines, fd_read_lines, a_read_lines, F_read_lines⟩ := T.d_read_lines
  have b_read_lines := F_read_lines.binds (ps := ["text", "read"]) fun _ _ _ _ _ _ us hl => match us, hl with | [_, _], _ => rfl
  obtain ⟨f_read_paper, fd_read_paper, a_read_paper, F_read_paper⟩ := T.d_read_paper
  have b_read_paper := F_read_paper.binds (ps := ["text"]) fun _ _ _ _ _ _ us hl => match us, hl with | [_], _ => rfl
  obtain ⟨f_law, fd_law, a_law, F_law⟩ := T.d_law
  have e := hfa.symm.trans (PySem.W.mg_of X G a_law)
  cases e
  obtain ⟨tp_PIECE, gp_PIECE⟩ := T.g_PIECE
  have G_PIECE : GlobOk K mg "PIECE" (.str "piece") := glob_str (PySem.W.mg_of X G gp_PIECE)
  have hbd : ∀ (s : Shared) (u : Value), BindsTo s fd_law ⟨[u], []⟩ [("_law_script", u)] := fun s u => by
    obtain ⟨oc, od, kV, doc, pm, an, cdv, ct, osl, rfl, _⟩ := F_law.ex
    exact .of_eq rfl
  refine ⟨fd_law, hbd, fun base _ _ => ?_⟩
  have C_common_divisor := ok_common_divisor (P := prog) (w := w) (base := base) B  F_common_divisor (PySem.W.mg_of X G a_common_divisor) b_common_divisor
  have C_comes_before := ok_comes_before (P := prog) (w := w) (base := base) B  F_comes_before (PySem.W.mg_of X G a_comes_before) b_comes_before
  have C_side := ok_side (P := prog) (w := w) (base := base) B  F_side (PySem.W.mg_of X G a_side) b_side
  have C_words_of := ok_words_of (P := prog) (w := w) (base := base) B  F_words_of (PySem.W.mg_of X G a_words_of) b_words_of
  have C_integer_of := ok_integer_of (P := prog) (w := w) (base := base) B  F_integer_of (PySem.W.mg_of X G a_integer_of) b_integer_of
  have C__law_parts := ok__law_parts (P := prog) (w := w) (base := base) B  F__law_parts (PySem.W.mg_of X G a__law_parts) b__law_parts
  have C__law_divisor := ok__law_divisor (P := prog) (w := w) (base := base) B  F__law_divisor (PySem.W.mg_of X G a__law_divisor) b__law_divisor
  have C__law_turn := ok__law_turn (P := prog) (w := w) (base := base) B  F__law_turn (PySem.W.mg_of X G a__law_turn) b__law_turn
  have C__law_before := ok__law_before (P := prog) (w := w) (base := base) B  F__law_before (PySem.W.mg_of X G a__law_before) b__law_before
  have C_point := ok_point (P := prog) (w := w) (base := base) B C_common_divisor  F_point (PySem.W.mg_of X G a_point) b_point
  have C_goes_round_once := ok_goes_round_once (P := prog) (w := w) (base := base) B C_side  F_goes_round_once (PySem.W.mg_of X G a_goes_round_once) b_goes_round_once
  have C_write_paper := ok_write_paper (P := prog) (w := w) (base := base) B C_words_of G_PIECE F_write_paper (PySem.W.mg_of X G a_write_paper) b_write_paper
  have C_integers_of := ok_integers_of (P := prog) (w := w) (base := base) B C_integer_of  F_integers_of (PySem.W.mg_of X G a_integers_of) b_integers_of
  have C__law_point := ok__law_point (P := prog) (w := w) (base := base) B C__law_divisor  F__law_point (PySem.W.mg_of X G a__law_point) b__law_point
  have C__law_chain := ok__law_chain (P := prog) (w := w) (base := base) B C__law_turn  F__law_chain (PySem.W.mg_of X G a__law_chain) b__law_chain
  have C_is_polygon := ok_is_polygon (P := prog) (w := w) (base := base) B C_side C_comes_before C_goes_round_once  F_is_polygon (PySem.W.mg_of X G a_is_polygon) b_is_polygon
  have C_points_of := ok_points_of (P := prog) (w := w) (base := base) B C_point  F_points_of (PySem.W.mg_of X G a_points_of) b_points_of
  have C__law_hull := ok__law_hull (P := prog) (w := w) (base := base) B C__law_before C__law_chain  F__law_hull (PySem.W.mg_of X G a__law_hull) b__law_hull
  have C__law_motion := ok__law_motion (P := prog) (w := w) (base := base) B C__law_parts C__law_point  F__law_motion (PySem.W.mg_of X G a__law_motion) b__law_motion
  have C_points_of_words := ok_points_of_words (P := prog) (w := w) (base := base) B C_integers_of C_points_of  F_points_of_words (PySem.W.mg_of X G a_points_of_words) b_points_of_words
  have C__law_polygon := ok__law_polygon (P := prog) (w := w) (base := base) B C__law_parts C__law_point C__law_hull  F__law_polygon (PySem.W.mg_of X G a__law_polygon) b__law_polygon
  have C_read_piece := ok_read_piece (P := prog) (w := w) (base := base) B C_points_of_words C_is_polygon G_PIECE F_read_piece (PySem.W.mg_of X G a_read_piece) b_read_piece
  obtain ⟨q_read, hq, C_read⟩ := C_read_piece.prc
  have C_read_lines := ok_read_lines (P := prog) (w := w) (base := base) B C_read F_read_lines (PySem.W.mg_of X G a_read_lines) b_read_lines
  have C_read_paper := ok_read_paper (P := prog) (w := w) (base := base) B C_read_lines hq F_read_paper (PySem.W.mg_of X G a_read_paper) b_read_paper
  exact ok_law B C__law_parts C__law_motion C__law_polygon C_write_paper C_read_paper F_law (hlaw q_read)
end
end K46

set_option Elab.async false
set_option linter.all false
set_option maxRecDepth 100000
open PySem PySem.W PyProof.Rows
set_option maxHeartbeats 0 in
theorem PySem.Challenge.cw_cutandlaid_k46_texts_of_papers_holds : PySem.Challenge.rw_cutandlaid_k46_texts_of_papers.Holds := by
  w_on; o_law; k_head; (case hw => w_witness2)
  k_fill
  refine DL.walk_at (l := PySem.Challenge.rw_cutandlaid_k46_texts_of_papers) (n := 63) (x := "_law_script") rfl (by decide) rfl (fun w h Y => PySem.W.kIn_of Y) ?F
  case F =>
    intro w mg fa h KX G hmg
    refine K46.law_of ?T KX G hmg (fun F_read ns hn => K46.plain F_read ns hn)
    constructor
    · exact ⟨_, _, by k_is, L2.fun_mk (by k_is) (by k_is) (by k_is)⟩
    · exact ⟨_, _, by k_is, L2.fun_mk (by k_is) (by k_is) (by k_is)⟩
    · exact ⟨_, _, by k_is, L2.fun_mk (by k_is) (by k_is) (by k_is)⟩
    · exact ⟨_, _, by k_is, L2.fun_mk (by k_is) (by k_is) (by k_is)⟩
    · exact ⟨_, _, by k_is, L2.fun_mk (by k_is) (by k_is) (by k_is)⟩
    · exact ⟨_, _, by k_is, L2.fun_mk (by k_is) (by k_is) (by k_is)⟩
    · exact ⟨_, _, by k_is, L2.fun_mk (by k_is) (by k_is) (by k_is)⟩
    · exact ⟨_, _, by k_is, L2.fun_mk (by k_is) (by k_is) (by k_is)⟩
    · exact ⟨_, _, by k_is, L2.fun_mk (by k_is) (by k_is) (by k_is)⟩
    · exact ⟨_, _, by k_is, L2.fun_mk (by k_is) (by k_is) (by k_is)⟩
    · exact ⟨_, _, by k_is, L2.fun_mk (by k_is) (by k_is) (by k_is)⟩
    · exact ⟨_, _, by k_is, L2.fun_mk (by k_is) (by k_is) (by k_is)⟩
    · exact ⟨_, _, by k_is, L2.fun_mk (by k_is) (by k_is) (by k_is)⟩
    · exact ⟨_, _, by k_is, L2.fun_mk (by k_is) (by k_is) (by k_is)⟩
    · exact ⟨_, _, by k_is, L2.fun_mk (by k_is) (by k_is) (by k_is)⟩
    · exact ⟨_, _, by k_is, L2.fun_mk (by k_is) (by k_is) (by k_is)⟩
    · exact ⟨_, _, by k_is, L2.fun_mk (by k_is) (by k_is) (by k_is)⟩
    · exact ⟨_, _, by k_is, L2.fun_mk (by k_is) (by k_is) (by k_is)⟩
    · exact ⟨_, _, by k_is, L2.fun_mk (by k_is) (by k_is) (by k_is)⟩
    · exact ⟨_, _, by k_is, L2.fun_mk (by k_is) (by k_is) (by k_is)⟩
    · exact ⟨_, _, by k_is, L2.fun_mk (by k_is) (by k_is) (by k_is)⟩
    · exact ⟨_, _, by k_is, L2.fun_mk (by k_is) (by k_is) (by k_is)⟩
    · exact ⟨_, _, by k_is, L2.fun_mk (by k_is) (by k_is) (by k_is)⟩
    · exact ⟨_, _, by k_is, L2.fun_mk (by k_is) (by k_is) (by k_is)⟩
    · exact ⟨_, _, by k_is, L2.fun_mk (by k_is) (by k_is) (by k_is)⟩
    · k_is
    · k_is
    · k_is
    · k_is
    · k_is
    · k_is
    · k_is
    · k_is
    · k_is
    · k_is
    · k_is
    · k_is
    · k_is
    · k_is
    · exact ⟨_, by k_is⟩

