import PyProof.Rows.All
import Wide.All
import OpenK.AllK
import Wide.FinOn
import HandS.ForMost
import HandS.Exc
import HandS.WordsExc
import HandS.Deep
import HandS.TupAny
import HandS.Wide
import HandS.Flow
import HandS.IsInst
import HandS.TryOnly
import HandS.Text
import HandS.ExcInit
import HandS.ExcField
import HandS.CallSlots
import KE.GoesComp
import KE.KAsSuite
import HandS.RaiseMore
import HandS.Zip
import HandS.Replace
import HandS.ReplaceLit
import HandS.ReplaceDef
import KE.KIntText
import KE.IntTextLaws
import PySem.Challenge.RW_tellsasleep_k66_papers_as_text
set_option Elab.async false
set_option linter.all false
set_option maxRecDepth 100000
set_option maxHeartbeats 4000000
/-! Mi0: the mirror's data, heap and results; how they lie in the abstract heap. -/
namespace Mi
open PySem PySem.Spec PyProof.Rows L2

/-- a value of the mirror: tuples are plain, lists and dicts stand in the mirror's heap -/
inductive D where
  | non | bl (b : Bool) | int (i : Int) | str (x : Str) | tup (ds : List D) | ref (k : Nat)
/-- an object of the mirror's heap -/
inductive MO where
  | lst (ds : List D) | fro (ds : List D) | dic (kvs : List (Key × D)) | dtu (kvs : List (List Key × D))
abbrev MH := List MO
def MO.mt : MO → Prop
  | .fro _ => False
  | _ => True
inductive Res (α : Type) where
  | ok (a : α) (h : MH) | exc (c : Nat) (fs : List (Str × D)) (h : MH) | bad
def Res.bind {α β : Type} (r : Res α) (f : α → MH → Res β) : Res β :=
  match r with
  | .ok a h => f a h
  | .exc c fs h => .exc c fs h
  | .bad => .bad
abbrev Env := List (Option D)
abbrev ME := Env → MH → Res D
abbrev MA := Env → MH → Res (List D)
abbrev MT := Env → MH → Res Bool
abbrev MF := List D → MH → Res D
inductive Fl where
  | nx (e : Env) | rt (d : D) | bk (e : Env) | ct (e : Env)
abbrev MS := Env → MH → Res Fl

/-- what is known of the program: the written part, the classes of its errors -/
structure Gi where
  K : PySem.W.Frag
  ex : Nat → Addr

def KLst (K : PySem.W.Frag) (a : Addr) (xs : List V) : Prop :=
  ∃ (o : Obj) (its : Array Value) (n : Nat), K.lookup a = some o ∧ o.cls = .type "list" ∧ o.dict = none ∧ o.data = .seq its n ∧ its.size ≤ sizeLine ∧ Vals xs its.toList

mutual
def Rep (K : PySem.W.Frag) (ρ : List Addr) (H : Hp) : D → V → Prop
  | .non, v => v = .non
  | .bl b, v => v = .bl b
  | .int i, v => v = .int i
  | .str x, v => v = .str x
  | .tup ds, v => ∃ a vs, v = .ref a ∧ SqT K H a vs ∧ Reps K ρ H ds vs
  | .ref k, v => ∃ a, v = .ref a ∧ ρ[k]? = some a
def Reps (K : PySem.W.Frag) (ρ : List Addr) (H : Hp) : List D → List V → Prop
  | [], vs => vs = []
  | d :: ds, vs => ∃ v r, vs = v :: r ∧ Rep K ρ H d v ∧ Reps K ρ H ds r
end

def RepK {κ : Type} (K : PySem.W.Frag) (ρ : List Addr) (H : Hp) (kvs : List (κ × D)) (vs : List (κ × V)) : Prop :=
  kvs.map (·.1) = vs.map (·.1) ∧ Reps K ρ H (kvs.map (·.2)) (vs.map (·.2))

def RepO (K : PySem.W.Frag) (ρ : List Addr) (H : Hp) (a : Addr) : MO → Prop
  | .lst ds => ∃ vs, H a = some (.lst vs) ∧ Reps K ρ H ds vs
  | .fro ds => ∃ vs, ((∃ o, H a = some (.frz o (.lst vs))) ∨ KLst K a vs) ∧ Reps K ρ H ds vs
  | .dic kvs => ∃ vs, H a = some (.dK vs) ∧ RepK K ρ H kvs vs
  | .dtu kvs => ∃ vs, H a = some (.dT vs) ∧ RepK K ρ H kvs vs

structure WR (K : PySem.W.Frag) (ρ : List Addr) (H : Hp) (mh : MH) : Prop where
  len : ρ.length = mh.length
  ob : ∀ (k : Nat) (o : MO), mh[k]? = some o → ∃ a, ρ[k]? = some a ∧ RepO K ρ H a o
  inj : ∀ (j k : Nat) (oj ok : MO) (a : Addr), mh[j]? = some oj → mh[k]? = some ok → oj.mt → ok.mt → ρ[j]? = some a → ρ[k]? = some a → j = k

/-- the tuples are kept -/
def Kp (K : PySem.W.Frag) (H H' : Hp) : Prop := ∀ a vs, SqT K H a vs → SqT K H' a vs
theorem Kp.refl {K : PySem.W.Frag} {H : Hp} : Kp K H H := fun _ _ h => h
theorem Kp.trans {K : PySem.W.Frag} {H H1 H2 : Hp} (a : Kp K H H1) (b : Kp K H1 H2) : Kp K H H2 := fun x vs h => b x vs (a x vs h)
/-- tracked tuples, frozen things and the like stay where H' keeps all but one address that bore no tuple -/
theorem Kp.but {K : PySem.W.Frag} {H H' : Hp} {p : Addr} (h : ∀ b, b ≠ p → H' b = H b) (n1 : ∀ vs, H p ≠ some (.tup vs)) (n2 : ∀ o vs, H p ≠ some (.frz o (.tup vs))) : Kp K H H' := fun a vs q => by
  rcases q with (q | ⟨o, q⟩) | q
  · exact .inl (.inl (by rw [h a (fun e => n1 vs (by rw [← e]; exact q))]; exact q))
  · exact .inl (.inr ⟨o, by rw [h a (fun e => n2 o vs (by rw [← e]; exact q))]; exact q⟩)
  · exact .inr q
theorem Kp.new {K : PySem.W.Frag} {H : Hp} {p : Addr} {o : HO} (h : H p = none) : Kp K H (upd H p o) :=
  Kp.but (p := p) (fun b hb => upd_ne hb) (fun vs e => by rw [h] at e; cases e) (fun o vs e => by rw [h] at e; cases e)

theorem pre_get {α : Type} {l l' : List α} {i : Nat} {a : α} (h : l <+: l') (e : l[i]? = some a) : l'[i]? = some a := by
  obtain ⟨t, rfl⟩ := h
  have hi := (List.getElem?_eq_some_iff.mp e).1
  rw [List.getElem?_append_left hi]; exact e

section
variable {K : PySem.W.Frag} {ρ ρ' : List Addr} {H H' : Hp}
mutual
theorem Rep.mono (k : Kp K H H') (p : ρ <+: ρ') : ∀ {d : D} {v : V}, Rep K ρ H d v → Rep K ρ' H' d v
  | .non, v, h => h
  | .bl b, v, h => h
  | .int i, v, h => h
  | .str x, v, h => h
  | .tup ds, v, h => by
    obtain ⟨a, vs, e, s, r⟩ := h
    exact ⟨a, vs, e, k a vs s, Reps.mono k p r⟩
  | .ref n, v, h => by
    obtain ⟨a, e, q⟩ := h
    exact ⟨a, e, pre_get p q⟩
theorem Reps.mono (k : Kp K H H') (p : ρ <+: ρ') : ∀ {ds : List D} {vs : List V}, Reps K ρ H ds vs → Reps K ρ' H' ds vs
  | [], vs, h => h
  | d :: ds, vs, h => by
    obtain ⟨v, r, e, h1, h2⟩ := h
    exact ⟨v, r, e, Rep.mono k p h1, Reps.mono k p h2⟩
end
theorem Reps.length : ∀ {ds : List D} {vs : List V}, Reps K ρ H ds vs → vs.length = ds.length
  | [], vs, h => by subst h; rfl
  | d :: ds, vs, h => by
    obtain ⟨v, r, e, h1, h2⟩ := h
    subst e
    simp [Reps.length h2]
theorem Reps.get : ∀ {ds : List D} {vs : List V} {i : Nat} {d : D}, Reps K ρ H ds vs → ds[i]? = some d → ∃ v, vs[i]? = some v ∧ Rep K ρ H d v
  | [], vs, i, d, h, e => by simp at e
  | d :: ds, vs, 0, d', h, e => by
    obtain ⟨v, r, e1, h1, h2⟩ := h
    subst e1
    simp at e
    subst e
    exact ⟨v, rfl, h1⟩
  | d :: ds, vs, i + 1, d', h, e => by
    obtain ⟨v, r, e1, h1, h2⟩ := h
    subst e1
    obtain ⟨u, q1, q2⟩ := Reps.get (i := i) h2 (by simpa using e)
    exact ⟨u, by simpa using q1, q2⟩
theorem Reps.getV {ds : List D} {vs : List V} {i : Nat} {v : V} (h : Reps K ρ H ds vs) (e : vs[i]? = some v) : ∃ d, ds[i]? = some d ∧ Rep K ρ H d v := by
  have hl := h.length
  have hi := (List.getElem?_eq_some_iff.mp e).1
  obtain ⟨d, hd⟩ : ∃ d, ds[i]? = some d := ⟨ds[i]'(by omega), List.getElem?_eq_getElem _⟩
  obtain ⟨u, q1, q2⟩ := h.get hd
  rw [e] at q1
  cases q1
  exact ⟨d, hd, q2⟩
theorem Reps.app : ∀ {ds es : List D} {vs us : List V}, Reps K ρ H ds vs → Reps K ρ H es us → Reps K ρ H (ds ++ es) (vs ++ us)
  | [], es, vs, us, h, q => by subst h; exact q
  | d :: ds, es, vs, us, h, q => by
    obtain ⟨v, r, e, h1, h2⟩ := h
    subst e
    exact ⟨v, r ++ us, rfl, h1, Reps.app h2 q⟩
theorem Reps.one {d : D} {v : V} (h : Rep K ρ H d v) : Reps K ρ H [d] [v] := ⟨v, [], rfl, h, rfl⟩
theorem Reps.nil : Reps K ρ H [] [] := rfl
theorem Reps.cons {d : D} {v : V} {ds : List D} {vs : List V} (h : Rep K ρ H d v) (q : Reps K ρ H ds vs) : Reps K ρ H (d :: ds) (v :: vs) := ⟨v, vs, rfl, h, q⟩
theorem Reps.set : ∀ {ds : List D} {vs : List V} (i : Nat) {d : D} {v : V}, Reps K ρ H ds vs → Rep K ρ H d v → Reps K ρ H (ds.set i d) (vs.set i v)
  | [], vs, i, d, v, h, q => by subst h; exact rfl
  | d0 :: ds, vs, 0, d, v, h, q => by
    obtain ⟨v0, r, e, h1, h2⟩ := h
    subst e
    exact ⟨v, r, rfl, q, h2⟩
  | d0 :: ds, vs, i + 1, d, v, h, q => by
    obtain ⟨v0, r, e, h1, h2⟩ := h
    subst e
    exact ⟨v0, r.set i v, rfl, h1, Reps.set i h2 q⟩
theorem Reps.take : ∀ {ds : List D} {vs : List V} (n : Nat), Reps K ρ H ds vs → Reps K ρ H (ds.take n) (vs.take n)
  | ds, vs, 0, h => by simp [Reps]
  | [], vs, n + 1, h => by subst h; exact rfl
  | d :: ds, vs, n + 1, h => by
    obtain ⟨v, r, e, h1, h2⟩ := h
    subst e
    exact ⟨v, r.take n, rfl, h1, Reps.take n h2⟩
theorem Reps.drop : ∀ {ds : List D} {vs : List V} (n : Nat), Reps K ρ H ds vs → Reps K ρ H (ds.drop n) (vs.drop n)
  | ds, vs, 0, h => by simpa using h
  | [], vs, n + 1, h => by subst h; exact rfl
  | d :: ds, vs, n + 1, h => by
    obtain ⟨v, r, e, h1, h2⟩ := h
    subst e
    exact Reps.drop n h2
theorem Reps.eraseIdx {ds : List D} {vs : List V} (n : Nat) (h : Reps K ρ H ds vs) : Reps K ρ H (ds.eraseIdx n) (vs.eraseIdx n) := by
  rw [List.eraseIdx_eq_take_drop_succ, List.eraseIdx_eq_take_drop_succ]
  exact (h.take n).app (h.drop (n + 1))
theorem RepK.mono {κ : Type} {kvs : List (κ × D)} {vs : List (κ × V)} (k : Kp K H H') (p : ρ <+: ρ') (h : RepK K ρ H kvs vs) : RepK K ρ' H' kvs vs := ⟨h.1, h.2.mono k p⟩
end

section
variable {K : PySem.W.Frag} {ρ ρ' : List Addr} {H H' : Hp} {mh : MH}
/-- an object's description where its own place stays -/
theorem RepO.stay {a : Addr} {o : MO} (h : RepO K ρ H a o) (k : Kp K H H') (p : ρ <+: ρ') (e : ∀ u, H a = some u → H' a = some u) : RepO K ρ' H' a o := by
  cases o with
  | lst ds => obtain ⟨vs, q, r⟩ := h; exact ⟨vs, e _ q, r.mono k p⟩
  | fro ds =>
    obtain ⟨vs, q, r⟩ := h
    refine ⟨vs, ?_, r.mono k p⟩
    rcases q with ⟨ob, q⟩ | q
    · exact .inl ⟨ob, e _ q⟩
    · exact .inr q
  | dic kvs => obtain ⟨vs, q, r⟩ := h; exact ⟨vs, e _ q, r.mono k p⟩
  | dtu kvs => obtain ⟨vs, q, r⟩ := h; exact ⟨vs, e _ q, r.mono k p⟩
/-- what stands at a mutable place -/
theorem RepO.some {a : Addr} {o : MO} (h : RepO K ρ H a o) (m : o.mt) : ∃ u, H a = some u ∧ (∀ vs, u ≠ .tup vs) ∧ ∀ ob w, u ≠ .frz ob w := by
  cases o with
  | lst ds => obtain ⟨vs, q, r⟩ := h; exact ⟨_, q, fun _ e => HO.noConfusion e, fun _ _ e => HO.noConfusion e⟩
  | fro ds => exact m.elim
  | dic kvs => obtain ⟨vs, q, r⟩ := h; exact ⟨_, q, fun _ e => HO.noConfusion e, fun _ _ e => HO.noConfusion e⟩
  | dtu kvs => obtain ⟨vs, q, r⟩ := h; exact ⟨_, q, fun _ e => HO.noConfusion e, fun _ _ e => HO.noConfusion e⟩
/-- all that stood stands -/
theorem WR.stay (w : WR K ρ H mh) (k : Kp K H H') (e : ∀ a u, H a = some u → H' a = some u) : WR K ρ H' mh :=
  ⟨w.len, fun i o h => by
    obtain ⟨a, ha, r⟩ := w.ob i o h
    exact ⟨a, ha, r.stay k (List.prefix_refl _) (e a)⟩, w.inj⟩
theorem keep_new {p : Addr} {o : HO} (hp : H p = none) : ∀ a u, H a = some u → upd H p o a = some u := fun a u h => by
  rw [upd_ne (ne_of_none h hp)]; exact h
theorem WR.fresh (w : WR K ρ H mh) {p : Addr} {o : HO} (hp : H p = none) : WR K ρ (upd H p o) mh := w.stay (Kp.new hp) (keep_new hp)
/-- a new mutable object -/
theorem WR.new (w : WR K ρ H mh) {p : Addr} {ho : HO} {o : MO} (hp : H p = none) (m : o.mt) (r : RepO K (ρ ++ [p]) (upd H p ho) p o) : WR K (ρ ++ [p]) (upd H p ho) (mh ++ [o]) := by
  have pre : ρ <+: ρ ++ [p] := List.prefix_append _ _
  refine ⟨by simp [w.len], fun i u h => ?_, fun i j oi oj a hi hj mi mj ai aj => ?_⟩
  · by_cases hl : i < mh.length
    · rw [List.getElem?_append_left hl] at h
      obtain ⟨a, ha, q⟩ := w.ob i u h
      exact ⟨a, pre_get pre ha, q.stay (Kp.new hp) pre (keep_new hp a)⟩
    · have hi := (List.getElem?_eq_some_iff.mp h).1
      simp at hi
      have e : i = mh.length := by omega
      subst e
      rw [List.getElem?_append_right (Nat.le_refl _)] at h
      simp at h
      subst h
      exact ⟨p, by rw [← w.len]; simp, r⟩
  · have key : ∀ {i : Nat} {oi : MO}, (mh ++ [o])[i]? = some oi → oi.mt → (ρ ++ [p])[i]? = some a → (i < mh.length ∧ mh[i]? = some oi ∧ ρ[i]? = some a ∧ a ≠ p) ∨ (i = mh.length ∧ a = p) := fun {i oi} h mi ai => by
      by_cases hl : i < mh.length
      · rw [List.getElem?_append_left hl] at h
        rw [List.getElem?_append_left (by rw [w.len]; exact hl)] at ai
        obtain ⟨b, hb, q⟩ := w.ob i oi h
        rw [ai] at hb; cases hb
        obtain ⟨u, hu, _⟩ := q.some mi
        exact .inl ⟨hl, h, ai, ne_of_none hu hp⟩
      · have h' := (List.getElem?_eq_some_iff.mp h).1
        simp at h'
        have e : i = mh.length := by omega
        refine .inr ⟨e, ?_⟩
        subst e
        rw [← w.len] at ai
        simp at ai
        exact ai.symm
    rcases key hi mi ai with ⟨h1, h2, h3, h4⟩ | ⟨h1, h2⟩
    · rcases key hj mj aj with ⟨g1, g2, g3, g4⟩ | ⟨g1, g2⟩
      · exact w.inj i j _ _ a h2 g2 mi mj h3 g3
      · exact absurd g2 h4
    · rcases key hj mj aj with ⟨g1, g2, g3, g4⟩ | ⟨g1, g2⟩
      · exact absurd h2 g4
      · omega
/-- the place of a mutable object bears no tuple -/
theorem WR.kp (w : WR K ρ H mh) {k : Nat} {o : MO} {a : Addr} {ho : HO} (h : mh[k]? = some o) (m : o.mt) (ha : ρ[k]? = some a) : Kp K H (upd H a ho) := by
  obtain ⟨b, hb, q⟩ := w.ob k o h
  rw [ha] at hb; cases hb
  obtain ⟨u, hu, n1, n2⟩ := q.some m
  exact Kp.but (p := a) (fun b hb => upd_ne hb) (fun vs e => by rw [hu] at e; exact n1 vs (Option.some.inj e)) (fun o vs e => by rw [hu] at e; exact n2 _ _ (Option.some.inj e))
/-- a mutable object is changed -/
theorem WR.set (w : WR K ρ H mh) {k : Nat} {o o' : MO} {a : Addr} {ho : HO} (h : mh[k]? = some o) (m : o.mt) (m' : o'.mt) (ha : ρ[k]? = some a) (r : RepO K ρ (upd H a ho) a o') : WR K ρ (upd H a ho) (mh.set k o') := by
  have kp := w.kp (ho := ho) h m ha
  have hk := (List.getElem?_eq_some_iff.mp h).1
  have old : ∀ {i : Nat} {oi : MO}, i ≠ k → (mh.set k o')[i]? = some oi → mh[i]? = some oi := fun {i oi} n e => by
    rw [List.getElem?_set_ne (Ne.symm n)] at e; exact e
  refine ⟨by simp [w.len], fun i u hi => ?_, fun i j oi oj b hi hj mi mj ai aj => ?_⟩
  · by_cases e : i = k
    · subst e
      rw [List.getElem?_set_self hk] at hi
      cases hi
      exact ⟨a, ha, r⟩
    · have hi := old e hi
      obtain ⟨b, hb, q⟩ := w.ob i u hi
      refine ⟨b, hb, ?_⟩
      by_cases hba : b = a
      · subst hba
        cases u with
        | fro ds =>
          obtain ⟨vs, q1, q2⟩ := q
          refine ⟨vs, ?_, q2.mono kp (List.prefix_refl _)⟩
          rcases q1 with ⟨ob, q1⟩ | q1
          · obtain ⟨c, hc, q3⟩ := w.ob k o h
            rw [ha] at hc; cases hc
            obtain ⟨u, hu, n1, n2⟩ := q3.some m
            rw [q1] at hu; cases hu
            exact absurd rfl (n2 _ _)
          · exact .inr q1
        | lst ds => exact absurd (w.inj i k _ _ b hi h trivial m hb ha) e
        | dic ds => exact absurd (w.inj i k _ _ b hi h trivial m hb ha) e
        | dtu ds => exact absurd (w.inj i k _ _ b hi h trivial m hb ha) e
      · exact q.stay kp (List.prefix_refl _) (fun x hx => by rw [upd_ne hba]; exact hx)
  · by_cases e1 : i = k
    · by_cases e2 : j = k
      · rw [e1, e2]
      · subst e1
        exact w.inj i j _ _ b h (old e2 hj) m mj ai aj
    · by_cases e2 : j = k
      · subst e2
        exact w.inj i j _ _ b (old e1 hi) h mi m ai aj
      · exact w.inj i j _ _ b (old e1 hi) (old e2 hj) mi mj ai aj
end

/-- a result is good for what is wanted -/
def Fin (g : Gi) (E : XK) (ρ : List Addr) (H : Hp) {α : Type} (Q : α → MH → List Addr → Hp → Prop) : Res α → Prop
  | .ok a mh => ∀ ρ' H', Kp g.K H H' → ρ <+: ρ' → WR g.K ρ' H' mh → Q a mh ρ' H'
  | .exc c fs mh => ∀ ρ' H' (d : Addr) ws, Kp g.K H H' → ρ <+: ρ' → WR g.K ρ' H' mh → H' d = some (.xd ws) → RepK g.K ρ' H' fs ws → E (.ref (g.ex c)) (some d) H'
  | .bad => False

section
variable {g : Gi} {E : XK} {ρ ρ1 : List Addr} {H H1 : Hp} {α β : Type}
/-- from further on -/
theorem Fin.from {Q : α → MH → List Addr → Hp → Prop} {r : Res α} (h : Fin g E ρ H Q r) (k : Kp g.K H H1) (p : ρ <+: ρ1) : Fin g E ρ1 H1 Q r := by
  cases r with
  | ok a mh => exact fun ρ' H' k' p' w => h ρ' H' (k.trans k') (p.trans p') w
  | exc c fs mh => exact fun ρ' H' d ws k' p' w => h ρ' H' d ws (k.trans k') (p.trans p') w
  | bad => exact h
theorem Fin.imp {Q Q' : α → MH → List Addr → Hp → Prop} {r : Res α} (h : Fin g E ρ H Q r) (k : ∀ a mh ρ' H', r = .ok a mh → Kp g.K H H' → ρ <+: ρ' → WR g.K ρ' H' mh → Q a mh ρ' H' → Q' a mh ρ' H') : Fin g E ρ H Q' r := by
  cases r with
  | ok a mh => exact fun ρ' H' k' p' w => k a mh ρ' H' rfl k' p' w (h ρ' H' k' p' w)
  | exc c fs mh => exact h
  | bad => exact h
theorem Fin.unbind {Q : β → MH → List Addr → Hp → Prop} {r : Res α} {f : α → MH → Res β} (h : Fin g E ρ H Q (r.bind f)) : Fin g E ρ H (fun a mh ρ1 H1 => Fin g E ρ1 H1 Q (f a mh)) r := by
  cases r with
  | ok a mh =>
    intro ρ' H' k p w
    exact Fin.from (r := f a mh) h k p
  | exc c fs mh => exact h
  | bad => exact h
theorem Fin.here {Q : α → MH → List Addr → Hp → Prop} {a : α} {mh : MH} (w : WR g.K ρ H mh) (h : Fin g E ρ H Q (.ok a mh)) : Q a mh ρ H := h ρ H Kp.refl (List.prefix_refl _) w
end

/-- the slots -/
def Sl (K : PySem.W.Frag) (ρ : List Addr) (H : Hp) (env : Env) (σ : L2.St) : Prop := env.length = σ.length ∧ ∀ (i : Nat) (d : D), env[i]? = some (some d) → ∃ v, σ[i]? = some (some v) ∧ Rep K ρ H d v
section
variable {K : PySem.W.Frag} {ρ ρ' : List Addr} {H H' : Hp} {env : Env} {σ : L2.St}
theorem Sl.mono (s : Sl K ρ H env σ) (k : Kp K H H') (p : ρ <+: ρ') : Sl K ρ' H' env σ := ⟨s.1, fun i d e => by
  obtain ⟨v, h1, h2⟩ := s.2 i d e
  exact ⟨v, h1, h2.mono k p⟩⟩
theorem Sl.put (s : Sl K ρ H env σ) {d : D} {v : V} (r : Rep K ρ H d v) (i : Nat) : Sl K ρ H (env.set i (some d)) (σ.set i (some v)) := ⟨by simp [s.1], fun j d' e => by
  by_cases h : i = j
  · subst h
    have hl := (List.getElem?_eq_some_iff.mp e).1
    simp at hl
    rw [List.getElem?_set_self hl] at e
    cases e
    exact ⟨v, List.getElem?_set_self (by rw [← s.1]; exact hl), r⟩
  · rw [List.getElem?_set_ne h] at e
    obtain ⟨u, h1, h2⟩ := s.2 j d' e
    exact ⟨u, by rw [List.getElem?_set_ne h]; exact h1, h2⟩⟩
end

/-! ### the readings -/
def rdE (g : Gi) (E : XK) (m : ME) : TE := fun σ H Q => ∃ ρ env mh, Sl g.K ρ H env σ ∧ WR g.K ρ H mh ∧ Fin g E ρ H (fun d _ ρ' H' => ∀ v, Rep g.K ρ' H' d v → Q v H') (m env mh)
def rdA (g : Gi) (E : XK) (m : MA) : TA := fun σ H Q => ∃ ρ env mh, Sl g.K ρ H env σ ∧ WR g.K ρ H mh ∧ Fin g E ρ H (fun ds _ ρ' H' => ∀ vs, Reps g.K ρ' H' ds vs → Q vs H') (m env mh)
def rdT (g : Gi) (E : XK) (m : MT) : TT := fun σ H Q => ∃ ρ env mh, Sl g.K ρ H env σ ∧ WR g.K ρ H mh ∧ Fin g E ρ H (fun b _ _ H' => Q b H') (m env mh)
def FlOk (K : PySem.W.Frag) (D : Ends) (ρ : List Addr) (H : Hp) : Fl → Prop
  | .nx env => ∀ σ, Sl K ρ H env σ → D.nx σ H
  | .rt d => ∀ v, Rep K ρ H d v → D.rt v H
  | .bk env => ∀ σ, Sl K ρ H env σ → D.bk σ H
  | .ct env => ∀ σ, Sl K ρ H env σ → D.ct σ H
def rdS (g : Gi) (E : XK) (m : MS) : TS := fun D σ H => ∃ ρ env mh, Sl g.K ρ H env σ ∧ WR g.K ρ H mh ∧ Fin g E ρ H (fun f _ ρ' H' => FlOk g.K D ρ' H' f) (m env mh)

section
variable {X : Cx} {e : Expr} {es : List Expr} {st : Stmt} {sts : List Stmt}
theorem weakE {t t' : TE} (h : PE X e t) (k : ∀ σ H Q, t' σ H Q → t σ H Q) : PE X e t' := ⟨fun pins s σ H Q I hw => h.run pins s σ H Q I (k _ _ _ hw)⟩
theorem weakT {t t' : TT} (h : PT X e t) (k : ∀ σ H Q, t' σ H Q → t σ H Q) : PT X e t' := ⟨fun pins s σ H Q I hw => h.run pins s σ H Q I (k _ _ _ hw)⟩
theorem weakW {t t' : TT} (h : PW X e t) (k : ∀ σ H Q, t' σ H Q → t σ H Q) : PW X e t' := ⟨fun whole pins s σ H Q I hw => h.run whole pins s σ H Q I (k _ _ _ hw)⟩
theorem weakA {t t' : TA} (h : PA X es t) (k : ∀ σ H Q, t' σ H Q → t σ H Q) : PA X es t' := ⟨fun pos pins s σ H Q I hw => h.run pos pins s σ H Q I (k _ _ _ hw)⟩
theorem weakS {t t' : TS} (h : PS X st t) (k : ∀ D σ H, t' D σ H → t D σ H) : PS X st t' := ⟨fun pins s σ H D I hw => h.run pins s σ H D I (k _ _ _ hw)⟩
theorem weakSs {t t' : TS} (h : PSs X sts t) (k : ∀ D σ H, t' D σ H → t D σ H) : PSs X sts t' := ⟨fun pins s σ H D I hw => h.run pins s σ H D I (k _ _ _ hw)⟩
end
end Mi

set_option Elab.async false
set_option linter.all false
set_option maxRecDepth 100000
set_option maxHeartbeats 4000000
/-! Mi1: expressions. -/
namespace Mi
open PySem PySem.Spec PyProof.Rows L2

abbrev QV (g : Gi) (Q : VK) : D → MH → List Addr → Hp → Prop := fun d _ ρ' H' => ∀ v, Rep g.K ρ' H' d v → Q v H'

section
variable {g : Gi} {E : XK} {ρ : List Addr} {H : Hp} {mh : MH} {Q : VK}
/-- a plain answer -/
theorem ansV {d : D} {v : V} (w : WR g.K ρ H mh) (h : Fin g E ρ H (QV g Q) (.ok d mh)) (r : Rep g.K ρ H d v) : Q v H := Fin.here w h v r
/-- a new list -/
theorem ansL {ds : List D} {vs : List V} {p : Addr} (w : WR g.K ρ H mh) (h : Fin g E ρ H (QV g Q) (.ok (.ref mh.length) (mh ++ [.lst ds]))) (hp : H p = none) (r : Reps g.K ρ H ds vs) : Q (.ref p) (upd H p (.lst vs)) := by
  have pre : ρ <+: ρ ++ [p] := List.prefix_append _ _
  refine h (ρ ++ [p]) _ (Kp.new hp) pre (w.new hp trivial ⟨vs, upd_same, r.mono (Kp.new hp) pre⟩) (.ref p) ⟨p, rfl, ?_⟩
  rw [← w.len]
  simp
/-- a new tuple -/
theorem ansT {ds : List D} {vs : List V} {p : Addr} (w : WR g.K ρ H mh) (h : Fin g E ρ H (QV g Q) (.ok (.tup ds) mh)) (hp : H p = none) (r : Reps g.K ρ H ds vs) : Q (.ref p) (upd H p (.tup vs)) :=
  h ρ _ (Kp.new hp) (List.prefix_refl _) (w.fresh hp) (.ref p) ⟨p, vs, rfl, SqT.of upd_same, r.mono (Kp.new hp) (List.prefix_refl _)⟩
/-- a list is changed -/
theorem ansM {d : D} {v : V} {k : Nat} {ds : List D} {vs : List V} {a : Addr} {o : MO} (w : WR g.K ρ H mh) (h : Fin g E ρ H (QV g Q) (.ok d (mh.set k (.lst ds)))) (hk : mh[k]? = some o) (m : o.mt) (ha : ρ[k]? = some a) (r : Reps g.K ρ H ds vs) (rd : Rep g.K ρ H d v) :
    Q v (upd H a (.lst vs)) :=
  h ρ _ (w.kp hk m ha) (List.prefix_refl _) (w.set hk m trivial ha ⟨vs, upd_same, r.mono (w.kp hk m ha) (List.prefix_refl _)⟩) v (rd.mono (w.kp hk m ha) (List.prefix_refl _))
/-- what stands at a list's place, read -/
theorem WR.seqL {K : PySem.W.Frag} (w : WR K ρ H mh) {k : Nat} {ds : List D} {a : Addr} (h : mh[k]? = some (.lst ds) ∨ mh[k]? = some (.fro ds)) (ha : ρ[k]? = some a) : ∃ vs, SqL K H a vs ∧ Reps K ρ H ds vs := by
  rcases h with h | h
  · obtain ⟨b, hb, vs, q, r⟩ := w.ob k _ h
    rw [ha] at hb; cases hb
    exact ⟨vs, SqL.of q, r⟩
  · obtain ⟨b, hb, vs, q, r⟩ := w.ob k _ h
    rw [ha] at hb; cases hb
    refine ⟨vs, ?_, r⟩
    rcases q with ⟨o, q⟩ | q
    · exact .inl (.inr ⟨o, q⟩)
    · exact .inr q
theorem WR.lstAt {K : PySem.W.Frag} (w : WR K ρ H mh) {k : Nat} {ds : List D} {a : Addr} (h : mh[k]? = some (.lst ds)) (ha : ρ[k]? = some a) : ∃ vs, H a = some (.lst vs) ∧ Reps K ρ H ds vs := by
  obtain ⟨b, hb, vs, q, r⟩ := w.ob k _ h
  rw [ha] at hb; cases hb
  exact ⟨vs, q, r⟩
end
/-- the items of a list that stands -/
def lsAt (mh : MH) (k : Nat) : Option (List D) := match mh[k]? with
  | some (.lst ds) => some ds
  | some (.fro ds) => some ds
  | _ => none
theorem lsAt_or {mh : MH} {k : Nat} {ds : List D} (h : lsAt mh k = some ds) : mh[k]? = some (.lst ds) ∨ mh[k]? = some (.fro ds) := by
  unfold lsAt at h
  split at h
  · cases h; exact .inl ‹_›
  · cases h; exact .inr ‹_›
  · cases h

/-! ### names, constants -/
section
variable {X : Cx} {g : Gi} {E : XK} {pos : Pos}
def mVar (i : Nat) : ME := fun env mh => match env[i]? with
  | some (some d) => .ok d mh
  | _ => .bad
def mC (d : D) : ME := fun _ mh => .ok d mh
theorem pm_var (i : Nat) {x : Str} {pos : Pos} (hN : X.N[i]? = some x := by rfl) (hv : Vis X.env.scope x := by first | exact Or.inl rfl | exact Or.inr (Or.inl rfl) | exact Or.inr (Or.inr rfl)) (hd : (x == ("__debug__" : Str)) = false := by decide)
    (hcd : (x == ("__classdict__" : Str)) = false := by decide) : PE X (.Name x pos) (rdE g E (mVar i)) :=
  weakE (pe_var hN hv hd hcd) fun σ H Q ⟨ρ, env, mh, s, w, f⟩ => by
    unfold mVar at f
    split at f
    · rename_i d e
      obtain ⟨v, h1, h2⟩ := s.2 i d e
      exact ⟨v, h1, ansV w f h2⟩
    · exact f.elim
theorem constM {e : Expr} {v : V} {d : D} (h : PE X e (tC v)) (r : ∀ ρ H, Rep g.K ρ H d v) : PE X e (rdE g E (mC d)) :=
  weakE h fun σ H Q ⟨ρ, env, mh, s, w, f⟩ => ansV w f (r ρ H)
theorem pm_int {i : Int} {j : Nat} : PE X (.Constant (.int i) j pos) (rdE g E (mC (.int i))) := constM pe_int fun _ _ => rfl
theorem pm_bl {b : Bool} {j : Nat} : PE X (.Constant (.bool b) j pos) (rdE g E (mC (.bl b))) := constM pe_bl fun _ _ => rfl
theorem pm_non {j : Nat} : PE X (.Constant .none j pos) (rdE g E (mC .non)) := constM pe_non fun _ _ => rfl
theorem pm_str {x : Str} {j : Nat} : PE X (.Constant (.str x) j pos) (rdE g E (mC (.str x))) := constM pe_str fun _ _ => rfl
/-- a module's constant that is a text | an int -/
theorem pm_gstr {x y : Str} {u : Value} (hg : Gl X x) (hm : X.mg x = some u) (r : RelV (.str y) u) (hd : (x == ("__debug__" : Str)) = false := by decide) : PE X (.Name x pos) (rdE g E (mC (.str y))) := constM (pe_glob hg hm r hd) fun _ _ => rfl
theorem pm_gint {x : Str} {y : Int} {u : Value} (hg : Gl X x) (hm : X.mg x = some u) (r : RelV (.int y) u) (hd : (x == ("__debug__" : Str)) = false := by decide) : PE X (.Name x pos) (rdE g E (mC (.int y))) := constM (pe_glob hg hm r hd) fun _ _ => rfl

/-! ### operators, by values -/
abbrev MO2 := D → D → MH → Res D
def rdO (g : Gi) (E : XK) (f : MO2) : R2 := fun x y H Q => ∃ ρ mh d1 d2, WR g.K ρ H mh ∧ Rep g.K ρ H d1 x ∧ Rep g.K ρ H d2 y ∧ Fin g E ρ H (QV g Q) (f d1 d2 mh)
theorem OpR.weak {f : Value → Value → Sem Value} {r r' : R2} (h : OpR X f r) (k : ∀ x y H Q, r' x y H Q → r x y H Q) : OpR X f r' := fun pins s σ H x y v u Q I rx ry q => h pins s σ H x y v u Q I rx ry (k _ _ _ _ q)
def mBin (f : MO2) (a b : ME) : ME := fun env mh => (a env mh).bind fun x mh1 => (b env mh1).bind fun y mh2 => f x y mh2
theorem binM {a b : ME} {f : MO2} {σ : L2.St} {H : Hp} {Q : VK} (h : rdE g E (mBin f a b) σ H Q) : tOp (rdO g E f) (rdE g E a) (rdE g E b) σ H Q := by
  obtain ⟨ρ, env, mh, s, w, fin⟩ := h
  refine ⟨ρ, env, mh, s, w, fin.unbind.imp fun x mh1 ρ1 H1 _ k1 p1 w1 f1 v r1 => ?_⟩
  refine ⟨ρ1, env, mh1, s.mono k1 p1, w1, f1.unbind.imp fun y mh2 ρ2 H2 _ k2 p2 w2 f2 u r2 => ?_⟩
  exact ⟨ρ2, mh2, x, y, w2, r1.mono k2 p2, r2, f2⟩
theorem pm_bin {a b : Expr} {op : Operator} {f : MO2} {m1 m2 : ME} (ho : OpR X (binaryOp op) (rdO g E f)) (ha : PE X a (rdE g E m1)) (hb : PE X b (rdE g E m2)) : PE X (.BinOp a op b pos) (rdE g E (mBin f m1 m2)) :=
  weakE (pe_op ho ha hb) fun _ _ _ h => binM h
theorem pm_cmp {a b : Expr} {op : CmpOp} {f : MO2} {m1 m2 : ME} (ho : OpR X (compareOp op) (rdO g E f)) (ha : PE X a (rdE g E m1)) (hb : PE X b (rdE g E m2)) (hm : behindInMarks op b = false := by first | exact nomark _ (by decide) (by decide) | rfl) :
    PE X (.Compare a [op] [b] pos) (rdE g E (mBin f m1 m2)) := weakE (pe_cmpR ho ha hb hm) fun _ _ _ h => binM h


def i2 (f : Int → Int → D) : MO2 := fun x y mh => match x, y with
  | .int i, .int j => .ok (f i j) mh
  | _, _ => .bad
theorem i2_shape {f : Int → Int → D} {x y : D} {mh : MH} {Q : D → MH → List Addr → Hp → Prop} {ρ : List Addr} {H : Hp} (h : Fin g E ρ H Q (i2 f x y mh)) : ∃ i j, x = .int i ∧ y = .int j := by
  cases x with
  | int i =>
    cases y with
    | int j => exact ⟨i, j, rfl, rfl⟩
    | _ => exact h.elim
  | _ => exact h.elim
theorem op_i2 {o : Value → Value → Sem Value} {f : Int → Int → V} {f' : Int → Int → D} (ho : OpR X o (rI0 f)) (hf : ∀ i j ρ H, Rep g.K ρ H (f' i j) (f i j)) : OpR X o (rdO g E (i2 f')) :=
  OpR.weak ho fun x y H Q ⟨ρ, mh, d1, d2, w, r1, r2, fin⟩ => by
    obtain ⟨i, j, rfl, rfl⟩ := i2_shape fin
    exact ⟨i, j, r1, r2, ansV w fin (hf i j ρ H)⟩
def opSub : MO2 := i2 fun i j => .int (i - j)
def opLt : MO2 := i2 fun i j => .bl (decide (i < j))
def opLe : MO2 := i2 fun i j => .bl (decide (i ≤ j))
def opGt : MO2 := i2 fun i j => .bl (decide (j < i))
def opGe : MO2 := i2 fun i j => .bl (decide (j ≤ i))
theorem om_sub : OpR X (binaryOp .Sub) (rdO g E opSub) := op_i2 op_sub fun _ _ _ _ => rfl
theorem om_lt : OpR X (compareOp .Lt) (rdO g E opLt) := op_i2 op_lt fun _ _ _ _ => rfl
theorem om_le : OpR X (compareOp .LtE) (rdO g E opLe) := op_i2 op_le fun _ _ _ _ => rfl
theorem om_gt : OpR X (compareOp .Gt) (rdO g E opGt) := op_i2 op_gt fun _ _ _ _ => rfl
theorem om_ge : OpR X (compareOp .GtE) (rdO g E opGe) := op_i2 op_ge fun _ _ _ _ => rfl
/-- with a condition -/
def ic (C : Int → Int → Prop) [∀ i j, Decidable (C i j)] (f : Int → Int → Int) : MO2 := fun x y mh => match x, y with
  | .int i, .int j => if C i j then .ok (.int (f i j)) mh else .bad
  | _, _ => .bad
theorem op_ic {o : Value → Value → Sem Value} {C : Int → Int → Prop} [∀ i j, Decidable (C i j)] {f : Int → Int → Int} (ho : OpR X o (rI C fun i j => .int (f i j))) : OpR X o (rdO g E (ic C f)) :=
  OpR.weak ho fun x y H Q ⟨ρ, mh, d1, d2, w, r1, r2, fin⟩ => by
    cases d1 with
    | int i =>
      cases d2 with
      | int j =>
        by_cases c : C i j
        · have e : ic C f (.int i) (.int j) mh = .ok (.int (f i j)) mh := if_pos c
          rw [e] at fin
          exact ⟨i, j, r1, r2, c, ansV w fin rfl⟩
        · have e : ic C f (.int i) (.int j) mh = .bad := if_neg c
          rw [e] at fin
          exact fin.elim
      | _ => exact fin.elim
    | _ => exact fin.elim
instance : ∀ i j, Decidable (CDivW i j) := fun i j => by unfold CDivW; infer_instance
instance : ∀ i j, Decidable (CMulW i j) := fun i j => by unfold CMulW; infer_instance
instance : ∀ i j, Decidable (CPow i j) := fun i j => by unfold CPow; infer_instance
def opFdiv : MO2 := ic CDivW fun i j => i / j
def opMod : MO2 := ic (fun _ j => 0 < j) fun i j => i % j
def opPow : MO2 := ic CPow fun i j => i ^ j.toNat
theorem om_fdiv : OpR X (binaryOp .FloorDiv) (rdO g E opFdiv) := op_ic op_fdivW
theorem om_mod : OpR X (binaryOp .Mod) (rdO g E opMod) := op_ic op_mod
theorem om_pow : OpR X (binaryOp .Pow) (rdO g E opPow) := op_ic op_pow
/-- a choice by the mirror's operands -/
theorem OpR.cases {o : Value → Value → Sem Value} {f : MO2} (h : ∀ ρ mh d1 d2 x y H Q, WR g.K ρ H mh → Rep g.K ρ H d1 x → Rep g.K ρ H d2 y → Fin g E ρ H (QV g Q) (f d1 d2 mh) → ∃ r, OpR X o r ∧ r x y H Q) : OpR X o (rdO g E f) :=
  fun pins s σ H x y v u Q I rx ry ⟨ρ, mh, d1, d2, w, r1, r2, fin⟩ => by
    obtain ⟨r, hr, q⟩ := h ρ mh d1 d2 x y H Q w r1 r2 fin
    exact hr pins s σ H x y v u Q I rx ry q

def SL : Nat := 16777216
theorem mulOkD {z : Str} {i : Int} (h0 : 0 ≤ i) (h1 : i ≤ 16777216) (h2 : z.length * i.toNat ≤ 16777216) : MulOk z i := by
  refine ⟨?_, fun c _ => ?_, fun c _ => ?_⟩
  · have a1 : ¬ i < -(2 ^ 63 : Int) := by omega
    have a2 : ¬ i ≥ (2 ^ 63 : Int) := by omega
    rw [decide_eq_false a1, decide_eq_false a2]; rfl
  · have hpos : 0 < i := by omega
    have e : ((z.length * i.toNat : Nat) : Int) = (z.length : Int) * i := by
      rw [Int.natCast_mul, Int.toNat_of_nonneg (by omega)]
    have h3 : (z.length : Int) * i ≤ 2 ^ 63 - 1 := by rw [← e]; omega
    have h4 : (z.length : Int) ≤ (2 ^ 63 - 1) / i := (Int.le_ediv_iff_mul_le hpos).mpr h3
    omega
  · exact PyProof.Rows.short24 h2
theorem SL_eq : SL = sizeLine := sizeLine_eq.symm
/-- a decision that the kernel does not compute -/
noncomputable def cdec (p : Prop) : Bool := @decide p (Classical.propDecidable p)
theorem cdec_iff {p : Prop} : cdec p = true ↔ p := by unfold cdec; exact @decide_eq_true_iff p (Classical.propDecidable p)
noncomputable def mulC (z : Str) (j : Int) : Bool := cdec (0 ≤ j ∧ j ≤ 16777216 ∧ z.length * j.toNat ≤ 16777216)
theorem mulC_iff {z : Str} {j : Int} : mulC z j = true ↔ (0 ≤ j ∧ j ≤ 16777216 ∧ z.length * j.toNat ≤ 16777216) := by exact cdec_iff
noncomputable def mulL (n : Nat) (j : Int) : Bool := cdec (0 ≤ j ∧ j < 2 ^ 63 ∧ n * j.toNat ≤ SL)
theorem mulL_iff {n : Nat} {j : Int} : mulL n j = true ↔ (0 ≤ j ∧ j < 2 ^ 63 ∧ n * j.toNat ≤ SL) := by exact cdec_iff
noncomputable def opMul : MO2 := fun x y mh => match x, y with
  | .int i, .int j => if CMulW i j then .ok (.int (i * j)) mh else .bad
  | .str z, .int j => if mulC z j = true then .ok (.str (Txt.mul z j)) mh else .bad
  | .ref k, .int j => match mh[k]? with
    | some (.lst ds) => if mulL ds.length j = true then .ok (.ref mh.length) (mh ++ [.lst (List.replicate j.toNat ds).flatten]) else .bad
    | _ => .bad
  | _, _ => .bad
theorem op_mul_str : OpR X (binaryOp .Mult) (fun x y H Q => ∃ z i, x = .str z ∧ y = .int i ∧ (0 ≤ i ∧ i ≤ 16777216 ∧ z.length * i.toNat ≤ 16777216) ∧ Q (.str (Txt.mul z i)) H) := by
  intro pins s σ H x y v u Q I rx ry h
  obtain ⟨z, i, rfl, rfl, ⟨h0, h1, h2⟩, q⟩ := h
  obtain ⟨t, rfl⟩ := rx
  obtain ⟨t', rfl⟩ := ry
  refine PySem.SB.mul (mulOkD h0 h1 h2) fun t' k => ⟨.str _, H, I.tok k, ⟨t', rfl⟩, q⟩
theorem Reps.rep {K : PySem.W.Frag} {ρ : List Addr} {H : Hp} {ds : List D} {vs : List V} (h : Reps K ρ H ds vs) : ∀ n : Nat, Reps K ρ H (List.replicate n ds).flatten (List.replicate n vs).flatten
  | 0 => rfl
  | n + 1 => by
    rw [List.replicate_succ, List.replicate_succ, List.flatten_cons, List.flatten_cons]
    exact h.app (h.rep n)
theorem om_mul : OpR X (binaryOp .Mult) (rdO g E opMul) := OpR.cases fun ρ mh d1 d2 x y H Q w r1 r2 fin => by
  cases d1 with
  | int i =>
    cases d2 with
    | int j =>
      by_cases c : CMulW i j
      · have e : opMul (.int i) (.int j) mh = .ok (.int (i * j)) mh := if_pos c
        rw [e] at fin
        exact ⟨_, op_mulW, i, j, r1, r2, c, ansV w fin rfl⟩
      · have e : opMul (.int i) (.int j) mh = .bad := if_neg c
        rw [e] at fin
        exact fin.elim
    | _ => exact fin.elim
  | str z =>
    cases d2 with
    | int j =>
      by_cases c0 : mulC z j = true
      · have c := mulC_iff.mp c0
        have e : opMul (.str z) (.int j) mh = .ok (.str (Txt.mul z j)) mh := if_pos c0
        rw [e] at fin
        exact ⟨_, op_mul_str, z, j, r1, r2, c, ansV w fin rfl⟩
      · have e : opMul (.str z) (.int j) mh = .bad := if_neg c0
        rw [e] at fin
        exact fin.elim
    | _ => exact fin.elim
  | ref k =>
    cases d2 with
    | int j =>
      unfold opMul at fin
      dsimp only at fin
      split at fin
      · rename_i ds hk
        split at fin
        · rename_i c0
          have c := mulL_iff.mp c0
          obtain ⟨a, rfl, ha⟩ := r1
          obtain ⟨vs, hv, rs⟩ := w.lstAt hk ha
          refine ⟨_, op_rep, a, j, vs, rfl, r2, hv, by omega, c.2.1, by rw [rs.length, ← SL_eq]; exact c.2.2, fun p hp => ansL w fin hp (rs.rep _)⟩
        · exact fin.elim
      · exact fin.elim
    | _ => exact fin.elim
  | _ => exact fin.elim

def opAdd : MO2 := fun x y mh => match x, y with
  | .int i, .int j => .ok (.int (i + j)) mh
  | .str a, .str b => if a.length + b.length ≤ SL then .ok (.str (a ++ b)) mh else .bad
  | .tup a, .tup b => if a.length + b.length ≤ SL then .ok (.tup (a ++ b)) mh else .bad
  | .ref j, .ref k => match mh[j]?, mh[k]? with
    | some (.lst a), some (.lst b) => if a.length + b.length ≤ SL then .ok (.ref mh.length) (mh ++ [.lst (a ++ b)]) else .bad
    | _, _ => .bad
  | _, _ => .bad
theorem om_add (hK : X.K = g.K := by rfl) : OpR X (binaryOp .Add) (rdO g E opAdd) := OpR.cases fun ρ mh d1 d2 x y H Q w r1 r2 fin => by
  obtain ⟨K, ex⟩ := g
  dsimp only at hK
  subst hK
  cases d1 with
  | int i =>
    cases d2 with
    | int j => exact ⟨_, op_add, i, j, r1, r2, ansV w fin rfl⟩
    | _ => exact fin.elim
  | str a =>
    cases d2 with
    | str b =>
      unfold opAdd at fin
      dsimp only at fin
      split at fin
      · rename_i c
        exact ⟨_, op_add_str, a, b, r1, r2, by rw [← SL_eq]; exact c, ansV w fin rfl⟩
      · exact fin.elim
    | _ => exact fin.elim
  | tup a =>
    cases d2 with
    | tup b =>
      unfold opAdd at fin
      dsimp only at fin
      split at fin
      · rename_i c
        obtain ⟨p, vs, rfl, s1, q1⟩ := r1
        obtain ⟨p', us, rfl, s2, q2⟩ := r2
        refine ⟨_, op_catA, p, p', vs, us, rfl, rfl, s1, s2, by rw [q1.length, q2.length, ← SL_eq]; exact c, fun e => ?_, fun _ e => ?_, fun _ _ l hl => ansT w fin hl (q1.app q2)⟩
        · subst e
          refine ansV w fin ⟨p', us, rfl, s2, ?_⟩
          have := q1.length
          have e0 : a = [] := List.length_eq_zero_iff.mp this.symm
          rw [e0]; exact q2
        · subst e
          refine ansV w fin ⟨p, vs, rfl, s1, ?_⟩
          have := q2.length
          have e0 : b = [] := List.length_eq_zero_iff.mp this.symm
          rw [e0, List.append_nil]; exact q1
      · exact fin.elim
    | _ => exact fin.elim
  | ref j =>
    cases d2 with
    | ref k =>
      unfold opAdd at fin
      dsimp only at fin
      split at fin
      · rename_i a b hj hk
        split at fin
        · rename_i c
          obtain ⟨p, rfl, hp⟩ := r1
          obtain ⟨p', rfl, hp'⟩ := r2
          obtain ⟨vs, h1, q1⟩ := w.lstAt hj hp
          obtain ⟨us, h2, q2⟩ := w.lstAt hk hp'
          exact ⟨_, op_cat, p, p', vs, us, rfl, rfl, h1, h2, by rw [q1.length, q2.length, ← SL_eq]; exact c, fun l hl => ansL w fin hl (q1.app q2)⟩
        · exact fin.elim
      · exact fin.elim
    | _ => exact fin.elim
  | _ => exact fin.elim

/-! ### == of data -/
def optAll (f : D → Option PyData) : List D → Option (List PyData)
  | [] => some []
  | d :: ds => match f d, optAll f ds with
    | some p, some ps => some (p :: ps)
    | _, _ => none
/-- data as the library's equality reads it; n: how deep lists and tuples may lie in one another -/
def pyD (mh : MH) : Nat → D → Option PyData
  | _, .non => some .none
  | _, .bl b => some (.bool b)
  | _, .int i => some (.int i)
  | _, .str x => some (.str x)
  | 0, .tup _ => none
  | n + 1, .tup ds => (optAll (pyD mh n) ds).map .tuple
  | 0, .ref _ => none
  | n + 1, .ref k => match lsAt mh k with
    | some ds => (optAll (pyD mh n) ds).map .list
    | none => none
end
section
variable {K : PySem.W.Frag} {ρ : List Addr} {H : Hp} {mh : MH}
theorem optAll_dp {f : D → Option PyData} (hf : ∀ (d : D) (v : V) (p : PyData), Rep K ρ H d v → f d = some p → Dp K H v p) : ∀ (ds : List D) (vs : List V) (ps : List PyData), Reps K ρ H ds vs → optAll f ds = some ps → DpAll K H vs ps
  | [], vs, ps, r, e => by cases (show vs = [] from r); cases e; exact .nil
  | d :: ds, vs, ps, r, e => by
    obtain ⟨v, u, rfl, r1, r2⟩ := r
    simp only [optAll] at e
    split at e
    · rename_i p qs h1 h2
      cases e
      exact .cons (hf d v p r1 h1) (optAll_dp hf ds u qs r2 h2)
    · cases e
theorem pyD_dp (w : WR K ρ H mh) : ∀ (n : Nat) (d : D) (v : V) (p : PyData), Rep K ρ H d v → pyD mh n d = some p → Dp K H v p := by
  have leaf : ∀ (n : Nat) (d : D) (v : V) (p : PyData), Rep K ρ H d v → pyD mh n d = some p → (∀ ds, d ≠ .tup ds) → (∀ k, d ≠ .ref k) → Dp K H v p := fun n d v p r e h1 h2 => by
    cases d with
    | non => cases (show v = .non from r); cases n <;> (cases e; exact .non)
    | bl b => cases (show v = .bl b from r); cases n <;> (cases e; exact .bl b)
    | int i => cases (show v = .int i from r); cases n <;> (cases e; exact .int i)
    | str x => cases (show v = .str x from r); cases n <;> (cases e; exact .str x)
    | tup ds => exact absurd rfl (h1 ds)
    | ref k => exact absurd rfl (h2 k)
  intro n
  induction n with
  | zero =>
    intro d v p r e
    cases d with
    | tup ds => cases e
    | ref k => cases e
    | _ => exact leaf 0 _ v p r e (fun _ z => nomatch z) (fun _ z => nomatch z)
  | succ n ih =>
    intro d v p r e
    cases d with
    | tup ds =>
      obtain ⟨a, vs, rfl, s, q⟩ := r
      simp only [pyD, Option.map_eq_some_iff] at e
      obtain ⟨ps, e1, rfl⟩ := e
      exact .tup s (optAll_dp ih ds vs ps q e1)
    | ref k =>
      obtain ⟨a, rfl, ha⟩ := r
      simp only [pyD] at e
      split at e
      · rename_i ds hds
        simp only [Option.map_eq_some_iff] at e
        obtain ⟨ps, e1, rfl⟩ := e
        obtain ⟨vs, s, q⟩ := w.seqL (lsAt_or hds) ha
        exact .lst s (optAll_dp ih ds vs ps q e1)
      · cases e
    | _ => exact leaf (n + 1) _ v p r e (fun _ z => nomatch z) (fun _ z => nomatch z)
end
section
variable {X : Cx} {g : Gi} {E : XK} {pos : Pos}
/-- an operation on data as the library reads it -/
def opD (C : PyData → PyData → Bool) (f : PyData → PyData → Bool) : MO2 := fun x y mh => match pyD mh 40 x, pyD mh 40 y with
  | some a, some b => if C a b then .ok (.bl (f a b)) mh else .bad
  | _, _ => .bad
theorem opD_of {C f : PyData → PyData → Bool} {x y : D} {mh : MH} {Q : D → MH → List Addr → Hp → Prop} {ρ : List Addr} {H : Hp} (h : Fin g E ρ H Q (opD C f x y mh)) :
    ∃ a b, pyD mh 40 x = some a ∧ pyD mh 40 y = some b ∧ C a b = true ∧ opD C f x y mh = .ok (.bl (f a b)) mh := by
  have h0 := h
  unfold opD at h0 ⊢
  split at h0
  · rename_i a b ha hb
    split at h0
    · rename_i c
      exact ⟨a, b, ha, hb, c, if_pos c⟩
    · exact h0.elim
  · exact h0.elim
def both (a b : PyData) : Bool := SeqAt.shaped a && SeqAt.shaped b
theorem both_of {a b : PyData} (h : both a b = true) : SeqAt.shaped a = true ∧ SeqAt.shaped b = true := by
  unfold both at h
  exact Bool.and_eq_true_iff.mp h
def opEq : MO2 := opD both PyData.eqv
def opNe : MO2 := opD both fun a b => !PyData.eqv a b
theorem om_eq (hu : X.A.units + 64 < cLine) (hK : X.K = g.K := by rfl) : OpR X (compareOp .Eq) (rdO g E opEq) := OpR.cases fun ρ mh d1 d2 x y H Q w r1 r2 fin => by
  obtain ⟨K, ex⟩ := g
  dsimp only at hK
  subst hK
  obtain ⟨a, b, ha, hb, c, e⟩ := opD_of fin
  rw [show opEq d1 d2 mh = _ from e] at fin
  obtain ⟨s1, s2⟩ := both_of c
  exact ⟨_, op_eqD hu, a, b, pyD_dp w _ _ _ _ r1 ha, pyD_dp w _ _ _ _ r2 hb, s1, s2, ansV w fin rfl⟩
theorem om_ne (hu : X.A.units + 64 < cLine) (hK : X.K = g.K := by rfl) : OpR X (compareOp .NotEq) (rdO g E opNe) := OpR.cases fun ρ mh d1 d2 x y H Q w r1 r2 fin => by
  obtain ⟨K, ex⟩ := g
  dsimp only at hK
  subst hK
  obtain ⟨a, b, ha, hb, c, e⟩ := opD_of fin
  rw [show opNe d1 d2 mh = _ from e] at fin
  obtain ⟨s1, s2⟩ := both_of c
  exact ⟨_, op_neD hu, a, b, pyD_dp w _ _ _ _ r1 ha, pyD_dp w _ _ _ _ r2 hb, s1, s2, ansV w fin rfl⟩
/-- in: a text of one sign in a text; data in a list; plain data in a tuple -/
def listD : PyData → Option (List PyData)
  | .list ds => some ds
  | _ => none
def inD (a : PyData) (ds : List PyData) : Bool := ds.any fun z => PyData.eqv z a
def flatD : D → Bool
  | .non => true
  | .bl _ => true
  | .int _ => true
  | .str _ => true
  | _ => false
def fV : D → V
  | .non => .non
  | .bl b => .bl b
  | .int i => .int i
  | .str x => .str x
  | _ => .non
theorem fV_of {K : PySem.W.Frag} {ρ : List Addr} {H : Hp} {d : D} {v : V} (r : Rep K ρ H d v) (f : flatD d = true) : v = fV d ∧ flatV v = true := by
  cases d with
  | non => exact ⟨r, by rw [show v = _ from r]; rfl⟩
  | bl b => exact ⟨r, by rw [show v = _ from r]; rfl⟩
  | int i => exact ⟨r, by rw [show v = _ from r]; rfl⟩
  | str x => exact ⟨r, by rw [show v = _ from r]; rfl⟩
  | _ => cases f
theorem fVs_of {K : PySem.W.Frag} {ρ : List Addr} {H : Hp} : ∀ {ds : List D} {vs : List V}, Reps K ρ H ds vs → ds.all flatD = true → vs = ds.map fV ∧ vs.all flatV = true
  | [], vs, r, f => by cases (show vs = [] from r); exact ⟨rfl, rfl⟩
  | d :: ds, vs, r, f => by
    obtain ⟨v, u, rfl, r1, r2⟩ := r
    rw [List.all_cons, Bool.and_eq_true] at f
    obtain ⟨a1, a2⟩ := fV_of r1 f.1
    obtain ⟨b1, b2⟩ := fVs_of r2 f.2
    exact ⟨by rw [a1, b1]; rfl, by rw [List.all_cons, a2, b2]; rfl⟩
def opIn (neg : Bool) : MO2 := fun x y mh => match x, y with
  | .str a, .str b => if a.length = 1 then .ok (.bl (neg ^^ decide (a.cps.getD 0 0 ∈ b.cps.toList))) mh else .bad
  | d, .tup ds => if flatD d = true ∧ ds.all flatD = true then .ok (.bl (neg ^^ inV (fV d) (ds.map fV))) mh else .bad
  | d, .ref k => match pyD mh 40 d, pyD mh 40 (.ref k) with
    | some a, some b => match listD b with
      | some bs => if both a b = true then .ok (.bl (neg ^^ inD a bs)) mh else .bad
      | none => .bad
    | _, _ => .bad
  | _, _ => .bad
theorem one_sign {a : Str} (h : a.length = 1) : a = ⟨#[a.cps.getD 0 0]⟩ := by
  obtain ⟨l⟩ := a
  have h1 : l.size = 1 := h
  congr 1
  apply Array.ext
  · simp [h1]
  · intro i h2 h3
    have e : i = 0 := by omega
    subst e
    simp [Array.getD, h1]
theorem om_in_core (neg : Bool) {x y : V} {H : Hp} {Q : VK} {ρ : List Addr} {mh : MH} {d1 d2 : D} {K : PySem.W.Frag} {ex : Nat → Addr} (w : WR K ρ H mh) (r1 : Rep K ρ H d1 x) (r2 : Rep K ρ H d2 y) (fin : Fin ⟨K, ex⟩ E ρ H (QV ⟨K, ex⟩ Q) (opIn neg d1 d2 mh)) :
    (∃ (c : Nat) (z : Str), x = .str ⟨#[c]⟩ ∧ y = .str z ∧ Q (.bl (neg ^^ decide (c ∈ z.cps.toList))) H) ∨
    (∃ p xs, y = .ref p ∧ (SqL K H p xs ∨ SqT K H p xs) ∧ flatV x = true ∧ xs.all flatV = true ∧ Q (.bl (neg ^^ inV x xs)) H) ∨
    (∃ d ds, Dp K H x d ∧ Dp K H y (.list ds) ∧ SeqAt.shaped d = true ∧ SeqAt.shaped (.list ds) = true ∧ Q (.bl (neg ^^ (ds.any fun z => PyData.eqv z d))) H) := by
  cases d2 with
  | str b =>
    cases d1 with
    | str a =>
      unfold opIn at fin
      dsimp only at fin
      split at fin
      · rename_i c
        refine .inl ⟨a.cps.getD 0 0, b, ?_, r2, ansV w fin rfl⟩
        rw [show x = .str a from r1]
        exact congrArg V.str (one_sign c)
      · exact fin.elim
    | _ => exact fin.elim
  | tup ds =>
    have e : opIn neg d1 (.tup ds) mh = if flatD d1 = true ∧ ds.all flatD = true then .ok (.bl (neg ^^ inV (fV d1) (ds.map fV))) mh else .bad := by
      cases d1 <;> rfl
    rw [e] at fin
    split at fin
    · rename_i c
      obtain ⟨a, vs, rfl, s, q⟩ := r2
      obtain ⟨a1, a2⟩ := fV_of r1 c.1
      obtain ⟨b1, b2⟩ := fVs_of q c.2
      refine .inr (.inl ⟨a, vs, rfl, .inr s, a2, b2, ?_⟩)
      have z := ansV (v := .bl (neg ^^ inV (fV d1) (ds.map fV))) w fin rfl
      rw [← a1, ← b1] at z
      exact z
    · exact fin.elim
  | ref k =>
    have e : opIn neg d1 (.ref k) mh = match pyD mh 40 d1, pyD mh 40 (.ref k) with
      | some a, some b => match listD b with
        | some bs => if both a b = true then .ok (.bl (neg ^^ inD a bs)) mh else .bad
        | none => .bad
      | _, _ => .bad := by
      cases d1 <;> rfl
    rw [e] at fin
    split at fin
    · rename_i a b ha hb
      split at fin
      · rename_i bs hbs
        have eb : b = .list bs := by
          cases b <;> simp [listD] at hbs
          rw [hbs]
        subst eb
        split at fin
        · rename_i c
          obtain ⟨s1, s2⟩ := both_of c
          exact .inr (.inr ⟨a, bs, pyD_dp w _ _ _ _ r1 ha, pyD_dp w _ _ _ _ r2 hb, s1, s2, ansV w fin rfl⟩)
        · exact fin.elim
      · exact fin.elim
    · exact fin.elim
  | _ => cases d1 <;> exact fin.elim
theorem om_in (hu : X.A.units + 65 < cLine) (hK : X.K = g.K := by rfl) : OpR X (compareOp .In) (rdO g E (opIn false)) := OpR.cases fun ρ mh d1 d2 x y H Q w r1 r2 fin => by
  obtain ⟨K, ex⟩ := g
  dsimp only at hK
  subst hK
  rcases om_in_core false w r1 r2 fin with ⟨c, z, e1, e2, q⟩ | ⟨p, xs, e, s, f1, f2, q⟩ | ⟨d, ds, h1, h2, h3, h4, q⟩
  · exact ⟨_, op_in_sign, c, z, e1, e2, by simpa using q⟩
  · exact ⟨_, op_in_seq, p, xs, e, s, f1, f2, by simpa using q⟩
  · exact ⟨_, op_inD hu, d, ds, h1, h2, h3, h4, by simpa using q⟩
theorem om_nin (hu : X.A.units + 65 < cLine) (hK : X.K = g.K := by rfl) : OpR X (compareOp .NotIn) (rdO g E (opIn true)) := OpR.cases fun ρ mh d1 d2 x y H Q w r1 r2 fin => by
  obtain ⟨K, ex⟩ := g
  dsimp only at hK
  subst hK
  rcases om_in_core true w r1 r2 fin with ⟨c, z, e1, e2, q⟩ | ⟨p, xs, e, s, f1, f2, q⟩ | ⟨d, ds, h1, h2, h3, h4, q⟩
  · exact ⟨_, op_notIn_sign, c, z, e1, e2, by simpa using q⟩
  · exact ⟨_, op_notIn_seq, p, xs, e, s, f1, f2, by simpa using q⟩
  · exact ⟨_, op_notInD hu, d, ds, h1, h2, h3, h4, by simpa using q⟩
/-- is None, is not None -/
def isN : D → Bool
  | .non => true
  | _ => false
def opIs : MO2 := fun x y mh => match y with
  | .non => .ok (.bl (isN x)) mh
  | _ => .bad
def opIsN : MO2 := fun x y mh => match y with
  | .non => .ok (.bl (!isN x)) mh
  | _ => .bad
theorem isN_of {K : PySem.W.Frag} {ρ : List Addr} {H : Hp} {d : D} {v : V} (r : Rep K ρ H d v) : decide (v = .non) = isN d := by
  cases d with
  | non => rw [show v = _ from r]; rfl
  | bl b => rw [show v = _ from r]; rfl
  | int i => rw [show v = _ from r]; rfl
  | str x => rw [show v = _ from r]; rfl
  | tup ds => obtain ⟨a, vs, rfl, _⟩ := r; rfl
  | ref k => obtain ⟨a, rfl, _⟩ := r; rfl
theorem om_is : OpR X (compareOp .Is) (rdO g E opIs) := OpR.cases fun ρ mh d1 d2 x y H Q w r1 r2 fin => by
  cases d2 with
  | non => exact ⟨_, op_isN, r2, ansV w fin (by rw [isN_of r1]; rfl)⟩
  | _ => exact fin.elim
theorem om_isn : OpR X (compareOp .IsNot) (rdO g E opIsN) := OpR.cases fun ρ mh d1 d2 x y H Q w r1 r2 fin => by
  cases d2 with
  | non => exact ⟨_, op_notN, r2, ansV w fin (by rw [isN_of r1]; rfl)⟩
  | _ => exact fin.elim
end
end Mi

set_option Elab.async false
set_option linter.all false
set_option maxRecDepth 100000
set_option maxHeartbeats 4000000
/-! Mi2: truth, displays, items, slices, arguments, built-in calls and methods. -/
namespace Mi
open PySem PySem.Spec PyProof.Rows L2

section
variable {X : Cx} {g : Gi} {E : XK} {pos : Pos} {a b c e : Expr} {es rest : List Expr}

/-! ### and, or, not as values (of bools) -/
def mAnd (x y : ME) : ME := fun env mh => (x env mh).bind fun d mh1 => match d with
  | .bl true => y env mh1
  | .bl false => .ok (.bl false) mh1
  | _ => .bad
def mOr (x y : ME) : ME := fun env mh => (x env mh).bind fun d mh1 => match d with
  | .bl true => .ok (.bl true) mh1
  | .bl false => y env mh1
  | _ => .bad
def mNot (x : ME) : ME := fun env mh => (x env mh).bind fun d mh1 => match d with
  | .bl k => .ok (.bl (!k)) mh1
  | _ => .bad
theorem pm_and {x y : ME} (ha : PE X a (rdE g E x)) (hb : PE X (.BoolOp .And (b :: rest) pos) (rdE g E y)) : PE X (.BoolOp .And (a :: b :: rest) pos) (rdE g E (mAnd x y)) :=
  weakE (pe_and ha hb) fun σ H Q ⟨ρ, env, mh, s, w, fin⟩ => by
    refine ⟨ρ, env, mh, s, w, fin.unbind.imp fun d mh1 ρ1 H1 _ k1 p1 w1 f1 v r1 => ?_⟩
    cases d with
    | bl k =>
      cases (show v = .bl k from r1)
      refine ⟨k, rfl, ?_⟩
      cases k with
      | true => exact ⟨ρ1, env, mh1, s.mono k1 p1, w1, f1⟩
      | false => exact ansV w1 f1 rfl
    | _ => exact f1.elim
theorem pm_or {x y : ME} (ha : PE X a (rdE g E x)) (hb : PE X (.BoolOp .Or (b :: rest) pos) (rdE g E y)) : PE X (.BoolOp .Or (a :: b :: rest) pos) (rdE g E (mOr x y)) :=
  weakE (pe_or ha hb) fun σ H Q ⟨ρ, env, mh, s, w, fin⟩ => by
    refine ⟨ρ, env, mh, s, w, fin.unbind.imp fun d mh1 ρ1 H1 _ k1 p1 w1 f1 v r1 => ?_⟩
    cases d with
    | bl k =>
      cases (show v = .bl k from r1)
      refine ⟨k, rfl, ?_⟩
      cases k with
      | true => exact ansV w1 f1 rfl
      | false => exact ⟨ρ1, env, mh1, s.mono k1 p1, w1, f1⟩
    | _ => exact f1.elim
theorem pm_one {op : BoolOp} {x : ME} (ha : PE X a (rdE g E x)) : PE X (.BoolOp op [a] pos) (rdE g E x) := pe_one ha
theorem pm_not {x : ME} (ha : PE X a (rdE g E x)) : PE X (.UnaryOp .Not a pos) (rdE g E (mNot x)) :=
  weakE (pe_not ha) fun σ H Q ⟨ρ, env, mh, s, w, fin⟩ => by
    refine ⟨ρ, env, mh, s, w, fin.unbind.imp fun d mh1 ρ1 H1 _ k1 p1 w1 f1 v r1 => ?_⟩
    cases d with
    | bl k =>
      cases (show v = .bl k from r1)
      exact ⟨k, rfl, ansV w1 f1 rfl⟩
    | _ => exact f1.elim
def opNeg : D → MH → Res D := fun x mh => match x with
  | .int i => .ok (.int (-i)) mh
  | _ => .bad
def mNeg (x : ME) : ME := fun env mh => (x env mh).bind opNeg
theorem pm_neg {x : ME} (ha : PE X a (rdE g E x)) : PE X (.UnaryOp .USub a pos) (rdE g E (mNeg x)) :=
  weakE (pe_un un_neg ha) fun σ H Q ⟨ρ, env, mh, s, w, fin⟩ => by
    refine ⟨ρ, env, mh, s, w, fin.unbind.imp fun d mh1 ρ1 H1 _ k1 p1 w1 f1 v r1 => ?_⟩
    cases d with
    | int k =>
      cases (show v = .int k from r1)
      exact ⟨k, rfl, ansV w1 f1 rfl⟩
    | _ => exact f1.elim

/-! ### tests -/
def truD (mh : MH) : D → Option Bool
  | .non => some false
  | .bl b => some b
  | .int i => some (i != 0)
  | .str x => if x.length ≤ SL then some ((x.length : Int) != 0) else none
  | .tup ds => some (!ds.isEmpty)
  | .ref k => match mh[k]? with
    | some (.lst ds) => some (!ds.isEmpty)
    | some (.fro ds) => some (!ds.isEmpty)
    | some (.dic kvs) => some (!kvs.isEmpty)
    | _ => none
theorem isE_of {K : PySem.W.Frag} {ρ : List Addr} {H : Hp} {ds : List D} {vs : List V} (r : Reps K ρ H ds vs) : (!ds.isEmpty) = !vs.isEmpty := by
  have h := r.length
  cases ds <;> cases vs <;> simp_all
theorem truD_of {K : PySem.W.Frag} {ρ : List Addr} {H : Hp} {mh : MH} {d : D} {v : V} {k : Bool} (w : WR K ρ H mh) (r : Rep K ρ H d v) (h : truD mh d = some k) : TruV K v H k := by
  cases d with
  | non => cases (show v = _ from r); exact (Option.some.inj h).symm
  | bl b => cases (show v = _ from r); exact (Option.some.inj h).symm
  | int i => cases (show v = _ from r); exact (Option.some.inj h).symm
  | str x =>
    cases (show v = _ from r)
    simp only [truD] at h
    split at h
    · rename_i c
      exact ⟨by rw [← SL_eq]; exact c, (Option.some.inj h).symm⟩
    · cases h
  | tup ds =>
    obtain ⟨a, vs, rfl, s, q⟩ := r
    exact .inr (.inl ⟨vs, s, (Option.some.inj h).symm.trans (isE_of q)⟩)
  | ref n =>
    obtain ⟨a, rfl, ha⟩ := r
    simp only [truD] at h
    split at h
    · rename_i ds e
      obtain ⟨vs, s, q⟩ := w.seqL (.inl e) ha
      exact .inl ⟨vs, s, (Option.some.inj h).symm.trans (isE_of q)⟩
    · rename_i ds e
      obtain ⟨vs, s, q⟩ := w.seqL (.inr e) ha
      exact .inl ⟨vs, s, (Option.some.inj h).symm.trans (isE_of q)⟩
    · rename_i kvs e
      obtain ⟨b, hb, vs, s, q1, q2⟩ := w.ob n _ e
      rw [ha] at hb; cases hb
      refine .inr (.inr ⟨vs, s, (Option.some.inj h).symm.trans ?_⟩)
      have hl := congrArg List.length q1
      simp at hl
      cases kvs <;> cases vs <;> simp_all
    · cases h
def mTru (x : ME) : MT := fun env mh => (x env mh).bind fun d mh1 => match truD mh1 d with
  | some k => .ok k mh1
  | none => .bad
theorem pt_tru {x : ME} (ha : PE X a (rdE g E x)) (he : ∀ whole, isTrue a X.env whole = (do let v ← whole; standAt a.pos; holding [v] (truthy v)) := by intro _; rfl) (hK : X.K = g.K := by rfl) : PT X a (rdT g E (mTru x)) :=
  weakT (pt_truth ha he) fun σ H Q ⟨ρ, env, mh, s, w, fin⟩ => by
    refine ⟨ρ, env, mh, s, w, fin.unbind.imp fun d mh1 ρ1 H1 _ k1 p1 w1 f1 v r1 => ?_⟩
    split at f1
    · rename_i k e
      exact ⟨k, by rw [hK]; exact truD_of w1 r1 e, f1 ρ1 H1 Kp.refl (List.prefix_refl _) w1⟩
    · exact f1.elim
def mB (x : ME) : MT := fun env mh => (x env mh).bind fun d mh1 => match d with
  | .bl k => .ok k mh1
  | _ => .bad
theorem pt_cmpM {op : CmpOp} {f : MO2} {m1 m2 : ME} (ho : OpR X (compareOp op) (rdO g E f)) (ha : PE X a (rdE g E m1)) (hb : PE X b (rdE g E m2)) (hm : behindInMarks op b = false := by first | exact nomark _ (by decide) (by decide) | rfl) :
    PT X (.Compare a [op] [b] pos) (rdT g E (mB (mBin f m1 m2))) :=
  weakT (pt_cmpR ho ha hb hm) fun σ H Q ⟨ρ, env, mh, s, w, fin⟩ => by
    refine binM ⟨ρ, env, mh, s, w, fin.unbind.imp fun d mh1 ρ1 H1 _ k1 p1 w1 f1 v r1 => ?_⟩
    cases d with
    | bl k =>
      cases (show v = .bl k from r1)
      exact ⟨k, rfl, f1 ρ1 H1 Kp.refl (List.prefix_refl _) w1⟩
    | _ => exact f1.elim
def mtAnd (x y : MT) : MT := fun env mh => (x env mh).bind fun k mh1 => if k then y env mh1 else .ok false mh1
def mtOr (x y : MT) : MT := fun env mh => (x env mh).bind fun k mh1 => if k then .ok true mh1 else y env mh1
def mtNot (x : MT) : MT := fun env mh => (x env mh).bind fun k mh1 => .ok (!k) mh1
theorem pwm_and1 {x : MT} (ha : PT X a (rdT g E x)) : PW X (.BoolOp .And [a] pos) (rdT g E x) := pw_and1 ha
theorem pwm_or1 {x : MT} (ha : PT X a (rdT g E x)) : PW X (.BoolOp .Or [a] pos) (rdT g E x) := pw_or1 ha
theorem pwm_and {x y : MT} (ha : PT X a (rdT g E x)) (hb : PW X (.BoolOp .And (b :: rest) pos) (rdT g E y)) : PW X (.BoolOp .And (a :: b :: rest) pos) (rdT g E (mtAnd x y)) :=
  weakW (pw_and ha hb) fun σ H Q ⟨ρ, env, mh, s, w, fin⟩ => by
    refine ⟨ρ, env, mh, s, w, fin.unbind.imp fun k mh1 ρ1 H1 _ k1 p1 w1 f1 => ?_⟩
    cases k with
    | true => exact ⟨ρ1, env, mh1, s.mono k1 p1, w1, f1⟩
    | false => exact f1 ρ1 H1 Kp.refl (List.prefix_refl _) w1
theorem pwm_or {x y : MT} (ha : PT X a (rdT g E x)) (hb : PW X (.BoolOp .Or (b :: rest) pos) (rdT g E y)) : PW X (.BoolOp .Or (a :: b :: rest) pos) (rdT g E (mtOr x y)) :=
  weakW (pw_or ha hb) fun σ H Q ⟨ρ, env, mh, s, w, fin⟩ => by
    refine ⟨ρ, env, mh, s, w, fin.unbind.imp fun k mh1 ρ1 H1 _ k1 p1 w1 f1 => ?_⟩
    cases k with
    | true => exact f1 ρ1 H1 Kp.refl (List.prefix_refl _) w1
    | false => exact ⟨ρ1, env, mh1, s.mono k1 p1, w1, f1⟩
theorem ptm_not {x : MT} (ha : PT X a (rdT g E x)) : PT X (.UnaryOp .Not a pos) (rdT g E (mtNot x)) :=
  weakT (pt_not ha) fun σ H Q ⟨ρ, env, mh, s, w, fin⟩ =>
    ⟨ρ, env, mh, s, w, fin.unbind.imp fun k mh1 ρ1 H1 _ k1 p1 w1 f1 => f1 ρ1 H1 Kp.refl (List.prefix_refl _) w1⟩
def mIf (t : MT) (x y : ME) : ME := fun env mh => (t env mh).bind fun k mh1 => if k then x env mh1 else y env mh1
theorem pm_if {t : MT} {x y : ME} (hc : PT X c (rdT g E t)) (ha : PE X a (rdE g E x)) (hb : PE X b (rdE g E y)) : PE X (.IfExp c a b pos) (rdE g E (mIf t x y)) :=
  weakE (pe_ifExp hc ha hb) fun σ H Q ⟨ρ, env, mh, s, w, fin⟩ => by
    refine ⟨ρ, env, mh, s, w, fin.unbind.imp fun k mh1 ρ1 H1 _ k1 p1 w1 f1 => ?_⟩
    cases k with
    | true => exact ⟨ρ1, env, mh1, s.mono k1 p1, w1, f1⟩
    | false => exact ⟨ρ1, env, mh1, s.mono k1 p1, w1, f1⟩

/-! ### arguments, displays -/
def mNil : MA := fun _ mh => .ok [] mh
def mCons (x : ME) (xs : MA) : MA := fun env mh => (x env mh).bind fun d mh1 => (xs env mh1).bind fun ds mh2 => .ok (d :: ds) mh2
theorem pam_nil : PA X [] (rdA g E mNil) := weakA pa_nil fun σ H Q ⟨ρ, env, mh, s, w, fin⟩ => Fin.here w fin [] rfl
theorem pam_cons {x : ME} {xs : MA} (ha : PE X e (rdE g E x)) (hr : PA X es (rdA g E xs)) (hs : starEach (e :: es) X.env = (false, eval e X.env) :: starEach es X.env := by rfl) : PA X (e :: es) (rdA g E (mCons x xs)) :=
  weakA (pa_cons ha hr hs) fun σ H Q ⟨ρ, env, mh, s, w, fin⟩ => by
    refine ⟨ρ, env, mh, s, w, fin.unbind.imp fun d mh1 ρ1 H1 _ k1 p1 w1 f1 v r1 => ?_⟩
    refine ⟨ρ1, env, mh1, s.mono k1 p1, w1, f1.unbind.imp fun ds mh2 ρ2 H2 _ k2 p2 w2 f2 vs r2 => ?_⟩
    exact Fin.here w2 f2 (v :: vs) ⟨v, vs, rfl, r1.mono k2 p2, r2⟩
def mTup (xs : MA) : ME := fun env mh => (xs env mh).bind fun ds mh1 => if ds.length ≤ SL then .ok (.tup ds) mh1 else .bad
def mLst (xs : MA) : ME := fun env mh => (xs env mh).bind fun ds mh1 => if ds.length ≤ SL then .ok (.ref mh1.length) (mh1 ++ [.lst ds]) else .bad
theorem pm_tup {xs : MA} {x1 : Nat} (h : PA X es (rdA g E xs)) : PE X (.Tuple es x1 pos) (rdE g E (mTup xs)) :=
  weakE (pe_tup h) fun σ H Q ⟨ρ, env, mh, s, w, fin⟩ => by
    refine ⟨ρ, env, mh, s, w, fin.unbind.imp fun ds mh1 ρ1 H1 _ k1 p1 w1 f1 vs r1 => ?_⟩
    split at f1
    · rename_i c
      exact ⟨by rw [r1.length, ← SL_eq]; exact c, fun p hp => ansT w1 f1 hp r1⟩
    · exact f1.elim
theorem pm_lst {xs : MA} (h : PA X es (rdA g E xs)) : PE X (.List es pos) (rdE g E (mLst xs)) :=
  weakE (pe_lst h) fun σ H Q ⟨ρ, env, mh, s, w, fin⟩ => by
    refine ⟨ρ, env, mh, s, w, fin.unbind.imp fun ds mh1 ρ1 H1 _ k1 p1 w1 f1 vs r1 => ?_⟩
    split at f1
    · rename_i c
      exact ⟨by rw [r1.length, ← SL_eq]; exact c, fun p hp => ansL w1 f1 hp r1⟩
    · exact f1.elim

/-! ### items -/
theorem Reps.atI {K : PySem.W.Frag} {ρ : List Addr} {H : Hp} {ds : List D} {vs : List V} {i : Int} {d : D} (r : Reps K ρ H ds vs) (h : atI ds i = some d) : ∃ v, atI vs i = some v ∧ Rep K ρ H d v := by
  unfold L2.atI at h ⊢
  rw [r.length]
  cases hi : ixN ds.length i with
  | none => rw [hi] at h; cases h
  | some j =>
    rw [hi] at h
    obtain ⟨v, h1, h2⟩ := r.get (i := j) (d := d) h
    exact ⟨v, h1, h2⟩
def opIx : MO2 := fun x y mh => match x, y with
  | .tup ds, .int i => match atI ds i with
    | some d => .ok d mh
    | none => .bad
  | .ref k, .int i => match lsAt mh k with
    | some ds => match atI ds i with
      | some d => .ok d mh
      | none => .bad
    | none => .bad
  | .str z, .int i => if z.length ≤ SL then match atI z.cps.toList i with
      | some c => .ok (.str ⟨#[c]⟩) mh
      | none => .bad
    else .bad
  | _, _ => .bad
theorem ixM {x y : V} {H : Hp} {Q : VK} {ρ : List Addr} {mh : MH} {d1 d2 : D} {K : PySem.W.Frag} {ex : Nat → Addr} (w : WR K ρ H mh) (r1 : Rep K ρ H d1 x) (r2 : Rep K ρ H d2 y) (fin : Fin ⟨K, ex⟩ E ρ H (QV ⟨K, ex⟩ Q) (opIx d1 d2 mh)) : rIx K x y H Q := by
  cases d2 with
  | int i =>
    cases d1 with
    | tup ds =>
      unfold opIx at fin
      dsimp only at fin
      split at fin
      · rename_i d hd
        obtain ⟨a, vs, rfl, s, q⟩ := r1
        obtain ⟨v, h1, h2⟩ := q.atI hd
        exact .inr (.inl ⟨a, vs, i, v, rfl, r2, s, h1, ansV w fin h2⟩)
      · exact fin.elim
    | ref k =>
      unfold opIx at fin
      dsimp only at fin
      split at fin
      · rename_i ds hds
        split at fin
        · rename_i d hd
          obtain ⟨a, rfl, ha⟩ := r1
          obtain ⟨vs, s, q⟩ := w.seqL (lsAt_or hds) ha
          obtain ⟨v, h1, h2⟩ := q.atI hd
          exact .inl ⟨a, vs, i, v, rfl, r2, s, h1, ansV w fin h2⟩
        · exact fin.elim
      · exact fin.elim
    | str z =>
      unfold opIx at fin
      dsimp only at fin
      split at fin
      · rename_i hz
        split at fin
        · rename_i c hc
          exact .inr (.inr ⟨z, i, c, r1, r2, by rw [← SL_eq]; exact hz, hc, ansV w fin rfl⟩)
        · exact fin.elim
      · exact fin.elim
    | _ => exact fin.elim
  | _ => cases d1 <;> exact fin.elim
theorem pm_ix {m1 m2 : ME} (ha : PE X a (rdE g E m1)) (hb : PE X b (rdE g E m2)) (hs : PlainIx b := by exact fun _ _ => rfl) (hK : X.K = g.K := by rfl) : PE X (.Subscript a b pos) (rdE g E (mBin opIx m1 m2)) := by
  obtain ⟨K, ex⟩ := g
  dsimp only at hK
  subst hK
  refine weakE (pe_ix ix_seq ha hb hs) fun σ H Q h => ?_
  obtain ⟨ρ, env, mh, s, w, fin⟩ := h
  refine ⟨ρ, env, mh, s, w, fin.unbind.imp fun x mh1 ρ1 H1 _ k1 p1 w1 f1 v r1 => ?_⟩
  refine ⟨ρ1, env, mh1, s.mono k1 p1, w1, f1.unbind.imp fun y mh2 ρ2 H2 _ k2 p2 w2 f2 u r2 => ?_⟩
  exact ixM w2 (r1.mono k2 p2) r2 f2

/-! ### slices -/
abbrev MP := Env → MH → Res (Option Int)
def rdP (g : Gi) (E : XK) (m : MP) : TO := fun σ H Q => ∃ ρ env mh, Sl g.K ρ H env σ ∧ WR g.K ρ H mh ∧ Fin g E ρ H (fun o _ _ H' => Q o H') (m env mh)
def mP0 : MP := fun _ mh => .ok none mh
def mP1 (x : ME) : MP := fun env mh => (x env mh).bind fun d mh1 => match d with
  | .int i => .ok (some i) mh1
  | _ => .bad
theorem weakP {o : Option Expr} {t t' : TO} (h : PO X o t) (k : ∀ σ H Q, t' σ H Q → t σ H Q) : PO X o t' := ⟨fun pins s σ H Q I hw => h.run pins s σ H Q I (k _ _ _ hw)⟩
theorem pom_none : PO X none (rdP g E mP0) := weakP po_none fun σ H Q ⟨ρ, env, mh, s, w, fin⟩ => Fin.here w fin
theorem pom_some {x : ME} (h : PE X e (rdE g E x)) : PO X (some e) (rdP g E (mP1 x)) :=
  weakP (po_some h) fun σ H Q ⟨ρ, env, mh, s, w, fin⟩ => by
    refine ⟨ρ, env, mh, s, w, fin.unbind.imp fun d mh1 ρ1 H1 _ k1 p1 w1 f1 v r1 => ?_⟩
    cases d with
    | int i => exact ⟨i, r1, Fin.here w1 f1⟩
    | _ => exact f1.elim
def cutD (ds : List D) (lo hi : Option Int) : List D := (ds.drop (HT.sIx ds.length 0 lo)).take (HT.sIx ds.length ds.length hi - HT.sIx ds.length 0 lo)
def opSl (x : D) (lo hi : Option Int) (mh : MH) : Res D := match x with
  | .str z => if z.length ≤ SL then .ok (.str (cutS z lo hi)) mh else .bad
  | .tup ds => .ok (.tup (cutD ds lo hi)) mh
  | .ref k => match lsAt mh k with
    | some ds => .ok (.ref mh.length) (mh ++ [.lst (cutD ds lo hi)])
    | none => .bad
  | _ => .bad
theorem Reps.cut {K : PySem.W.Frag} {ρ : List Addr} {H : Hp} {ds : List D} {vs : List V} (r : Reps K ρ H ds vs) (lo hi : Option Int) : Reps K ρ H (cutD ds lo hi) (cutV vs lo hi) := by
  unfold cutD cutV
  rw [r.length]
  exact (r.drop _).take _
def mSl (x : ME) (lo hi : MP) : ME := fun env mh => (x env mh).bind fun d mh1 => (lo env mh1).bind fun l mh2 => (hi env mh2).bind fun h mh3 => opSl d l h mh3
theorem pm_sl {x : ME} {lo hi : Option Expr} {ml mu : MP} {p2 : Pos} (he : PE X e (rdE g E x)) (hl : PO X lo (rdP g E ml)) (hu : PO X hi (rdP g E mu)) (hK : X.K = g.K := by rfl) : PE X (.Subscript e (.Slice lo hi none p2) pos) (rdE g E (mSl x ml mu)) := by
  obtain ⟨K, ex⟩ := g
  dsimp only at hK
  subst hK
  refine weakE (pe_slice (SlR.or sl_str (SlR.or sl_tupA sl_list)) he hl hu) fun σ H Q ⟨ρ, env, mh, s, w, fin⟩ => ?_
  refine ⟨ρ, env, mh, s, w, fin.unbind.imp fun d mh1 ρ1 H1 _ k1 p1 w1 f1 v r1 => ?_⟩
  refine ⟨ρ1, env, mh1, s.mono k1 p1, w1, f1.unbind.imp fun l mh2 ρ2 H2 _ k2 p2 w2 f2 => ?_⟩
  refine ⟨ρ2, env, mh2, (s.mono k1 p1).mono k2 p2, w2, f2.unbind.imp fun h mh3 ρ3 H3 _ k3 p3 w3 f3 => ?_⟩
  have r3 := (r1.mono k2 p2).mono k3 p3
  cases d with
  | str z =>
    unfold opSl at f3
    dsimp only at f3
    split at f3
    · rename_i c
      exact .inl ⟨z, r3, by rw [← SL_eq]; exact c, ansV w3 f3 rfl⟩
    · exact f3.elim
  | tup ds =>
    obtain ⟨a, vs, rfl, sq, q⟩ := r3
    refine .inr (.inl ⟨a, vs, rfl, sq, fun c => ?_, fun _ p hp => ansT w3 f3 hp (q.cut l h)⟩)
    refine ansV w3 f3 ⟨a, vs, rfl, sq, ?_⟩
    have e : cutV vs l h = vs := by
      unfold cutV
      rw [c.1, c.2]
      simp
    have z := q.cut l h
    rw [e] at z
    exact z
  | ref k =>
    unfold opSl at f3
    dsimp only at f3
    split at f3
    · rename_i ds hds
      obtain ⟨a, rfl, ha⟩ := r3
      obtain ⟨vs, sq, q⟩ := w3.seqL (lsAt_or hds) ha
      exact .inr (.inr ⟨a, vs, rfl, sq, fun p hp => ansL w3 f3 hp (q.cut l h)⟩)
    · exact f3.elim
  | _ => exact f3.elim

/-! ### calls of built-in functions and types -/
abbrev MC1 := List D → MH → Res D
def rdC (g : Gi) (E : XK) (f : MC1) : List V → Hp → VK → Prop := fun vs H Q => ∃ ρ mh ds, WR g.K ρ H mh ∧ Reps g.K ρ H ds vs ∧ Fin g E ρ H (QV g Q) (f ds mh)
def mCB (f : MC1) (xs : MA) : ME := fun env mh => (xs env mh).bind f
theorem CallR.cases {o : Value} {f : MC1} (h : ∀ ρ mh ds vs H Q, WR g.K ρ H mh → Reps g.K ρ H ds vs → Fin g E ρ H (QV g Q) (f ds mh) → ∃ r, CallR X o r ∧ r vs H Q) : CallR X o (rdC g E f) :=
  fun pins s σ H vs us Q I rs ⟨ρ, mh, ds, w, r1, fin⟩ => by
    obtain ⟨r, hr, q⟩ := h ρ mh ds vs H Q w r1 fin
    exact hr pins s σ H vs us Q I rs q
theorem cbM {f : MC1} {xs : MA} {σ : L2.St} {H : Hp} {Q : VK} (h : rdE g E (mCB f xs) σ H Q) : tCB (rdC g E f) (rdA g E xs) σ H Q := by
  obtain ⟨ρ, env, mh, s, w, fin⟩ := h
  exact ⟨ρ, env, mh, s, w, fin.unbind.imp fun ds mh1 ρ1 H1 _ k1 p1 w1 f1 vs r1 => ⟨ρ1, mh1, ds, w1, r1, f1⟩⟩
theorem pm_callB {x : Str} {p : Pos} {id : String} {f : MC1} {xs : MA} (hc : CallR X (.builtin id) (rdC g E f)) (hg : Gl X x) (hm : X.mg x = none) (hv : bootBuiltins x = some (.builtin id)) (ha : PA X (e :: es) (rdA g E xs)) (hn : x ≠ "__name__" := by decide) (hdb : (x == ("__debug__" : Str)) = false := by decide)
    (he : starEach (e :: es) X.env = (false, eval e X.env) :: starEach es X.env := by rfl) (hpl : (backTo pos (starEach es X.env)).any (·.1) = false := by rfl) : PE X (.Call (.Name x p) (e :: es) [] pos) (rdE g E (mCB f xs)) :=
  weakE (pe_callB hc hg hm hv ha hn hdb he hpl) fun _ _ _ h => cbM h
theorem pm_callTy {x : Str} {p : Pos} {id : String} {f : MC1} {xs : MA} (hc : CallR X (.type id) (rdC g E f)) (hg : Gl X x) (hm : X.mg x = none) (hv : bootBuiltins x = some (.type id)) (ha : PA X (e :: es) (rdA g E xs)) (hn : x ≠ "__name__" := by decide) (hdb : (x == ("__debug__" : Str)) = false := by decide)
    (he : starEach (e :: es) X.env = (false, eval e X.env) :: starEach es X.env := by rfl) (hpl : (backTo pos (starEach es X.env)).any (·.1) = false := by rfl) : PE X (.Call (.Name x p) (e :: es) [] pos) (rdE g E (mCB f xs)) :=
  weakE (pe_callTy hc hg hm hv ha hn hdb he hpl) fun _ _ _ h => cbM h

/-- len -/
def cLen : MC1 := fun ds mh => match ds with
  | [.str z] => if z.length ≤ SL then .ok (.int z.length) mh else .bad
  | [.tup ds] => .ok (.int ds.length) mh
  | [.ref k] => match lsAt mh k with
    | some ds => .ok (.int ds.length) mh
    | none => .bad
  | _ => .bad
theorem cm_len (hK : X.K = g.K := by rfl) : CallR X (.builtin "len") (rdC g E cLen) := CallR.cases fun ρ mh ds vs H Q w r fin => by
  obtain ⟨K, ex⟩ := g
  dsimp only at hK
  subst hK
  unfold cLen at fin
  split at fin
  · rename_i z
    obtain ⟨v, u, rfl, r1, r2⟩ := r
    cases (show u = [] from r2)
    split at fin
    · rename_i c
      refine ⟨_, call_len, v, z.length, rfl, ?_, ansV w fin rfl⟩
      cases (show v = .str z from r1)
      exact ⟨by rw [← SL_eq]; exact c, rfl⟩
    · exact fin.elim
  · rename_i ds
    obtain ⟨v, u, rfl, r1, r2⟩ := r
    cases (show u = [] from r2)
    obtain ⟨a, vs, rfl, s, q⟩ := r1
    exact ⟨_, call_len, .ref a, vs.length, rfl, .inr ⟨vs, s, rfl⟩, by rw [q.length]; exact ansV w fin rfl⟩
  · rename_i k
    obtain ⟨v, u, rfl, r1, r2⟩ := r
    cases (show u = [] from r2)
    split at fin
    · rename_i ds hds
      obtain ⟨a, rfl, ha⟩ := r1
      obtain ⟨vs, s, q⟩ := w.seqL (lsAt_or hds) ha
      exact ⟨_, call_len, .ref a, vs.length, rfl, .inl ⟨vs, s, rfl⟩, by rw [q.length]; exact ansV w fin rfl⟩
    · exact fin.elim
  · exact fin.elim
/-- list(xs) -/
def cList : MC1 := fun ds mh => match ds with
  | [.tup ds] => .ok (.ref mh.length) (mh ++ [.lst ds])
  | [.ref k] => match lsAt mh k with
    | some ds => .ok (.ref mh.length) (mh ++ [.lst ds])
    | none => .bad
  | _ => .bad
theorem cm_list (hK : X.K = g.K := by rfl) : CallR X (.type "list") (rdC g E cList) := CallR.cases fun ρ mh ds vs H Q w r fin => by
  obtain ⟨K, ex⟩ := g
  dsimp only at hK
  subst hK
  unfold cList at fin
  split at fin
  · rename_i ds
    obtain ⟨v, u, rfl, r1, r2⟩ := r
    cases (show u = [] from r2)
    obtain ⟨a, vs, rfl, s, q⟩ := r1
    exact ⟨_, call_list_of, a, vs, rfl, .inr s, fun l hl => ansL w fin hl q⟩
  · rename_i k
    obtain ⟨v, u, rfl, r1, r2⟩ := r
    cases (show u = [] from r2)
    split at fin
    · rename_i ds hds
      obtain ⟨a, rfl, ha⟩ := r1
      obtain ⟨vs, s, q⟩ := w.seqL (lsAt_or hds) ha
      exact ⟨_, call_list_of, a, vs, rfl, .inl s, fun l hl => ansL w fin hl q⟩
    · exact fin.elim
  · exact fin.elim
/-- tuple(xs) -/
def cTuple : MC1 := fun ds mh => match ds with
  | [.tup ds] => .ok (.tup ds) mh
  | [.ref k] => match lsAt mh k with
    | some ds => .ok (.tup ds) mh
    | none => .bad
  | _ => .bad
theorem cm_tuple (hK : X.K = g.K := by rfl) : CallR X (.type "tuple") (rdC g E cTuple) := CallR.cases fun ρ mh ds vs H Q w r fin => by
  obtain ⟨K, ex⟩ := g
  dsimp only at hK
  subst hK
  unfold cTuple at fin
  split at fin
  · rename_i ds
    obtain ⟨v, u, rfl, r1, r2⟩ := r
    cases (show u = [] from r2)
    obtain ⟨a, vs, rfl, s, q⟩ := r1
    exact ⟨_, call_tuple_of, a, vs, rfl, .inr ⟨s, ansV w fin ⟨a, vs, rfl, s, q⟩⟩⟩
  · rename_i k
    obtain ⟨v, u, rfl, r1, r2⟩ := r
    cases (show u = [] from r2)
    split at fin
    · rename_i ds hds
      obtain ⟨a, rfl, ha⟩ := r1
      obtain ⟨vs, s, q⟩ := w.seqL (lsAt_or hds) ha
      exact ⟨_, call_tuple_of, a, vs, rfl, .inl ⟨s, fun l hl => ansT w fin hl q⟩⟩
    · exact fin.elim
  · exact fin.elim
/-- str(x) of an int or a text; int(x) of an int -/
def cStr : MC1 := fun ds mh => match ds with
  | [.int i] => if i.natAbs.log2 < 1920 then .ok (.str (toString i : String)) mh else .bad
  | _ => .bad
theorem cm_str : CallR X (.type "str") (rdC g E cStr) := CallR.cases fun ρ mh ds vs H Q w r fin => by
  unfold cStr at fin
  split at fin
  · rename_i i
    obtain ⟨v, u, rfl, r1, r2⟩ := r
    cases (show u = [] from r2)
    split at fin
    · rename_i c
      exact ⟨_, call_str_int, i, by rw [show v = .int i from r1], c, ansV w fin rfl⟩
    · exact fin.elim
  · exact fin.elim
def cMin2 : MC1 := fun ds mh => match ds with
  | [.int i, .int j] => .ok (.int (if j < i then j else i)) mh
  | _ => .bad
def cMax2 : MC1 := fun ds mh => match ds with
  | [.int i, .int j] => .ok (.int (if j > i then j else i)) mh
  | _ => .bad
theorem two_of {K : PySem.W.Frag} {ρ : List Addr} {H : Hp} {i j : Int} {vs : List V} (r : Reps K ρ H [.int i, .int j] vs) : vs = [.int i, .int j] := by
  obtain ⟨v, u, rfl, r1, v2, u2, rfl, r2, r3⟩ := r
  cases (show u2 = [] from r3)
  rw [show v = .int i from r1, show v2 = .int j from r2]
theorem cm_min2 (hc : X.calm = true) : CallR X (.builtin "min") (rdC g E cMin2) := CallR.cases fun ρ mh ds vs H Q w r fin => by
  unfold cMin2 at fin
  split at fin
  · rename_i i j
    exact ⟨_, call_min2 hc, i, j, two_of r, ansV w fin rfl⟩
  · exact fin.elim
theorem cm_max2 (hc : X.calm = true) : CallR X (.builtin "max") (rdC g E cMax2) := CallR.cases fun ρ mh ds vs H Q w r fin => by
  unfold cMax2 at fin
  split at fin
  · rename_i i j
    exact ⟨_, call_max2 hc, i, j, two_of r, ansV w fin rfl⟩
  · exact fin.elim
/-- all(xs) of a list of bools -/
def bls : List D → Option (List Bool)
  | [] => some []
  | .bl b :: ds => (bls ds).map (b :: ·)
  | _ => none
theorem bls_of {K : PySem.W.Frag} {ρ : List Addr} {H : Hp} : ∀ {ds : List D} {vs : List V} {bs : List Bool}, Reps K ρ H ds vs → bls ds = some bs → vs = bs.map V.bl
  | [], vs, bs, r, h => by cases h; exact r
  | .bl b :: ds, vs, bs, r, h => by
    obtain ⟨v, u, rfl, r1, r2⟩ := r
    simp only [bls, Option.map_eq_some_iff] at h
    obtain ⟨cs, h1, rfl⟩ := h
    rw [show v = .bl b from r1, bls_of r2 h1]; rfl
  | .non :: ds, vs, bs, r, h => by cases h
  | .int _ :: ds, vs, bs, r, h => by cases h
  | .str _ :: ds, vs, bs, r, h => by cases h
  | .tup _ :: ds, vs, bs, r, h => by cases h
  | .ref _ :: ds, vs, bs, r, h => by cases h
def cAll : MC1 := fun ds mh => match ds with
  | [.ref k] => match (lsAt mh k).bind bls with
    | some bs => .ok (.bl (bs.all id)) mh
    | none => .bad
  | _ => .bad
theorem cm_all (hc : X.calm = true) (hK : X.K = g.K := by rfl) : CallR X (.builtin "all") (rdC g E cAll) := CallR.cases fun ρ mh ds vs H Q w r fin => by
  obtain ⟨K, ex⟩ := g
  dsimp only at hK
  subst hK
  unfold cAll at fin
  split at fin
  · rename_i k
    obtain ⟨v, u, rfl, r1, r2⟩ := r
    cases (show u = [] from r2)
    split at fin
    · rename_i bs hbs
      obtain ⟨ds, hds, hb⟩ := Option.bind_eq_some_iff.mp hbs
      obtain ⟨a, rfl, ha⟩ := r1
      obtain ⟨vs, s, q⟩ := w.seqL (lsAt_or hds) ha
      rw [bls_of q hb] at s
      exact ⟨_, cr_all hc, a, bs, rfl, s, ansV w fin rfl⟩
    · exact fin.elim
  · exact fin.elim
end
end Mi

set_option Elab.async false
set_option linter.all false
set_option maxRecDepth 100000
set_option maxHeartbeats 4000000
/-! Mi3: statements, targets, while, for, list comprehensions, defs and their calls. -/
namespace Mi
open PySem PySem.Spec PyProof.Rows L2

section
variable {X : Cx} {g : Gi} {E : XK} {pos : Pos} {e : Expr} {es : List Expr} {st : Stmt} {rest : List Stmt}

theorem FlOk.from {D : Ends} {ρ ρ' : List Addr} {H H' : Hp} {f : Fl} (h : FlOk g.K D ρ H f) : FlOk g.K D ρ H f := h
/-! ### blocks -/
def mSkip : MS := fun env mh => .ok (.nx env) mh
def mBad : MS := fun _ _ => .bad
def mSeq (a b : MS) : MS := fun env mh => (a env mh).bind fun f mh1 => match f with
  | .nx env' => b env' mh1
  | f => .ok f mh1
theorem bad_elim {t : TS} {D : Ends} {σ : L2.St} {H : Hp} (h : rdS g E mBad D σ H) : t D σ H := by
  obtain ⟨ρ, env, mh, s, w, fin⟩ := h
  exact fin.elim
theorem sm_bad : PS X st (rdS g E mBad) := weakS ps_never fun D σ H h => bad_elim h
theorem ssm_bad : PSs X rest (rdS g E mBad) := weakSs pss_never fun D σ H h => bad_elim h
theorem ssm_nil : PSs X [] (rdS g E mSkip) := weakSs pss_nil fun D σ H ⟨ρ, env, mh, s, w, fin⟩ => Fin.here w fin σ s
theorem seqM {a b : MS} {D : Ends} {σ : L2.St} {H : Hp} (h : rdS g E (mSeq a b) D σ H) : tSeq (rdS g E a) (rdS g E b) D σ H := by
  obtain ⟨ρ, env, mh, s, w, fin⟩ := h
  refine ⟨ρ, env, mh, s, w, fin.unbind.imp fun f mh1 ρ1 H1 _ k1 p1 w1 f1 => ?_⟩
  cases f with
  | nx env' => exact fun σ' s' => ⟨ρ1, env', mh1, s', w1, f1⟩
  | rt d => exact Fin.here w1 f1
  | bk env' => exact Fin.here w1 f1
  | ct env' => exact Fin.here w1 f1
theorem ssm_cons {a b : MS} (h1 : PS X st (rdS g E a)) (h2 : PSs X rest (rdS g E b)) : PSs X (st :: rest) (rdS g E (mSeq a b)) := weakSs (pss_cons h1 h2) fun _ _ _ h => seqM h
theorem ssm_one {a : MS} (h1 : PS X st (rdS g E a)) : PSs X [st] (rdS g E a) := pss_one h1
theorem sm_pass : PS X (.Pass pos) (rdS g E mSkip) := weakS ps_pass fun D σ H ⟨ρ, env, mh, s, w, fin⟩ => Fin.here w fin σ s
def mBreak : MS := fun env mh => .ok (.bk env) mh
def mCont : MS := fun env mh => .ok (.ct env) mh
theorem sm_break : PS X (.Break pos) (rdS g E mBreak) := weakS ps_break fun D σ H ⟨ρ, env, mh, s, w, fin⟩ => Fin.here w fin σ s
theorem sm_cont : PS X (.Continue pos) (rdS g E mCont) := weakS ps_continue fun D σ H ⟨ρ, env, mh, s, w, fin⟩ => Fin.here w fin σ s
def mDrop (x : ME) : MS := fun env mh => (x env mh).bind fun _ mh1 => .ok (.nx env) mh1
theorem sm_expr {x : ME} (he : PE X e (rdE g E x)) (hs : swapsWith e none pos.line X.env = pure false := by rfl) : PS X (.Expr e pos) (rdS g E (mDrop x)) :=
  weakS (ps_expr he hs) fun D σ H ⟨ρ, env, mh, s, w, fin⟩ =>
    ⟨ρ, env, mh, s, w, fin.unbind.imp fun d mh1 ρ1 H1 _ k1 p1 w1 f1 v r1 => Fin.here w1 f1 σ (s.mono k1 p1)⟩
def mRet (x : ME) : MS := fun env mh => (x env mh).bind fun d mh1 => .ok (.rt d) mh1
theorem sm_ret {x : ME} (he : PE X e (rdE g E x)) : PS X (.Return (some e) pos) (rdS g E (mRet x)) :=
  weakS (ps_ret he) fun D σ H ⟨ρ, env, mh, s, w, fin⟩ =>
    ⟨ρ, env, mh, s, w, fin.unbind.imp fun d mh1 ρ1 H1 _ k1 p1 w1 f1 v r1 => Fin.here w1 f1 v r1⟩
def mRetN : MS := fun _ mh => .ok (.rt .non) mh
theorem sm_retN : PS X (.Return none pos) (rdS g E mRetN) := weakS ps_retN fun D σ H ⟨ρ, env, mh, s, w, fin⟩ => Fin.here w fin .non rfl
def mIfS (c : MT) (a b : MS) : MS := fun env mh => (c env mh).bind fun k mh1 => if k then a env mh1 else b env mh1
theorem sm_if {c : Expr} {a b : List Stmt} {t : MT} {m1 m2 : MS} (hc : PT X c (rdT g E t)) (ha : PSs X a (rdS g E m1)) (hb : PSs X b (rdS g E m2)) : PS X (.If c a b pos) (rdS g E (mIfS t m1 m2)) :=
  weakS (ps_if hc ha hb) fun D σ H ⟨ρ, env, mh, s, w, fin⟩ => by
    refine ⟨ρ, env, mh, s, w, fin.unbind.imp fun k mh1 ρ1 H1 _ k1 p1 w1 f1 => ?_⟩
    cases k with
    | true => exact ⟨ρ1, env, mh1, s.mono k1 p1, w1, f1⟩
    | false => exact ⟨ρ1, env, mh1, s.mono k1 p1, w1, f1⟩

/-! ### assignments -/
def mSet (i : Nat) (x : ME) : MS := fun env mh => (x env mh).bind fun d mh1 => .ok (.nx (env.set i (some d))) mh1
theorem setM {i : Nat} {x : ME} {D : Ends} {σ : L2.St} {H : Hp} (h : rdS g E (mSet i x) D σ H) : tAsg (rdE g E x) (gName i) D σ H := by
  obtain ⟨ρ, env, mh, s, w, fin⟩ := h
  exact ⟨ρ, env, mh, s, w, fin.unbind.imp fun d mh1 ρ1 H1 _ k1 p1 w1 f1 v r1 => Fin.here w1 f1 _ ((s.mono k1 p1).put r1 i)⟩
theorem sm_set {i : Nat} {x : Str} {pos' : Pos} {m : ME} (hN : X.N.Nodup) (hi : X.N[i]? = some x) (hx : Loc X.env.scope x) (he : PE X e (rdE g E m)) (hs : swapsWith e (some (.Name x pos')) pos.line X.env = pure false := by rfl)
    (hf : X.fn x = true ∨ X.env.scope.names.lookup x = some .local := by first | exact .inl rfl | exact .inr rfl | assumption) : PS X (.Assign [.Name x pos'] e pos) (rdS g E (mSet i m)) :=
  weakS (ps_set hN hi hx he hs hf) fun _ _ _ h => setM h
/-- a target that stores the names of the slots vs alone -/
def Oth (vs : List Nat) (σ σ' : L2.St) : Prop := σ'.length = σ.length ∧ ∀ (j : Nat), j ∉ vs → σ'[j]? = σ[j]?
theorem Oth.refl {vs : List Nat} {σ : L2.St} : Oth vs σ σ := ⟨rfl, fun _ _ => rfl⟩
theorem Oth.trans {vs : List Nat} {σ σ1 σ2 : L2.St} (a : Oth vs σ σ1) (b : Oth vs σ1 σ2) : Oth vs σ σ2 := ⟨b.1.trans a.1, fun j h => (b.2 j h).trans (a.2 j h)⟩
def rdN (g : Gi) (vs : List Nat) (m : D → Env → Option Env) : TG := fun v σ H Q => ∃ ρ env mh d env', Sl g.K ρ H env σ ∧ WR g.K ρ H mh ∧ Rep g.K ρ H d v ∧ m d env = some env' ∧ ∀ σ', Sl g.K ρ H env' σ' → Oth vs σ σ' → Q σ' H
def rdNs (g : Gi) (vs : List Nat) (m : List D → Env → Option Env) : TGs := fun us σ H Q => ∃ ρ env mh ds env', Sl g.K ρ H env σ ∧ WR g.K ρ H mh ∧ Reps g.K ρ H ds us ∧ m ds env = some env' ∧ ∀ σ', Sl g.K ρ H env' σ' → Oth vs σ σ' → Q σ' H
theorem weakG {tg : Expr} {t t' : TG} (h : PG X tg t) (k : ∀ v σ H Q, t' v σ H Q → t v σ H Q) : PG X tg t' := ⟨fun pins s σ H v u Q I r hw => h.run pins s σ H v u Q I r (k _ _ _ _ hw)⟩
theorem weakGs {tg : List Expr} {t t' : TGs} (h : PGs X tg t) (k : ∀ v σ H Q, t' v σ H Q → t v σ H Q) : PGs X tg t' := ⟨fun pins s σ H v u Q I r hw => h.run pins s σ H v u Q I r (k _ _ _ _ hw)⟩
def nName (i : Nat) : D → Env → Option Env := fun d env => some (env.set i (some d))
theorem gm_name {vs : List Nat} {i : Nat} {x : Str} {p : Pos} (hN : X.N.Nodup) (hi : X.N[i]? = some x) (hx : Loc X.env.scope x) (hv : i ∈ vs := by decide) (hf : X.fn x = true ∨ X.env.scope.names.lookup x = some .local := by first | exact .inl rfl | exact .inr rfl | assumption) : PG X (.Name x p) (rdN g vs (nName i)) :=
  weakG (pg_name hN hi hx hf) fun v σ H Q ⟨ρ, env, mh, d, env', s, w, r, e, q⟩ => by
    cases e
    refine q _ (s.put r i) ⟨by simp, fun j hj => List.getElem?_set_ne fun e => hj (by rw [← e]; exact hv)⟩
def nNil : List D → Env → Option Env := fun ds env => match ds with
  | [] => some env
  | _ => none
def nCons (a : D → Env → Option Env) (b : List D → Env → Option Env) : List D → Env → Option Env := fun ds env => match ds with
  | d :: ds => (a d env).bind fun env1 => b ds env1
  | _ => none
theorem gms_nil {vs : List Nat} : PGs X [] (rdNs g vs nNil) := weakGs pgs_nil fun v σ H Q ⟨ρ, env, mh, ds, env', s, w, r, e, q⟩ => by
  unfold nNil at e
  split at e
  · cases e
    cases (show v = [] from r)
    exact ⟨rfl, q _ s Oth.refl⟩
  · cases e
theorem gms_cons {vs : List Nat} {t : Expr} {ts : List Expr} {a : D → Env → Option Env} {b : List D → Env → Option Env} (h : PG X t (rdN g vs a)) (k : PGs X ts (rdNs g vs b)) (hs : (assignEach (t :: ts) X.env).map (·.2) = assign t X.env :: (assignEach ts X.env).map (·.2) := by rfl) : PGs X (t :: ts) (rdNs g vs (nCons a b)) :=
  weakGs (pgs_cons h k hs) fun us σ H Q ⟨ρ, env, mh, ds, env', s, w, r, e, q⟩ => by
    unfold nCons at e
    split at e
    · rename_i d ds
      obtain ⟨v, u, rfl, r1, r2⟩ := r
      obtain ⟨env1, e1, e2⟩ := Option.bind_eq_some_iff.mp e
      exact ⟨v, u, rfl, ρ, env, mh, d, env1, s, w, r1, e1, fun σ1 s1 o1 => ⟨ρ, env1, mh, ds, env', s1, w, r2, e2, fun σ2 s2 o2 => q σ2 s2 (o1.trans o2)⟩⟩
    · cases e
def nTup (n : Nat) (b : List D → Env → Option Env) : D → Env → Option Env := fun d env => match d with
  | .tup ds => if ds.length = n then b ds env else none
  | _ => none
theorem gm_tup {vs : List Nat} {es : List Expr} {k : Nat} {b : List D → Env → Option Env} {n : Nat} (hc : X.calm = true) (h : PGs X es (rdNs g vs b)) (hn : (assignEach es X.env).length = n := by rfl) (hst : (assignEach es X.env).findIdx? (·.1) = none := by rfl) (hK : X.K = g.K := by rfl) :
    PG X (.Tuple es k pos) (rdN g vs (nTup n b)) := by
  obtain ⟨K, ex⟩ := g
  dsimp only at hK
  subst hK
  refine weakG (pg_tup hc h hn hst) fun v σ H Q ⟨ρ, env, mh, d, env', s, w, r, e, q⟩ => ?_
  cases d with
  | tup ds =>
    unfold nTup at e
    dsimp only at e
    split at e
    · rename_i c
      obtain ⟨a, us, rfl, sq, rs⟩ := r
      exact ⟨a, us, rfl, sq, by rw [rs.length]; exact c, ρ, env, mh, ds, env', s, w, rs, e, q⟩
    · cases e
  | _ => cases e
def mAsgN (x : ME) (t : D → Env → Option Env) : MS := fun env mh => (x env mh).bind fun d mh1 => match t d env with
  | some env' => .ok (.nx env') mh1
  | none => .bad
theorem sm_asgN {vs : List Nat} {tg : Expr} {x : ME} {t : D → Env → Option Env} (he : PE X e (rdE g E x)) (hg : PG X tg (rdN g vs t)) (hs : swapsWithSole [tg] e pos.line X.env = pure false := by rfl) (hw : swappedStores [tg] e X.env = pure none := by rfl)
    (h1 : (assignEach [tg] X.env).map (·.2) = [assign tg X.env] := by rfl) : PS X (.Assign [tg] e pos) (rdS g E (mAsgN x t)) :=
  weakS (ps_asg he hg hs hw h1) fun D σ H ⟨ρ, env, mh, s, w, fin⟩ => by
    refine ⟨ρ, env, mh, s, w, fin.unbind.imp fun d mh1 ρ1 H1 _ k1 p1 w1 f1 v r1 => ?_⟩
    split at f1
    · rename_i env' e
      exact ⟨ρ1, env, mh1, d, env', s.mono k1 p1, w1, r1, e, fun σ' s' _ => Fin.here w1 f1 σ' s'⟩
    · exact f1.elim
/-- xs[i] = e (lists) -/
def opSetL (o i v : D) (mh : MH) : Res Unit := match o, i with
  | .ref k, .int j => match mh[k]? with
    | some (.lst ds) => match ixN ds.length j with
      | some n => .ok () (mh.set k (.lst (ds.set n v)))
      | none => .bad
    | _ => .bad
  | _, _ => .bad
def mSetIx (x o i : ME) : MS := fun env mh => (x env mh).bind fun d mh1 => (o env mh1).bind fun y mh2 => (i env mh2).bind fun z mh3 => (opSetL y z d mh3).bind fun _ mh4 => .ok (.nx env) mh4
theorem setLM {o i v : V} {H : Hp} {Q : Hp → Prop} {ρ : List Addr} {mh : MH} {d1 d2 d3 : D} {α : Type} {a : α} {P : α → MH → List Addr → Hp → Prop} (w : WR g.K ρ H mh) (r1 : Rep g.K ρ H d1 o) (r2 : Rep g.K ρ H d2 i) (r3 : Rep g.K ρ H d3 v)
    (fin : Fin g E ρ H P ((opSetL d1 d2 d3 mh).bind fun _ mh4 => .ok a mh4)) (k : ∀ mh' ρ' H', Kp g.K H H' → ρ <+: ρ' → WR g.K ρ' H' mh' → P a mh' ρ' H' → Q H') : rSetL o i v H Q := by
  unfold opSetL at fin
  split at fin
  · rename_i n j
    split at fin
    · rename_i ds hk
      split at fin
      · rename_i m hm
        obtain ⟨b, rfl, hb⟩ := r1
        obtain ⟨vs, hv, rs⟩ := w.lstAt hk hb
        refine ⟨b, vs, j, m, rfl, r2, hv, by rw [rs.length]; exact hm, ?_⟩
        have kp := w.kp (ho := .lst (vs.set m v)) hk trivial hb
        have w' := w.set (o' := .lst (ds.set m d3)) (ho := .lst (vs.set m v)) hk trivial trivial hb ⟨_, upd_same, (rs.mono kp (List.prefix_refl _)).set m (r3.mono kp (List.prefix_refl _))⟩
        exact k _ ρ _ kp (List.prefix_refl _) w' (fin ρ _ kp (List.prefix_refl _) w')
      · exact fin.elim
    · exact fin.elim
  · exact fin.elim
theorem sm_setIx {o i : Expr} {pos' : Pos} {x mo mi : ME} (he : PE X e (rdE g E x)) (ho : PE X o (rdE g E mo)) (hi : PE X i (rdE g E mi)) (hs : swapsWithSole [.Subscript o i pos'] e pos.line X.env = pure false := by rfl) (hw : swappedStores [.Subscript o i pos'] e X.env = pure none := by rfl)
    (ha : ∀ v, assign (.Subscript o i pos') X.env v = (do
      let ov ← holding [v] (eval o X.env)
      let iv ← holding [v, ov] (eval i X.env)
      standAt pos'
      holding [v, ov, iv] (setItem ov iv v)
      release [v, ov, iv] []) := by intro _; rfl)
    (h1 : (assignEach [.Subscript o i pos'] X.env).map (·.2) = [assign (.Subscript o i pos') X.env] := by rfl) : PS X (.Assign [.Subscript o i pos'] e pos) (rdS g E (mSetIx x mo mi)) :=
  weakS (ps_asg he (pg_sub ho hi set_list ha) hs hw h1) fun D σ H ⟨ρ, env, mh, s, w, fin⟩ => by
    refine ⟨ρ, env, mh, s, w, fin.unbind.imp fun d mh1 ρ1 H1 _ k1 p1 w1 f1 v r1 => ?_⟩
    refine ⟨ρ1, env, mh1, s.mono k1 p1, w1, f1.unbind.imp fun y mh2 ρ2 H2 _ k2 p2 w2 f2 u r2 => ?_⟩
    refine ⟨ρ2, env, mh2, (s.mono k1 p1).mono k2 p2, w2, f2.unbind.imp fun z mh3 ρ3 H3 _ k3 p3 w3 f3 t r3 => ?_⟩
    exact setLM w3 (r2.mono k3 p3) r3 ((r1.mono k2 p2).mono k3 p3) f3 fun mh' ρ' H' k4 p4 w4 q => q σ ((((s.mono k1 p1).mono k2 p2).mono k3 p3).mono k4 p4)
/-- x op= e, of ints -/
def mAug (i : Nat) (f : Int → Int → Int) (x : ME) : MS := fun env mh => match env[i]? with
  | some (some (.int d)) => (x env mh).bind fun y mh1 => match y with
    | .int z => .ok (.nx (env.set i (some (.int (f d z))))) mh1
    | _ => .bad
  | _ => .bad
theorem sm_aug {i : Nat} {x : Str} {op : Operator} {f : Int → Int → Int} {pos' : Pos} {m : ME} (ho : PIp X op (ipI f)) (hN : X.N.Nodup) (hi : X.N[i]? = some x) (hx : Loc X.env.scope x) (he : PE X e (rdE g E m))
    (hf : X.fn x = true ∨ X.env.scope.names.lookup x = some .local := by first | exact .inl rfl | exact .inr rfl | assumption) : PS X (.AugAssign (.Name x pos') op e pos) (rdS g E (mAug i f m)) :=
  weakS (ps_aug hN hi hx he ho hf) fun D σ H ⟨ρ, env, mh, s, w, fin⟩ => by
    unfold mAug at fin
    split at fin
    · rename_i d hd
      obtain ⟨v, h1, h2⟩ := s.2 i _ hd
      refine ⟨v, h1, ρ, env, mh, s, w, fin.unbind.imp fun y mh1 ρ1 H1 he k1 p1 w1 f1 u r1 => ?_⟩
      clear he
      split at f1
      · rename_i z
        exact ⟨d, z, h2, r1, Fin.here w1 f1 _ ((s.mono k1 p1).put (d := .int (f d z)) (v := .int (f d z)) rfl i)⟩
      · exact f1.elim
    · exact fin.elim

/-! ### while -/
/-- at most n turns -/
def mWhile (c : MT) (b : MS) : Nat → MS
  | 0 => mBad
  | n + 1 => fun env mh => (c env mh).bind fun k mh1 => if k then (b env mh1).bind fun f mh2 => match f with
      | .nx env' => mWhile c b n env' mh2
      | .ct env' => mWhile c b n env' mh2
      | .bk env' => .ok (.nx env') mh2
      | .rt d => .ok (.rt d) mh2
    else .ok (.nx env) mh1
theorem sm_while {c : Expr} {body : List Stmt} {t : MT} {b : MS} (n : Nat) (hp : PassesOwn (model X.prog X.w) X.A X.env X.xe) (hc : PT X c (rdT g E t)) (hb : PSs X body (rdS g E b)) : PS X (.While c body [] pos) (rdS g E (mWhile t b n)) :=
  weakS (ps_while hp hc hb) fun D σ H h => by
    refine ⟨fun m σ H => rdS g E (mWhile t b m) D σ H, ⟨n, h⟩, fun m σ H ⟨ρ, env, mh, s, w, fin⟩ => ?_⟩
    cases m with
    | zero => exact fin.elim
    | succ m =>
      refine ⟨ρ, env, mh, s, w, fin.unbind.imp fun k mh1 ρ1 H1 _ k1 p1 w1 f1 => ?_⟩
      cases k with
      | true =>
        refine ⟨fun σ' H' => rdS g E (mWhile t b m) D σ' H', fun σ' H' q => ⟨m, Nat.lt_succ_self m, q⟩, ?_⟩
        refine ⟨ρ1, env, mh1, s.mono k1 p1, w1, (Fin.unbind f1).imp fun f mh2 ρ2 H2 _ k2 p2 w2 f2 => ?_⟩
        cases f with
        | nx env' => exact fun σ' s' => ⟨ρ2, env', mh2, s', w2, f2⟩
        | ct env' => exact fun σ' s' => ⟨ρ2, env', mh2, s', w2, f2⟩
        | bk env' => exact Fin.here w2 f2
        | rt d => exact Fin.here w2 f2
      | false => exact Fin.here w1 f1 σ (s.mono k1 p1)

/-! ### what is walked -/
/-- the item at turn i, by the heap as it then is: some none at the end -/
abbrev Src := Nat → MH → Option (Option D)
def SrcOk (K : PySem.W.Frag) (ρ : List Addr) (H : Hp) (src : Src) (J : It) : Prop :=
  ∀ (i : Nat) (ρ' : List Addr) (H' : Hp) (mh' : MH), Kp K H H' → ρ <+: ρ' → WR K ρ' H' mh' →
    (∀ d, src i mh' = some (some d) → J.go i H' ∧ ∀ x H'', J.yld i H' x H'' → Kp K H' H'' ∧ WR K ρ' H'' mh' ∧ Rep K ρ' H'' d x) ∧ (src i mh' = some none → J.stop i H')
abbrev MI := Env → MH → Res (Nat × Src)
def rdI (g : Gi) (E : XK) (m : MI) : TI := fun σ H R => ∃ ρ env mh, Sl g.K ρ H env σ ∧ WR g.K ρ H mh ∧ Fin g E ρ H (fun p _ ρ' H' => ∀ J, SrcOk g.K ρ' H' p.2 J → R J H') (m env mh)
def srcL (k : Nat) : Src := fun i mh => (lsAt mh k).map fun ds => ds[i]?
def srcT (ds : List D) : Src := fun i _ => some ds[i]?
def srcS (x : Str) : Src := fun i _ => some ((x.cps[i]?).map fun c => .str ⟨#[c]⟩)
def srcR (lo : Int) (n : Nat) : Src := fun i _ => some (if i < n then some (.int (lo + i)) else none)
def srcRC (lo c : Int) (n : Nat) : Src := fun i _ => some (if i < n then some (.int (lo + (i : Nat) * c)) else none)
theorem srcL_ok {K : PySem.W.Frag} {ρ : List Addr} {H : Hp} {k : Nat} {a : Addr} (ha : ρ[k]? = some a) : SrcOk K ρ H (srcL k) (Itl K a) := fun i ρ' H' mh' kp pp w => by
  have ha' := pre_get pp ha
  refine ⟨fun d e => ?_, fun e => ?_⟩
  · simp only [srcL, Option.map_eq_some_iff] at e
    obtain ⟨ds, h1, h2⟩ := e
    obtain ⟨vs, s, q⟩ := w.seqL (lsAt_or h1) ha'
    obtain ⟨v, q1, q2⟩ := q.get h2
    refine ⟨⟨vs, v, s, q1⟩, fun x H'' y => ?_⟩
    obtain ⟨e, y⟩ := y
    subst e
    have z := y vs s
    rw [q1] at z
    cases z
    exact ⟨Kp.refl, w, q2⟩
  · simp only [srcL, Option.map_eq_some_iff] at e
    obtain ⟨ds, h1, h2⟩ := e
    obtain ⟨vs, s, q⟩ := w.seqL (lsAt_or h1) ha'
    exact ⟨vs, s, by rw [q.length]; exact List.getElem?_eq_none_iff.mp h2⟩
theorem srcT_ok {K : PySem.W.Frag} {ρ : List Addr} {H : Hp} {ds : List D} {vs : List V} {a : Addr} (s : SqT K H a vs) (q : Reps K ρ H ds vs) : SrcOk K ρ H (srcT ds) (Itt K a) := fun i ρ' H' mh' kp pp w => by
  have s' := kp a vs s
  have q' := q.mono kp pp
  refine ⟨fun d e => ?_, fun e => ?_⟩
  · have h2 : ds[i]? = some d := Option.some.inj e
    obtain ⟨v, q1, q2⟩ := q'.get h2
    refine ⟨⟨vs, v, s', q1⟩, fun x H'' y => ?_⟩
    obtain ⟨e, y⟩ := y
    subst e
    have z := y vs s'
    rw [q1] at z
    cases z
    exact ⟨Kp.refl, w, q2⟩
  · have h2 : ds[i]? = none := Option.some.inj e
    exact ⟨vs, s', by rw [q.length]; exact List.getElem?_eq_none_iff.mp h2⟩
theorem srcS_ok {K : PySem.W.Frag} {ρ : List Addr} {H : Hp} {x : Str} : SrcOk K ρ H (srcS x) (Its x) := fun i ρ' H' mh' kp pp w => by
  refine ⟨fun d e => ?_, fun e => ?_⟩
  · have h2 := Option.some.inj e
    obtain ⟨c, h3, rfl⟩ := Option.map_eq_some_iff.mp h2
    refine ⟨(Array.getElem?_eq_some_iff.mp h3).1, fun y H'' q => ?_⟩
    obtain ⟨rfl, c', h4, rfl⟩ := q
    rw [h3] at h4
    cases h4
    exact ⟨Kp.refl, w, rfl⟩
  · have h2 := Option.some.inj e
    have h3 : x.cps[i]? = none := by simpa using h2
    exact Array.getElem?_eq_none_iff.mp h3
theorem srcR_ok {K : PySem.W.Frag} {ρ : List Addr} {H : Hp} {lo : Int} {n : Nat} : SrcOk K ρ H (srcR lo n) (Itr lo n) := fun i ρ' H' mh' kp pp w => by
  refine ⟨fun d e => ?_, fun e => ?_⟩
  · have h2 := Option.some.inj e
    split at h2
    · rename_i c
      cases h2
      refine ⟨c, fun y H'' q => ?_⟩
      obtain ⟨rfl, rfl⟩ := q
      exact ⟨Kp.refl, w, rfl⟩
    · cases h2
  · have h2 := Option.some.inj e
    split at h2
    · cases h2
    · rename_i c
      exact Nat.le_of_not_lt c
/-- over a list, a tuple, a text -/
def mIter (x : ME) : MI := fun env mh => (x env mh).bind fun d mh1 => match d with
  | .ref k => match lsAt mh1 k with
    | some ds => .ok (ds.length, srcL k) mh1
    | none => .bad
  | .tup ds => .ok (ds.length, srcT ds) mh1
  | .str z => .ok (z.length, srcS z) mh1
  | _ => .bad
theorem im_iter {tg l : Expr} {x : ME} (hl : PE X l (rdE g E x)) (hK : X.K = g.K := by rfl) : PI X tg l (rdI g E (mIter x)) := by
  obtain ⟨K, ex⟩ := g
  dsimp only at hK
  subst hK
  refine ⟨fun pins s σ H R I ⟨ρ, env, mh, sl, w, fin⟩ => ?_⟩
  cases hx : x env mh with
  | bad => unfold mIter at fin; rw [hx] at fin; exact fin.elim
  | exc c fs mh1 =>
    -- the exception leaves: any of the rules
    unfold mIter at fin
    rw [hx] at fin
    exact (pi_list hl).run pins s σ H R I ⟨ρ, env, mh, sl, w, by rw [hx]; exact fin⟩
  | ok d mh1 =>
    unfold mIter at fin
    rw [hx] at fin
    cases d with
    | ref k =>
      refine (pi_list hl).run pins s σ H R I ⟨ρ, env, mh, sl, w, ?_⟩
      rw [hx]
      intro ρ1 H1 k1 p1 w1 v r1
      obtain ⟨a, rfl, ha⟩ := r1
      unfold Res.bind at fin
      dsimp only at fin
      split at fin
      · rename_i ds hds
        obtain ⟨vs, sq, q⟩ := w1.seqL (lsAt_or hds) ha
        exact ⟨a, rfl, ⟨vs, sq⟩, fin ρ1 H1 k1 p1 w1 _ (srcL_ok ha)⟩
      · exact fin.elim
    | tup ds =>
      refine (pi_tup hl).run pins s σ H R I ⟨ρ, env, mh, sl, w, ?_⟩
      rw [hx]
      intro ρ1 H1 k1 p1 w1 v r1
      obtain ⟨a, vs, rfl, sq, q⟩ := r1
      exact ⟨a, rfl, ⟨vs, sq⟩, fin ρ1 H1 k1 p1 w1 _ (srcT_ok sq q)⟩
    | str z =>
      refine (pi_str hl).run pins s σ H R I ⟨ρ, env, mh, sl, w, ?_⟩
      rw [hx]
      intro ρ1 H1 k1 p1 w1 v r1
      exact ⟨z, r1, fin ρ1 H1 k1 p1 w1 _ srcS_ok⟩
    | _ => exact fin.elim
noncomputable def inR (j : Int) : Bool := cdec (-(2 ^ 62) ≤ j ∧ j < 2 ^ 62)
theorem inR_iff {j : Int} : inR j = true ↔ (-(2 ^ 62) ≤ j ∧ j < 2 ^ 62) := by exact cdec_iff
/-- range(n) -/
noncomputable def mRng1 (xs : MA) : MI := fun env mh => (xs env mh).bind fun ds mh1 => match ds with
  | [.int j] => if inR j = true then .ok (j.toNat, srcR 0 j.toNat) mh1 else .bad
  | _ => .bad
theorem im_range1 {tg a : Expr} {xs : MA} {p pos : Pos} (hg : Gl X "range") (hm : X.mg "range" = none) (ha : PA X [a] (rdA g E xs)) (hs : starEach [a] X.env = [(false, eval a X.env)] := by rfl) : PI X tg (.Call (.Name "range" p) [a] [] pos) (rdI g E (mRng1 xs)) :=
  ⟨fun pins s σ H R I ⟨ρ, env, mh, sl, w, fin⟩ => (pi_range1 hg hm ha hs).run pins s σ H R I ⟨ρ, env, mh, sl, w, (Fin.unbind fin).imp fun ds mh1 ρ1 H1 he k1 p1 w1 f1 vs r1 => by
    clear he
    split at f1
    · rename_i j
      split at f1
      · rename_i c0
        have c := inR_iff.mp c0
        obtain ⟨v, u, rfl, r1, r2⟩ := r1
        cases (show u = [] from r2)
        exact ⟨j, by rw [show v = .int j from r1], c.1, c.2, Fin.here w1 f1 _ srcR_ok⟩
      · exact f1.elim
    · exact f1.elim⟩⟩
noncomputable def mRng2 (xs : MA) : MI := fun env mh => (xs env mh).bind fun ds mh1 => match ds with
  | [.int i, .int j] => if (inR i && inR j) = true then .ok ((j - i).toNat, srcR i (j - i).toNat) mh1 else .bad
  | _ => .bad
theorem im_range2 {tg a b : Expr} {xs : MA} {p pos : Pos} (hg : Gl X "range") (hm : X.mg "range" = none) (ha : PA X [a, b] (rdA g E xs)) (hs : starEach [a, b] X.env = [(false, eval a X.env), (false, eval b X.env)] := by rfl) (hs2 : starEach [b] X.env = [(false, eval b X.env)] := by rfl) :
    PI X tg (.Call (.Name "range" p) [a, b] [] pos) (rdI g E (mRng2 xs)) :=
  ⟨fun pins s σ H R I ⟨ρ, env, mh, sl, w, fin⟩ => (pi_range2 hg hm ha hs hs2).run pins s σ H R I ⟨ρ, env, mh, sl, w, (Fin.unbind fin).imp fun ds mh1 ρ1 H1 he k1 p1 w1 f1 vs r1 => by
    clear he
    split at f1
    · rename_i i j
      split at f1
      · rename_i c0
        have c1 := inR_iff.mp (Bool.and_eq_true_iff.mp c0).1
        have c2 := inR_iff.mp (Bool.and_eq_true_iff.mp c0).2
        have c : -(2 ^ 62) ≤ i ∧ i < 2 ^ 62 ∧ -(2 ^ 62) ≤ j ∧ j < 2 ^ 62 := ⟨c1.1, c1.2, c2.1, c2.2⟩
        exact ⟨i, j, two_of r1, c, Fin.here w1 f1 _ srcR_ok⟩
      · exact f1.elim
    · exact f1.elim⟩⟩

/-! ### for -/
def mLoop (src : Src) (t : D → Env → Option Env) (b : MS) : Nat → Nat → MS
  | 0, i => fun env mh => match src i mh with
    | some none => .ok (.nx env) mh
    | _ => .bad
  | n + 1, i => fun env mh => match src i mh with
    | some none => .ok (.nx env) mh
    | some (some d) => match t d env with
      | some env1 => (b env1 mh).bind fun f mh1 => match f with
        | .nx env' => mLoop src t b n (i + 1) env' mh1
        | .ct env' => mLoop src t b n (i + 1) env' mh1
        | .bk env' => .ok (.nx env') mh1
        | .rt d => .ok (.rt d) mh1
      | none => .bad
    | none => .bad
def mFor (it : MI) (t : D → Env → Option Env) (b : MS) : MS := fun env mh => (it env mh).bind fun p mh1 => mLoop p.2 t b p.1 0 env mh1
theorem loopM {vs : List Nat} {src : Src} {t : D → Env → Option Env} {b : MS} {J : It} {D : Ends} {ρ0 : List Addr} {H0 : Hp} (ok : SrcOk g.K ρ0 H0 src J) (n : Nat) {σ : L2.St} {H : Hp} (h0 : ∃ ρ env mh, Kp g.K H0 H ∧ ρ0 <+: ρ ∧ Sl g.K ρ H env σ ∧ WR g.K ρ H mh ∧ Fin g E ρ H (fun f _ ρ' H' => FlOk g.K D ρ' H' f) (mLoop src t b n 0 env mh)) :
    ∃ W : Nat → Nat → L2.St → Hp → Prop, (∃ m, W 0 m σ H) ∧ ∀ i m σ H, W i m σ H →
      (J.stop i H ∧ D.nx σ H) ∨ (J.go i H ∧ ∃ N : L2.St → Hp → Prop, (∀ σ' H', N σ' H' → ∃ m', m' < m ∧ W (i + 1) m' σ' H') ∧ ∀ x H', J.yld i H x H' → rdN g vs t x σ H' fun σ2 H2 => rdS g E b { D with nx := N, ct := N, bk := D.nx } σ2 H2) := by
  refine ⟨fun i m σ H => ∃ ρ env mh, Kp g.K H0 H ∧ ρ0 <+: ρ ∧ Sl g.K ρ H env σ ∧ WR g.K ρ H mh ∧ Fin g E ρ H (fun f _ ρ' H' => FlOk g.K D ρ' H' f) (mLoop src t b m i env mh), ⟨n, h0⟩, ?_⟩
  rintro i m σ H ⟨ρ, env, mh, k0, p0, s, w, fin⟩
  obtain ⟨go, stop⟩ := ok i ρ H mh k0 p0 w
  cases hs : src i mh with
  | none =>
    cases m <;> (unfold mLoop at fin; rw [hs] at fin; exact fin.elim)
  | some o =>
    cases o with
    | none =>
      refine .inl ⟨stop hs, ?_⟩
      cases m <;> (unfold mLoop at fin; rw [hs] at fin; exact Fin.here w fin σ s)
    | some d =>
      cases m with
      | zero => unfold mLoop at fin; rw [hs] at fin; exact fin.elim
      | succ m =>
        unfold mLoop at fin
        rw [hs] at fin
        dsimp only at fin
        obtain ⟨hg, hy⟩ := go d hs
        refine .inr ⟨hg, fun σ' H' => ∃ ρ env mh, Kp g.K H0 H' ∧ ρ0 <+: ρ ∧ Sl g.K ρ H' env σ' ∧ WR g.K ρ H' mh ∧ Fin g E ρ H' (fun f _ ρ' H' => FlOk g.K D ρ' H' f) (mLoop src t b m (i + 1) env mh), fun σ' H' q => ⟨m, Nat.lt_succ_self m, q⟩, fun x H' y => ?_⟩
        obtain ⟨k1, w1, r1⟩ := hy x H' y
        have s1 := s.mono k1 (List.prefix_refl ρ)
        split at fin
        · rename_i env1 he
          refine ⟨ρ, env, mh, d, env1, s1, w1, r1, he, fun σ2 s2 _ => ⟨ρ, env1, mh, s2, w1, (Fin.unbind (fin.from k1 (List.prefix_refl ρ))).imp fun f mh2 ρ2 H2 _ k2 p2 w2 f2 => ?_⟩⟩
          cases f with
          | nx env' => exact fun σ3 s3 => ⟨ρ2, env', mh2, (k0.trans k1).trans k2, p0.trans p2, s3, w2, f2⟩
          | ct env' => exact fun σ3 s3 => ⟨ρ2, env', mh2, (k0.trans k1).trans k2, p0.trans p2, s3, w2, f2⟩
          | bk env' => exact Fin.here w2 f2
          | rt d => exact Fin.here w2 f2
        · exact fin.elim
theorem sm_for {vs : List Nat} {tg iter : Expr} {body : List Stmt} {it : MI} {t : D → Env → Option Env} {b : MS} (hp : PassesOwn (model X.prog X.w) X.A X.env X.xe) (hc : X.calm = true) (hi : PI X tg iter (rdI g E it)) (hg : PG X tg (rdN g vs t)) (hb : PSs X body (rdS g E b))
    (hs : ∀ x, foldedSetIterable iter X.env x = pure x := by intro _; rfl) : PS X (.For tg iter body [] pos) (rdS g E (mFor it t b)) :=
  weakS (ps_for hp hc hi hg hb hs) fun D σ H ⟨ρ, env, mh, s, w, fin⟩ =>
    ⟨ρ, env, mh, s, w, fin.unbind.imp fun p mh1 ρ1 H1 _ k1 p1 w1 f1 J ok => loopM ok p.1 ⟨ρ1, env, mh1, Kp.refl, List.prefix_refl _, s.mono k1 p1, w1, f1⟩⟩

/-! ### list comprehensions -/
def Res.safe {α : Type} : Res α → Res α
  | .ok a h => .ok a h
  | _ => .bad
theorem Fin.unsafe' {α β : Type} {ρ : List Addr} {H : Hp} {E' : XK} {Q : β → MH → List Addr → Hp → Prop} {r : Res α} {f : α → MH → Res β} (h : Fin g E ρ H Q (r.safe.bind f)) : Fin g E' ρ H (fun a mh ρ1 H1 => Fin g E ρ1 H1 Q (f a mh)) r := by
  cases r with
  | ok a mh =>
    intro ρ' H' k p w
    exact Fin.from (r := f a mh) h k p
  | exc c fs mh => exact h.elim
  | bad => exact h.elim
def wipeE (env : Env) : List Nat → Env
  | [] => env
  | v :: vs => (wipeE env vs).set v none
theorem Sl.unset {K : PySem.W.Frag} {ρ : List Addr} {H : Hp} {env : Env} {σ : L2.St} (s : Sl K ρ H env σ) (v : Nat) : Sl K ρ H (env.set v none) (σ.set v none) := ⟨by simp [s.1], fun i d e => by
  by_cases h : v = i
  · subst h
    by_cases hl : v < env.length
    · rw [List.getElem?_set_self hl] at e; cases e
    · rw [List.getElem?_eq_none_iff.mpr (by simpa using hl)] at e; cases e
  · rw [List.getElem?_set_ne h] at e
    obtain ⟨u, h1, h2⟩ := s.2 i d e
    exact ⟨u, by rw [List.getElem?_set_ne h]; exact h1, h2⟩⟩
theorem Sl.wipe {K : PySem.W.Frag} {ρ : List Addr} {H : Hp} {env : Env} {σ : L2.St} (s : Sl K ρ H env σ) : ∀ vs : List Nat, Sl K ρ H (wipeE env vs) (L2.wipe σ vs)
  | [] => s
  | v :: vs => (s.wipe vs).unset v
theorem wipe_in {σ : L2.St} {i : Nat} : ∀ {vs : List Nat}, i ∈ vs → i < σ.length → (L2.wipe σ vs)[i]? = some none
  | v :: vs, h, hl => by
    unfold L2.wipe
    by_cases e : v = i
    · subst e
      exact List.getElem?_set_self (by rw [L2.wipe_length]; exact hl)
    · rw [List.getElem?_set_ne e]
      rcases List.mem_cons.mp h with h | h
      · exact absurd h.symm e
      · exact wipe_in h hl
theorem wipe_oth {σ σ' : L2.St} {vs : List Nat} (h : Oth vs (L2.wipe σ vs) σ') : L2.wipe σ' vs = L2.wipe σ vs := by
  refine List.ext_getElem? fun i => ?_
  by_cases hi : i ∈ vs
  · by_cases hl : i < σ.length
    · have hl' : i < σ'.length := by rw [h.1, L2.wipe_length]; exact hl
      rw [wipe_in hi hl, wipe_in hi hl']
    · have a1 : (L2.wipe σ' vs).length ≤ i := by rw [L2.wipe_length, h.1, L2.wipe_length]; exact Nat.le_of_not_lt hl
      have a2 : (L2.wipe σ vs).length ≤ i := by rw [L2.wipe_length]; exact Nat.le_of_not_lt hl
      rw [List.getElem?_eq_none_iff.mpr a1, List.getElem?_eq_none_iff.mpr a2]
  · rw [L2.wipe_out hi]
    exact h.2 i hi
def mCLoop (src : Src) (k : Nat) (t : D → Env → Option Env) (c : MT) (elt : ME) (env : Env) : Nat → Nat → MH → Res D
  | 0, i => fun mh => match src i mh with
    | some none => .ok (.ref k) mh
    | _ => .bad
  | n + 1, i => fun mh => match src i mh with
    | some none => .ok (.ref k) mh
    | some (some d) => match t d env with
      | some env1 => (c env1 mh).safe.bind fun b mh1 => if b then (elt env1 mh1).safe.bind fun y mh2 => match mh2[k]? with
          | some (.lst acc) => if acc.length < SL then mCLoop src k t c elt env n (i + 1) (mh2.set k (.lst (acc ++ [y]))) else .bad
          | _ => .bad
        else mCLoop src k t c elt env n (i + 1) mh1
      | none => .bad
    | none => .bad
def mComp (it : MI) (t : D → Env → Option Env) (c : MT) (elt : ME) (vs : List Nat) : ME := fun env mh => (it env mh).bind fun p mh1 => mCLoop p.2 mh1.length t c elt (wipeE env vs) p.1 0 (mh1 ++ [.lst []])
def mYes : MT := fun _ mh => .ok true mh
theorem compM {it : MI} {t : D → Env → Option Env} {c : MT} {elt : ME} {vs : List Nat} {σ : L2.St} {H : Hp} {Q : VK} (h : rdE g E (mComp it t c elt vs) σ H Q) : tLc (rdI g E it) (rdN g vs t) (rdT g E0 c) (rdE g E0 elt) vs σ H Q := by
  obtain ⟨ρ, env, mh, s, w, fin⟩ := h
  refine ⟨ρ, env, mh, s, w, fin.unbind.imp fun p mh1 ρ1 H1 _ k1 p1 w1 f1 J ok L hL => ?_⟩
  have preL : ρ1 <+: ρ1 ++ [L] := List.prefix_append _ _
  have w2 : WR g.K (ρ1 ++ [L]) (upd H1 L (.lst [])) (mh1 ++ [.lst []]) := w1.new hL trivial ⟨[], upd_same, rfl⟩
  have hk : (ρ1 ++ [L])[mh1.length]? = some L := by rw [← w1.len]; simp
  have s2 : Sl g.K (ρ1 ++ [L]) (upd H1 L (.lst [])) (wipeE env vs) (L2.wipe σ vs) := ((s.mono k1 p1).mono (Kp.new hL) preL).wipe vs
  refine ⟨fun i m H' => ∃ ρ' mh', Kp g.K H1 H' ∧ (ρ1 ++ [L]) <+: ρ' ∧ Sl g.K ρ' H' (wipeE env vs) (L2.wipe σ vs) ∧ WR g.K ρ' H' mh' ∧ Fin g E ρ' H' (QV g Q) (mCLoop p.2 mh1.length t c elt (wipeE env vs) m i mh'),
    ⟨p.1, ρ1 ++ [L], mh1 ++ [.lst []], Kp.new hL, List.prefix_refl _, s2, w2, f1.from (Kp.new hL) preL⟩, ?_⟩
  rintro i m H' ⟨ρ', mh', k0, p0, s0, w0, f0⟩
  obtain ⟨go, stop⟩ := ok i ρ' H' mh' k0 (preL.trans p0) w0
  have hk' : ρ'[mh1.length]? = some L := pre_get p0 hk
  cases hs : p.2 i mh' with
  | none =>
    cases m <;> (unfold mCLoop at f0; rw [hs] at f0; exact f0.elim)
  | some o =>
    cases o with
    | none =>
      refine .inl ⟨stop hs, ?_⟩
      cases m <;> (unfold mCLoop at f0; rw [hs] at f0; exact Fin.here w0 f0 _ ⟨L, rfl, hk'⟩)
    | some d =>
      cases m with
      | zero => unfold mCLoop at f0; rw [hs] at f0; exact f0.elim
      | succ m =>
        unfold mCLoop at f0
        rw [hs] at f0
        dsimp only at f0
        obtain ⟨hg, hy⟩ := go d hs
        refine .inr ⟨hg, fun H'' => ∃ ρ' mh', Kp g.K H1 H'' ∧ (ρ1 ++ [L]) <+: ρ' ∧ Sl g.K ρ' H'' (wipeE env vs) (L2.wipe σ vs) ∧ WR g.K ρ' H'' mh' ∧ Fin g E ρ' H'' (QV g Q) (mCLoop p.2 mh1.length t c elt (wipeE env vs) m (i + 1) mh'), fun H'' q => ⟨m, Nat.lt_succ_self m, q⟩, fun x H2 y => ?_⟩
        obtain ⟨k2, w2', r2⟩ := hy x H2 y
        have s2' := s0.mono k2 (List.prefix_refl ρ')
        split at f0
        · rename_i env1 he
          refine ⟨ρ', wipeE env vs, mh', d, env1, s2', w2', r2, he, fun σ3 s3 o3 => ⟨wipe_oth o3, ?_⟩⟩
          refine ⟨ρ', env1, mh', s3, w2', (Fin.unsafe' (f0.from k2 (List.prefix_refl ρ'))).imp fun b mh3 ρ3 H3 _ k3 p3 w3 f3 => ?_⟩
          cases b with
          | false => exact ⟨ρ3, mh3, (k0.trans k2).trans k3, p0.trans p3, s2'.mono k3 p3, w3, f3⟩
          | true =>
            refine ⟨ρ3, env1, mh3, s3.mono k3 p3, w3, (Fin.unsafe' (show Fin g E ρ3 H3 (QV g Q) (Res.bind (Res.safe (elt env1 mh3)) _) from f3)).imp fun y mh4 ρ4 H4 hh k4 p4 w4 f4 v r4 => ?_⟩
            clear hh
            split at f4
            · rename_i acc hacc
              split at f4
              · rename_i hz
                have hk4 : ρ4[mh1.length]? = some L := pre_get p4 (pre_get p3 hk')
                obtain ⟨us, hu, ru⟩ := w4.lstAt hacc hk4
                have kp := w4.kp (ho := .lst (us ++ [v])) hacc trivial hk4
                refine ⟨us, hu, by rw [ru.length, ← SL_eq]; exact hz, ρ4, _, (((k0.trans k2).trans k3).trans k4).trans kp, (p0.trans p3).trans p4, ((s2'.mono k3 p3).mono k4 p4).mono kp (List.prefix_refl _),
                  w4.set (o' := .lst (acc ++ [y])) hacc trivial trivial hk4 ⟨_, upd_same, (ru.mono kp (List.prefix_refl _)).app (Reps.one (r4.mono kp (List.prefix_refl _)))⟩, f4.from kp (List.prefix_refl _)⟩
              · exact f4.elim
            · exact f4.elim
        · exact f0.elim
theorem weakTs {ifs : List Expr} {t t' : TT} (h : PTs X ifs t) (k : ∀ σ H Q, t' σ H Q → t σ H Q) : PTs X ifs t' := ⟨fun pins s σ H Q I hw => h.run pins s σ H Q I (k _ _ _ hw)⟩
theorem ptsm_nil : PTs X [] (rdT g E mYes) := weakTs pts_nil fun σ H Q ⟨ρ, env, mh, s, w, fin⟩ => Fin.here w fin
theorem ptsm_one {c : Expr} {t : MT} (h : PT X c (rdT g E t)) : PTs X [c] (rdT g E t) := pts_one h
theorem pm_lc {elt tg iter : Expr} {ifs : List Expr} {scope : Scope} {own : List (Str × Nat)} {pos : Pos} {it : MI} {t : D → Env → Option Env} {c : MT} {m : ME} (hc : X.calm = true) (hN : X.N.Nodup) (hi : PI X tg iter (rdI g E it)) (ok : BlkOk X.N X.env.scope scope own)
    (hg : ∀ (s : Shared) (H : Hp) (C : Addr) (cl : List (Str × Addr)) (fp : List Addr), PG (X.blk s H scope (compEnvC scope cl C X.env) fp) tg (rdN g (own.map (·.2)) t)) (ht : ∀ (s : Shared) (H : Hp) (C : Addr) (cl : List (Str × Addr)) (fp : List Addr), PTs (X.blk s H scope (compEnvC scope cl C X.env) fp) ifs (rdT g E0 c))
    (he : ∀ (s : Shared) (H : Hp) (C : Addr) (cl : List (Str × Addr)) (fp : List Addr), PE (X.blk s H scope (compEnvC scope cl C X.env) fp) elt (rdE g E0 m)) (hs : ∀ x, foldedSetIterable iter X.env x = pure x := by intro _; rfl) :
    PE X (.ListComp elt [⟨tg, iter, ifs, 0⟩] scope pos) (rdE g E (mComp it t c m (own.map (·.2)))) := weakE (pe_lc hc hN hi ok hg ht he hs) fun _ _ _ h => compM h
theorem sm_setLc {i : Nat} {y : Str} {py : Pos} {elt tg iter : Expr} {ifs : List Expr} {scope : Scope} {own : List (Str × Nat)} {pos spos : Pos} {it : MI} {t : D → Env → Option Env} {c : MT} {m : ME} (hc : X.calm = true) (hN : X.N.Nodup) (hy : X.N[i]? = some y) (hyl : X.env.scope.names.lookup y = some .local)
    (hsw : swapsWith (.ListComp elt [⟨tg, iter, ifs, 0⟩] scope pos) (some (.Name y py)) spos.line X.env = pure true) (hi : PI X tg iter (rdI g E it)) (ok : BlkOk X.N X.env.scope scope own)
    (hg : ∀ (s : Shared) (H : Hp) (C : Addr) (cl : List (Str × Addr)) (fp : List Addr), PG (X.blk s H scope (compEnvC scope cl C X.env) fp) tg (rdN g (own.map (·.2)) t)) (ht : ∀ (s : Shared) (H : Hp) (C : Addr) (cl : List (Str × Addr)) (fp : List Addr), PTs (X.blk s H scope (compEnvC scope cl C X.env) fp) ifs (rdT g E0 c))
    (he : ∀ (s : Shared) (H : Hp) (C : Addr) (cl : List (Str × Addr)) (fp : List Addr), PE (X.blk s H scope (compEnvC scope cl C X.env) fp) elt (rdE g E0 m)) (hs : ∀ x, foldedSetIterable iter X.env x = pure x := by intro _; rfl) :
    PS X (.Assign [.Name y py] (.ListComp elt [⟨tg, iter, ifs, 0⟩] scope pos) spos) (rdS g E (mSet i (mComp it t c m (own.map (·.2))))) :=
  weakS (ps_setLc hc hN hy hyl hsw hi ok hg ht he hs) fun D σ H h => by
    obtain ⟨ρ, env, mh, s, w, fin⟩ := h
    refine compM ⟨ρ, env, mh, s, w, fin.unbind.imp fun d mh1 ρ1 H1 _ k1 p1 w1 f1 v r1 => Fin.here w1 f1 _ ((s.mono k1 p1).put r1 i)⟩
end

/-! ### defs and their calls -/
def mDef (N : Nat) (b : MS) : MF := fun ds mh => (b (ds.map some ++ List.replicate (N - ds.length) none) mh).bind fun f mh1 => match f with
  | .nx _ => .ok .non mh1
  | .rt d => .ok d mh1
  | _ => .bad
/-- the promise: what the mirror hands back -/
def spM (g : Gi) (n : Nat) (F : MF) : Sp := fun vs H Q E => ∃ ρ mh ds, WR g.K ρ H mh ∧ Reps g.K ρ H ds vs ∧ ds.length = n ∧ Fin g E ρ H (QV g Q) (F ds mh)
theorem defM {g : Gi} {N : List Str} {b : MS} {n : Nat} {vs : List V} {H : Hp} {Q : VK} {E : XK} (h : spM g n (mDef N.length b) vs H Q E) : rdS g E b { nx := fun _ H' => Q .non H', rt := Q } (L2.start N vs) H := by
  obtain ⟨ρ, mh, ds, w, r, hn, fin⟩ := h
  refine ⟨ρ, _, mh, ⟨?_, fun i d e => ?_⟩, w, (Fin.unbind fin).imp fun f mh1 ρ1 H1 _ k1 p1 w1 f1 => ?_⟩
  · unfold L2.start
    simp [r.length]
  · unfold L2.start
    by_cases hl : i < ds.length
    · rw [List.getElem?_append_left (by simpa using hl)] at e
      rw [List.getElem?_append_left (by simp [r.length]; exact hl)]
      simp only [List.getElem?_map, Option.map_eq_some_iff] at e
      obtain ⟨d', e1, e2⟩ := e
      cases e2
      obtain ⟨v, q1, q2⟩ := r.get e1
      exact ⟨v, by simp [q1], q2⟩
    · rw [List.getElem?_append_right (by simpa using hl)] at e
      have z := List.mem_of_getElem? e
      have z2 := List.eq_of_mem_replicate z
      cases z2
  · cases f with
    | nx env => exact fun σ s => Fin.here w1 f1 .non rfl
    | rt d => exact fun v rv => Fin.here w1 f1 v rv
    | bk env => exact f1.elim
    | ct env => exact f1.elim
/-- a def that may be called: it keeps the mirror's promise up to level k -/
structure Callee (P : Program) (w : World) (g : Gi) (mg : Str → Option Value) (base : Heap) (x : Str) (k n : Nat) (F : MF) : Prop where
  ex : ∃ (f : Addr) (fd : FuncData) (ps : List Str), FnOk P w g.K mg base (L2.CX P w) k f fd ps (spM g n F) ∧ mg x = some (.ref f) ∧ PySem.W.keepIn g.K (.ref f) = true ∧ Binds g.K fd ps []
def mCall (F : MF) (xs : MA) : ME := fun env mh => (xs env mh).bind F
section
variable {X : Cx} {g : Gi} {E : XK} {pos p : Pos} {e : Expr} {es : List Expr} {x : Str} {k n : Nat} {F : MF}
theorem argsM {xs : MA} {σ : L2.St} {H : Hp} {Q : VK} (hl : ∀ env mh ds mh1, xs env mh = .ok ds mh1 → ds.length = n) (h : rdE g E (mCall F xs) σ H Q) : tCall (spM g n F) [] E (rdA g E xs) σ H Q := by
  obtain ⟨ρ, env, mh, s, w, fin⟩ := h
  refine ⟨ρ, env, mh, s, w, fin.unbind.imp fun ds mh1 ρ1 H1 he k1 p1 w1 f1 vs r1 => ?_⟩
  show spM g n F (vs ++ []) H1 Q E
  rw [List.append_nil]
  exact ⟨ρ1, mh1, ds, w1, r1, hl _ _ _ _ he, f1⟩
theorem mNil_len : ∀ env mh ds mh1, mNil env mh = .ok ds mh1 → ds.length = 0 := fun env mh ds mh1 h => by cases h; rfl
theorem mCons_len {a : ME} {xs : MA} {n : Nat} (h : ∀ env mh ds mh1, xs env mh = .ok ds mh1 → ds.length = n) : ∀ env mh ds mh1, mCons a xs env mh = .ok ds mh1 → ds.length = n + 1 := fun env mh ds mh1 e => by
  unfold mCons at e
  cases h1 : a env mh with
  | ok d mh2 =>
    rw [h1] at e
    unfold Res.bind at e
    dsimp only at e
    cases h2 : xs env mh2 with
    | ok ds2 mh3 =>
      rw [h2] at e
      cases e
      simp [h _ _ _ _ h2]
    | exc c fs mh3 => rw [h2] at e; cases e
    | bad => rw [h2] at e; cases e
  | exc c fs mh3 => rw [h1] at e; cases e
  | bad => rw [h1] at e; cases e
theorem pm_call {xs : MA} (c : Callee X.prog X.w g X.mg X.base x k n F) (hr : Room k X.A) (hg : Gl X x) (hx : Passes (L2.CX X.prog X.w) X E) (ha : PA X (e :: es) (rdA g E xs)) (hl : ∀ env mh ds mh1, xs env mh = .ok ds mh1 → ds.length = n)
    (hK : X.K = g.K := by rfl) (hd : (x == ("__debug__" : Str)) = false := by decide) (hst : starEach (e :: es) X.env = (false, eval e X.env) :: starEach es X.env := by rfl) (hpl : (backTo pos (starEach es X.env)).any (·.1) = false := by rfl) :
    PE X (.Call (.Name x p) (e :: es) [] pos) (rdE g E (mCall F xs)) := by
  obtain ⟨K, exx⟩ := g
  dsimp only at hK
  subst hK
  obtain ⟨f, fd, ps, F1, hm, hk, hb⟩ := c.ex
  exact weakE (pe_call F1 hr hg hm hk hb .nil hx ha hd hst hpl) fun _ _ _ h => argsM hl h
theorem pm_call0 (c : Callee X.prog X.w g X.mg X.base x k 0 F) (hr : Room k X.A) (hg : Gl X x) (hx : Passes (L2.CX X.prog X.w) X E) (hK : X.K = g.K := by rfl) (hd : (x == ("__debug__" : Str)) = false := by decide) :
    PE X (.Call (.Name x p) [] [] pos) (rdE g E (mCall F mNil)) := by
  obtain ⟨K, exx⟩ := g
  dsimp only at hK
  subst hK
  obtain ⟨f, fd, ps, F1, hm, hk, hb⟩ := c.ex
  refine weakE (pe_call0 F1 hr hg hm hk hb .nil hx hd) fun σ H Q ⟨ρ, env, mh, s, w, fin⟩ => ?_
  exact ⟨ρ, mh, [], w, rfl, rfl, Fin.here w (Fin.unbind (show Fin _ E ρ H (QV _ Q) ((mNil env mh).bind F) from fin))⟩
end
/-- a def of the text keeps its mirror's promise -/
theorem def_ok {P : Program} {w : World} {g : Gi} {mg : Str → Option Value} {base : Heap} {x qual : Str} {st : Stmt} {f : Addr} {fd : FuncData} {N ps : List Str} {k : Nat} {b : MS} (F : Fun g.K x qual st f fd) (S : FnScope N ps (defScope st))
    (hm : mg x = some (.ref f)) (hb : ∀ (kV doc pm : Value) (an : Option Addr) (cdv ct : Value) (us : List Value), us.length = ps.length → bindArgs (PySem.W.fnOf x qual (defArgs st) (defBody st) (defScope st) .none kV doc pm an cdv ct) ⟨us, []⟩ = pure (ps.zip us))
    (body : ∀ (cdv : Value) (A : Around) (outer : List PySem.Env) (s : Shared) (H : Hp) (E : XK), Room k (A.deeper (envOfC qual (defScope st) s.heap.objs.size f cdv)) →
      PSs (cxOf (L2.CX P w) P w g.K mg base N qual (defScope st) f cdv A outer s H E) (defBody st) (rdS g E b)) : Callee P w g mg base x (k + 1) ps.length (mDef N.length b) :=
  ⟨f, fd, ps, F.okX S (fun vs H Q E ⟨ρ, mh, ds, w, r, hn, fin⟩ => r.length.trans hn) (fun cdv A outer s H vs Q E hr h => ⟨_, body cdv A outer s H E hr, defM h⟩), hm, F.kp, F.binds hb⟩
theorem Callee.mono {P : Program} {w : World} {g : Gi} {mg : Str → Option Value} {base : Heap} {x : Str} {j k n : Nat} {F : MF} (c : Callee P w g mg base x j n F) (h : j ≤ k) : Callee P w g mg base x k n F :=
  let ⟨f, fd, ps, F1, hm, hk, hb⟩ := c.ex
  ⟨f, fd, ps, F1.mono h, hm, hk, hb⟩
end Mi

set_option Elab.async false
set_option linter.all false
set_option maxRecDepth 100000
set_option maxHeartbeats 4000000
/-! Mi4: methods of lists and texts, isinstance, int of texts. -/
namespace Mi
open PySem PySem.Spec PyProof.Rows L2

section
variable {X : Cx} {g : Gi} {E : XK} {o e : Expr} {es : List Expr} {name : Str} {apos cpos : Pos} {T id : String}
def isStrD : D → Bool
  | .str _ => true
  | _ => false
def isLstD (mh : MH) : D → Bool
  | .ref k => (lsAt mh k).isSome
  | _ => false
def tyD (T : String) (mh : MH) (d : D) : Bool := if T = "str" then isStrD d else if T = "list" then isLstD mh d else false
theorem tyD_of {K : PySem.W.Frag} {ρ : List Addr} {H : Hp} {mh : MH} {d : D} {v : V} (w : WR K ρ H mh) (r : Rep K ρ H d v) (h : tyD T mh d = true) : tyV K T v H := by
  unfold tyD at h
  split at h
  · rename_i e
    subst e
    cases d with
    | str z => cases (show v = _ from r); rfl
    | _ => cases h
  · split at h
    · rename_i e
      subst e
      cases d with
      | ref k =>
        obtain ⟨a, rfl, ha⟩ := r
        obtain ⟨ds, hd⟩ := Option.isSome_iff_exists.mp h
        obtain ⟨vs, s, _⟩ := w.seqL (lsAt_or hd) ha
        exact .inl ⟨rfl, vs, s⟩
      | _ => cases h
    · cases h
abbrev MM := D → List D → MH → Res D
def rdM (g : Gi) (E : XK) (f : MM) : V → List V → Hp → VK → Prop := fun x vs H Q => ∃ ρ mh d ds, WR g.K ρ H mh ∧ Rep g.K ρ H d x ∧ Reps g.K ρ H ds vs ∧ Fin g E ρ H (QV g Q) (f d ds mh)
theorem MtR.cases {o : String} {f : MM} (h : ∀ ρ mh d ds x vs H Q, WR g.K ρ H mh → Rep g.K ρ H d x → Reps g.K ρ H ds vs → Fin g E ρ H (QV g Q) (f d ds mh) → ∃ r, MtR X o r ∧ r x vs H Q) : MtR X o (rdM g E f) :=
  fun pins s σ H x vs v us Q I rx rs ⟨ρ, mh, d, ds, w, r1, r2, fin⟩ => by
    obtain ⟨r, hr, q⟩ := h ρ mh d ds x vs H Q w r1 r2 fin
    exact hr pins s σ H x vs v us Q I rx rs q
def mMeth0 (T : String) (f : MM) (x : ME) : ME := fun env mh => (x env mh).bind fun d mh1 => if tyD T mh1 d then f d [] mh1 else .bad
def mMeth (T : String) (f : MM) (x : ME) (xs : MA) : ME := fun env mh => (x env mh).bind fun d mh1 => if tyD T mh1 d then (xs env mh1).bind fun ds mh2 => f d ds mh2 else .bad
theorem pm_bm0 {f : MM} {x : ME} (pa : PlainAttrs T) (slot : Slot T name id) (hty : typeOf (.builtin id) = pure (.type "method_descriptor")) (hm : MtR X id (rdM g E f)) (ho : PE X o (rdE g E x)) (hK : X.K = g.K := by rfl)
    (hbase : attributeBase o name X.env (eval o X.env) = eval o X.env := by rfl) (hline : (apos.endLine == cpos.line) = true := by rfl) : PE X (.Call (.Attribute o name apos) [] [] cpos) (rdE g E (mMeth0 T f x)) := by
  obtain ⟨K, ex⟩ := g
  dsimp only at hK
  subst hK
  refine weakE (pe_bm0 pa slot hty hm ho hbase hline) fun σ H Q ⟨ρ, env, mh, s, w, fin⟩ => ?_
  refine ⟨ρ, env, mh, s, w, fin.unbind.imp fun d mh1 ρ1 H1 he k1 p1 w1 f1 v r1 => ?_⟩
  clear he
  split at f1
  · rename_i c
    exact ⟨tyD_of w1 r1 c, ρ1, mh1, d, [], w1, r1, rfl, f1⟩
  · exact f1.elim
theorem pm_bm {f : MM} {x : ME} {xs : MA} (pa : PlainAttrs T) (slot : Slot T name id) (hty : typeOf (.builtin id) = pure (.type "method_descriptor")) (hm : MtR X id (rdM g E f)) (ho : PE X o (rdE g E x)) (ha : PA X (e :: es) (rdA g E xs)) (hK : X.K = g.K := by rfl)
    (hbase : attributeBase o name X.env (eval o X.env) = eval o X.env := by rfl)
    (hfew : ((backTo cpos (starEach (e :: es) X.env)).all (fun x => !x.1) && (backToKw cpos (keywordEach [] X.env)).all (fun x => x.1.isSome)
      && decide ((e :: es).length + ([] : List Keyword).length + (if ([] : List Keyword).isEmpty then 0 else 1) < 30)) = true := by rfl)
    (hline : (apos.endLine == cpos.line) = true := by rfl) (hs : starEach (e :: es) X.env = (false, eval e X.env) :: starEach es X.env := by rfl) (hplain : (backTo cpos (starEach es X.env)).any (·.1) = false := by rfl) :
    PE X (.Call (.Attribute o name apos) (e :: es) [] cpos) (rdE g E (mMeth T f x xs)) := by
  obtain ⟨K, ex⟩ := g
  dsimp only at hK
  subst hK
  refine weakE (pe_bm pa slot hty hm ho ha hbase hfew hline hs hplain) fun σ H Q ⟨ρ, env, mh, s, w, fin⟩ => ?_
  refine ⟨ρ, env, mh, s, w, fin.unbind.imp fun d mh1 ρ1 H1 he k1 p1 w1 f1 v r1 => ?_⟩
  clear he
  split at f1
  · rename_i c
    exact ⟨tyD_of w1 r1 c, ρ1, env, mh1, s.mono k1 p1, w1, f1.unbind.imp fun ds mh2 ρ2 H2 _ k2 p2 w2 f2 vs r2 => ⟨ρ2, mh2, d, ds, w2, r1.mono k2 p2, r2, f2⟩⟩
  · exact f1.elim

/-! ### lists -/
def mdAppend : MM := fun d ds mh => match d, ds with
  | .ref k, [y] => match mh[k]? with
    | some (.lst xs) => if xs.length < SL then .ok .non (mh.set k (.lst (xs ++ [y]))) else .bad
    | _ => .bad
  | _, _ => .bad
theorem mm_append : MtR X "list.append" (rdM g E mdAppend) := MtR.cases fun ρ mh d ds x vs H Q w r1 r2 fin => by
  unfold mdAppend at fin
  split at fin
  · rename_i k y
    split at fin
    · rename_i xs hk
      split at fin
      · rename_i hz
        obtain ⟨a, rfl, ha⟩ := r1
        obtain ⟨v, u, rfl, rv, ru⟩ := r2
        cases (show u = [] from ru)
        obtain ⟨us, hu, rs⟩ := w.lstAt hk ha
        exact ⟨_, mt_append, a, us, v, rfl, rfl, hu, by rw [rs.length, ← SL_eq]; exact hz, ansM w fin hk trivial ha (rs.app (Reps.one rv)) rfl⟩
      · exact fin.elim
    · exact fin.elim
  · exact fin.elim
noncomputable def inP (i : Int) : Bool := cdec (-(2 ^ 63) ≤ i ∧ i < 2 ^ 63)
theorem inP_iff {i : Int} : inP i = true ↔ (-(2 ^ 63) ≤ i ∧ i < 2 ^ 63) := by exact cdec_iff
noncomputable def mdPop : MM := fun d ds mh => match d, ds with
  | .ref k, [] => match mh[k]? with
    | some (.lst xs) => match xs[xs.length - 1]? with
      | some y => .ok y (mh.set k (.lst xs.dropLast))
      | none => .bad
    | _ => .bad
  | .ref k, [.int i] => match mh[k]? with
    | some (.lst xs) => if inP i = true then match seqIndex? i xs.length with
        | some j => match xs[j]? with
          | some y => .ok y (mh.set k (.lst (xs.eraseIdx j)))
          | none => .bad
        | none => .bad
      else .bad
    | _ => .bad
  | _, _ => .bad
theorem Reps.dropLast {K : PySem.W.Frag} {ρ : List Addr} {H : Hp} {ds : List D} {vs : List V} (h : Reps K ρ H ds vs) : Reps K ρ H ds.dropLast vs.dropLast := by
  rw [List.dropLast_eq_take, List.dropLast_eq_take, h.length]
  exact h.take _
theorem mm_pop : MtR X "list.pop" (rdM g E mdPop) := MtR.cases fun ρ mh d ds x vs H Q w r1 r2 fin => by
  unfold mdPop at fin
  split at fin
  · rename_i k
    split at fin
    · rename_i xs hk
      split at fin
      · rename_i y hy
        obtain ⟨a, rfl, ha⟩ := r1
        cases (show vs = [] from r2)
        obtain ⟨us, hu, rs⟩ := w.lstAt hk ha
        obtain ⟨v, q1, q2⟩ := rs.get hy
        exact ⟨_, mt_pop, a, us, v, rfl, rfl, hu, by rw [rs.length]; exact q1, ansM w fin hk trivial ha rs.dropLast q2⟩
      · exact fin.elim
    · exact fin.elim
  · rename_i k i
    split at fin
    · rename_i xs hk
      split at fin
      · rename_i c0
        have c := inP_iff.mp c0
        split at fin
        · rename_i j hj
          split at fin
          · rename_i y hy
            obtain ⟨a, rfl, ha⟩ := r1
            obtain ⟨v0, u, rfl, rv, ru⟩ := r2
            cases (show u = [] from ru)
            obtain ⟨us, hu, rs⟩ := w.lstAt hk ha
            obtain ⟨v, q1, q2⟩ := rs.get hy
            exact ⟨_, mt_popAt, a, us, i, j, v, rfl, by rw [show v0 = .int i from rv], hu, c.1, c.2, by rw [rs.length]; exact hj, q1, ansM w fin hk trivial ha (rs.eraseIdx j) q2⟩
          · exact fin.elim
        · exact fin.elim
      · exact fin.elim
    · exact fin.elim
  · exact fin.elim

/-! ### texts -/
def strsD : List D → Option (List Str)
  | [] => some []
  | .str x :: ds => (strsD ds).map (x :: ·)
  | _ => none
theorem strsD_of {K : PySem.W.Frag} {ρ : List Addr} {H : Hp} : ∀ {ds : List D} {vs : List V} {ys : List Str}, Reps K ρ H ds vs → strsD ds = some ys → vs = ys.map V.str
  | [], vs, ys, r, h => by cases h; exact r
  | .str b :: ds, vs, ys, r, h => by
    obtain ⟨v, u, rfl, r1, r2⟩ := r
    simp only [strsD, Option.map_eq_some_iff] at h
    obtain ⟨cs, h1, rfl⟩ := h
    rw [show v = .str b from r1, strsD_of r2 h1]; rfl
  | .non :: ds, vs, ys, r, h => by cases h
  | .int _ :: ds, vs, ys, r, h => by cases h
  | .bl _ :: ds, vs, ys, r, h => by cases h
  | .tup _ :: ds, vs, ys, r, h => by cases h
  | .ref _ :: ds, vs, ys, r, h => by cases h
theorem strs_rep {K : PySem.W.Frag} {ρ : List Addr} {H : Hp} : ∀ (ys : List Str), Reps K ρ H (ys.map D.str) (ys.map V.str)
  | [] => rfl
  | y :: ys => ⟨.str y, ys.map V.str, rfl, rfl, strs_rep ys⟩
noncomputable def joinC (a : Str) (ys : List Str) : Bool := cdec ((ys.map (·.length)).sum + ys.length * a.length ≤ 16777216)
theorem joinC_iff {a : Str} {ys : List Str} : joinC a ys = true ↔ ((ys.map (·.length)).sum + ys.length * a.length ≤ 16777216) := by exact cdec_iff
noncomputable def mdJoin : MM := fun d ds mh => match d, ds with
  | .str a, [.ref k] => match (lsAt mh k).bind strsD with
    | some ys => if joinC a ys = true then .ok (.str (Txt.join a ys)) mh else .bad
    | none => .bad
  | _, _ => .bad
theorem mm_join (hK : X.K = g.K := by rfl) : MtR X "str.join" (rdM g E mdJoin) := MtR.cases fun ρ mh d ds x vs H Q w r1 r2 fin => by
  obtain ⟨K, ex⟩ := g
  dsimp only at hK
  subst hK
  unfold mdJoin at fin
  split at fin
  · rename_i a k
    split at fin
    · rename_i ys hys
      split at fin
      · rename_i c0
        have c := joinC_iff.mp c0
        obtain ⟨ds, hds, hy⟩ := Option.bind_eq_some_iff.mp hys
        obtain ⟨v, u, rfl, rv, ru⟩ := r2
        cases (show u = [] from ru)
        obtain ⟨b, rfl, hb⟩ := rv
        obtain ⟨us, s, q⟩ := w.seqL (lsAt_or hds) hb
        rw [strsD_of q hy] at s
        exact ⟨_, mt_join, a, b, ys, r1, rfl, .inl s, c, ansV w fin rfl⟩
      · exact fin.elim
    · exact fin.elim
  · exact fin.elim
def mdSplit : MM := fun d ds mh => match d, ds with
  | .str a, [.str b] => if b.length ≠ 0 ∧ a.length + 2 ≤ SL then .ok (.ref mh.length) (mh ++ [.lst ((Txt.split a b).map D.str)]) else .bad
  | _, _ => .bad
theorem mm_split : MtR X "str.split" (rdM g E mdSplit) := MtR.cases fun ρ mh d ds x vs H Q w r1 r2 fin => by
  unfold mdSplit at fin
  split at fin
  · rename_i a b
    split at fin
    · rename_i c
      obtain ⟨v, u, rfl, rv, ru⟩ := r2
      cases (show u = [] from ru)
      exact ⟨_, mt_split, a, b, r1, by rw [show v = .str b from rv], beq_eq_false_iff_ne.mpr c.1, by rw [← SL_eq]; exact c.2, fun p hp => ansL w fin hp (strs_rep _)⟩
    · exact fin.elim
  · exact fin.elim

/-! ### isinstance -/
def tyName (mh : MH) : D → Option String
  | .non => none
  | .bl _ => some "bool"
  | .int _ => some "int"
  | .str _ => some "str"
  | .tup _ => some "tuple"
  | .ref k => match mh[k]? with
    | some (.lst _) => some "list"
    | some (.fro _) => some "list"
    | some (.dic _) => some "dict"
    | some (.dtu _) => some "dict"
    | none => none
theorem tyName_of {K : PySem.W.Frag} {ρ : List Addr} {H : Hp} {mh : MH} {d : D} {v : V} {t : String} (w : WR K ρ H mh) (r : Rep K ρ H d v) (h : tyName mh d = some t) : TyX K H v (.type t) := by
  cases d with
  | non => cases h
  | bl b => cases h; cases (show v = _ from r); exact .base (.bl b)
  | int i => cases h; cases (show v = _ from r); exact .base (.int i)
  | str x => cases h; cases (show v = _ from r); exact .base (.str x)
  | tup ds =>
    cases h
    obtain ⟨a, vs, rfl, s, q⟩ := r
    rcases s with (s | ⟨o, s⟩) | ⟨o, its, n, h1, h2, _⟩
    · exact .base (.tup s)
    · exact .fTuple s
    · exact .kTuple h1 h2
  | ref k =>
    obtain ⟨a, rfl, ha⟩ := r
    simp only [tyName] at h
    split at h
    · rename_i ds e
      cases h
      obtain ⟨vs, q, _⟩ := w.lstAt e ha
      exact .base (.lst q)
    · rename_i ds e
      cases h
      obtain ⟨b, hb, vs, q, _⟩ := w.ob k _ e
      rw [ha] at hb; cases hb
      rcases q with ⟨o, q⟩ | ⟨o, its, n, h1, h2, _⟩
      · exact .base (.frz q)
      · exact .kList h1 h2
    · rename_i ds e
      cases h
      obtain ⟨b, hb, vs, q, _⟩ := w.ob k _ e
      rw [ha] at hb; cases hb
      exact .base (.dK q)
    · rename_i ds e
      cases h
      obtain ⟨b, hb, vs, q, _⟩ := w.ob k _ e
      rw [ha] at hb; cases hb
      exact .base (.dT q)
    · cases h
/-- isinstance(x, T), T one of the written types -/
def isIn (t T : String) : Bool := t == T || (t == "bool" && T == "int")
def mIsI (T : String) (x : ME) : ME := fun env mh => (x env mh).bind fun d mh1 => match tyName mh1 d with
  | some t => .ok (.bl (isIn t T)) mh1
  | none => .bad
def kitOk (T : String) : Bool := ["bool", "int", "str", "tuple", "list", "dict"].all fun t => decide (kitB t T = some (isIn t T))
theorem pm_isI {x : Expr} {px py pos : Pos} {T : String} {Ts : Str} {m : ME} (hT : kitOk T = true := by decide +kernel) (hg : Gl X "isinstance") (hm : X.mg "isinstance" = none) (hg2 : Gl X Ts) (hm2 : X.mg Ts = none) (hv2 : bootBuiltins Ts = some (.type T)) (hx : PE X x (rdE g E m))
    (hn2 : Ts ≠ "__name__" := by decide) (hd2 : (Ts == ("__debug__" : Str)) = false := by decide) (hK : X.K = g.K := by rfl)
    (he : starEach [x, .Name Ts py] X.env = (false, eval x X.env) :: starEach [.Name Ts py] X.env := by rfl) (he2 : starEach [.Name Ts py] X.env = (false, eval (.Name Ts py) X.env) :: starEach [] X.env := by rfl)
    (hpl : (backTo pos (starEach [.Name Ts py] X.env)).any (·.1) = false := by rfl) :
    PE X (.Call (.Name "isinstance" px) [x, .Name Ts py] [] pos) (rdE g E (mIsI T m)) := by
  obtain ⟨K, ex⟩ := g
  dsimp only at hK
  subst hK
  have hb : PE X (.Name Ts py) (tC (.ty T)) := pe_bltn hg2 hm2 hv2 rfl hn2 hd2
  refine weakE (pe_callB call_isi hg hm (by decide +kernel) (pa_cons hx (pa_cons hb pa_nil he2) he) (by decide) (by decide) he hpl) fun σ H Q ⟨ρ, env, mh, s, w, fin⟩ => ?_
  refine ⟨ρ, env, mh, s, w, fin.unbind.imp fun d mh1 ρ1 H1 hh k1 p1 w1 f1 v r1 => ?_⟩
  clear hh
  split at f1
  · rename_i t ht
    refine ⟨v, .ty T, .type t, .type T, isIn t T, rfl, .ty T, tyName_of w1 r1 ht, kit_ty ?_, ansV w1 f1 rfl⟩
    have hT' : ∀ t ∈ ["bool", "int", "str", "tuple", "list", "dict"], kitB t T = some (isIn t T) := by
      unfold kitOk at hT
      rw [List.all_eq_true] at hT
      exact fun t ht => of_decide_eq_true (hT t ht)
    refine hT' t ?_
    unfold tyName at ht
    split at ht <;> (try split at ht) <;> cases ht <;> simp
  · exact f1.elim
end
end Mi

set_option Elab.async false
set_option linter.all false
set_option maxRecDepth 100000
set_option maxHeartbeats 4000000
/-! Mi5: errors: a comprehension whose element raises, raise, try. -/
namespace Mi
open PySem PySem.Spec PyProof.Rows L2

section
variable {X : Cx}
/-- the context of a comprehension's element that may raise -/
abbrev blkX (X : Cx) (s : Shared) (H : Hp) (scope : Scope) (cenv : PySem.Env) (fp : List Addr) (xe : Value → Shared → Prop) : Cx := { X.blk s H scope cenv fp with xe := xe }

/-- an error over this def's frames is in its air, the state ahead of it being s -/
theorem xe_at {W : WX} {pins : List (Addr × Obj)} {σ : L2.St} {H H' : Hp} {s s' : Shared} {a : Addr} {B : Heap} {cls : Value} {d : Option Addr} (I : L2.Inv X pins σ H s) (st : B.StaysIn s'.heap) (sky : Sky B X.stack a (Zc cls d) X.env.locals s'.heap)
    (hok : HOk X.prog X.w H' B) (ub : UB (frs X.stack) H H' s.heap B s'.heap) (na : H' a = none) (os : s'.os = s.os) (ag : AllBare s'.gens) (hW : W cls d σ H') : XE X W (.ref a) s' := by
  obtain ⟨G, yes, no⟩ := restrict s'.heap fun b => decide ((B.get? b).isSome = true ∨ b ∈ frs X.stack)
  have inB : ∀ b o, B.get? b = some o → G.get? b = some o := fun b o e => (yes b (decide_eq_true (.inl (by rw [e]; rfl)))).trans (st b o e)
  have inF : ∀ b, b ∈ frs X.stack → G.get? b = s'.heap.get? b := fun b hb => yes b (decide_eq_true (.inr hb))
  have back : ∀ b o, G.get? b = some o → s'.heap.get? b = some o ∧ ((B.get? b).isSome = true ∨ b ∈ frs X.stack) := fun b o e => by
    by_cases q : (B.get? b).isSome = true ∨ b ∈ frs X.stack
    · exact ⟨(yes b (decide_eq_true q)).symm.trans e, q⟩
    · rw [no b (decide_eq_false q)] at e
      cases e
  have slotF : ∀ b o, s.heap.get? b = some o → b ∈ frs X.stack → ∃ sl, G.get? b = some { o with slots := sl } := fun b o e hb =>
    let ⟨sl, q⟩ := ub.slot b o e hb
    ⟨sl, (inF b hb).trans q⟩
  have J : L2.Inv X pins σ H' { s with heap := G, gens := s'.gens, drawn := s'.drawn, toks := s'.toks } := by
    refine I.call (ch := []) { keep := fun b o e n hb _ => inB b o (ub.keep b o e n hb), slot := fun b o e _ hb _ => slotF b o e hb, free := fun b o e n _ => ub.free b o e n, there := fun b o e _ => ?_, tups := ub.tups, frzs := ub.frzs, tbls := ub.tbls } (hok.kept inB) ag (fun _ z => nomatch z)
    by_cases hb : b ∈ frs X.stack
    · obtain ⟨sl, q⟩ := slotF b o e hb
      exact ⟨_, q⟩
    · obtain ⟨o', q⟩ := ub.there b o e hb
      exact ⟨o', inB b o' q⟩
  refine ⟨a, B, _, pins, σ, H', cls, d, rfl, J, fun b o e hb => ?_, Heap.UpToSlots.of_keeps fun b o e => (back b o e).1, sky, na, os, ag, hW⟩
  obtain ⟨e', q⟩ := back b o e
  rcases q with q | q
  · obtain ⟨o', q'⟩ := Option.isSome_iff_exists.mp q
    have z := st b o' q'
    rw [e'] at z
    cases z
    exact q'
  · exact absurd q hb
/-- an error that came out of a call in the element: noted, then it goes on in the def's own frame -/
theorem elem_raises {W : WX} {pins : List (Addr × Obj)} {σ : L2.St} {HB : Hp} {s : Shared} {E : XK} {u : Value} {s' : Shared} {ce : PySem.Env} {m : Str → Option Value} (hs : X.stack = X.env :: X.outer) (hf : X.env.frame = some X.env.locals) (tk : Takes X W) (hW : ∀ cls d H', E cls d H' → W cls d σ H')
    (hcf : ce.frame = X.env.frame) (I : L2.Inv X pins σ HB s) (c : L2.CX X.prog X.w X.stack HB s E u s') (hn : s.heap.Ns ce.locals m) (fC : FpOk X pins HB ce.locals) :
    notedBy (model X.prog X.w) X.A ce (CompFails (model X.prog X.w) X.A X.xe ce) u s' := by
  obtain ⟨hH, nL, nF, young, ncell, npin⟩ := fC
  have hfr : ce.locals ∉ frs X.stack := fun z => by
    rw [hs] at z
    unfold frs at z
    rw [List.filterMap_cons, hf] at z
    rcases List.mem_cons.mp z with z | z
    · exact nL z
    · exact nF z
  obtain ⟨a, B, H', cls, d, rfl, fl, hok, ub, na, os, ag, e⟩ := c
  obtain ⟨oL, es, ep, ho, hd, r⟩ := hn
  have hBC : B.get? ce.locals = some oL := ub.keep _ _ ho hH hfr
  have hsC : s'.heap.get? ce.locals = some oL := fl.1 _ _ hBC
  have hC' : H' ce.locals = none := ub.free _ _ ho hH
  have hfrm : X.A.frames = some (X.env :: X.outer) := by rw [← hs]; exact I.ok.frames
  -- the grounds without the block's names
  obtain ⟨Gs, gs1, gs2⟩ := restrict s.heap fun b => decide (b ≠ ce.locals)
  obtain ⟨Bo, bo1, bo2⟩ := restrict B fun b => decide (b ≠ ce.locals)
  have gsE : ∀ b, b ≠ ce.locals → Gs.get? b = s.heap.get? b := fun b hb => gs1 b (decide_eq_true hb)
  have gsN : Gs.get? ce.locals = none := gs2 _ (decide_eq_false fun z => z rfl)
  have boE : ∀ b, b ≠ ce.locals → Bo.get? b = B.get? b := fun b hb => bo1 b (decide_eq_true hb)
  have boN : Bo.get? ce.locals = none := bo2 _ (decide_eq_false fun z => z rfl)
  have boS : ∀ b o, Bo.get? b = some o → B.get? b = some o := fun b o q => by
    by_cases hb : b = ce.locals
    · rw [hb, boN] at q; cases q
    · rw [← boE b hb]; exact q
  have boNone : ∀ b, B.get? b = none → Bo.get? b = none := fun b q => by
    by_cases hb : b = ce.locals
    · rw [hb]; exact boN
    · rw [boE b hb]; exact q
  have I0 : L2.Inv X pins σ HB { s with heap := Gs, toks := s.toks } := I.turned (fun b o hb q => (gsE b hb).trans q) hH nL young ncell npin
  have hokB : HOk X.prog X.w H' Bo := fun b o q => (hok b o q).stay (fun c v hc z => by
      have hcl : c ≠ ce.locals := fun zz => by
        rcases hc with h1 | h1
        · rw [← h1, zz, hC'] at q; cases q
        · rw [zz, hC'] at h1; cases h1
      rw [boE c hcl]; exact z) (fun _ z => z) fun _ _ z => z
  have FF : ∀ {h : Heap}, h.FunFrames B (X.env :: X.outer) → h.FunFrames Bo (X.env :: X.outer) := fun {h} ff => funFrames_none ff fun L hL => boNone L (ff.mem hL).1
  have TR : ∀ {h : Heap} {flv : Value}, HandSPX.TracedZ h B a (Zc cls d) flv → HandSPX.TracedZ h Bo a (Zc cls d) flv := fun {h flv} ⟨oe, vs, T, oT, ts, h1, h2, h3, h4, h5, h6, h7, h8, h9⟩ =>
    ⟨oe, vs, T, oT, ts, h1, h2, h3, h4, boNone T h5, h6, h7, h8, h9⟩
  have flB : HandSPX.FlyingZ Bo (X.env :: X.outer) a (Zc cls d) s'.heap := by
    obtain ⟨k1, k2, k3, k4⟩ := fl
    rw [hs] at k3
    exact ⟨fun b o q => k1 b o (boS b o q), boNone a k2, FF k3, TR k4⟩
  have eN : noteFrame (.ref a) ce = noteFrame (.ref a) X.env := by
    unfold noteFrame PySem.frameOf
    rw [hcf]
  show wpAny (model X.prog X.w) X.A (noteFrame (.ref a) ce) _ _ s'
  rw [eN]
  refine HandSPX.looks_onZ Zc.steady hfrm hf flB fun h1 hh u1 => ?_
  obtain ⟨sl, q1⟩ := u1 _ _ hsC (fun vs z => by rw [hd] at z; cases z)
  refine ⟨m, ⟨_, es, ep, q1, hd, r⟩, fun h2 m2 hn2 hs2 => ?_⟩
  obtain ⟨k1, k2, k3, k4⟩ := hh
  have nrec : ∀ {b : Addr} {o : Obj} {fs : Array Value}, h1.get? b = some o → o.data = .fields fs → b ≠ ce.locals := fun {b o fs} e1 e2 z => by
    rw [z, q1] at e1
    cases e1
    rw [show oL.data = _ from hd] at e2
    cases e2
  have S2 : Bo.StaysIn h2 := fun b o q => (hs2.2 b fun z => by rw [z, boN] at q; cases q).trans (k1 b o q)
  have F2 : h2.FunFrames Bo (X.env :: X.outer) := Heap.FunFrames.sameBut hs2 hn2 k3
  have T2 : HandSPX.TracedZ h2 Bo a (Zc cls d) (rawInt X.env.locals) := by
    obtain ⟨oe, vs, T, oT, ts, g1, g2, g3, g4, g5, g6, g7, g8, g9⟩ := k4
    exact ⟨oe, vs, T, oT, ts, (hs2.2 a (nrec g1 g3)).trans g1, g2, g3, g4, g5, g6, (hs2.2 T (nrec g7 g8)).trans g7, g8, g9⟩
  unfold PySem.passOn
  obtain ⟨oe, vs, T, oT, ts, g1, g2, g3, g4, g5, g6, g7, g8, g9⟩ := id T2
  refine wpAny_bind (wpAny_field g1 g3 g4 ?_)
  rw [if_neg (show ¬ ((Value.ref T == Value.none) = true) from by simp)]
  rw [hcf, hf]
  refine wpAny_bind (HandSPX.setFlight_onZ (show HandSPX.HeldZ Bo (X.env :: X.outer) a (Zc cls d) X.env.locals _ from ⟨S2, k2, F2, T2⟩) fun h3 hh3 u3 => ?_)
  refine wpAny_throw (tk _ _ (xe_at I0 hh3.1 (.inr (.inr (by rw [hs]; exact hh3))) hokB ?_ na os ag (hW _ _ _ e)))
  have noC : ∀ {b : Addr} {o : Obj}, Gs.get? b = some o → b ≠ ce.locals ∧ s.heap.get? b = some o := fun {b o} q => by
    have hb : b ≠ ce.locals := fun z => by rw [z, gsN] at q; cases q
    exact ⟨hb, by rw [← gsE b hb]; exact q⟩
  refine ⟨fun b o q n hb => ?_, fun b o q hb => ?_, fun b o q n => ub.free b o (noC q).2 n, fun b o q hb => ?_, ub.tups, ub.frzs, ub.tbls⟩
  · rw [boE b (noC q).1]; exact ub.keep b o (noC q).2 n hb
  · obtain ⟨sl1, z1⟩ := ub.slot b o (noC q).2 hb
    have nf : ∀ vs, o.data ≠ .fields vs := by
      obtain ⟨_, o2, e2, hnf⟩ := I.stack.mem hb
      rw [(noC q).2] at e2
      cases e2
      exact hnf
    obtain ⟨sl2, z2⟩ := u1 b _ z1 nf
    have z3 := (hs2.2 b (noC q).1).trans z2
    obtain ⟨sl4, z4⟩ := u3 b _ z3 nf
    exact ⟨sl4, z4⟩
  · obtain ⟨o', z⟩ := ub.there b o (noC q).2 hb
    exact ⟨o', by rw [boE b (noC q).1]; exact z⟩

/-- [elt for target in iter if ..] as a value, where the element may raise what E takes -/
theorem pe_lcX {W : WX} {E : XK} {elt tg iter : Expr} {ifs : List Expr} {scope : Scope} {own : List (Str × Nat)} {pos : Pos} {wi : TI} {g : TG} {tt : TT} {te : TE} (hst : X.stack = X.env :: X.outer) (hfr : X.env.frame = some X.env.locals) (tk : Takes X W) (hW : ∀ cls d σ H, E cls d H → W cls d σ H)
    (hc : X.calm = true) (hN : X.N.Nodup) (hi : PI X tg iter wi) (ok : BlkOk X.N X.env.scope scope own)
    (hg : ∀ (s : Shared) (H : Hp) (C : Addr) (cl : List (Str × Addr)) (fp : List Addr), PG (X.blk s H scope (compEnvC scope cl C X.env) fp) tg g) (ht : ∀ (s : Shared) (H : Hp) (C : Addr) (cl : List (Str × Addr)) (fp : List Addr), PTs (X.blk s H scope (compEnvC scope cl C X.env) fp) ifs tt)
    (he : ∀ (s : Shared) (H : Hp) (C : Addr) (cl : List (Str × Addr)) (fp : List Addr) (xe : Value → Shared → Prop), Passes (L2.CX X.prog X.w) (blkX X s H scope (compEnvC scope cl C X.env) fp xe) E → PE (blkX X s H scope (compEnvC scope cl C X.env) fp xe) elt te)
    (hs : ∀ x, foldedSetIterable iter X.env x = pure x := by intro _; rfl) :
    PE X (.ListComp elt [⟨tg, iter, ifs, 0⟩] scope pos) (tLc wi g tt te (own.map (·.2))) := by
  refine ⟨fun pins s σ H Q I h => ?_⟩
  rw [eval_ListComp]
  have hfree : ∀ y ∈ scope.names, y.2 = .free → ∃ c, X.env.cells.lookup y.1 = some c := fun y hy e => (ok.free y hy e).elim (fun k => I.ok.has _ (.inl k)) fun k => I.ok.has _ (.inr k)
  refine comprehension_at (use := none) rfl hs (closure_ok hfree) ok.kind (fun y hy e => by rw [ok.uniq y hy, e]) (thn (hi.run pins s σ H _ I h) fun xv s1 hx => thn hx fun itv s2 h2 => ?_)
  obtain ⟨it, fp, tn, J, H2, rfl, I2, T, st2, f2, q⟩ := h2
  refine wpAny_newObj_type (newEnv_comp ?_) (by show 0 ≤ sizeLine; decide)
  obtain ⟨L, eL⟩ : ∃ L, s2.heap.objs.size = L := ⟨_, rfl⟩
  rw [eL]
  have freshL : H2 L = none := I2.hok.fresh (Nat.le_of_eq eL)
  obtain ⟨Wd, ⟨m0, w0⟩, turn⟩ := q L freshL
  obtain ⟨s3, e3⟩ : ∃ s3 : Shared, s3 = { s2 with heap := s2.heap.push { cls := .type "list", data := .seq ([] : List Value).toArray } } := ⟨_, rfl⟩
  rw [← e3]
  have h3 : s3.heap = s2.heap.push { cls := .type "list", data := .seq ([] : List Value).toArray } := by rw [e3]
  have keep3 : ∀ b o, s2.heap.get? b = some o → s3.heap.get? b = some o := fun b o e => by rw [h3]; exact Heap.get?_push_of_some _ e
  have I3 : L2.Inv X pins σ (upd H2 L (.lst [])) s3 := by
    have z := I2.laid (t' := s2.toks) (a := L) (o := .lst []) (h' := s3.heap) keep3 (Nat.le_of_eq eL) ⟨Nat.zero_le _, [], 0, .nil, by rw [h3, ← eL]; exact Heap.get?_push_size _ rfl⟩
    rw [e3] at z ⊢
    exact z
  have below : ∀ b ∈ fp, b < s2.heap.objs.size := fun b hb => let ⟨o, e, _⟩ := T.obj _ _ st2 b hb; Heap.lt_size e
  have f3 : ∀ b ∈ fp, FpOk X pins (upd H2 L (.lst [])) b ∧ b < s3.heap.objs.size := fun b hb => by
    have hlt := below b hb
    refine ⟨⟨?_, (f2 b hb).2⟩, by rw [h3, Heap.size_push]; exact Nat.lt_succ_of_lt hlt⟩
    rw [upd_ne (by rw [← eL]; exact Nat.ne_of_lt hlt)]
    exact (f2 b hb).1
  have st3 : tn 0 s3.heap := T.keep _ _ _ st2 fun b _ o e => keep3 b o e
  obtain ⟨H3, eH⟩ : ∃ H3, H3 = upd H2 L (.lst []) := ⟨_, rfl⟩
  rw [← eH] at I3 f3 w0
  have I4 := block_start I3 ok hN f3
  obtain ⟨ce, ece⟩ : ∃ ce, ce = compEnvC scope (cellsFrom (s3.heap.objs.size + 1) scope.names (cloFrom X.env.cells scope.names [])) s3.heap.objs.size X.env := ⟨_, rfl⟩
  have pg := hg s3 H3 s3.heap.objs.size (cellsFrom (s3.heap.objs.size + 1) scope.names (cloFrom X.env.cells scope.names [])) fp
  have pt := ht s3 H3 s3.heap.objs.size (cellsFrom (s3.heap.objs.size + 1) scope.names (cloFrom X.env.cells scope.names [])) fp
  have pe := he s3 H3 s3.heap.objs.size (cellsFrom (s3.heap.objs.size + 1) scope.names (cloFrom X.env.cells scope.names [])) fp
  have cL : ce.locals = s3.heap.objs.size := by rw [ece]; rfl
  have cF : ce.frame = X.env.frame := by rw [ece]; rfl
  show codeAny _ _ (.compStart (.ListComp elt [⟨tg, iter, ifs, 0⟩] scope pos) 0 (.ref it) (.ref L) (compEnvC scope (cellsFrom (s3.heap.objs.size + 1) scope.names (cloFrom X.env.cells scope.names [])) s3.heap.objs.size X.env))
    (compEnds (model X.prog X.w) X.A X.xe none (EP X pins σ Q) (.ref L) (compEnvC scope (cellsFrom (s3.heap.objs.size + 1) scope.names (cloFrom X.env.cells scope.names [])) s3.heap.objs.size X.env)) { s3 with heap := pushCells (s3.heap.push { cls := .type "dict", data := .dict #[] }) scope.names }
  rw [← ece] at I4 pg pt pe ⊢
  obtain ⟨s4, e4⟩ : ∃ s4 : Shared, s4 = { s3 with heap := pushCells (s3.heap.push { cls := .type "dict", data := .dict #[] }) scope.names } := ⟨_, rfl⟩
  rw [← e4] at I4 ⊢
  have st4 : tn 0 s4.heap := T.keep _ _ _ st3 fun b _ o e => by rw [e4]; exact pushCells_keeps _ _ _ _ (Heap.get?_push_of_some _ e)
  have nfp : ∀ b ∈ fp, H3 b = none := fun b hb => (f3 b hb).1.1
  -- a state of the block is a state of the def's
  have out : ∀ {p6 : List (Addr × Obj)} {σ6 : L2.St} {H6 : Hp} {s6 : Shared}, L2.Inv (X.blk s3 H3 scope ce fp) p6 σ6 H6 s6 → L2.Inv X pins σ H6 s6 ∧ FpOk X pins H6 ce.locals ∧ ∃ m, s6.heap.Ns ce.locals m := fun {p6 σ6 H6 s6} I6 => by
    refine ⟨I3.call' (ch := fp) I6.os I6.base I6.hok I6.bare fun b hb => ⟨(f3 b hb).1.2.2.2.1, (f3 b hb).1.2.1, (f3 b hb).1.2.2.2.2.1, (f3 b hb).1.2.2.2.2.2⟩, ?_, ?_⟩
    · have z : H6 ce.locals = none := I6.free
      rw [cL] at z ⊢
      exact I3.fpOk (Nat.le_refl _) z
    · obtain ⟨m, hn, _⟩ := I6.loc
      exact ⟨m, hn⟩
  have wR : ∀ xe : Value → Shared → Prop, xe = notedBy (model X.prog X.w) X.A ce (CompFails (model X.prog X.w) X.A X.xe ce) → Passes (L2.CX X.prog X.w) (blkX X s3 H3 scope ce fp xe) E := fun xe exe p6 σ6 H6 s6 u s' I6 c => by
    obtain ⟨I7, fC, m, hn⟩ := out (I6.wish fun _ _ => False)
    rw [exe]
    exact elem_raises hst hfr tk (fun cls d H' z => hW cls d σ H' z) cF I7 c hn fC
  have pe' := pe _ (wR _ rfl)
  have stat : ∀ {σ' : L2.St} {H' : Hp} {s' : Shared}, L2.Inv (X.blk s3 H3 scope ce fp) [] σ' H' s' → (∀ b ∈ fp, H' b = none) → ∀ b ∈ fp, FpOk (X.blk s3 H3 scope ce fp) [] H' b := fun {σ' H' s'} I' hn b hb =>
    ⟨hn b hb, (I'.ok.exf b hb).1, I'.ok.exfs b hb, .inl hb, fun x c e => (I'.ok.exf b hb).2 x c e, fun p hp => absurd (show p ∈ ([] : List (Addr × Obj)) ++ [] from hp) (by simp)⟩
  have loop : codeAny (model X.prog X.w) X.A (.compLoop (.ListComp elt [⟨tg, iter, ifs, 0⟩] scope pos) 0 (.ref it) (.ref L) ce) (compEnds (model X.prog X.w) X.A X.xe none (EP X pins σ Q) (.ref L) ce) s4 := by
    refine compLoop_any (fun n s' => ∃ i H', L2.Inv (X.blk s3 H3 scope ce fp) [] (wipe σ (own.map (·.2))) H' s' ∧ tn i s'.heap ∧ (∀ b ∈ fp, H' b = none) ∧ Wd i n H') ?_ m0 ⟨0, H3, I4, st4, nfp, w0⟩
    rintro n s5 ⟨i, H5, I5, st5, n5, w5⟩
    rcases turn i n H5 w5 with ⟨stop, qq⟩ | ⟨go, Nx, hNx, step⟩
    · refine thnF (T.done (X.blk s3 H3 scope ce fp) rfl rfl rfl hc i [] s5 _ H5 (fun _ _ => False) I5 (stat I5 n5) st5 stop) fun r s6 ⟨hr, I6⟩ => ?_
      subst hr
      obtain ⟨I7, ⟨g0, g1, g2, g3, g4, g5⟩, m, hn⟩ := out I6
      exact ⟨m, hn, fun h'' sb => ⟨.ref L, H5, I7.turned (t' := s6.toks) (fun b o hb e => (sb.2 b hb).trans e) g0 g1 g3 g4 g5, rfl, qq⟩⟩
    · refine thnF (T.item (X.blk s3 H3 scope ce fp) rfl rfl rfl hc i [] s5 _ H5 (fun _ _ => False) I5 (stat I5 n5) st5 go) fun r s6 ⟨u, hr, h6⟩ => ?_
      subst hr
      refine thnF h6 fun _ s7 ⟨x, H7, I7, r7, y7, st7, n7⟩ => ?_
      have I7' := I7.pinned (stat I7 n7) (T.obj _ _ st7)
      refine thnF (pg.run _ s7 _ H7 x u _ I7' r7 (step x H7 y7)) fun _ s8 ⟨σ8, H8, I8, hw8, q8⟩ => ?_
      refine thnF (pt.run _ s8 σ8 H8 _ I8 q8) fun b s9 ⟨H9, I9, q9⟩ => ?_
      have fin : ∀ {s' : Shared} {H' : Hp}, L2.Inv (X.blk s3 H3 scope ce fp) ([] ++ pinsAt fp s7.heap) σ8 H' s' → Nx H' → ∃ m, m < n ∧ ∃ i H', L2.Inv (X.blk s3 H3 scope ce fp) [] (wipe σ (own.map (·.2))) H' s' ∧ tn i s'.heap ∧ (∀ b ∈ fp, H' b = none) ∧ Wd i m H' := fun {s' H'} I' nx => by
        obtain ⟨m', hm, w'⟩ := hNx H' nx
        have still : ∀ b ∈ fp, ∀ o, s7.heap.get? b = some o → s'.heap.get? b = some o ∧ H' b = none := fun b hb o e =>
          let z := I'.pin (b, o) (List.mem_append_right _ (List.mem_append_right _ (mem_pinsAt hb e)))
          ⟨z.1, z.2.1⟩
        have hl : (wipe σ (own.map (·.2))).length = σ8.length := by rw [← hw8, wipe_length]
        refine ⟨m', hm, i + 1, H', (I'.unpinned (pins := [])).weak hl (fun j v e => ?_), T.keep _ _ _ st7 fun b hb o e => (still b hb o e).1, fun b hb => ?_, w'⟩
        · rw [← hw8] at e
          exact (wipe_some e).1
        · obtain ⟨o, e, _⟩ := T.obj _ _ st7 b hb
          exact (still b hb o e).2
      cases b with
      | false =>
        simp only [Bool.false_eq_true, if_false] at q9 ⊢
        exact fin I9 q9
      | true =>
        simp only [if_true] at q9 ⊢
        have I9x : L2.Inv (blkX X s3 H3 scope ce fp (notedBy (model X.prog X.w) X.A ce (CompFails (model X.prog X.w) X.A X.xe ce))) ([] ++ pinsAt fp s7.heap) σ8 H9 s9 := I9.wish _
        refine wpAny_mono (pe'.run _ s9 σ8 H9 _ I9x q9) (fun z s10 ⟨yv, H10, I10, r10, acc, hD10, hz10, nx⟩ => ?_) fun _ _ z => z
        have I10' : L2.Inv (X.blk s3 H3 scope ce fp) ([] ++ pinsAt fp s7.heap) σ8 H10 s10 := I10.wish fun _ _ => False
        exact app_ok (X := X.blk s3 H3 scope ce fp) I10' hD10 hz10 r10 fun s11 I11 => fin I11 nx
  exact codeAny_compStart_list loop (T.self X.A 0 _ _ _ st4 loop)
end
end Mi

set_option Elab.async false
set_option linter.all false
set_option maxRecDepth 100000
set_option maxHeartbeats 4000000
/-! Mi6: errors of the program's own classes, in the mirror: raise, try, a comprehension that raises. -/
namespace Mi
open PySem PySem.Spec PyProof.Rows L2

section
variable {X : Cx} {g : Gi} {E : XK} {pos : Pos} {e : Expr} {es : List Expr}
/-! ### a comprehension whose element may raise -/
def mCLoopX (src : Src) (k : Nat) (t : D → Env → Option Env) (c : MT) (elt : ME) (env : Env) : Nat → Nat → MH → Res D
  | 0, i => fun mh => match src i mh with
    | some none => .ok (.ref k) mh
    | _ => .bad
  | n + 1, i => fun mh => match src i mh with
    | some none => .ok (.ref k) mh
    | some (some d) => match t d env with
      | some env1 => (c env1 mh).safe.bind fun b mh1 => if b then (elt env1 mh1).bind fun y mh2 => match mh2[k]? with
          | some (.lst acc) => if acc.length < SL then mCLoopX src k t c elt env n (i + 1) (mh2.set k (.lst (acc ++ [y]))) else .bad
          | _ => .bad
        else mCLoopX src k t c elt env n (i + 1) mh1
      | none => .bad
    | none => .bad
def mCompX (it : MI) (t : D → Env → Option Env) (c : MT) (elt : ME) (vs : List Nat) : ME := fun env mh => (it env mh).bind fun p mh1 => mCLoopX p.2 mh1.length t c elt (wipeE env vs) p.1 0 (mh1 ++ [.lst []])
theorem compMX {it : MI} {t : D → Env → Option Env} {c : MT} {elt : ME} {vs : List Nat} {σ : L2.St} {H : Hp} {Q : VK} (h : rdE g E (mCompX it t c elt vs) σ H Q) : tLc (rdI g E it) (rdN g vs t) (rdT g E0 c) (rdE g E elt) vs σ H Q := by
  obtain ⟨ρ, env, mh, s, w, fin⟩ := h
  refine ⟨ρ, env, mh, s, w, fin.unbind.imp fun p mh1 ρ1 H1 _ k1 p1 w1 f1 J ok L hL => ?_⟩
  have preL : ρ1 <+: ρ1 ++ [L] := List.prefix_append _ _
  have w2 : WR g.K (ρ1 ++ [L]) (upd H1 L (.lst [])) (mh1 ++ [.lst []]) := w1.new hL trivial ⟨[], upd_same, rfl⟩
  have hk : (ρ1 ++ [L])[mh1.length]? = some L := by rw [← w1.len]; simp
  have s2 : Sl g.K (ρ1 ++ [L]) (upd H1 L (.lst [])) (wipeE env vs) (L2.wipe σ vs) := ((s.mono k1 p1).mono (Kp.new hL) preL).wipe vs
  refine ⟨fun i m H' => ∃ ρ' mh', Kp g.K H1 H' ∧ (ρ1 ++ [L]) <+: ρ' ∧ Sl g.K ρ' H' (wipeE env vs) (L2.wipe σ vs) ∧ WR g.K ρ' H' mh' ∧ Fin g E ρ' H' (QV g Q) (mCLoopX p.2 mh1.length t c elt (wipeE env vs) m i mh'),
    ⟨p.1, ρ1 ++ [L], mh1 ++ [.lst []], Kp.new hL, List.prefix_refl _, s2, w2, f1.from (Kp.new hL) preL⟩, ?_⟩
  rintro i m H' ⟨ρ', mh', k0, p0, s0, w0, f0⟩
  obtain ⟨go, stop⟩ := ok i ρ' H' mh' k0 (preL.trans p0) w0
  have hk' : ρ'[mh1.length]? = some L := pre_get p0 hk
  cases hs : p.2 i mh' with
  | none =>
    cases m <;> (unfold mCLoopX at f0; rw [hs] at f0; exact f0.elim)
  | some o =>
    cases o with
    | none =>
      refine .inl ⟨stop hs, ?_⟩
      cases m <;> (unfold mCLoopX at f0; rw [hs] at f0; exact Fin.here w0 f0 _ ⟨L, rfl, hk'⟩)
    | some d =>
      cases m with
      | zero => unfold mCLoopX at f0; rw [hs] at f0; exact f0.elim
      | succ m =>
        unfold mCLoopX at f0
        rw [hs] at f0
        dsimp only at f0
        obtain ⟨hg, hy⟩ := go d hs
        refine .inr ⟨hg, fun H'' => ∃ ρ' mh', Kp g.K H1 H'' ∧ (ρ1 ++ [L]) <+: ρ' ∧ Sl g.K ρ' H'' (wipeE env vs) (L2.wipe σ vs) ∧ WR g.K ρ' H'' mh' ∧ Fin g E ρ' H'' (QV g Q) (mCLoopX p.2 mh1.length t c elt (wipeE env vs) m (i + 1) mh'), fun H'' q => ⟨m, Nat.lt_succ_self m, q⟩, fun x H2 y => ?_⟩
        obtain ⟨k2, w2', r2⟩ := hy x H2 y
        have s2' := s0.mono k2 (List.prefix_refl ρ')
        split at f0
        · rename_i env1 he
          refine ⟨ρ', wipeE env vs, mh', d, env1, s2', w2', r2, he, fun σ3 s3 o3 => ⟨wipe_oth o3, ?_⟩⟩
          refine ⟨ρ', env1, mh', s3, w2', (Fin.unsafe' (f0.from k2 (List.prefix_refl ρ'))).imp fun b mh3 ρ3 H3 _ k3 p3 w3 f3 => ?_⟩
          cases b with
          | false => exact ⟨ρ3, mh3, (k0.trans k2).trans k3, p0.trans p3, s2'.mono k3 p3, w3, f3⟩
          | true =>
            refine ⟨ρ3, env1, mh3, s3.mono k3 p3, w3, (Fin.unbind (show Fin g E ρ3 H3 (QV g Q) (Res.bind (elt env1 mh3) _) from f3)).imp fun y mh4 ρ4 H4 hh k4 p4 w4 f4 v r4 => ?_⟩
            clear hh
            split at f4
            · rename_i acc hacc
              split at f4
              · rename_i hz
                have hk4 : ρ4[mh1.length]? = some L := pre_get p4 (pre_get p3 hk')
                obtain ⟨us, hu, ru⟩ := w4.lstAt hacc hk4
                have kp := w4.kp (ho := .lst (us ++ [v])) hacc trivial hk4
                refine ⟨us, hu, by rw [ru.length, ← SL_eq]; exact hz, ρ4, _, (((k0.trans k2).trans k3).trans k4).trans kp, (p0.trans p3).trans p4, ((s2'.mono k3 p3).mono k4 p4).mono kp (List.prefix_refl _),
                  w4.set (o' := .lst (acc ++ [y])) hacc trivial trivial hk4 ⟨_, upd_same, (ru.mono kp (List.prefix_refl _)).app (Reps.one (r4.mono kp (List.prefix_refl _)))⟩, f4.from kp (List.prefix_refl _)⟩
              · exact f4.elim
            · exact f4.elim
        · exact f0.elim
abbrev wE (E : XK) : WX := fun cls d _ H => E cls d H
theorem pm_lcX {elt tg iter : Expr} {ifs : List Expr} {scope : Scope} {own : List (Str × Nat)} {pos : Pos} {it : MI} {t : D → Env → Option Env} {c : MT} {m : ME} (hst : X.stack = X.env :: X.outer) (hfr : X.env.frame = some X.env.locals) (tk : Takes X (wE E)) (hc : X.calm = true) (hN : X.N.Nodup)
    (hi : PI X tg iter (rdI g E it)) (ok : BlkOk X.N X.env.scope scope own)
    (hg : ∀ (s : Shared) (H : Hp) (C : Addr) (cl : List (Str × Addr)) (fp : List Addr), PG (X.blk s H scope (compEnvC scope cl C X.env) fp) tg (rdN g (own.map (·.2)) t)) (ht : ∀ (s : Shared) (H : Hp) (C : Addr) (cl : List (Str × Addr)) (fp : List Addr), PTs (X.blk s H scope (compEnvC scope cl C X.env) fp) ifs (rdT g E0 c))
    (he : ∀ (s : Shared) (H : Hp) (C : Addr) (cl : List (Str × Addr)) (fp : List Addr) (xe : Value → Shared → Prop), Passes (L2.CX X.prog X.w) (blkX X s H scope (compEnvC scope cl C X.env) fp xe) E → PE (blkX X s H scope (compEnvC scope cl C X.env) fp xe) elt (rdE g E m)) (hs : ∀ x, foldedSetIterable iter X.env x = pure x := by intro _; rfl) :
    PE X (.ListComp elt [⟨tg, iter, ifs, 0⟩] scope pos) (rdE g E (mCompX it t c m (own.map (·.2)))) := weakE (pe_lcX hst hfr tk (fun _ _ _ _ h => h) hc hN hi ok hg ht he hs) fun _ _ _ h => compMX h

/-! ### classes of errors with one field -/
noncomputable def okX : D → Bool
  | .int i => cdec (0 ≤ i ∧ i < 10 ^ 10)
  | .str z => decide (z.length ≤ 1000)
  | _ => false
def okV : V → Prop
  | .int i => 0 ≤ i ∧ i < 10 ^ 10
  | .str z => z.length ≤ 1000
  | _ => False
theorem okX_of {K : PySem.W.Frag} {ρ : List Addr} {H : Hp} {d : D} {v : V} (r : Rep K ρ H d v) (h : okX d = true) : okV v := by
  cases d with
  | int i => cases (show v = _ from r); exact (cdec_iff.mp h : 0 ≤ i ∧ i < 10 ^ 10)
  | str z => cases (show v = _ from r); exact (of_decide_eq_true h : z.length ≤ 1000)
  | _ => cases h
/-- the promise of such an __init__ -/
def spX (fld : Str) (C : Addr) : Sp := fun vs H Q _ => ∃ (a : Addr) (v : V), vs = [.ref a, v] ∧ okV v ∧ H a = some (exo a C none) ∧ ∀ dx, H dx = none → dx ≠ a → Q .non (upd (upd H dx (exd dx [(fld, v)])) a (exo a C (some dx)))
structure ErrC (P : Program) (w : World) (K : PySem.W.Frag) (mg : Str → Option Value) (base : Heap) (x : Str) (C : Addr) (fld : Str) (k : Nat) : Prop where
  T : OexC K C
  ini : ∃ (fI : Addr) (fd : FuncData) (ps : List Str), FnOk P w K mg base (L2.CX P w) k fI fd ps (spX fld C) ∧ Binds K fd ps [] ∧ PySem.W.findIn K (.ref C) "__init__" = some (some (.ref fI)) ∧ PySem.W.typeIn K (.ref fI) = some (.type "function")
  gC : mg x = some (.ref C)
  self : PySem.W.exmOne K (.ref C) (.ref C) = some true
  rd : XfC K C
  nf : PySem.W.findIn K (.ref C) fld = some none
/-- raise X(e) -/
noncomputable def mRaise (c : Nat) (fld : Str) (x : ME) : MS := fun env mh => (x env mh).bind fun d mh1 => if okX d then .exc c [(fld, d)] mh1 else .bad
theorem sm_raise {c : Nat} {k : Nat} {x fld : Str} {m : ME} {p pos' : Pos} (ec : ErrC X.prog X.w X.K X.mg X.base x (g.ex c) fld k) (hc : X.calm = true) (tk : Takes X (wE E)) (hr : Room (k + 1) X.A) (hg : Gl X x) (he : PE X e (rdE g E m)) (hK : X.K = g.K := by rfl)
    (hdb : (x == ("__debug__" : Str)) = false := by decide) (hst : starEach (e :: []) X.env = (false, eval e X.env) :: starEach [] X.env := by rfl) (hpl : (backTo pos (starEach [] X.env)).any (·.1) = false := by rfl) :
    PS X (.Raise (some (.Call (.Name x p) [e] [] pos)) none pos') (rdS g E (mRaise c fld m)) := by
  obtain ⟨fI, fd, ps, F1, hb, h1, h2⟩ := ec.ini
  refine weakS (ps_raise hc tk (pmk_oex ec.T h1 h2 F1 hr hb .nil passL hg ec.gC (pa_cons he pa_nil hst) hdb hst hpl)) fun Ds σ H ⟨ρ, env, mh, s, w, fin⟩ => ?_
  refine ⟨ρ, env, mh, s, w, fin.unbind.imp fun d mh1 ρ1 H1 hh k1 p1 w1 f1 v r1 => ?_⟩
  clear hh
  split at f1
  · rename_i co
    refine ⟨by show 1 ≤ 1000; decide, fun a ha => ⟨a, v, rfl, okX_of r1 co, upd_same, fun dx hdx ne => ?_⟩⟩
    have h1dx : H1 dx = none := by rw [upd_ne ne] at hdx; exact hdx
    refine ⟨rfl, dx, [(fld, v)], upd_same, by rw [upd_ne ne, upd_same], h1dx, ?_⟩
    have eH : upd (del (upd (upd (upd H1 a (exo a (g.ex c) none)) dx (exd dx [(fld, v)])) a (exo a (g.ex c) (some dx))) a) dx (.xd [(fld, v)]) = upd H1 dx (.xd [(fld, v)]) := by
      funext b
      by_cases hb : b = dx
      · rw [hb, upd_same, upd_same]
      · rw [upd_ne hb, upd_ne hb]
        by_cases hba : b = a
        · rw [hba, del_same, ha]
        · rw [del_ne hba, upd_ne hba, upd_ne hb, upd_ne hba]
    rw [eH]
    exact f1 ρ1 _ dx [(fld, v)] (Kp.new h1dx) (List.prefix_refl _) (w1.fresh h1dx) upd_same ⟨rfl, Reps.one (r1.mono (Kp.new h1dx) (List.prefix_refl _))⟩
  · exact f1.elim

/-! ### try: y = f(..) except X as n: return S(n.f) -/
def mTry (i n : Nat) (xs : MA) (F : MF) (c : Nat) (S : List (Str × D) → Option D) : MS := fun env mh => (xs env mh).safe.bind fun ds mh1 => match F ds mh1 with
  | .ok d mh2 => .ok (.nx (env.set i (some d))) mh2
  | .exc c' fs mh2 => if c' = c ∧ n < env.length then match S fs with
      | some v => .ok (.rt v) mh2
      | none => .bad
    else .bad
  | .bad => .bad
theorem RepK.look {K : PySem.W.Frag} {ρ : List Addr} {H : Hp} {fld : Str} : ∀ {fs : List (Str × D)} {ws : List (Str × V)} {d : D}, RepK K ρ H fs ws → fs.lookup fld = some d → ∃ v, ws.lookup fld = some v ∧ Rep K ρ H d v
  | [], ws, d, r, h => by cases h
  | (f, d0) :: fs, [], d, r, h => by have := r.1; cases this
  | (f, d0) :: fs, (f', v0) :: ws, d, r, h => by
    obtain ⟨r1, v1, u, e, r2, r3⟩ := r
    simp only [List.map_cons, List.cons.injEq] at r1 e
    obtain ⟨e1, e2⟩ := r1
    obtain ⟨rfl, rfl⟩ := e
    subst e1
    simp only [List.lookup] at h ⊢
    cases hb : fld == f with
    | true =>
      rw [hb] at h
      cases h
      exact ⟨v0, rfl, r2⟩
    | false =>
      rw [hb] at h
      exact RepK.look ⟨e2, r3⟩ h
/-- the suite, by its reading: n.f is the field -/
def SufOk (K : PySem.W.Frag) (S : List (Str × D) → Option D) (n : Nat) (C : Addr) (ts : Addr → Value → Option Addr → TS) : Prop :=
  ∀ (a dd : Addr) (fs : List (Str × D)) (v : D) (ws : List (Str × V)) (ρ : List Addr) (H : Hp) (mh : MH) (D : Ends) (σ : L2.St), S fs = some v → WR K ρ H mh → RepK K ρ H fs ws → H dd = some (.xd ws) → σ[n]? = some (some (.ref a)) →
    (∀ u ρ' H', Kp K H H' → ρ <+: ρ' → WR K ρ' H' mh → Rep K ρ' H' v u → D.rt u H') → ts a (.ref C) (some dd) D σ H
theorem sm_try {i n k c : Nat} {nn : Nat} {f x y en : Str} {F : MF} {xs : MA} {S : List (Str × D) → Option D} {b₀ : Stmt} {suite : List Stmt} {p p1 p2 py np pos' : Pos} {fld : Str} {kx : Nat} {ts : Addr → Value → Option Addr → TS}
    (cal : Callee X.prog X.w g X.mg X.base f k nn F) (ec : ErrC X.prog X.w X.K X.mg X.base x (g.ex c) fld kx) (hr : Room k X.A) (hs : X.stack = X.env :: X.outer) (hf : X.env.frame = some X.env.locals) (hN : X.N.Nodup) (hi : X.N[i]? = some y) (hx : Loc X.env.scope y)
    (hn : X.N[n]? = some en) (hne : i ≠ n) (hln : X.env.kindOf en = some .local) (hgf : Gl X f) (hgx : Gl X x) (tk : Takes X (wE E))
    (ha : ∀ pn xe, PA (X.tr pn xe) (e :: es) (rdA g E0 xs)) (hl : ∀ env mh ds mh1, xs env mh = .ok ds mh1 → ds.length = nn)
    (hsu : ∀ (a : Addr) (oe : Obj) (cls : Value) (d : Option Addr) (pn : List (Addr × Obj)), Zc cls d oe → (∃ vs, oe.data = .fields vs) → PSs (X.suite a ((a, oe) :: pn)) (b₀ :: suite) (ts a cls d)) (hS : SufOk X.K S n (g.ex c) ts)
    (hK : X.K = g.K := by rfl) (hdf : (f == ("__debug__" : Str)) = false := by decide) (hdx : (x == ("__debug__" : Str)) = false := by decide)
    (hsw : ∀ pn xe, swapsWith (.Call (.Name f p) (e :: es) [] p1) (some (.Name y py)) p2.line (X.tr pn xe).env = pure false := by intro _ _; rfl) (hfn : X.fn y = true ∨ X.env.scope.names.lookup y = some .local := by first | exact .inl rfl | exact .inr rfl | assumption)
    (hst : starEach (e :: es) X.env = (false, eval e X.env) :: starEach es X.env := by rfl) (hpl : (backTo p1 (starEach es X.env)).any (·.1) = false := by rfl) :
    PS X (.Try [.Assign [.Name y py] (.Call (.Name f p) (e :: es) [] p1) p2] [.ExceptHandler (some (.Name x np)) (some en) (b₀ :: suite) pos'] [] [] pos) (rdS g E (mTry i n xs F c S)) := by
  obtain ⟨K, ex⟩ := g
  dsimp only at hK
  subst hK
  obtain ⟨fa, fd, ps, F1, hm, hk, hb⟩ := cal.ex
  refine weakS (ps_try_as (tb := fun W => tAsg (tCallSD (spM ⟨X.K, ex⟩ nn F) [] (WE W) (rdA ⟨X.K, ex⟩ E0 xs)) (gName i)) (ts := ts) (Wout := wE E) hs hf hN hn hln ⟨hgx, hdx, .inl ec.gC⟩ tk
    (fun W pn xe tk' _ => pss_one (ps_set (X := X.tr pn xe) hN hi hx (pe_callSD (X := X.tr pn xe) F1 hr hgf hm hk hb .nil (fun σ => passAt tk' σ) (ha pn xe) hdf hst hpl) (hsw pn xe) hfn)) hsu) fun Ds σ H ⟨ρ, env, mh, s, w, fin⟩ => ?_
  refine ⟨ρ, env, mh, s, w, (Fin.unsafe' fin).imp fun ds mh1 ρ1 H1 he k1 p1 w1 f1 vs r1 => ?_⟩
  show spM ⟨X.K, ex⟩ nn F (vs ++ []) H1 _ _
  rw [List.append_nil]
  refine ⟨ρ1, mh1, ds, w1, r1, hl _ _ _ _ he, ?_⟩
  cases hF : F ds mh1 with
  | ok d mh2 =>
    rw [hF] at f1
    exact fun ρ2 H2 k2 p2 w2 v rv => f1 ρ2 H2 k2 p2 w2 _ (((s.mono k1 p1).mono k2 p2).put rv i)
  | bad => rw [hF] at f1; exact f1.elim
  | exc c' fs mh2 =>
    rw [hF] at f1
    dsimp only at f1
    split at f1
    · rename_i ec'
      obtain ⟨ec', hn'⟩ := ec'
      subst ec'
      split at f1
      · rename_i v hv
        intro ρ2 H2 dd ws k2 p2 w2 hdd rk
        refine ⟨true, ec.self, fun _ a na => ?_, fun q => Bool.noConfusion q⟩
        have hlen : n < σ.length := by rw [← s.1]; exact hn'
        exact hS a dd fs v ws ρ2 H2 mh2 _ _ hv w2 rk hdd (List.getElem?_set_self hlen) fun u ρ' H' k' p' w' r' => f1 ρ' H' (k2.trans k') (p2.trans p') w' u r'
      · exact f1.elim
    · exact f1.elim
/-- return ('..', n.f) | return n.f -/
def sufA (z fld : Str) : List (Str × D) → Option D := fun fs => (fs.lookup fld).map fun v => .tup [.str z, v]
def tsA (z fld : Str) (n : Nat) (C : Addr) : Addr → Value → Option Addr → TS := fun a cls d => tRet (tTup (tCons (tC (.str z)) (tCons (tXf a cls d C fld (tVar n)) tNil)))
theorem sufA_ok {K : PySem.W.Frag} {z fld : Str} {n : Nat} {C : Addr} : SufOk K (sufA z fld) n C (tsA z fld n C) := fun a dd fs v ws ρ H mh D σ hv w rk hd hσ q => by
  unfold sufA at hv
  obtain ⟨d, h1, rfl⟩ := Option.map_eq_some_iff.mp hv
  obtain ⟨u, h2, r⟩ := rk.look h1
  refine ⟨.ref a, hσ, rfl, rfl, dd, ws, u, rfl, hd, h2, ?_⟩
  refine ⟨by show 2 ≤ sizeLine; rw [sizeLine_eq]; decide, fun p hp => ?_⟩
  refine q (.ref p) ρ _ (Kp.new hp) (List.prefix_refl _) (w.fresh hp) ⟨p, [.str z, u], rfl, SqT.of upd_same, ?_⟩
  exact Reps.cons rfl (Reps.one (r.mono (Kp.new hp) (List.prefix_refl _)))
def sufB (fld : Str) : List (Str × D) → Option D := fun fs => fs.lookup fld
def tsB (fld : Str) (n : Nat) (C : Addr) : Addr → Value → Option Addr → TS := fun a cls d => tRet (tXf a cls d C fld (tVar n))
theorem sufB_ok {K : PySem.W.Frag} {fld : Str} {n : Nat} {C : Addr} : SufOk K (sufB fld) n C (tsB fld n C) := fun a dd fs v ws ρ H mh D σ hv w rk hd hσ q => by
  obtain ⟨u, h2, r⟩ := rk.look hv
  exact ⟨.ref a, hσ, rfl, rfl, dd, ws, u, rfl, hd, h2, q u ρ H Kp.refl (List.prefix_refl _) w r⟩
end

/-! ### an __init__ of such a class: S.__init__(self, '..' + ' ' + str(v)); self.f = v -/
section
variable {X : Cx} {e : Expr} {es : List Expr} {ta : TA} {x : Str} {CS : Addr} {p1 p2 pos : Pos}
/-- S.__init__(self, ..), S an own class over ValueError without an own __init__ -/
theorem pe_sinit {pl : Sem Bool} (hg : Gl X x) (hm : X.mg x = some (.ref CS)) (hr : PySem.W.readsIn X.K CS (.type "type") = true) (hga : PySem.W.specialIn X.K (.ref CS) "__getattribute__" = some (some (.builtin "type.__getattribute__")))
    (hf : PySem.W.findCls X.K (.ref CS) (.type "type") "__init__" = some (.val (.builtin "ValueError.__init__"))) (ha : PA X (e :: es) ta) (hdb : (x == ("__debug__" : Str)) = false := by decide)
    (hc : eval (.Call (.Attribute (.Name x p1) "__init__" p2) (e :: es) [] pos) X.env = (do
      let ov ← eval (.Name x p1) X.env
      standAt p2.atName
      let (f, first) ← holding [ov] (getMethod ov "__init__" pl)
      callWith pos f first (backTo pos (starEach (e :: es) X.env)) (backToKw pos (keywordEach [] X.env))) := by rfl)
    (he : starEach (e :: es) X.env = (false, eval e X.env) :: starEach es X.env := by rfl) (hpl : (backTo pos (starEach es X.env)).any (·.1) = false := by rfl) :
    PE X (.Call (.Attribute (.Name x p1) "__init__" p2) (e :: es) [] pos) (tVeI X.K ta) := by
  refine ⟨fun pins s σ H Q I h => ?_⟩
  refine PySem.W.methodCall_KW (ld_glob I hg hm ?_ hdb) hc
  refine PySem.W.method_cls I.kIn hga (PySem.W.cls_value I.kIn hr hf (by decide +kernel) ?_)
  show wpAny _ _ (callWith pos (Value.builtin "ValueError.__init__") [] (backTo pos (starEach (e :: es) X.env)) []) _ _ _
  refine PyProof.Rows.callWith_method1 (thn (ha.run pos pins _ σ H _ (I.tok _) h) fun us s1 ⟨vs, H1, I1, r1, a, C, ws, ev, hl, T, ea, q⟩ => ?_) he hpl
  subst ev
  cases r1 with
  | @cons _ u0 _ ur ra rw' =>
    obtain rfl : u0 = Value.ref a := ra
    have hlen : ur.length ≤ sizeLine := by
      rw [← Paired.length rw', sizeLine_eq]
      omega
    exact oinit_ok T I1 ea hlen fun s' J => ⟨.non, H1, J, rfl, q⟩
theorem call_str_any : CallR X (.type "str") (fun xs H Q => ∃ v, xs = [v] ∧ okV v ∧ ∀ z : Str, z.length ≤ 1000 → Q (.str z) H) := by
  intro pins s σ H xs us Q I r ⟨v, e, o, q⟩
  subst e
  cases v with
  | int i =>
    have o' : 0 ≤ i ∧ i < 10 ^ 10 := o
    have hl : i.natAbs.log2 < 1920 := by
      have h1 : i.natAbs < 2 ^ 40 := by omega
      by_cases h0 : i.natAbs = 0
      · rw [h0]; decide
      · exact Nat.lt_trans ((Nat.log2_lt h0).mpr h1) (by decide)
    exact call_str_int pins s σ H _ us Q I r ⟨i, rfl, hl, q _ (Nat.le_trans (PySem.W.KT.len_num o'.1 o'.2) (by decide))⟩
  | str z => exact SkE.call_str_str pins s σ H _ us Q I r ⟨z, rfl, q z o⟩
  | _ => exact o.elim
end
def rStr2 : R2 := fun x y H Q => ∃ i j, x = .str i ∧ y = .str j ∧ i.length + j.length ≤ sizeLine ∧ Q (.str (i ++ j)) H
def rStr1 : List V → Hp → VK → Prop := fun xs H Q => ∃ v, xs = [v] ∧ okV v ∧ ∀ z : Str, z.length ≤ 1000 → Q (.str z) H
/-- c1 + ' ' + str(v), v in slot 1 -/
def tMsg (c1 c2 : Str) : TE := tOp rStr2 (tOp rStr2 (tC (.str c1)) (tC (.str c2))) (tCB rStr1 (tCons (tVar 1) tNil))
theorem pe_msg {X : Cx} {c1 c2 x px : Str} {q1 q2 q3 q4 q5 q6 q7 : Pos} {j1 j2 : Nat} (hx : PE X (.Name px q5) (tVar 1)) (hg : Gl X "str") (hm : X.mg "str" = none) (hst : starEach [.Name px q5] X.env = (false, eval (.Name px q5) X.env) :: starEach [] X.env := by rfl) :
    PE X (.BinOp (.BinOp (.Constant (.str c1) j1 q1) .Add (.Constant (.str c2) j2 q2) q3) .Add (.Call (.Name "str" q4) [.Name px q5] [] q6) q7) (tMsg c1 c2) :=
  pe_op op_add_str (pe_op op_add_str pe_str pe_str) (pe_callTy call_str_any hg hm (by decide +kernel) (pa_cons hx pa_nil hst) (by decide) (by decide) hst rfl)
theorem init_ok {P : Program} {w : World} {K : PySem.W.Frag} {mg : Str → Option Value} {base : Heap} {qual pn fld : Str} {st : Stmt} {f C : Addr} {fd : FuncData} {c1 c2 : Str} (F : Fun K "__init__" qual st f fd) (S : FnScope ["self", pn] ["self", pn] (defScope st)) (T : OexC K C)
    (hno : PySem.W.findIn K (.ref C) fld = some none) (hc1 : c1.length ≤ 100) (hc2 : c2.length ≤ 100)
    (body : ∀ (cdv : Value) (A : Around) (outer : List PySem.Env) (s : Shared) (H : Hp) (E : XK), PSs (cxOf (L2.CX P w) P w K mg base ["self", pn] qual (defScope st) f cdv A outer s H E) (defBody st) (tSeq (tDrop (tVeI K (tCons (tVar 0) (tCons (tMsg c1 c2) tNil)))) (tOst K fld (tVar 0) (tVar 1)))) :
    FnOk P w K mg base (L2.CX P w) 1 f fd ["self", pn] (spX fld C) := by
  refine F.okX S (fun vs H Q E ⟨a, v, e, _⟩ => by rw [e]; rfl) (fun cdv A outer s H vs Q E hr h => ⟨_, body cdv A outer s H E, ?_⟩)
  obtain ⟨a, v, rfl, ov, ha, q⟩ := h
  have hz : sizeLine = 16777216 := sizeLine_eq
  have h12 : (c1 ++ c2 : Str).length ≤ 200 := by
    show (c1.cps ++ c2.cps).size ≤ 200
    rw [Array.size_append]
    have h1 : c1.cps.size ≤ 100 := hc1
    have h2 : c2.cps.size ≤ 100 := hc2
    omega
  refine ⟨.ref a, rfl, c1, c2, rfl, rfl, by omega, ?_⟩
  refine ⟨v, rfl, v, rfl, ov, fun z hlz => ⟨_, z, rfl, rfl, by omega, a, C, [.str _], rfl, by show 1 ≤ 1000; omega, T, ha, ?_⟩⟩
  exact ⟨v, rfl, .ref a, rfl, a, C, rfl, T, hno, .inl ⟨ha, fun dx h1 h2 => q dx h1 h2⟩⟩
end Mi

set_option Elab.async false
set_option linter.all false
set_option maxRecDepth 100000
set_option maxHeartbeats 4000000
/-! Mi7: int of long texts, str of long ints, zip, replace. -/
namespace PySem.W
open PySem PySem.Calls PySem.NumText PyProof.Rows
namespace KIM
theorem wp_text {M : Model} {A : Around} {E : Value → Shared → Prop} {s : Shared} {Q : Value → Shared → Prop} {v : Value} {text : List Nat} {n : Int}
    (hg : s.heap.NoDigits) (hs : ¬ (text.takeWhile (· != 0)).length ≤ 640) (hr : (int_private% "readNumeral") 4300 10 (text.takeWhile (· != 0)) = (int_private% "Numeral.value") n)
    (ha : ((text.takeWhile (· != 0)).length == text.length) = true) (h : Q (.int n s.toks) { s with toks := s.toks + 1 }) :
    wpAny M A ((int_private% "intFromText") v text 10) Q E s := by
  obtain ⟨hp, g, d, tk, os⟩ := s
  obtain ⟨mc, hns, hnone⟩ := hg
  repeat (any_goals (first
    | assumption
    | (with_reducible refine wpAny_ite_false (decide_eq_false hs) ?_)
    | (with_reducible refine wpAny_ite_true (decide_eq_true ha) ?_)
    | ((with_reducible show wpAny _ _ (Builtin.intMaxStrDigits) _ _ _); unfold Builtin.intMaxStrDigits; refine wpAny_bind (wpAny_nsGet hns ?_); rw [hnone]; refine wpAny_pure ?_)
    | wp_step))
  all_goals (try rw [hr])
  all_goals (try dsimp only)
  repeat (any_goals (first
    | assumption
    | (with_reducible refine wpAny_ite_true (decide_eq_true ha) ?_)
    | wp_step))
structure Hid (p : Prop) : Prop where
  out : p
theorem meets_text {x : PySem.Str} {u : Tok} {n : Int} (hl : x.length ≤ 16777216) (hn : PySem.intText? x = some n) :
    Meets (Builtin.«int.__new__» ⟨[.type "int", .str x u], []⟩) (fun A R s => s.heap.NoDigits ∧ R (.ok (.ret (.int n s.toks))) { s with toks := s.toks + 1 }) :=
  .of_wp fun prog w A R s h => by
    obtain ⟨hg, h⟩ := h
    by_cases hs : (numSeenOf x).length ≤ 640
    · obtain ⟨hp, g, d, tk, os⟩ := s
      have f1 := F.conv_sub_int
      have f2 := F.madeHere_int
      have f3 := KIN.str_int
      have f4 := KIN.str_idx
      have f5 := KIN.str_trunc
      have f6 : typeOf (.str x u) = pure (.type "str") := rfl
      have hr : (int_private% "readNumeral") 0 10 (numSeenOf x) = (int_private% "Numeral.value") n ∧ ((numSeenOf x).length == (numTextOf x).length) = true := by
        rcases read0 x hs with ⟨m, h1, h2, h3⟩ | ⟨h1, _⟩
        · rw [hn] at h1
          injection h1 with h1
          subst h1
          exact ⟨h3, h2⟩
        · rw [hn] at h1
          cases h1
      have hk := Hid.mk (And.intro hs hr)
      clear hs hr hl hn
      repeat (any_goals (first
        | assumption
        | ((with_reducible show wpAny _ _ ((int_private% "intFromText") _ _ _) _ _ _); refine KIN.wp_text hk.out.1 hk.out.2.1 hk.out.2.2 ?_)
        | wp_step))
      all_goals first | exact ⟨_, rfl, h⟩ | skip
    · obtain ⟨hp, g, d, tk, os⟩ := s
      have f1 := F.conv_sub_int
      have f2 := F.madeHere_int
      have f3 := KIN.str_int
      have f4 := KIN.str_idx
      have f5 := KIN.str_trunc
      have f6 : typeOf (.str x u) = pure (.type "str") := rfl
      have hr : (int_private% "readNumeral") 4300 10 (numSeenOf x) = (int_private% "Numeral.value") n ∧ ((numSeenOf x).length == (numTextOf x).length) = true := by
        rcases read4300 x (by rw [sizeLine_eq]; exact hl) with ⟨m, h1, h2, h3⟩ | ⟨h1, _⟩
        · rw [hn] at h1
          injection h1 with h1
          subst h1
          exact ⟨h3, h2⟩
        · rw [hn] at h1
          cases h1
      have hk := Hid.mk (And.intro hs (And.intro hr hg))
      clear hs hr hl hn hg
      repeat (any_goals (first
        | assumption
        | ((with_reducible show wpAny _ _ ((int_private% "intFromText") _ _ _) _ _ _); refine wp_text hk.out.2.2 hk.out.1 hk.out.2.1.1 hk.out.2.1.2 ?_)
        | wp_step))
      all_goals first | exact ⟨_, rfl, h⟩ | skip
theorem call_text {prog : Program} {w : World} {A : Around} {E : Value → Shared → Prop} {s : Shared} {Q : Value → Shared → Prop} {x : PySem.Str} {t : Tok} {n : Int} (hg : s.heap.NoDigits) (hn : PySem.intText? x = some n) (hl : x.length ≤ 16777216) (h : Q (.int n s.toks) { s with toks := s.toks + 1 }) :
    wpAny (model prog w) A (call (.type "int") [.str x t]) Q E s :=
  call_int_1 (meets_text hl hn) ⟨hg, typeIs_int _ _ _, h⟩
end KIM
end PySem.W
namespace Mi
open PySem PySem.Spec PyProof.Rows L2
/-- the limit on digits is the written one -/
def DigOk (K : PySem.W.Frag) : Prop := PySem.W.nsIn K cStatics "sys.int_max_str_digits" = some none
theorem DigOk.no {K : PySem.W.Frag} {h : Heap} (d : DigOk K) (X : K.In h) (l : h.NoLimit) : h.NoDigits :=
  let ⟨mc, n, _⟩ := l
  ⟨mc, n, PySem.W.ns_none_of X n d⟩
section
variable {X : Cx} {g : Gi} {E : XK}
theorem call_int_text (hd : DigOk X.K) : CallR X (.type "int") (fun xs H Q => ∃ a n, xs = [.str a] ∧ PySem.intText? a = some n ∧ a.length ≤ 16777216 ∧ Q (.int n) H) := by
  intro pins s σ H xs us Q I rs h
  obtain ⟨a, n, rfl, hn, hl, h⟩ := h
  cases rs with
  | cons r1 rs =>
    cases rs
    obtain ⟨t, rfl⟩ := r1
    exact PySem.W.KIM.call_text (hd.no I.kIn I.nolimit) hn hl ⟨.int n, H, I.tok _, ⟨_, rfl⟩, h⟩
theorem call_str_long (hc : X.calm = true) (hd : DigOk X.K) : CallR X (.type "str") (fun xs H Q => ∃ i, xs = [.int i] ∧ i.natAbs < 10 ^ 4300 ∧ Q (.str (toString i)) H) := by
  intro pins s σ H xs us Q I r h
  obtain ⟨i, rfl, hz, q⟩ := h
  obtain ⟨u, rfl, t, rfl⟩ := vals1 r
  exact PyProof.Rows.str_of_int_or (I.ok.hd hc) (hd.no I.kIn I.nolimit) (fun _ => ⟨.str _, H, I.tok _, ⟨_, rfl⟩, q⟩) fun hge => absurd hz (Nat.not_lt.mpr hge)
/-- int(x) of an int, of a text -/
def cInt : MC1 := fun ds mh => match ds with
  | [.int i] => .ok (.int i) mh
  | [.bl b] => .ok (.int (if b then 1 else 0)) mh
  | [.str x] => if x.length ≤ SL then match PySem.intText? x with
      | some n => .ok (.int n) mh
      | none => .bad
    else .bad
  | _ => .bad
theorem cm_int (hd : DigOk X.K) : CallR X (.type "int") (rdC g E cInt) := CallR.cases fun ρ mh ds vs H Q w r fin => by
  unfold cInt at fin
  split at fin
  · rename_i i
    obtain ⟨v, u, rfl, r1, r2⟩ := r
    cases (show u = [] from r2)
    exact ⟨_, call_int1, .inl ⟨i, by rw [show v = .int i from r1], ansV w fin rfl⟩⟩
  · rename_i b
    obtain ⟨v, u, rfl, r1, r2⟩ := r
    cases (show u = [] from r2)
    exact ⟨_, call_int1, .inr ⟨b, by rw [show v = .bl b from r1], ansV w fin rfl⟩⟩
  · rename_i x
    obtain ⟨v, u, rfl, r1, r2⟩ := r
    cases (show u = [] from r2)
    split at fin
    · rename_i c
      split at fin
      · rename_i n hn
        exact ⟨_, call_int_text hd, x, n, by rw [show v = .str x from r1], hn, c, ansV w fin rfl⟩
      · exact fin.elim
    · exact fin.elim
  · exact fin.elim
/-- str(x) of an int of up to 4300 digits, of a text -/
noncomputable def okLong (i : Int) : Bool := cdec (i.natAbs < 10 ^ 4300)
theorem okLong_iff {i : Int} : okLong i = true ↔ i.natAbs < 10 ^ 4300 := by exact cdec_iff
noncomputable def cStrL : MC1 := fun ds mh => match ds with
  | [.int i] => if okLong i = true then .ok (.str (toString i : String)) mh else .bad
  | [.str x] => .ok (.str x) mh
  | _ => .bad
theorem cm_strL (hc : X.calm = true) (hd : DigOk X.K) : CallR X (.type "str") (rdC g E cStrL) := CallR.cases fun ρ mh ds vs H Q w r fin => by
  unfold cStrL at fin
  split at fin
  · rename_i i
    obtain ⟨v, u, rfl, r1, r2⟩ := r
    cases (show u = [] from r2)
    by_cases c0 : okLong i = true
    · rw [if_pos c0] at fin
      have c := okLong_iff.mp c0
      exact ⟨_, call_str_long hc hd, i, by rw [show v = .int i from r1], c, ansV w fin rfl⟩
    · rw [if_neg c0] at fin
      exact fin.elim
  · rename_i x
    obtain ⟨v, u, rfl, r1, r2⟩ := r
    cases (show u = [] from r2)
    exact ⟨_, SkE.call_str_str, x, by rw [show v = .str x from r1], ansV w fin rfl⟩
  · exact fin.elim

/-! ### zip of two lists, of two tuples -/
def srcZL (j k : Nat) : Src := fun i mh => match lsAt mh j, lsAt mh k with
  | some xs, some ys => match xs[i]?, ys[i]? with
    | some x, some y => some (some (.tup [x, y]))
    | _, _ => some none
  | _, _ => none
def srcZT (xs ys : List D) : Src := fun i _ => match xs[i]?, ys[i]? with
  | some x, some y => some (some (.tup [x, y]))
  | _, _ => some none
theorem srcZL_ok {K : PySem.W.Frag} {ρ : List Addr} {H : Hp} {j k : Nat} {a b : Addr} (ha : ρ[j]? = some a) (hb : ρ[k]? = some b) : SrcOk K ρ H (srcZL j k) (Itz K a b) := fun i ρ' H' mh' kp pp w => by
  have ha' := pre_get pp ha
  have hb' := pre_get pp hb
  refine ⟨fun d e => ?_, fun e => ?_⟩
  · unfold srcZL at e
    split at e
    · rename_i xs ys hx hy
      obtain ⟨vs, s, q⟩ := w.seqL (lsAt_or hx) ha'
      obtain ⟨us, s', q'⟩ := w.seqL (lsAt_or hy) hb'
      split at e
      · rename_i x y ex ey
        cases e
        obtain ⟨v, q1, q2⟩ := q.get ex
        obtain ⟨u, z1, z2⟩ := q'.get ey
        refine ⟨⟨vs, us, v, u, s, s', q1, z1⟩, fun p H'' yy => ?_⟩
        obtain ⟨T, v', u', rfl, hT, rfl, f1, f2⟩ := yy
        have t1 := f1 vs s
        rw [q1] at t1
        cases t1
        have t2 := f2 us s'
        rw [z1] at t2
        cases t2
        refine ⟨Kp.new hT, w.fresh hT, T, [v, u], rfl, SqT.of upd_same, ?_⟩
        exact Reps.cons (q2.mono (Kp.new hT) (List.prefix_refl _)) (Reps.one (z2.mono (Kp.new hT) (List.prefix_refl _)))
      · cases e
    · cases e
  · unfold srcZL at e
    split at e
    · rename_i xs ys hx hy
      obtain ⟨vs, s, q⟩ := w.seqL (lsAt_or hx) ha'
      obtain ⟨us, s', q'⟩ := w.seqL (lsAt_or hy) hb'
      refine ⟨vs, us, s, s', ?_⟩
      rw [q.length, q'.length]
      by_cases h1 : xs.length ≤ i
      · exact .inl h1
      · by_cases h2 : ys.length ≤ i
        · exact .inr h2
        · rw [List.getElem?_eq_getElem (Nat.lt_of_not_le h1), List.getElem?_eq_getElem (Nat.lt_of_not_le h2)] at e
          cases e
    · cases e
theorem srcZT_ok {K : PySem.W.Frag} {ρ : List Addr} {H : Hp} {xs ys : List D} {vs us : List V} {a b : Addr} (s : SqT K H a vs) (q : Reps K ρ H xs vs) (s' : SqT K H b us) (q' : Reps K ρ H ys us) : SrcOk K ρ H (srcZT xs ys) (RZ.ItzT K a b) := fun i ρ' H' mh' kp pp w => by
  have s := kp a vs s
  have q := q.mono kp pp
  have s' := kp b us s'
  have q' := q'.mono kp pp
  refine ⟨fun d e => ?_, fun e => ?_⟩
  · unfold srcZT at e
    split at e
    · rename_i x y ex ey
      cases e
      obtain ⟨v, q1, q2⟩ := q.get ex
      obtain ⟨u, z1, z2⟩ := q'.get ey
      refine ⟨⟨vs, us, v, u, s, s', q1, z1⟩, fun p H'' yy => ?_⟩
      obtain ⟨T, v', u', rfl, hT, rfl, f1, f2⟩ := yy
      have t1 := f1 vs s
      rw [q1] at t1
      cases t1
      have t2 := f2 us s'
      rw [z1] at t2
      cases t2
      refine ⟨Kp.new hT, w.fresh hT, T, [v, u], rfl, SqT.of upd_same, ?_⟩
      exact Reps.cons (q2.mono (Kp.new hT) (List.prefix_refl _)) (Reps.one (z2.mono (Kp.new hT) (List.prefix_refl _)))
    · cases e
  · unfold srcZT at e
    refine ⟨vs, us, s, s', ?_⟩
    rw [q.length, q'.length]
    by_cases h1 : xs.length ≤ i
    · exact .inl h1
    · by_cases h2 : ys.length ≤ i
      · exact .inr h2
      · rw [List.getElem?_eq_getElem (Nat.lt_of_not_le h1), List.getElem?_eq_getElem (Nat.lt_of_not_le h2)] at e
        cases e
def mZip (xs : MA) : MI := fun env mh => (xs env mh).bind fun ds mh1 => match ds with
  | [.ref j, .ref k] => match lsAt mh1 j, lsAt mh1 k with
    | some a, some b => .ok (a.length, srcZL j k) mh1
    | _, _ => .bad
  | [.tup a, .tup b] => .ok (a.length, srcZT a b) mh1
  | _ => .bad
theorem im_zip {e e2 : Expr} {xs : MA} {p pos tpos : Pos} {elts : List Expr} {kk : Nat} (hg : Gl X "zip") (hm : X.mg "zip" = none) (ha : PA X [e, e2] (rdA g E xs)) (hK : X.K = g.K := by rfl)
    (hs : starEach [e, e2] X.env = (false, eval e X.env) :: starEach [e2] X.env := by rfl) (hpl : (backTo pos (starEach [e2] X.env)).any (·.1) = false := by rfl) :
    PI X (.Tuple elts kk tpos) (.Call (.Name "zip" p) [e, e2] [] pos) (rdI g E (mZip xs)) := by
  obtain ⟨K, ex⟩ := g
  dsimp only at hK
  subst hK
  refine ⟨fun pins s σ H R I h => (RZ.pi_zipA hg hm ha hs hpl).run pins s σ H R I ?_⟩
  obtain ⟨ρ, env, mh, sl, w, fin⟩ := h
  refine ⟨ρ, env, mh, sl, w, fin.unbind.imp fun ds mh1 ρ1 H1 he k1 p1 w1 f1 vs r1 => ?_⟩
  clear he
  split at f1
  · rename_i j k
    split at f1
    · rename_i as bs hj hk
      obtain ⟨v, u, rfl, r1, v2, u2, rfl, r2, r3⟩ := r1
      cases (show u2 = [] from r3)
      obtain ⟨a, rfl, ha⟩ := r1
      obtain ⟨b, rfl, hb⟩ := r2
      obtain ⟨xs, s1, _⟩ := w1.seqL (lsAt_or hj) ha
      obtain ⟨ys, s2, _⟩ := w1.seqL (lsAt_or hk) hb
      exact ⟨a, b, xs, ys, rfl, .inl ⟨s1, s2, f1 ρ1 H1 Kp.refl (List.prefix_refl _) w1 _ (srcZL_ok ha hb)⟩⟩
    · exact f1.elim
  · rename_i as bs
    obtain ⟨v, u, rfl, r1, v2, u2, rfl, r2, r3⟩ := r1
    cases (show u2 = [] from r3)
    obtain ⟨a, xs, rfl, s1, q1⟩ := r1
    obtain ⟨b, ys, rfl, s2, q2⟩ := r2
    exact ⟨a, b, xs, ys, rfl, .inr ⟨s1, s2, f1 ρ1 H1 Kp.refl (List.prefix_refl _) w1 _ (srcZT_ok s1 q1 s2 q2)⟩⟩
  · exact f1.elim
end
end Mi

/-! ### replace, its token carried -/
namespace Mi
open PySem PySem.Spec PyProof.Rows L2
section
variable {X : Cx} {g : Gi} {E : XK} {e o : Expr} {st : Stmt} {rest : List Stmt} {y z : Str} {j k i : Nat} {x : Str} {c0 c1 apos pos pos' : Pos}
theorem weakET {t t' : TE} (h : PET X e t) (k : ∀ σ H Q, t' σ H Q → t σ H Q) : PET X e t' := fun pins s σ H Q h0 I hw => h pins s σ H Q h0 I (k _ _ _ hw)
theorem weakST {t t' : TS} (h : PST X st t) (k : ∀ D σ H, t' D σ H → t D σ H) : PST X st t' := fun pins s σ H D h0 I hw => h pins s σ H D h0 I (k _ _ _ hw)
theorem weakSsT {t t' : TS} (h : PSsT X rest t) (k : ∀ D σ H, t' D σ H → t D σ H) : PSsT X rest t' := fun pins s σ H D h0 I hw => h pins s σ H D h0 I (k _ _ _ hw)
noncomputable def replC (x z : Str) : Bool := cdec (x.length + (x.length + 1) * z.length ≤ 16777216)
theorem replC_iff {x z : Str} : replC x z = true ↔ (x.length + (x.length + 1) * z.length ≤ 16777216) := by exact cdec_iff
noncomputable def opRepl (y z : Str) : D → MH → Res D := fun d mh => match d with
  | .str x => if replC x z = true then .ok (.str (Txt.replace x y z)) mh else .bad
  | _ => .bad
noncomputable def mRepl (y z : Str) (x : ME) : ME := fun env mh => (x env mh).bind (opRepl y z)
theorem replM {m : ME} {σ : L2.St} {H : Hp} {Q : VK} (h : rdE g E (mRepl y z m) σ H Q) : CwR.tReplC (rdE g E m) y z σ H Q := by
  obtain ⟨ρ, env, mh, s, w, fin⟩ := h
  refine ⟨ρ, env, mh, s, w, fin.unbind.imp fun d mh1 ρ1 H1 _ k1 p1 w1 f1 v r1 => ?_⟩
  cases d with
  | str a =>
    unfold opRepl at f1
    dsimp only at f1
    split at f1
    · rename_i c0
      have c := replC_iff.mp c0
      exact ⟨a, r1, c, ansV w1 f1 rfl⟩
    · exact f1.elim
  | _ => exact f1.elim
theorem petm_repl0 {m : ME} (ho : PE X o (rdE g E m)) (hyz : (y == z) = false := by decide)
    (hst : starEach [.Constant (.str y) j c0, .Constant (.str z) k c1] X.env = [(false, eval (.Constant (.str y) j c0) X.env), (false, eval (.Constant (.str z) k c1) X.env)] := by rfl)
    (hbase : attributeBase o "replace" X.env (eval o X.env) = eval o X.env := by rfl) (hline : (apos.endLine == pos.line) = true := by rfl) :
    PET X (.Call (.Attribute o "replace" apos) [.Constant (.str y) j c0, .Constant (.str z) k c1] [] pos) (rdE g E (mRepl y z m)) :=
  weakET (CwR.pet_replC ho hyz hst hbase hline) fun _ _ _ h => replM h
theorem petm_replT {m : ME} (ho : PET X o (rdE g E m)) (hyz : (y == z) = false := by decide)
    (hst : starEach [.Constant (.str y) j c0, .Constant (.str z) k c1] X.env = [(false, eval (.Constant (.str y) j c0) X.env), (false, eval (.Constant (.str z) k c1) X.env)] := by rfl)
    (hbase : attributeBase o "replace" X.env (eval o X.env) = eval o X.env := by rfl) (hline : (apos.endLine == pos.line) = true := by rfl) :
    PET X (.Call (.Attribute o "replace" apos) [.Constant (.str y) j c0, .Constant (.str z) k c1] [] pos) (rdE g E (mRepl y z m)) :=
  weakET (CwR.pet_replT ho hyz hst hbase hline) fun _ _ _ h => replM h
theorem pet_m1 {id : String} {name : Str} {apos pos : Pos} {r : V → List V → Hp → VK → Prop} {to te : TE} (slot : Slot "str" name id) (ty : typeOf (.builtin id) = pure (.type "method_descriptor")) (rule : MtR X id r) (ho : PET X o to) (he : PE X e te)
    (hs : starEach [e] X.env = [(false, eval e X.env)] := by rfl) (hbase : attributeBase o name X.env (eval o X.env) = eval o X.env := by rfl) (hline : (apos.endLine == pos.line) = true := by rfl) :
    PET X (.Call (.Attribute o name apos) [e] [] pos) (tM1 r to te) := by
  intro pins s σ H Q h0 I h
  refine PySem.Call_method1 hbase hs hline (thn (ho pins s σ H _ h0 I h) fun v s1 ⟨x, H1, I1, r1, q1⟩ => ?_)
  obtain ⟨⟨a, rfl⟩, q1⟩ := q1
  obtain ⟨t, rfl⟩ := _root_.id r1
  refine ⟨"str", _, PySem.F.plainAttrs_str, slot, ty, typeIs_str _ _ _, (fun _ e => nomatch e), Calls.callWith_builtin rfl (Calls.evalArgs_plain (Calls.spliced_cons ?_))⟩
  exact thn (he.run pins s1 σ H1 _ I1 q1) fun u s2 ⟨y, H2, I2, r2, q2⟩ => Calls.spliced_nil (rule pins s2 σ H2 _ [y] _ [u] Q I2 r1 (.cons r2 .nil) q2)
def mSplit1 (x y : ME) : ME := fun env mh => (x env mh).bind fun d mh1 => if isStrD d then (y env mh1).bind fun d2 mh2 => mdSplit d [d2] mh2 else .bad
theorem petm_split {m1 m2 : ME} {apos pos : Pos} (ho : PET X o (rdE g E m1)) (he : PE X e (rdE g E m2)) (hK : X.K = g.K := by rfl)
    (hs : starEach [e] X.env = [(false, eval e X.env)] := by rfl) (hbase : attributeBase o "split" X.env (eval o X.env) = eval o X.env := by rfl) (hline : (apos.endLine == pos.line) = true := by rfl) :
    PET X (.Call (.Attribute o "split" apos) [e] [] pos) (rdE g E (mSplit1 m1 m2)) :=
  weakET (pet_m1 PySem.F.slot_str_split PySem.F.type_str_split (mm_split (g := g) (E := E)) ho he hs hbase hline) fun σ H Q ⟨ρ, env, mh, s, w, fin⟩ => by
    refine ⟨ρ, env, mh, s, w, fin.unbind.imp fun d mh1 ρ1 H1 _ k1 p1 w1 f1 v r1 => ?_⟩
    cases d with
    | str a =>
      refine ⟨⟨a, r1⟩, ρ1, env, mh1, s.mono k1 p1, w1, (Fin.unbind (show Fin g E ρ1 H1 (QV g Q) ((m2 env mh1).bind fun d2 mh2 => mdSplit (.str a) [d2] mh2) from f1)).imp fun d2 mh2 ρ2 H2 _ k2 p2 w2 f2 u r2 => ?_⟩
      exact ⟨ρ2, mh2, .str a, [d2], w2, r1.mono k2 p2, Reps.one r2, f2⟩
    | _ => exact f1.elim
theorem stm_set {m : ME} (hN : X.N.Nodup) (hi : X.N[i]? = some x) (hx : Loc X.env.scope x) (he : PET X e (rdE g E m)) (hs : swapsWith e (some (.Name x pos')) pos.line X.env = pure false := by rfl)
    (hf : X.fn x = true ∨ X.env.scope.names.lookup x = some .local := by first | exact .inl rfl | exact .inr rfl | assumption) : PST X (.Assign [.Name x pos'] e pos) (rdS g E (mSet i m)) := by
  refine weakST (t := tAsg (rdE g E m) (gName i)) ?_ fun _ _ _ h => setM h
  intro pins s σ H D h0 I h
  refine wpAny_Assign_Name (thn (he pins s σ H _ h0 I h) fun v s1 ⟨y, H1, I1, r1, q1⟩ => ?_) hs
  exact store_ok I1 hN hi hx r1 (fun s2 I2 => ⟨_, H1, I2, q1⟩) hf
theorem sstm_cons {a b : MS} (h1 : PST X st (rdS g E a)) (h2 : PSsT X rest (rdS g E b)) : PSsT X (st :: rest) (rdS g E (mSeq a b)) := weakSsT (psst_cons h1 h2) fun _ _ _ h => seqM h
theorem sstm_consS {a b : MS} (h1 : PS X st (rdS g E a)) (h2 : PSsT X rest (rdS g E b)) : PSsT X (st :: rest) (rdS g E (mSeq a b)) := sstm_cons (PST.of h1) h2
end
/-- a def whose body is shown with a token out -/
theorem def_okT {P : Program} {w : World} {g : Gi} {mg : Str → Option Value} {base : Heap} {x qual : Str} {st : Stmt} {f : Addr} {fd : FuncData} {N ps : List Str} {k : Nat} {b : MS} (F : Fun g.K x qual st f fd) (S : FnScope N ps (defScope st))
    (hnc : ∀ y ∈ (defScope st).names, y.2 ≠ .cell) (hps : 1 ≤ ps.length)
    (hm : mg x = some (.ref f)) (hb : ∀ (kV doc pm : Value) (an : Option Addr) (cdv ct : Value) (us : List Value), us.length = ps.length → bindArgs (PySem.W.fnOf x qual (defArgs st) (defBody st) (defScope st) .none kV doc pm an cdv ct) ⟨us, []⟩ = pure (ps.zip us))
    (body : ∀ (cdv : Value) (A : Around) (outer : List PySem.Env) (s : Shared) (H : Hp) (E : XK), Room k (A.deeper (envOfC qual (defScope st) s.heap.objs.size f cdv)) →
      PSsT (cxOf (L2.CX P w) P w g.K mg base N qual (defScope st) f cdv A outer s H E) (defBody st) (rdS g E b)) : Callee P w g mg base x (k + 1) ps.length (mDef N.length b) := by
  have F0 := F
  obtain ⟨oc, od, kV, doc, pm, an, cdv, ct, osl, rfl, lk, hcd⟩ := F.ex
  exact ⟨f, _, ps, fn_ofT lk hcd S hnc hps (fun vs H Q E ⟨ρ, mh, ds, w, r, hn, fin⟩ => r.length.trans hn) (fun A outer s H vs Q E hr h => ⟨_, body cdv A outer s H E hr, defM h⟩), hm, F0.kp, F0.binds hb⟩
end Mi
namespace Mi
open PySem PySem.Spec PyProof.Rows L2
/-- a def's promise, the def itself being known -/
theorem def_okF {P : Program} {w : World} {g : Gi} {mg : Str → Option Value} {base : Heap} {x qual : Str} {st : Stmt} {f : Addr} {fd : FuncData} {N ps : List Str} {k : Nat} {b : MS} (F : Fun g.K x qual st f fd) (S : FnScope N ps (defScope st))
    (body : ∀ (cdv : Value) (A : Around) (outer : List PySem.Env) (s : Shared) (H : Hp) (E : XK), Room k (A.deeper (envOfC qual (defScope st) s.heap.objs.size f cdv)) →
      PSs (cxOf (L2.CX P w) P w g.K mg base N qual (defScope st) f cdv A outer s H E) (defBody st) (rdS g E b)) : FnOk P w g.K mg base (L2.CX P w) (k + 1) f fd ps (spM g ps.length (mDef N.length b)) :=
  F.okX S (fun vs H Q E ⟨ρ, mh, ds, w, r, hn, fin⟩ => r.length.trans hn) (fun cdv A outer s H vs Q E hr h => ⟨_, body cdv A outer s H E hr, defM h⟩)
/-- a def that the top has written -/
theorem fn_at {K : PySem.W.Frag} {h : Heap} {mg : Str → Option Value} {x : Str} {st : Stmt} {f : Addr} (X : K.In h) (G : h.Ns mainGlobals mg) {od an : Option Addr} {sl : Array (Option Value)} {oc kV dc pm cd ct : Value}
    (a : PySem.W.nsIn K mainGlobals x = some (some (.ref f))) (l : K.lookup f = some ⟨oc, od, .func (PySem.W.fnOf x x (defArgs st) (defBody st) (defScope st) .none kV dc pm an cd ct), sl⟩) (c : PySem.W.codeIn K cd x = true) (k : PySem.W.keepIn K (.ref f) = true) :
    ∃ f fd, Fun K x x st f fd ∧ mg x = some (.ref f) := ⟨f, _, fun_mk l c k, PySem.W.mg_of X G a⟩
theorem str_at {K : PySem.W.Frag} {h : Heap} {mg : Str → Option Value} {x y : Str} {t : Tok} (X : K.In h) (G : h.Ns mainGlobals mg) (a : PySem.W.nsIn K mainGlobals x = some (some (.str y t))) : ∃ u, mg x = some u ∧ RelV (.str y) u := ⟨_, PySem.W.mg_of X G a, t, rfl⟩
theorem exm_self {K : PySem.W.Frag} {S : Addr} (h1 : PySem.W.subIn K (.ref S) (.type "BaseException") = some true) (h2 : PySem.W.isClsIn K S = true) (h3 : PySem.W.typeIn K (.ref S) = some (.type "type")) (h4 : PySem.W.subIn K (.ref S) (.ref S) = some true) :
    PySem.W.exmOne K (.ref S) (.ref S) = some true := by
  have e1 : (PySem.W.subIn K (.ref S) (.type "BaseException") == some true) = true := by rw [h1] <;> rfl
  have e2 : ((PySem.W.clsIn K S).isSome && PySem.W.typeIn K (.ref S) == some (.type "type")) = true := by
    have h2' : (PySem.W.clsIn K S).isSome = true := h2
    rw [h2', h3] <;> rfl
  show (if (PySem.W.subIn K (.ref S) (.type "BaseException") == some true) = true then (if ((PySem.W.clsIn K S).isSome && PySem.W.typeIn K (.ref S) == some (.type "type")) = true then PySem.W.subIn K (.ref S) (.ref S) else none) else none) = some true
  rw [if_pos e1, if_pos e2]
  exact h4
/-- the script as the mirror sees it -/
theorem script_in {K : PySem.W.Frag} {H : Hp} {a : Addr} {ns : List Int} {g : Gi} (hg : g.K = K) (hO : Only H) (hS : SqL K H a (ns.map V.int)) {F : MF} {mh : MH} (h : F [.ref 0] [.fro (ns.map D.int)] = .ok (.bl true) mh) :
    spM g 1 F [.ref a] H (fun v _ => v = .bl true) fun _ _ _ => False := by
  obtain ⟨K', ex⟩ := g
  dsimp only at hg
  subst hg
  have hInts : ∀ ns : List Int, Reps K' [a] H (ns.map D.int) (ns.map V.int) := fun ns => by
    induction ns with
    | nil => exact rfl
    | cons n ns ih => exact ⟨_, _, rfl, rfl, ih⟩
  refine ⟨[a], [.fro (ns.map D.int)], [.ref 0], ⟨rfl, fun k o e => ?_, fun j k oj ok b hj hk mj mk aj ak => ?_⟩, Reps.one ⟨a, rfl, rfl⟩, rfl, ?_⟩
  · cases k with
    | succ k => simp at e
    | zero =>
      simp at e
      subst e
      refine ⟨a, rfl, ns.map V.int, ?_, hInts ns⟩
      rcases hS with (h1 | ⟨o, h1⟩) | h1
      · rcases hO a with h2 | ⟨o, xs, h2⟩
        · rw [h2] at h1; cases h1
        · rw [h2] at h1; cases h1
      · exact .inl ⟨o, h1⟩
      · exact .inr h1
  · cases j with
    | succ j => simp at hj
    | zero =>
      cases k with
      | succ k => simp at hk
      | zero => rfl
  · rw [h]
    exact fun ρ' H' k p w v r => r
end Mi

set_option Elab.async false
set_option linter.all false
set_option maxRecDepth 100000
set_option maxHeartbeats 4000000
/-! Mi8: reasoning about mirrors: what a result is to satisfy. -/
namespace Mi
open PySem PySem.Spec PyProof.Rows L2

def PX {α : Type} (r : Res α) (P : α → MH → Prop) (X : Nat → List (Str × D) → MH → Prop) : Prop := match r with
  | .ok a h => P a h
  | .exc c f h => X c f h
  | .bad => False
def nX : Nat → List (Str × D) → MH → Prop := fun _ _ _ => False
section
variable {α β : Type} {r : Res α} {P P' : α → MH → Prop} {X X' : Nat → List (Str × D) → MH → Prop}
theorem px_bind {f : α → MH → Res β} {Q : β → MH → Prop} : PX (r.bind f) Q X = PX r (fun a h => PX (f a h) Q X) X := by cases r <;> rfl
theorem px_safe : PX r.safe P X = PX r P nX := by cases r <;> rfl
theorem px_ok {a : α} {h : MH} : PX (.ok a h) P X = P a h := rfl
theorem px_exc {c : Nat} {f : List (Str × D)} {h : MH} : PX (.exc c f h : Res α) P X = X c f h := rfl
theorem px_bad : PX (.bad : Res α) P X = False := rfl
theorem px_ite {c : Prop} [Decidable c] {a b : Res α} : PX (if c then a else b) P X = if c then PX a P X else PX b P X := by split <;> rfl
theorem px_iteB {c : Bool} {a b : Res α} : PX (if c = true then a else b) P X = if c = true then PX a P X else PX b P X := by cases c <;> rfl
theorem PX.mono (h : PX r P X) (hP : ∀ a h, P a h → P' a h) (hX : ∀ c f h, X c f h → X' c f h) : PX r P' X' := by
  cases r with
  | ok a m => exact hP _ _ h
  | exc c f m => exact hX _ _ _ h
  | bad => exact h
theorem PX.imp (h : PX r P nX) (hP : ∀ a h, P a h → P' a h) : PX r P' X' := h.mono hP fun _ _ _ z => z.elim
theorem PX.ex (h : PX r P nX) : ∃ a m, r = .ok a m ∧ P a m := by
  cases r with
  | ok a m => exact ⟨a, m, rfl, h⟩
  | exc c f m => exact h.elim
  | bad => exact h.elim
theorem PX.of {a : α} {m : MH} (e : r = .ok a m) (h : P a m) : PX r P X := by rw [e]; exact h
end
/-! ### one step of evaluation -/
section
variable {env : Env} {mh : MH} {x y : ME} {xs : MA} {i : Nat}
theorem ev_var : mVar i env mh = match env[i]? with | some (some d) => .ok d mh | _ => .bad := rfl
theorem ev_C {d : D} : mC d env mh = .ok d mh := rfl
theorem ev_bin {f : MO2} : mBin f x y env mh = (x env mh).bind fun a h1 => (y env h1).bind fun b h2 => f a b h2 := rfl
theorem ev_and : mAnd x y env mh = (x env mh).bind fun d mh1 => match d with | .bl true => y env mh1 | .bl false => .ok (.bl false) mh1 | _ => .bad := rfl
theorem ev_or : mOr x y env mh = (x env mh).bind fun d mh1 => match d with | .bl true => .ok (.bl true) mh1 | .bl false => y env mh1 | _ => .bad := rfl
theorem ev_not : mNot x env mh = (x env mh).bind fun d mh1 => match d with | .bl k => .ok (.bl (!k)) mh1 | _ => .bad := rfl
theorem ev_neg : mNeg x env mh = (x env mh).bind opNeg := rfl
theorem ev_opNeg {i : Int} : opNeg (.int i) mh = .ok (.int (-i)) mh := rfl
theorem ev_tru : mTru x env mh = (x env mh).bind fun d mh1 => match truD mh1 d with | some k => .ok k mh1 | none => .bad := rfl
theorem ev_truB {b : Bool} : truD mh (.bl b) = some b := rfl
theorem ev_B : mB x env mh = (x env mh).bind fun d mh1 => match d with | .bl k => .ok k mh1 | _ => .bad := rfl
theorem ev_tAnd {x y : MT} : mtAnd x y env mh = (x env mh).bind fun k mh1 => if k then y env mh1 else .ok false mh1 := rfl
theorem ev_tOr {x y : MT} : mtOr x y env mh = (x env mh).bind fun k mh1 => if k then .ok true mh1 else y env mh1 := rfl
theorem ev_tNot {x : MT} : mtNot x env mh = (x env mh).bind fun k mh1 => .ok (!k) mh1 := rfl
theorem ev_if {t : MT} : mIf t x y env mh = (t env mh).bind fun k mh1 => if k then x env mh1 else y env mh1 := rfl
theorem ev_nil : mNil env mh = .ok [] mh := rfl
theorem ev_cons : mCons x xs env mh = (x env mh).bind fun d mh1 => (xs env mh1).bind fun ds mh2 => .ok (d :: ds) mh2 := rfl
theorem ev_tup : mTup xs env mh = (xs env mh).bind fun ds mh1 => if ds.length ≤ SL then .ok (.tup ds) mh1 else .bad := rfl
theorem ev_lst : mLst xs env mh = (xs env mh).bind fun ds mh1 => if ds.length ≤ SL then .ok (.ref mh1.length) (mh1 ++ [.lst ds]) else .bad := rfl
theorem ev_P0 : mP0 env mh = .ok none mh := rfl
theorem ev_P1 : mP1 x env mh = (x env mh).bind fun d mh1 => match d with | .int i => .ok (some i) mh1 | _ => .bad := rfl
theorem ev_sl {lo hi : MP} : mSl x lo hi env mh = (x env mh).bind fun d mh1 => (lo env mh1).bind fun l mh2 => (hi env mh2).bind fun h mh3 => opSl d l h mh3 := rfl
theorem ev_CB {f : MC1} : mCB f xs env mh = (xs env mh).bind f := rfl
theorem ev_call {F : MF} : mCall F xs env mh = (xs env mh).bind F := rfl
theorem ev_skip : mSkip env mh = .ok (.nx env) mh := rfl
theorem ev_seq {a b : MS} : mSeq a b env mh = (a env mh).bind fun f mh1 => match f with | .nx env' => b env' mh1 | f => .ok f mh1 := rfl
theorem ev_break : mBreak env mh = .ok (.bk env) mh := rfl
theorem ev_cont : mCont env mh = .ok (.ct env) mh := rfl
theorem ev_drop : mDrop x env mh = (x env mh).bind fun _ mh1 => .ok (.nx env) mh1 := rfl
theorem ev_ret : mRet x env mh = (x env mh).bind fun d mh1 => .ok (.rt d) mh1 := rfl
theorem ev_retN : mRetN env mh = .ok (.rt .non) mh := rfl
theorem ev_ifS {c : MT} {a b : MS} : mIfS c a b env mh = (c env mh).bind fun k mh1 => if k then a env mh1 else b env mh1 := rfl
theorem ev_set : mSet i x env mh = (x env mh).bind fun d mh1 => .ok (.nx (env.set i (some d))) mh1 := rfl
theorem ev_asgN {t : D → Env → Option Env} : mAsgN x t env mh = (x env mh).bind fun d mh1 => match t d env with | some env' => .ok (.nx env') mh1 | none => .bad := rfl
theorem ev_setIx {o k : ME} : mSetIx x o k env mh = (x env mh).bind fun d mh1 => (o env mh1).bind fun y mh2 => (k env mh2).bind fun z mh3 => (opSetL y z d mh3).bind fun _ mh4 => .ok (.nx env) mh4 := rfl
theorem ev_iter : mIter x env mh = (x env mh).bind fun d mh1 => match d with
  | .ref k => match lsAt mh1 k with | some ds => .ok (ds.length, srcL k) mh1 | none => .bad
  | .tup ds => .ok (ds.length, srcT ds) mh1
  | .str z => .ok (z.length, srcS z) mh1
  | _ => .bad := rfl
theorem ev_rng1 : mRng1 xs env mh = (xs env mh).bind fun ds mh1 => match ds with | [.int j] => if inR j = true then .ok (j.toNat, srcR 0 j.toNat) mh1 else .bad | _ => .bad := rfl
theorem ev_for {it : MI} {t : D → Env → Option Env} {b : MS} : mFor it t b env mh = (it env mh).bind fun p mh1 => mLoop p.2 t b p.1 0 env mh1 := rfl
theorem ev_comp {it : MI} {t : D → Env → Option Env} {c : MT} {elt : ME} {vs : List Nat} : mComp it t c elt vs env mh = (it env mh).bind fun p mh1 => mCLoop p.2 mh1.length t c elt (wipeE env vs) p.1 0 (mh1 ++ [.lst []]) := rfl
theorem ev_compX {it : MI} {t : D → Env → Option Env} {c : MT} {elt : ME} {vs : List Nat} : mCompX it t c elt vs env mh = (it env mh).bind fun p mh1 => mCLoopX p.2 mh1.length t c elt (wipeE env vs) p.1 0 (mh1 ++ [.lst []]) := rfl
theorem ev_yes : mYes env mh = .ok true mh := rfl
theorem ev_def {N : Nat} {b : MS} {ds : List D} : mDef N b ds mh = (b (ds.map some ++ List.replicate (N - ds.length) none) mh).bind fun f mh1 => match f with | .nx _ => .ok .non mh1 | .rt d => .ok d mh1 | _ => .bad := rfl
theorem ev_meth0 {T : String} {f : MM} : mMeth0 T f x env mh = (x env mh).bind fun d mh1 => if tyD T mh1 d then f d [] mh1 else .bad := rfl
theorem ev_meth {T : String} {f : MM} : mMeth T f x xs env mh = (x env mh).bind fun d mh1 => if tyD T mh1 d then (xs env mh1).bind fun ds mh2 => f d ds mh2 else .bad := rfl
theorem ev_isI {T : String} : mIsI T x env mh = (x env mh).bind fun d mh1 => match tyName mh1 d with | some t => .ok (.bl (isIn t T)) mh1 | none => .bad := rfl
theorem ev_raise {c : Nat} {f : Str} : mRaise c f x env mh = (x env mh).bind fun d mh1 => if okX d then .exc c [(f, d)] mh1 else .bad := rfl
theorem ev_repl {y z : Str} : mRepl y z x env mh = (x env mh).bind (opRepl y z) := rfl
theorem ev_split1 : mSplit1 x y env mh = (x env mh).bind fun d mh1 => if isStrD d then (y env mh1).bind fun d2 mh2 => mdSplit d [d2] mh2 else .bad := rfl
theorem ev_nName {d : D} : nName i d env = some (env.set i (some d)) := rfl
end

/-! ### the heap: what is kept -/
theorem pre_len {mh h : MH} (p : mh <+: h) : mh.length ≤ h.length := p.length_le
theorem pre_at {mh h : MH} (p : mh <+: h) {j : Nat} (hj : j < mh.length) : h[j]? = mh[j]? := by
  obtain ⟨t, rfl⟩ := p
  exact List.getElem?_append_left hj
theorem pre_some {mh h : MH} (p : mh <+: h) {j : Nat} {o : MO} (e : mh[j]? = some o) : h[j]? = some o := by
  rw [pre_at p (List.getElem?_eq_some_iff.mp e).1, e]
theorem pre_ls {mh h : MH} (p : mh <+: h) {j : Nat} {ds : List D} (e : lsAt mh j = some ds) : lsAt h j = some ds := by
  unfold lsAt at e ⊢
  have hj : j < mh.length := by
    cases hm : mh[j]? with
    | none => rw [hm] at e; cases e
    | some o => exact (List.getElem?_eq_some_iff.mp hm).1
  rw [pre_at p hj]; exact e
theorem pre_app (mh : MH) (o : MO) : mh <+: mh ++ [o] := List.prefix_append _ _
theorem pre_set {mh h : MH} (p : mh <+: h) {k : Nat} (hk : mh.length ≤ k) (o : MO) : mh <+: h.set k o := by
  obtain ⟨t, rfl⟩ := p
  rw [List.set_append_right _ _ hk]
  exact List.prefix_append _ _
/-- all but the object at s is kept -/
def Kt (s : Nat) (mh h : MH) : Prop := mh.length ≤ h.length ∧ ∀ j, j < mh.length → j ≠ s → h[j]? = mh[j]?
theorem Kt.refl {s : Nat} {mh : MH} : Kt s mh mh := ⟨Nat.le_refl _, fun _ _ _ => rfl⟩
theorem Kt.trans {s : Nat} {a b c : MH} (x : Kt s a b) (y : Kt s b c) : Kt s a c := ⟨Nat.le_trans x.1 y.1, fun j h n => (y.2 j (Nat.lt_of_lt_of_le h x.1) n).trans (x.2 j h n)⟩
theorem Kt.of {s : Nat} {a b : MH} (p : a <+: b) : Kt s a b := ⟨p.length_le, fun j h _ => pre_at p h⟩
theorem Kt.set {s : Nat} {a b : MH} (x : Kt s a b) (o : MO) : Kt s a (b.set s o) := ⟨by rw [List.length_set]; exact x.1, fun j h n => by rw [List.getElem?_set_ne (Ne.symm n)]; exact x.2 j h n⟩
theorem Kt.some {s : Nat} {a b : MH} (x : Kt s a b) {j : Nat} {o : MO} (e : a[j]? = some o) (n : j ≠ s) : b[j]? = some o := by rw [x.2 j (List.getElem?_eq_some_iff.mp e).1 n, e]
theorem Kt.setNew {s k : Nat} {a b : MH} (x : Kt s a b) (hk : a.length ≤ k) (o : MO) : Kt s a (b.set k o) := ⟨by rw [List.length_set]; exact x.1, fun j h n => by rw [List.getElem?_set_ne (by omega)]; exact x.2 j h n⟩
theorem lsAt_lst {mh : MH} {k : Nat} {ds : List D} (h : mh[k]? = some (.lst ds)) : lsAt mh k = some ds := by unfold lsAt; rw [h]
theorem lsAt_fro {mh : MH} {k : Nat} {ds : List D} (h : mh[k]? = some (.fro ds)) : lsAt mh k = some ds := by unfold lsAt; rw [h]
theorem get_new {mh : MH} {o : MO} : (mh ++ [o])[mh.length]? = some o := by simp

theorem inR_nat {n : Nat} (h : n ≤ 100000000) : inR (n : Int) = true := inR_iff.mpr (by omega)
/-! ### loops -/
theorem loop_px {src : Src} {t : D → Env → Option Env} {b : MS} {P : Fl → MH → Prop} {X : Nat → List (Str × D) → MH → Prop} (I : Nat → Env → MH → Prop) : ∀ (n i : Nat) (env : Env) (mh : MH), I i env mh →
    (∀ j env mh, i ≤ j → j < i + n → I j env mh → ∃ d env1, src j mh = some (some d) ∧ t d env = some env1 ∧ PX (b env1 mh) (fun f h => match f with | .nx e => I (j + 1) e h | .ct e => I (j + 1) e h | .bk e => P (.nx e) h | .rt d => P (.rt d) h) X) →
    (∀ env mh, I (i + n) env mh → src (i + n) mh = some none ∧ P (.nx env) mh) → PX (mLoop src t b n i env mh) P X
  | 0, i, env, mh, h0, _, done => by
    obtain ⟨e, p⟩ := done env mh h0
    unfold mLoop
    rw [show i = i + 0 from rfl, e]
    exact p
  | n + 1, i, env, mh, h0, go, done => by
    obtain ⟨d, env1, e1, e2, hb⟩ := go i env mh (Nat.le_refl _) (by omega) h0
    unfold mLoop
    rw [e1]
    dsimp only
    rw [e2]
    dsimp only
    rw [px_bind]
    refine hb.mono (fun f h z => ?_) (fun _ _ _ z => z)
    cases f with
    | nx e => exact loop_px I n (i + 1) e h z (fun j env mh h1 h2 => go j env mh (by omega) (by omega)) (fun env mh z => by rw [show i + 1 + n = i + (n + 1) by omega] at z ⊢; exact done env mh z)
    | ct e => exact loop_px I n (i + 1) e h z (fun j env mh h1 h2 => go j env mh (by omega) (by omega)) (fun env mh z => by rw [show i + 1 + n = i + (n + 1) by omega] at z ⊢; exact done env mh z)
    | bk e => exact z
    | rt d => exact z
theorem cloop_px {src : Src} {k : Nat} {t : D → Env → Option Env} {c : MT} {elt : ME} {env : Env} {X : Nat → List (Str × D) → MH → Prop} {P : D → MH → Prop} (J : Nat → List D → MH → Prop) : ∀ (n i : Nat) (acc : List D) (mh : MH), J i acc mh → mh[k]? = some (.lst acc) →
    (∀ j acc mh, i ≤ j → j < i + n → J j acc mh → mh[k]? = some (.lst acc) → ∃ d env1, src j mh = some (some d) ∧ t d env = some env1 ∧ PX (c env1 mh) (fun b mh1 => if b then PX (elt env1 mh1) (fun y mh2 => mh2[k]? = some (.lst acc) ∧ acc.length < SL ∧ J (j + 1) (acc ++ [y]) (mh2.set k (.lst (acc ++ [y])))) nX else mh1[k]? = some (.lst acc) ∧ J (j + 1) acc mh1) nX) →
    (∀ acc mh, J (i + n) acc mh → mh[k]? = some (.lst acc) → src (i + n) mh = some none ∧ P (.ref k) mh) → PX (mCLoop src k t c elt env n i mh) P X
  | 0, i, acc, mh, h0, hk, _, done => by
    obtain ⟨e, p⟩ := done acc mh h0 hk
    unfold mCLoop
    rw [show i = i + 0 from rfl, e]
    exact p
  | n + 1, i, acc, mh, h0, hk, go, done => by
    obtain ⟨d, env1, e1, e2, hb⟩ := go i acc mh (Nat.le_refl _) (by omega) h0 hk
    have again : ∀ acc mh, J (i + 1) acc mh → mh[k]? = some (.lst acc) → PX (mCLoop src k t c elt env n (i + 1) mh) P X := fun acc mh z hz =>
      cloop_px J n (i + 1) acc mh z hz (fun j acc mh h1 h2 => go j acc mh (by omega) (by omega)) (fun acc mh z => by rw [show i + 1 + n = i + (n + 1) by omega] at z ⊢; exact done acc mh z)
    unfold mCLoop
    rw [e1]
    dsimp only
    rw [e2]
    dsimp only
    rw [px_bind, px_safe]
    refine hb.imp fun f h z => ?_
    cases f with
    | false => exact again acc h z.2 z.1
    | true =>
      rw [if_pos rfl] at z ⊢
      rw [px_bind, px_safe]
      refine z.imp fun y h2 z2 => ?_
      obtain ⟨z3, z4, z5⟩ := z2
      rw [z3]
      dsimp only
      rw [if_pos z4]
      exact again _ _ z5 (List.getElem?_set_self (List.getElem?_eq_some_iff.mp z3).1)
theorem cloopX_px {src : Src} {k : Nat} {t : D → Env → Option Env} {c : MT} {elt : ME} {env : Env} {X : Nat → List (Str × D) → MH → Prop} {P : D → MH → Prop} (J : Nat → List D → MH → Prop) : ∀ (n i : Nat) (acc : List D) (mh : MH), J i acc mh → mh[k]? = some (.lst acc) →
    (∀ j acc mh, i ≤ j → j < i + n → J j acc mh → mh[k]? = some (.lst acc) → ∃ d env1, src j mh = some (some d) ∧ t d env = some env1 ∧ PX (c env1 mh) (fun b mh1 => if b then PX (elt env1 mh1) (fun y mh2 => mh2[k]? = some (.lst acc) ∧ acc.length < SL ∧ J (j + 1) (acc ++ [y]) (mh2.set k (.lst (acc ++ [y])))) X else mh1[k]? = some (.lst acc) ∧ J (j + 1) acc mh1) nX) →
    (∀ acc mh, J (i + n) acc mh → mh[k]? = some (.lst acc) → src (i + n) mh = some none ∧ P (.ref k) mh) → PX (mCLoopX src k t c elt env n i mh) P X
  | 0, i, acc, mh, h0, hk, _, done => by
    obtain ⟨e, p⟩ := done acc mh h0 hk
    unfold mCLoopX
    rw [show i = i + 0 from rfl, e]
    exact p
  | n + 1, i, acc, mh, h0, hk, go, done => by
    obtain ⟨d, env1, e1, e2, hb⟩ := go i acc mh (Nat.le_refl _) (by omega) h0 hk
    have again : ∀ acc mh, J (i + 1) acc mh → mh[k]? = some (.lst acc) → PX (mCLoopX src k t c elt env n (i + 1) mh) P X := fun acc mh z hz =>
      cloopX_px J n (i + 1) acc mh z hz (fun j acc mh h1 h2 => go j acc mh (by omega) (by omega)) (fun acc mh z => by rw [show i + 1 + n = i + (n + 1) by omega] at z ⊢; exact done acc mh z)
    unfold mCLoopX
    rw [e1]
    dsimp only
    rw [e2]
    dsimp only
    rw [px_bind, px_safe]
    refine hb.imp fun f h z => ?_
    cases f with
    | false => exact again acc h z.2 z.1
    | true =>
      rw [if_pos rfl] at z ⊢
      rw [px_bind]
      refine z.mono (fun y h2 z2 => ?_) (fun _ _ _ z => z)
      obtain ⟨z3, z4, z5⟩ := z2
      rw [z3]
      dsimp only
      rw [if_pos z4]
      exact again _ _ z5 (List.getElem?_set_self (List.getElem?_eq_some_iff.mp z3).1)
/-- a comprehension over items whose tests and elements leave the heap alone -/
theorem comp_pure {it : MI} {t : D → Env → Option Env} {c : MT} {elt : ME} {vs : List Nat} {env : Env} {mh : MH} {src : Src} {ds : List D} {q : D → Bool} {f : D → D} {P : D → MH → Prop} {X : Nat → List (Str × D) → MH → Prop} (hit : it env mh = .ok (ds.length, src) mh) (hl : ds.length ≤ SL)
    (hsrc : ∀ i h, mh <+: h → src i h = some ds[i]?) (hel : ∀ d ∈ ds, ∀ h, mh <+: h → ∃ env1, t d (wipeE env vs) = some env1 ∧ c env1 h = .ok (q d) h ∧ (q d = true → elt env1 h = .ok (f d) h))
    (hP : ∀ h, mh <+: h → h[mh.length]? = some (.lst ((ds.filter q).map f)) → P (.ref mh.length) h) : PX (mComp it t c elt vs env mh) P X := by
  rw [ev_comp, hit]
  show PX (mCLoop src mh.length t c elt (wipeE env vs) ds.length 0 (mh ++ [.lst []])) P X
  refine cloop_px (fun i acc h => mh <+: h ∧ acc = ((ds.take i).filter q).map f) ds.length 0 [] _ ⟨pre_app _ _, by simp⟩ (by simp) ?_ ?_
  · rintro j acc h h1 h2 ⟨p, ea⟩ hk
    have hj : j < ds.length := by omega
    obtain ⟨env1, e1, e2, e3⟩ := hel ds[j] (List.getElem_mem hj) h p
    refine ⟨ds[j], env1, by rw [hsrc j h p, List.getElem?_eq_getElem hj], e1, PX.of e2 ?_⟩
    have et : ds.take (j + 1) = ds.take j ++ [ds[j]] := by rw [List.take_add_one, List.getElem?_eq_getElem hj]; rfl
    cases hq : q ds[j] with
    | false =>
      rw [if_neg Bool.false_ne_true]
      refine ⟨hk, p, ?_⟩
      rw [et, List.filter_append, ea]
      simp [hq]
    | true =>
      rw [if_pos rfl]
      refine PX.of (e3 hq) ⟨hk, ?_, pre_set p (Nat.le_refl _) _, ?_⟩
      · rw [ea, List.length_map]
        exact Nat.lt_of_le_of_lt (List.length_filter_le _ _) (by rw [List.length_take]; omega)
      · rw [et, List.filter_append, ea]
        simp [hq]
  · rintro acc h ⟨p, ea⟩ hk
    rw [Nat.zero_add, List.take_length] at ea
    refine ⟨by rw [hsrc _ h p]; simp, hP h p (by rw [hk, ea])⟩

/-! ### data compared -/
theorem eq_int {i j : Int} {mh : MH} : opEq (.int i) (.int j) mh = .ok (.bl (i == j)) mh := by
  unfold opEq opD
  show (if both (.int i) (.int j) = true then _ else _) = _
  rw [if_pos (by rfl)]
  rw [PyData.eqv]
theorem ne_int {i j : Int} {mh : MH} : opNe (.int i) (.int j) mh = .ok (.bl (!(i == j))) mh := by
  unfold opNe opD
  show (if both (.int i) (.int j) = true then Res.ok (D.bl (!PyData.eqv (.int i) (.int j))) mh else _) = _
  rw [if_pos (by rfl), PyData.eqv]
def okS (x : Str) : Prop := ∀ c ∈ x.cps.toList, c < 1114112
theorem strOk_of {x : Str} (h : okS x) : PyData.strOk x = true := by
  unfold PyData.strOk
  rw [← Array.all_toList, List.all_eq_true]
  exact fun c hc => decide_eq_true (h c hc)
theorem both_str {x y : Str} (hx : okS x) (hy : okS y) : both (.str x) (.str y) = true := by
  unfold both SeqAt.shaped
  rw [PyData.canLay0, PyData.canLay0, strOk_of hx, strOk_of hy, PyData.depth, PyData.depth]
  rfl
theorem eq_str {x y : Str} {mh : MH} (hx : okS x) (hy : okS y) : opEq (.str x) (.str y) mh = .ok (.bl (x == y)) mh := by
  unfold opEq opD
  show (if both (.str x) (.str y) = true then _ else _) = _
  rw [if_pos (both_str hx hy)]
  rw [PyData.eqv]
theorem ne_str {x y : Str} {mh : MH} (hx : okS x) (hy : okS y) : opNe (.str x) (.str y) mh = .ok (.bl (!(x == y))) mh := by
  unfold opNe opD
  show (if both (.str x) (.str y) = true then Res.ok (D.bl (!PyData.eqv (.str x) (.str y))) mh else _) = _
  rw [if_pos (both_str hx hy), PyData.eqv]
end Mi

set_option Elab.async false
set_option linter.all false
set_option maxRecDepth 100000
set_option maxHeartbeats 4000000
/-! the mirrors of the defs (printed by gen.py) -/
namespace K66
open PySem PySem.Spec PyProof.Rows L2 Mi
noncomputable section
def N_member_text : List Str := ["member", "one"]
def C1_member_text : MT :=
    mB (mBin opIs (mVar 0) (mC .non))
def C2_member_text : MT :=
    mTru (mIsI "tuple" (mVar 0))
def T1_member_text : MS :=
    mRet (mCB cStrL (mCons (mVar 0) (mNil)))
def T2_member_text (R : MF) : MS :=
    mSeq (mIfS (C2_member_text) (mRet (mBin opAdd (mBin opAdd (mC (.str "(")) (mMeth "str" mdJoin (mC (.str " ")) (mCons (mComp (mIter (mVar 0)) (nName 1) (mYes) (mCall R (mCons (mVar 1) (mNil))) [1]) (mNil)))) (mC (.str ")")))) (mSkip)) T1_member_text
def B_member_text (R : MF) : MS :=
    mSeq (mIfS (C1_member_text) (mRet (mC (.str "-"))) (mSkip)) (T2_member_text R)
def F_member_text : Nat → MF
  | 0 => mDef 2 mBad
  | n + 1 => mDef 2 (B_member_text (F_member_text n))
def N_paper_text : List Str := ["paper", "row", "one"]
def B_paper_text : MS :=
    mRet (mMeth "str" mdJoin (mC (.str "\n")) (mCons (mComp (mIter (mVar 0)) (nName 1) (mYes) (mMeth "str" mdJoin (mC (.str " ")) (mCons (mComp (mIter (mVar 1)) (nName 2) (mYes) (mCall (F_member_text 20) (mCons (mVar 2) (mNil))) [2]) (mNil))) [1]) (mNil)))
def F_paper_text : MF := mDef 3 B_paper_text
def N_is_word : List Str := ["word", "sign"]
def B_is_word : MS :=
    mRet (mAnd (mBin (opIn false) (mBin opIx (mVar 0) (mC (.int 0))) (mC (.str "abcdefghijklmnopqrstuvwxyz"))) (mCB cAll (mCons (mComp (mIter (mVar 0)) (nName 1) (mYes) (mBin (opIn false) (mVar 1) (mBin opAdd (mC (.str "abcdefghijklmnopqrstuvwxyz")) (mC (.str "0123456789")))) [1]) (mNil))))
def F_is_word : MF := mDef 2 B_is_word
def N_is_number : List Str := ["word", "figures", "sign"]
def C1_is_number : MT :=
    mtOr (mB (mBin opEq (mVar 1) (mC (.str "")))) (mtOr (mB (mBin opGt (mCB cLen (mCons (mVar 1) (mNil))) (mC (.int 1000)))) (mtNot (mTru (mCB cAll (mCons (mComp (mIter (mVar 1)) (nName 2) (mYes) (mBin (opIn false) (mVar 2) (mC (.str "0123456789"))) [2]) (mNil))))))
def T1_is_number : MS :=
    mRet (mOr (mBin opNe (mBin opIx (mVar 1) (mC (.int 0))) (mC (.str "0"))) (mBin opEq (mVar 0) (mC (.str "0"))))
def T2_is_number : MS :=
    mSeq (mIfS (C1_is_number) (mRet (mC (.bl false))) (mSkip)) T1_is_number
def B_is_number : MS :=
    mSeq (mSet 1 (mIf (mB (mBin opEq (mBin opIx (mVar 0) (mC (.int 0))) (mC (.str "-")))) (mSl (mVar 0) (mP1 (mC (.int 1))) (mP0)) (mVar 0))) T2_is_number
def F_is_number : MF := mDef 3 B_is_number
def N_line_of : List Str := ["tokens", "line", "at"]
def C1_line_of : MT :=
    mtAnd (mB (mBin opGt (mVar 2) (mC (.int 0)))) (mtAnd (mB (mBin opNe (mBin opIx (mVar 0) (mVar 2)) (mC (.str ")")))) (mB (mBin opNe (mBin opIx (mVar 0) (mBin opSub (mVar 2) (mC (.int 1)))) (mC (.str "(")))))
def T1_line_of : MS :=
    mSet 1 (mBin opAdd (mVar 1) (mBin opIx (mVar 0) (mVar 2)))
def L1_line_of : MS :=
    mSeq (mIfS (C1_line_of) (mSet 1 (mBin opAdd (mVar 1) (mC (.str " ")))) (mSkip)) T1_line_of
def T2_line_of : MS :=
    mRet (mVar 1)
def T3_line_of : MS :=
    mSeq (mFor (mRng1 (mCons (mCB cLen (mCons (mVar 0) (mNil))) (mNil))) (nName 2) (L1_line_of)) T2_line_of
def B_line_of : MS :=
    mSeq (mSet 1 (mC (.str ""))) T3_line_of
def F_line_of : MF := mDef 3 B_line_of
def N_line_tokens : List Str := ["line", "found", "word", "at", "sign"]
def C1_line_tokens : MT :=
    mB (mBin (opIn true) (mVar 4) (mC (.str " ()")))
def T1_line_tokens : MS :=
    mCont
def C2_line_tokens : MT :=
    mB (mBin opNe (mVar 2) (mC (.str "")))
def T2_line_tokens : MS :=
    mSet 2 (mC (.str ""))
def C3_line_tokens : MT :=
    mB (mBin opNe (mVar 4) (mC (.str " ")))
def T3_line_tokens : MS :=
    mIfS (C3_line_tokens) (mDrop (mMeth "list" mdAppend (mVar 1) (mCons (mVar 4) (mNil)))) (mSkip)
def T4_line_tokens : MS :=
    mSeq (mIfS (C2_line_tokens) (mSeq (mDrop (mMeth "list" mdAppend (mVar 1) (mCons (mVar 2) (mNil)))) T2_line_tokens) (mSkip)) T3_line_tokens
def T5_line_tokens : MS :=
    mSeq (mIfS (C1_line_tokens) (mSeq (mSet 2 (mBin opAdd (mVar 2) (mVar 4))) T1_line_tokens) (mSkip)) T4_line_tokens
def L1_line_tokens : MS :=
    mSeq (mSet 4 (mBin opIx (mVar 0) (mVar 3))) T5_line_tokens
def C4_line_tokens : MT :=
    mB (mBin opNe (mVar 2) (mC (.str "")))
def T6_line_tokens : MS :=
    mRet (mIf (mB (mBin opEq (mCall F_line_of (mCons (mVar 1) (mNil))) (mVar 0))) (mVar 1) (mC .non))
def T7_line_tokens : MS :=
    mSeq (mIfS (C4_line_tokens) (mDrop (mMeth "list" mdAppend (mVar 1) (mCons (mVar 2) (mNil)))) (mSkip)) T6_line_tokens
def T8_line_tokens : MS :=
    mSeq (mFor (mRng1 (mCons (mCB cLen (mCons (mVar 0) (mNil))) (mNil))) (nName 3) (L1_line_tokens)) T7_line_tokens
def T9_line_tokens : MS :=
    mSeq (mSet 2 (mC (.str ""))) T8_line_tokens
def B_line_tokens : MS :=
    mSeq (mSet 1 (mLst (mNil))) T9_line_tokens
def F_line_tokens : MF := mDef 5 B_line_tokens
def N_read_word : List Str := ["word", "number"]
def C1_read_word : MT :=
    mB (mBin opEq (mVar 0) (mC (.str "-")))
def C2_read_word : MT :=
    mTru (mCall F_is_number (mCons (mVar 0) (mNil)))
def C3_read_word : MT :=
    mTru (mCall F_is_word (mCons (mVar 0) (mNil)))
def T1_read_word : MS :=
    mRaise 0 "line" (mVar 1)
def T2_read_word : MS :=
    mSeq (mIfS (C3_read_word) (mRet (mVar 0)) (mSkip)) T1_read_word
def T3_read_word : MS :=
    mSeq (mIfS (C2_read_word) (mRet (mCB cInt (mCons (mVar 0) (mNil)))) (mSkip)) T2_read_word
def B_read_word : MS :=
    mSeq (mIfS (C1_read_word) (mRet (mC .non)) (mSkip)) T3_read_word
def F_read_word : MF := mDef 2 B_read_word
def N_read_line : List Str := ["line", "number", "tokens", "open_rows", "token", "done"]
def C1_read_line : MT :=
    mtOr (mB (mBin opIs (mVar 2) (mC .non))) (mB (mBin opEq (mCB cLen (mCons (mVar 2) (mNil))) (mC (.int 0))))
def C2_read_line : MT :=
    mB (mBin opEq (mVar 4) (mC (.str "(")))
def C3_read_line : MT :=
    mB (mBin opEq (mCB cLen (mCons (mVar 3) (mNil))) (mC (.int 12)))
def T1_read_line : MS :=
    mDrop (mMeth "list" mdAppend (mVar 3) (mCons (mLst (mNil)) (mNil)))
def C4_read_line : MT :=
    mB (mBin opEq (mVar 4) (mC (.str ")")))
def C5_read_line : MT :=
    mB (mBin opEq (mCB cLen (mCons (mVar 3) (mNil))) (mC (.int 1)))
def T2_read_line : MS :=
    mDrop (mMeth "list" mdAppend (mBin opIx (mVar 3) (mNeg (mC (.int 1)))) (mCons (mVar 5) (mNil)))
def T3_read_line : MS :=
    mSeq (mSet 5 (mCB cTuple (mCons (mMeth0 "list" mdPop (mVar 3)) (mNil)))) T2_read_line
def L1_read_line : MS :=
    mIfS (C2_read_line) (mSeq (mIfS (C3_read_line) (mRaise 0 "line" (mVar 1)) (mSkip)) T1_read_line) (mIfS (C4_read_line) (mSeq (mIfS (C5_read_line) (mRaise 0 "line" (mVar 1)) (mSkip)) T3_read_line) (mDrop (mMeth "list" mdAppend (mBin opIx (mVar 3) (mNeg (mC (.int 1)))) (mCons (mCall F_read_word (mCons (mVar 4) (mCons (mVar 1) (mNil)))) (mNil)))))
def C6_read_line : MT :=
    mB (mBin opGt (mCB cLen (mCons (mVar 3) (mNil))) (mC (.int 1)))
def T4_read_line : MS :=
    mRet (mCB cTuple (mCons (mBin opIx (mVar 3) (mC (.int 0))) (mNil)))
def T5_read_line : MS :=
    mSeq (mIfS (C6_read_line) (mRaise 0 "line" (mVar 1)) (mSkip)) T4_read_line
def T6_read_line : MS :=
    mSeq (mFor (mIter (mVar 2)) (nName 4) (L1_read_line)) T5_read_line
def T7_read_line : MS :=
    mSeq (mSet 3 (mLst (mCons (mLst (mNil)) (mNil)))) T6_read_line
def T8_read_line : MS :=
    mSeq (mIfS (C1_read_line) (mRaise 0 "line" (mVar 1)) (mSkip)) T7_read_line
def B_read_line : MS :=
    mSeq (mSet 2 (mCall F_line_tokens (mCons (mVar 0) (mNil)))) T8_read_line
def F_read_line : MF := mDef 6 B_read_line
def N_paper_from : List Str := ["text", "lines", "at"]
def C1_paper_from : MT :=
    mB (mBin opEq (mVar 0) (mC (.str "")))
def T1_paper_from : MS :=
    mRet (mCB cTuple (mCons (mCompX (mRng1 (mCons (mCB cLen (mCons (mVar 1) (mNil))) (mNil))) (nName 2) (mYes) (mCall F_read_line (mCons (mBin opIx (mVar 1) (mVar 2)) (mCons (mBin opAdd (mVar 2) (mC (.int 1))) (mNil)))) [2]) mNil))
def T2_paper_from : MS :=
    mSeq (mSet 1 (mMeth "str" mdSplit (mVar 0) (mCons (mC (.str "\n")) (mNil)))) T1_paper_from
def B_paper_from : MS :=
    mSeq (mIfS (C1_paper_from) (mRet (mTup (mNil))) (mSkip)) T2_paper_from
def F_paper_from : MF := mDef 3 B_paper_from
def N_law_source : List Str := ["script", "at", "limit", "cells", "state", "cell", "great"]
def L1_law_source : MS :=
    mSet 4 (mBin opMod (mBin opAdd (mBin opAdd (mBin opMul (mVar 4) (mC (.int 48271))) (mBin opMod (mVar 5) (mC (.int 1000000007)))) (mC (.int 17))) (mC (.int 2147483647)))
def T1_law_source : MS :=
    mRet (mLst (mCons (mIf (mB (mBin opGe (mVar 6) (mBin opPow (mC (.int 10)) (mC (.int 18))))) (mVar 6) (mC (.int 0))) (mCons (mVar 4) (mCons (mBin opMod (mVar 1) (mC (.int 1009))) (mNil)))))
def T2_law_source : MS :=
    mSeq (mSet 6 (mIf (mB (mBin opGt (mCB cLen (mCons (mVar 3) (mNil))) (mC (.int 0)))) (mBin opIx (mVar 3) (mBin opMod (mVar 1) (mCB cLen (mCons (mVar 3) (mNil))))) (mC (.int 0)))) T1_law_source
def T3_law_source : MS :=
    mSeq (mFor (mIter (mVar 3)) (nName 5) (L1_law_source)) T2_law_source
def T4_law_source : MS :=
    mSeq (mSet 4 (mBin opAdd (mC (.int 7919)) (mBin opMul (mVar 1) (mC (.int 104729))))) T3_law_source
def T5_law_source : MS :=
    mSeq (mSet 3 (mComp (mIter (mSl (mVar 0) (mP0) (mP1 (mC (.int 63))))) (nName 5) (mYes) (mBin opMod (mCB cInt (mCons (mVar 5) (mNil))) (mVar 2)) [5])) T4_law_source
def B_law_source : MS :=
    mSeq (mSet 2 (mBin opMul (mBin opMul (mBin opMul (mBin opMul (mBin opMul (mBin opPow (mC (.int 10)) (mC (.int 64))) (mBin opPow (mC (.int 10)) (mC (.int 64)))) (mBin opPow (mC (.int 10)) (mC (.int 64)))) (mBin opPow (mC (.int 10)) (mC (.int 64)))) (mBin opPow (mC (.int 10)) (mC (.int 64)))) (mBin opPow (mC (.int 10)) (mC (.int 64))))) T5_law_source
def F_law_source : MF := mDef 7 B_law_source
def N_law_pick : List Str := ["source", "many", "found", "state"]
def C1_law_pick : MT :=
    mB (mBin opGt (mBin opIx (mVar 0) (mC (.int 0))) (mC (.int 0)))
def T1_law_pick : MS :=
    mRet (mVar 2)
def T2_law_pick : MS :=
    mSeq (mSetIx (mBin opFdiv (mBin opIx (mVar 0) (mC (.int 0))) (mVar 1)) (mVar 0) (mC (.int 0))) T1_law_pick
def T3_law_pick : MS :=
    mRet (mBin opMod (mBin opFdiv (mVar 3) (mC (.int 7))) (mVar 1))
def T4_law_pick : MS :=
    mSeq (mSetIx (mVar 3) (mVar 0) (mC (.int 1))) T3_law_pick
def T5_law_pick : MS :=
    mSeq (mSet 3 (mBin opMod (mBin opAdd (mBin opAdd (mBin opMul (mVar 3) (mC (.int 16807))) (mBin opMul (mBin opIx (mVar 0) (mC (.int 2))) (mC (.int 40692)))) (mC (.int 7))) (mC (.int 2147483399)))) T4_law_pick
def T6_law_pick : MS :=
    mSeq (mSet 3 (mBin opMod (mBin opAdd (mBin opAdd (mBin opMul (mBin opIx (mVar 0) (mC (.int 1))) (mC (.int 48271))) (mBin opMul (mBin opIx (mVar 0) (mC (.int 2))) (mC (.int 69621)))) (mC (.int 11))) (mC (.int 2147483647)))) T5_law_pick
def T7_law_pick : MS :=
    mSeq (mSetIx (mBin opAdd (mBin opIx (mVar 0) (mC (.int 2))) (mC (.int 1))) (mVar 0) (mC (.int 2))) T6_law_pick
def B_law_pick : MS :=
    mSeq (mIfS (C1_law_pick) (mSeq (mSet 2 (mBin opMod (mBin opIx (mVar 0) (mC (.int 0))) (mVar 1))) T2_law_pick) (mSkip)) T7_law_pick
def F_law_pick : MF := mDef 4 B_law_pick
def N_law_number : List Str := ["source", "limit", "found", "turn"]
def C1_law_number : MT :=
    mB (mBin opEq (mCall F_law_pick (mCons (mVar 0) (mCons (mC (.int 3)) (mNil)))) (mC (.int 0)))
def L1_law_number : MS :=
    mSet 2 (mBin opAdd (mBin opMul (mVar 2) (mC (.int 1000003))) (mCall F_law_pick (mCons (mVar 0) (mCons (mC (.int 1000003)) (mNil)))))
def T1_law_number : MS :=
    mRet (mBin opMod (mVar 2) (mVar 1))
def T2_law_number : MS :=
    mSeq (mFor (mRng1 (mCons (mC (.int 6)) (mNil))) (nName 3) (L1_law_number)) T1_law_number
def T3_law_number : MS :=
    mSeq (mSet 2 (mC (.int 0))) T2_law_number
def B_law_number : MS :=
    mSeq (mIfS (C1_law_number) (mRet (mCall F_law_pick (mCons (mVar 0) (mCons (mCB cMin2 (mCons (mVar 1) (mCons (mC (.int 5)) (mNil)))) (mNil))))) (mSkip)) T3_law_number
def F_law_number : MF := mDef 4 B_law_number
def N_law_shuffled : List Str := ["source", "things", "left", "found"]
def L1_law_shuffled : MS :=
    mDrop (mMeth "list" mdAppend (mVar 3) (mCons (mMeth "list" mdPop (mVar 2) (mCons (mCall F_law_pick (mCons (mVar 0) (mCons (mCB cLen (mCons (mVar 2) (mNil))) (mNil)))) (mNil))) (mNil)))
def T1_law_shuffled : MS :=
    mRet (mVar 3)
def T2_law_shuffled : MS :=
    mSeq (mWhile (mB (mBin opGt (mCB cLen (mCons (mVar 2) (mNil))) (mC (.int 0)))) (L1_law_shuffled) 30) T1_law_shuffled
def T3_law_shuffled : MS :=
    mSeq (mSet 3 (mLst (mNil))) T2_law_shuffled
def B_law_shuffled : MS :=
    mSeq (mSet 2 (mCB cList (mCons (mVar 1) (mNil)))) T3_law_shuffled
def F_law_shuffled : MF := mDef 4 B_law_shuffled
def N_law_grammar : List Str := []
def B_law_grammar : MS :=
    mRet (mLst (mCons (mC (.str "kind")) (mCons (mC (.str "given")) (mCons (mC (.str "op")) (mCons (mC (.str "mark")) (mCons (mC (.str "gate")) (mCons (mC (.str "need")) (mCons (mC (.str "fun")) (mCons (mC (.str "cell")) (mCons (mC (.str "call")) (mCons (mC (.str "say")) (mCons (mC (.str "look")) (mCons (mC (.str "ask")) (mCons (mC (.str "room")) (mCons (mC (.str "tell")) (mCons (mC (.str "on")) (mCons (mC (.str "loop")) (mCons (mC (.str "as")) (mCons (mC (.str "leave")) (mCons (mC (.str "return")) (mCons (mC (.str "end")) (mCons (mC (.str "cost")) (mCons (mC (.str "toll")) (mCons (mC (.str "awake")) (mNil)))))))))))))))))))))))))
def F_law_grammar : MF := mDef 0 B_law_grammar
def N_law_words : List Str := ["source", "many", "letters", "base", "turn", "found", "place", "letter", "start", "k", "taken", "word"]
def L1_law_words : MS :=
    mSet 3 (mBin opAdd (mVar 3) (mBin opIx (mVar 2) (mCall F_law_pick (mCons (mVar 0) (mCons (mC (.int 26)) (mNil))))))
def C1_law_words : MT :=
    mtAnd (mB (mBin opLe (mVar 1) (mC (.int 26)))) (mB (mBin opGt (mCall F_law_pick (mCons (mVar 0) (mCons (mC (.int 3)) (mNil)))) (mC (.int 0))))
def L2_law_words : MS :=
    mDrop (mMeth "list" mdAppend (mVar 5) (mCons (mBin opAdd (mBin opAdd (mSl (mVar 3) (mP0) (mP1 (mVar 6))) (mVar 7)) (mSl (mVar 3) (mP1 (mVar 6)) (mP0))) (mNil)))
def T1_law_words : MS :=
    mFor (mIter (mSl (mCall F_law_shuffled (mCons (mVar 0) (mCons (mComp (mRng1 (mCons (mC (.int 26)) (mNil))) (nName 9) (mYes) (mBin opIx (mVar 2) (mVar 9)) [9]) (mNil)))) (mP0) (mP1 (mVar 1)))) (nName 7) (L2_law_words)
def L3_law_words : MS :=
    mDrop (mMeth "list" mdAppend (mVar 5) (mCons (mBin opAdd (mBin opAdd (mBin opIx (mVar 2) (mCall F_law_pick (mCons (mVar 0) (mCons (mC (.int 26)) (mNil))))) (mVar 3)) (mCB cStrL (mCons (mBin opAdd (mVar 8) (mVar 9)) (mNil)))) (mNil)))
def T2_law_words : MS :=
    mFor (mRng1 (mCons (mVar 1) (mNil))) (nName 9) (L3_law_words)
def T3_law_words : MS :=
    mRet (mComp (mIter (mVar 5)) (nName 11) (mYes) (mIf (mB (mBin (opIn false) (mVar 11) (mVar 10))) (mBin opAdd (mVar 11) (mC (.str "x"))) (mVar 11)) [11])
def T4_law_words : MS :=
    mSeq (mSet 10 (mCall F_law_grammar mNil)) T3_law_words
def T5_law_words : MS :=
    mSeq (mIfS (C1_law_words) (mSeq (mSet 6 (mCall F_law_pick (mCons (mVar 0) (mCons (mBin opAdd (mCB cLen (mCons (mVar 3) (mNil))) (mC (.int 1))) (mNil))))) T1_law_words) (mSeq (mSet 8 (mCall F_law_pick (mCons (mVar 0) (mCons (mC (.int 30)) (mNil))))) T2_law_words)) T4_law_words
def T6_law_words : MS :=
    mSeq (mSet 5 (mLst (mNil))) T5_law_words
def T7_law_words : MS :=
    mSeq (mFor (mRng1 (mCons (mCall F_law_pick (mCons (mVar 0) (mCons (mC (.int 3)) (mNil)))) (mNil))) (nName 4) (L1_law_words)) T6_law_words
def T8_law_words : MS :=
    mSeq (mSet 3 (mC (.str ""))) T7_law_words
def B_law_words : MS :=
    mSeq (mSet 2 (mC (.str "abcdefghijklmnopqrstuvwxyz"))) T8_law_words
def F_law_words : MF := mDef 12 B_law_words
def N_law_same : List Str := ["answer", "due", "key", "one", "other"]
def C1_law_same : MT :=
    mB (mBin opIs (mVar 1) (mC .non))
def C2_law_same : MT :=
    mTru (mIsI "bool" (mVar 1))
def C3_law_same : MT :=
    mTru (mIsI "int" (mVar 1))
def C4_law_same : MT :=
    mTru (mIsI "str" (mVar 1))
def C5_law_same : MT :=
    mTru (mIsI "tuple" (mVar 1))
def C6_law_same : MT :=
    mtNot (mTru (mIsI "tuple" (mVar 0)))
def C7_law_same : MT :=
    mtNot (mTru (mIsI "list" (mVar 0)))
def C8_law_same : MT :=
    mB (mBin opNe (mCB cLen (mCons (mVar 0) (mNil))) (mCB cLen (mCons (mVar 1) (mNil))))
def C9_law_same (R : MF) : MT :=
    mtNot (mTru (mCall R (mCons (mVar 3) (mCons (mVar 4) (mNil)))))
def L1_law_same (R : MF) : MS :=
    mIfS ((C9_law_same R)) (mRet (mC (.bl false))) (mSkip)
def T1_law_same : MS :=
    mRet (mC (.bl true))
def T2_law_same (R : MF) : MS :=
    mSeq (mFor (mZip (mCons (mVar 0) (mCons (mVar 1) (mNil)))) (nTup 2 (nCons (nName 3) (nCons (nName 4) (nNil)))) ((L1_law_same R))) T1_law_same
def T3_law_same (R : MF) : MS :=
    mSeq (mIfS (C8_law_same) (mRet (mC (.bl false))) (mSkip)) (T2_law_same R)
def T4_law_same (R : MF) : MS :=
    mSeq (mIfS (C5_law_same) (mIfS (C6_law_same) (mRet (mC (.bl false))) (mSkip)) (mIfS (C7_law_same) (mRet (mC (.bl false))) (mSkip))) (T3_law_same R)
def T5_law_same (R : MF) : MS :=
    mSeq (mIfS (mTru (mIsI "dict" (mVar 1))) mBad (mSkip)) (T4_law_same R)
def T6_law_same (R : MF) : MS :=
    mSeq (mIfS (C4_law_same) (mRet (mAnd (mIsI "str" (mVar 0)) (mBin opEq (mVar 0) (mVar 1)))) (mSkip)) (T5_law_same R)
def T7_law_same (R : MF) : MS :=
    mSeq (mIfS (C3_law_same) (mRet (mAnd (mIsI "int" (mVar 0)) (mAnd (mNot (mIsI "bool" (mVar 0))) (mBin opEq (mVar 0) (mVar 1))))) (mSkip)) (T6_law_same R)
def T8_law_same (R : MF) : MS :=
    mSeq (mIfS (C2_law_same) (mRet (mAnd (mIsI "bool" (mVar 0)) (mBin opEq (mVar 0) (mVar 1)))) (mSkip)) (T7_law_same R)
def B_law_same (R : MF) : MS :=
    mSeq (mIfS (C1_law_same) (mRet (mBin opIs (mVar 0) (mC .non))) (mSkip)) (T8_law_same R)
def F_law_same : Nat → MF
  | 0 => mDef 5 mBad
  | n + 1 => mDef 5 (B_law_same (F_law_same n))
def N_law_member : List Str := ["source", "room", "sort", "number", "turn"]
def C1_law_member : MT :=
    mB (mBin opEq (mVar 2) (mC (.int 0)))
def C2_law_member : MT :=
    mB (mBin opEq (mVar 2) (mC (.int 1)))
def C3_law_member : MT :=
    mtAnd (mB (mBin opGt (mVar 2) (mC (.int 3)))) (mB (mBin opGt (mVar 1) (mC (.int 0))))
def T1_law_member : MS :=
    mRet (mIf (mB (mBin opGt (mCall F_law_pick (mCons (mVar 0) (mCons (mC (.int 3)) (mNil)))) (mC (.int 0)))) (mVar 3) (mBin opSub (mNeg (mC (.int 1))) (mVar 3)))
def T2_law_member : MS :=
    mSeq (mSet 3 (mCall F_law_number (mCons (mVar 0) (mCons (mBin opPow (mC (.int 10)) (mC (.int 30))) (mNil))))) T1_law_member
def T3_law_member (R : MF) : MS :=
    mSeq (mIfS (C3_law_member) (mRet (mCB cTuple (mCons (mComp (mRng1 (mCons (mCall F_law_pick (mCons (mVar 0) (mCons (mIf (mB (mBin opGt (mVar 1) (mC (.int 2)))) (mC (.int 3)) (mC (.int 4))) (mNil)))) (mNil))) (nName 4) (mYes) (mCall R (mCons (mVar 0) (mCons (mBin opSub (mVar 1) (mC (.int 1))) (mNil)))) [4]) (mNil)))) (mSkip)) T2_law_member
def T4_law_member (R : MF) : MS :=
    mSeq (mIfS (C2_law_member) (mRet (mBin opIx (mCall F_law_words (mCons (mVar 0) (mCons (mC (.int 2)) (mNil)))) (mC (.int 1)))) (mSkip)) (T3_law_member R)
def T5_law_member (R : MF) : MS :=
    mSeq (mIfS (C1_law_member) (mRet (mC .non)) (mSkip)) (T4_law_member R)
def B_law_member (R : MF) : MS :=
    mSeq (mSet 2 (mCall F_law_pick (mCons (mVar 0) (mCons (mC (.int 6)) (mNil))))) (T5_law_member R)
def F_law_member : Nat → MF
  | 0 => mDef 5 mBad
  | n + 1 => mDef 5 (B_law_member (F_law_member n))
def N_law_nest : List Str := ["member", "many", "turn"]
def L1_law_nest : MS :=
    mSet 0 (mTup (mCons (mVar 0) (mNil)))
def T1_law_nest : MS :=
    mRet (mVar 0)
def B_law_nest : MS :=
    mSeq (mFor (mRng1 (mCons (mVar 1) (mNil))) (nName 2) (L1_law_nest)) T1_law_nest
def F_law_nest : MF := mDef 3 B_law_nest
def N_law_written : List Str := ["member", "one"]
def C1_law_written : MT :=
    mB (mBin opIs (mVar 0) (mC .non))
def C2_law_written : MT :=
    mTru (mIsI "tuple" (mVar 0))
def T1_law_written : MS :=
    mRet (mCB cStrL (mCons (mVar 0) (mNil)))
def T2_law_written (R : MF) : MS :=
    mSeq (mIfS (C2_law_written) (mRet (mBin opAdd (mBin opAdd (mC (.str "(")) (mMeth "str" mdJoin (mC (.str " ")) (mCons (mComp (mIter (mVar 0)) (nName 1) (mYes) (mCall R (mCons (mVar 1) (mNil))) [1]) (mNil)))) (mC (.str ")")))) (mSkip)) T1_law_written
def B_law_written (R : MF) : MS :=
    mSeq (mIfS (C1_law_written) (mRet (mC (.str "-"))) (mSkip)) (T2_law_written R)
def F_law_written : Nat → MF
  | 0 => mDef 2 mBad
  | n + 1 => mDef 2 (B_law_written (F_law_written n))
def N_law_word : List Str := ["word", "figures", "good", "sign"]
def C1_law_word : MT :=
    mB (mBin opEq (mVar 0) (mC (.str "-")))
def C2_law_word : MT :=
    mtAnd (mB (mBin opNe (mVar 1) (mC (.str "")))) (mB (mBin opEq (mCB cLen (mCons (mComp (mIter (mVar 1)) (nName 3) (mB (mBin (opIn true) (mVar 3) (mC (.str "0123456789")))) (mVar 3) [3]) (mNil))) (mC (.int 0))))
def T1_law_word : MS :=
    mRet (mTup (mCons (mVar 2) (mCons (mVar 0) (mNil))))
def T2_law_word : MS :=
    mSeq (mSet 2 (mAnd (mBin opNe (mVar 0) (mC (.str ""))) (mAnd (mBin (opIn false) (mBin opIx (mVar 0) (mC (.int 0))) (mC (.str "abcdefghijklmnopqrstuvwxyz"))) (mBin opEq (mCB cLen (mCons (mComp (mIter (mVar 0)) (nName 3) (mB (mBin (opIn true) (mVar 3) (mC (.str "abcdefghijklmnopqrstuvwxyz0123456789")))) (mVar 3) [3]) (mNil))) (mC (.int 0)))))) T1_law_word
def T3_law_word : MS :=
    mSeq (mIfS (C2_law_word) (mRet (mTup (mCons (mAnd (mBin opLe (mCB cLen (mCons (mVar 1) (mNil))) (mC (.int 1000))) (mOr (mBin opNe (mBin opIx (mVar 1) (mC (.int 0))) (mC (.str "0"))) (mBin opEq (mVar 0) (mC (.str "0"))))) (mCons (mIf (mB (mBin opLe (mCB cLen (mCons (mVar 1) (mNil))) (mC (.int 1000)))) (mCB cInt (mCons (mVar 0) (mNil))) (mC (.int 0))) (mNil))))) (mSkip)) T2_law_word
def T4_law_word : MS :=
    mSeq (mIfS (C1_law_word) (mRet (mTup (mCons (mC (.bl true)) (mCons (mC .non) (mNil))))) (mSkip)) T3_law_word
def B_law_word : MS :=
    mSeq (mSet 1 (mIf (mB (mBin opEq (mSl (mVar 0) (mP0) (mP1 (mC (.int 1)))) (mC (.str "-")))) (mSl (mVar 0) (mP1 (mC (.int 1))) (mP0)) (mVar 0))) T4_law_word
def F_law_word : MF := mDef 4 B_law_word
def N_law_line : List Str := ["line", "open_rows", "words", "word", "done", "good", "member", "row", "one"]
def C1_law_line : MT :=
    mB (mBin opEq (mVar 3) (mC (.str "(")))
def C2_law_line : MT :=
    mB (mBin opGt (mCB cLen (mCons (mVar 1) (mNil))) (mC (.int 12)))
def T1_law_line : MS :=
    mIfS (C2_law_line) (mRet (mC .non)) (mSkip)
def C3_law_line : MT :=
    mB (mBin opEq (mVar 3) (mC (.str ")")))
def C4_law_line : MT :=
    mB (mBin opEq (mCB cLen (mCons (mVar 1) (mNil))) (mC (.int 1)))
def T2_law_line : MS :=
    mDrop (mMeth "list" mdAppend (mBin opIx (mVar 1) (mNeg (mC (.int 1)))) (mCons (mVar 4) (mNil)))
def T3_law_line : MS :=
    mSeq (mSet 4 (mCB cTuple (mCons (mMeth0 "list" mdPop (mVar 1)) (mNil)))) T2_law_line
def C5_law_line : MT :=
    mtNot (mTru (mVar 5))
def T4_law_line : MS :=
    mDrop (mMeth "list" mdAppend (mBin opIx (mVar 1) (mNeg (mC (.int 1)))) (mCons (mVar 6) (mNil)))
def T5_law_line : MS :=
    mSeq (mIfS (C5_law_line) (mRet (mC .non)) (mSkip)) T4_law_line
def L1_law_line : MS :=
    mIfS (C1_law_line) (mSeq (mDrop (mMeth "list" mdAppend (mVar 1) (mCons (mLst (mNil)) (mNil)))) T1_law_line) (mIfS (C3_law_line) (mSeq (mIfS (C4_law_line) (mRet (mC .non)) (mSkip)) T3_law_line) (mSeq (mAsgN (mCall F_law_word (mCons (mVar 3) (mNil))) (nTup 2 (nCons (nName 5) (nCons (nName 6) (nNil))))) T5_law_line))
def C6_law_line : MT :=
    mtOr (mB (mBin opGt (mCB cLen (mCons (mVar 1) (mNil))) (mC (.int 1)))) (mB (mBin opEq (mBin opIx (mVar 1) (mC (.int 0))) (mLst (mNil))))
def T6_law_line : MS :=
    mRet (mIf (mB (mBin opEq (mSl (mCall (F_law_written 20) (mCons (mVar 7) (mNil))) (mP1 (mC (.int 1))) (mP1 (mNeg (mC (.int 1))))) (mVar 0))) (mVar 7) (mC .non))
def T7_law_line : MS :=
    mSeq (mSet 7 (mCB cTuple (mCons (mBin opIx (mVar 1) (mC (.int 0))) (mNil)))) T6_law_line
def T8_law_line : MS :=
    mSeq (mIfS (C6_law_line) (mRet (mC .non)) (mSkip)) T7_law_line
def T9_law_line : MS :=
    mSeq (mFor (mIter (mComp (mIter (mVar 2)) (nName 8) (mB (mBin opNe (mVar 8) (mC (.str "")))) (mVar 8) [8])) (nName 3) (L1_law_line)) T8_law_line
def T10_law_line : MS :=
    mSeq (mSet 2 (mSplit1 (mRepl ")" " ) " (mRepl "(" " ( " (mVar 0))) (mC (.str " ")))) T9_law_line
def B_law_line : MS :=
    mSeq (mSet 1 (mLst (mCons (mLst (mNil)) (mNil)))) T10_law_line
def F_law_line : MF := mDef 9 B_law_line
def N_law_read : List Str := ["text", "rows", "at", "line"]
def C1_law_read : MT :=
    mB (mBin opEq (mVar 0) (mC (.str "")))
def C2_law_read : MT :=
    mB (mBin opIs (mBin opIx (mVar 1) (mVar 2)) (mC .non))
def L1_law_read : MS :=
    mIfS (C2_law_read) (mRet (mTup (mCons (mC (.str "raised")) (mCons (mBin opAdd (mVar 2) (mC (.int 1))) (mNil))))) (mSkip)
def T1_law_read : MS :=
    mRet (mTup (mCons (mC (.str "let")) (mCons (mCB cTuple (mCons (mVar 1) (mNil))) (mNil))))
def T2_law_read : MS :=
    mSeq (mFor (mRng1 (mCons (mCB cLen (mCons (mVar 1) (mNil))) (mNil))) (nName 2) (L1_law_read)) T1_law_read
def T3_law_read : MS :=
    mSeq (mSet 1 (mComp (mIter (mMeth "str" mdSplit (mVar 0) (mCons (mC (.str "\n")) (mNil)))) (nName 3) (mYes) (mCall F_law_line (mCons (mVar 3) (mNil))) [3])) T2_law_read
def B_law_read : MS :=
    mSeq (mIfS (C1_law_read) (mRet (mTup (mCons (mC (.str "let")) (mCons (mTup (mNil)) (mNil))))) (mSkip)) T3_law_read
def F_law_read : MF := mDef 4 B_law_read
def N_law_told : List Str := ["text", "told", "error"]
def T1_law_told : MS :=
    mRet (mTup (mCons (mC (.str "let")) (mCons (mVar 1) (mNil))))
def B_law_told : MS :=
    mSeq (mTry 1 2 (mCons (mVar 0) (mNil)) F_paper_from 0 (sufA "raised" "line")) T1_law_told
def F_law_told : MF := mDef 3 B_law_told
def N_law_spoilt : List Str := ["source", "text", "at", "sign"]
def C1_law_spoilt : MT :=
    mB (mBin opEq (mCall F_law_pick (mCons (mVar 0) (mCons (mC (.int 3)) (mNil)))) (mC (.int 0)))
def T1_law_spoilt : MS :=
    mRet (mBin opAdd (mBin opAdd (mSl (mVar 1) (mP0) (mP1 (mVar 2))) (mVar 3)) (mSl (mVar 1) (mP1 (mBin opAdd (mVar 2) (mCall F_law_pick (mCons (mVar 0) (mCons (mC (.int 2)) (mNil)))))) (mP0)))
def T2_law_spoilt : MS :=
    mSeq (mIfS (C1_law_spoilt) (mRet (mBin opAdd (mSl (mVar 1) (mP0) (mP1 (mVar 2))) (mSl (mVar 1) (mP1 (mBin opAdd (mVar 2) (mC (.int 1)))) (mP0)))) (mSkip)) T1_law_spoilt
def T3_law_spoilt : MS :=
    mSeq (mSet 3 (mBin opIx (mLst (mCons (mC (.str "(")) (mCons (mC (.str ")")) (mCons (mC (.str " ")) (mCons (mC (.str "-")) (mCons (mC (.str "0")) (mCons (mC (.str "\n")) (mCons (mC (.str "a")) (mCons (mC (.str "A")) (mCons (mC (.str "_")) (mCons (mC (.str ",")) (mCons (mC (.str "\t")) (mCons (mC (.str "7")) (mNil)))))))))))))) (mCall F_law_pick (mCons (mVar 0) (mCons (mC (.int 12)) (mNil)))))) T2_law_spoilt
def B_law_spoilt : MS :=
    mSeq (mSet 2 (mCall F_law_pick (mCons (mVar 0) (mCons (mBin opAdd (mCB cLen (mCons (mVar 1) (mNil))) (mC (.int 1))) (mNil))))) T3_law_spoilt
def F_law_spoilt : MF := mDef 4 B_law_spoilt
def N_law : List Str := ["script", "source", "paper", "turn", "text", "due", "other", "many", "line", "long", "row", "k"]
def L1_law : MS :=
    mDrop (mMeth "list" mdAppend (mVar 2) (mCons (mCB cTuple (mCons (mComp (mRng1 (mCons (mBin opAdd (mC (.int 1)) (mCall F_law_pick (mCons (mVar 1) (mCons (mC (.int 4)) (mNil))))) (mNil))) (nName 11) (mYes) (mCall (F_law_member 6) (mCons (mVar 1) (mCons (mC (.int 4)) (mNil)))) [11]) (mNil))) (mNil)))
def C1_law : MT :=
    mB (mBin opEq (mCall F_law_pick (mCons (mVar 1) (mCons (mC (.int 3)) (mNil)))) (mC (.int 0)))
def C2_law : MT :=
    mB (mBin opEq (mCall F_law_pick (mCons (mVar 1) (mCons (mC (.int 4)) (mNil)))) (mC (.int 0)))
def C3_law : MT :=
    mtOr (mtNot (mTru (mCall (F_law_same 40) (mCons (mCall F_law_told (mCons (mVar 4) (mNil))) (mCons (mVar 5) (mNil)))))) (mtOr (mtNot (mTru (mCall (F_law_same 40) (mCons (mCall F_paper_text (mCons (mVar 2) (mNil))) (mCons (mVar 4) (mNil)))))) (mtNot (mTru (mCall (F_law_same 40) (mCons (mCall F_law_told (mCons (mVar 4) (mNil))) (mCons (mVar 5) (mNil)))))))
def C4_law : MT :=
    mtNot (mTru (mCall (F_law_same 40) (mCons (mCall F_law_told (mCons (mVar 6) (mNil))) (mCons (mCall F_law_read (mCons (mVar 6) (mNil))) (mNil)))))
def C5_law : MT :=
    mB (mBin opEq (mCall F_law_pick (mCons (mVar 1) (mCons (mC (.int 2)) (mNil)))) (mC (.int 0)))
def T1_law : MS :=
    mIfS (C5_law) (mSet 4 (mVar 6)) (mSkip)
def T2_law : MS :=
    mSeq (mIfS (C4_law) (mRet (mC (.bl false))) (mSkip)) T1_law
def L2_law : MS :=
    mSeq (mSet 6 (mCall F_law_spoilt (mCons (mVar 1) (mCons (mVar 4) (mNil))))) T2_law
def C6_law : MT :=
    mtNot (mTru (mCall (F_law_same 40) (mCons (mCall F_law_told (mCons (mVar 8) (mNil))) (mCons (mIf (mB (mBin opEq (mVar 7) (mC (.int 1)))) (mTup (mCons (mC (.str "raised")) (mCons (mC (.int 1)) (mNil)))) (mTup (mCons (mC (.str "let")) (mCons (mTup (mCons (mTup (mCons (mCall F_law_nest (mCons (mC (.str "x")) (mCons (mC (.int 11)) (mNil)))) (mNil))) (mNil))) (mNil))))) (mNil)))))
def C7_law : MT :=
    mtOr (mB (mBin opNe (mBin opIx (mCall F_law_told (mCons (mBin opAdd (mC (.str "a\n")) (mVar 9)) (mNil))) (mC (.int 0))) (mBin opIx (mLst (mCons (mC (.str "let")) (mCons (mC (.str "raised")) (mNil)))) (mVar 7)))) (mB (mBin opNe (mBin opIx (mCall F_law_told (mCons (mBin opAdd (mBin opAdd (mC (.str "-")) (mVar 9)) (mC (.str " 0"))) (mNil))) (mC (.int 0))) (mBin opIx (mLst (mCons (mC (.str "let")) (mCons (mC (.str "raised")) (mNil)))) (mVar 7))))
def T3_law : MS :=
    mRet (mAnd (mBin opEq (mCall F_law_told (mCons (mC (.str "")) (mNil))) (mTup (mCons (mC (.str "let")) (mCons (mTup (mNil)) (mNil))))) (mAnd (mBin opEq (mCall F_law_told (mCons (mC (.str "a 1\n")) (mNil))) (mTup (mCons (mC (.str "raised")) (mCons (mC (.int 2)) (mNil))))) (mBin opEq (mCall F_law_told (mCons (mC (.str "a\n\n00")) (mNil))) (mTup (mCons (mC (.str "raised")) (mCons (mC (.int 2)) (mNil)))))))
def T4_law : MS :=
    mSeq (mIfS (C7_law) (mRet (mC (.bl false))) (mSkip)) T3_law
def T5_law : MS :=
    mSeq (mSet 9 (mBin opAdd (mC (.str "1")) (mBin opMul (mC (.str "0")) (mBin opAdd (mC (.int 999)) (mVar 7))))) T4_law
def T6_law : MS :=
    mSeq (mIfS (C6_law) (mRet (mC (.bl false))) (mSkip)) T5_law
def T7_law : MS :=
    mSeq (mSet 8 (mBin opAdd (mBin opAdd (mBin opMul (mC (.str "(")) (mBin opAdd (mC (.int 11)) (mVar 7))) (mC (.str "x"))) (mBin opMul (mC (.str ")")) (mBin opAdd (mC (.int 11)) (mVar 7))))) T6_law
def T8_law : MS :=
    mSeq (mSet 7 (mCall F_law_pick (mCons (mVar 1) (mCons (mC (.int 2)) (mNil))))) T7_law
def T9_law : MS :=
    mSeq (mFor (mRng1 (mCons (mC (.int 6)) (mNil))) (nName 3) (L2_law)) T8_law
def T10_law : MS :=
    mSeq (mIfS (C3_law) (mRet (mC (.bl false))) (mSkip)) T9_law
def T11_law : MS :=
    mSeq (mSet 5 (mTup (mCons (mC (.str "let")) (mCons (mVar 2) (mNil))))) T10_law
def T12_law : MS :=
    mSeq (mSet 4 (mMeth "str" mdJoin (mC (.str "\n")) (mCons (mComp (mIter (mVar 2)) (nName 10) (mYes) (mSl (mCall (F_law_written 20) (mCons (mVar 10) (mNil))) (mP1 (mC (.int 1))) (mP1 (mNeg (mC (.int 1))))) [10]) (mNil)))) T11_law
def T13_law : MS :=
    mSeq (mSet 2 (mCB cTuple (mCons (mVar 2) (mNil)))) T12_law
def T14_law : MS :=
    mSeq (mIfS (C2_law) (mDrop (mMeth "list" mdAppend (mVar 2) (mCons (mTup (mCons (mBin opSub (mBin opMul (mBin opPow (mC (.int 10)) (mC (.int 30))) (mCall F_law_number (mCons (mVar 1) (mCons (mBin opPow (mC (.int 10)) (mC (.int 18))) (mNil))))) (mC (.int 1))) (mCons (mTup (mNil)) (mNil)))) (mNil)))) (mSkip)) T13_law
def T15_law : MS :=
    mSeq (mIfS (C1_law) (mDrop (mMeth "list" mdAppend (mVar 2) (mCons (mTup (mCons (mCall F_law_nest (mCons (mCall (F_law_member 6) (mCons (mVar 1) (mCons (mC (.int 0)) (mNil)))) (mCons (mCall F_law_pick (mCons (mVar 1) (mCons (mC (.int 12)) (mNil)))) (mNil)))) (mNil))) (mNil)))) (mSkip)) T14_law
def T16_law : MS :=
    mSeq (mFor (mRng1 (mCons (mCall F_law_pick (mCons (mVar 1) (mCons (mC (.int 7)) (mNil)))) (mNil))) (nName 3) (L1_law)) T15_law
def T17_law : MS :=
    mSeq (mSet 2 (mLst (mNil))) T16_law
def B_law : MS :=
    mSeq (mSet 1 (mCall F_law_source (mCons (mVar 0) (mCons (mC (.int 0)) (mNil))))) T17_law
def F_law : MF := mDef 12 B_law
end
end K66

set_option Elab.async false
set_option linter.all false
set_option maxRecDepth 100000
set_option maxHeartbeats 4000000
/-! K66A: the papers as lists of signs, with no program in sight. -/
namespace K66
open PySem PySem.NumText PyProof.Rows L2 Mi
abbrev Cs := List Nat
def S (l : Cs) : Str := ⟨l.toArray⟩

/-! ### splitting, joining -/
def sp (c : Nat) : Cs → List Cs
  | [] => [[]]
  | k :: r => if k = c then [] :: sp c r else match sp c r with
    | [] => [[k]]
    | w :: ws => (k :: w) :: ws
def jn (z : Cs) : List Cs → Cs
  | [] => []
  | [x] => x
  | x :: y :: r => x ++ z ++ jn z (y :: r)
theorem sp_ne (c : Nat) : ∀ l : Cs, sp c l ≠ []
  | [] => by simp [sp]
  | k :: r => by
    unfold sp
    split
    · simp
    · split <;> simp
theorem sp_free {c : Nat} : ∀ {w : Cs}, c ∉ w → sp c w = [w]
  | [], _ => rfl
  | k :: r, h => by
    have h1 : k ≠ c := fun e => h (by rw [e]; exact List.mem_cons_self ..)
    have h2 : c ∉ r := fun m => h (List.mem_cons_of_mem _ m)
    unfold sp
    rw [if_neg h1, sp_free h2]
theorem sp_app {c : Nat} {r : Cs} : ∀ {w : Cs}, c ∉ w → sp c (w ++ c :: r) = w :: sp c r
  | [], _ => by simp [sp]
  | k :: u, h => by
    have h1 : k ≠ c := fun e => h (by rw [e]; exact List.mem_cons_self ..)
    have h2 : c ∉ u := fun m => h (List.mem_cons_of_mem _ m)
    show sp c (k :: (u ++ c :: r)) = _
    simp only [sp, if_neg h1, sp_app h2]
theorem sp_jn {c : Nat} : ∀ {ws : List Cs}, ws ≠ [] → (∀ w ∈ ws, c ∉ w) → sp c (jn [c] ws) = ws
  | [], h, _ => absurd rfl h
  | [w], _, h => sp_free (h w (List.mem_singleton.mpr rfl))
  | w :: v :: r, _, h => by
    show sp c (w ++ [c] ++ jn [c] (v :: r)) = _
    rw [List.append_assoc, List.singleton_append, sp_app (h w (List.mem_cons_self ..)), sp_jn (by simp) (fun x hx => h x (List.mem_cons_of_mem _ hx))]
theorem sp_mem {c : Nat} : ∀ {l : Cs} {w : Cs}, w ∈ sp c l → c ∉ w
  | [], w, h => by simp [sp] at h; rw [h]; simp
  | k :: r, w, h => by
    unfold sp at h
    split at h
    · rename_i e
      rcases List.mem_cons.mp h with h | h
      · rw [h]; simp
      · exact sp_mem h
    · rename_i e
      split at h
      · rename_i h0
        exact absurd h0 (sp_ne c r)
      · rename_i u us h0
        rcases List.mem_cons.mp h with h | h
        · rw [h]
          intro m
          rcases List.mem_cons.mp m with m | m
          · exact e m.symm
          · exact sp_mem (by rw [h0]; exact List.mem_cons_self ..) m
        · exact sp_mem (by rw [h0]; exact List.mem_cons_of_mem _ h)
theorem jn_sp {c : Nat} : ∀ l : Cs, jn [c] (sp c l) = l
  | [] => rfl
  | k :: r => by
    have ih := jn_sp (c := c) r
    unfold sp
    split
    · rename_i e
      cases h0 : sp c r with
      | nil => exact absurd h0 (sp_ne c r)
      | cons w ws =>
        rw [h0] at ih
        show [] ++ [c] ++ jn [c] (w :: ws) = _
        rw [ih, e]; rfl
    · split
      · rename_i h0
        exact absurd h0 (sp_ne c r)
      · rename_i w ws h0
        rw [h0] at ih
        cases ws with
        | nil => rw [← ih]; rfl
        | cons v vs =>
          rw [← ih]; rfl
theorem S_toList (x : Str) : S x.cps.toList = x := by
  obtain ⟨a⟩ := x
  simp [S]
theorem S_cps (l : Cs) : (S l).cps.toList = l := by simp [S]
theorem S_inj {a b : Cs} (h : S a = S b) : a = b := by
  have := congrArg (fun x : Str => x.cps.toList) h
  simpa [S] using this
theorem S_app (a b : Cs) : S a ++ S b = S (a ++ b) := by
  apply congrArg Str.mk
  simp [Str.cps_append, S]
theorem S_len (a : Cs) : (S a).length = a.length := by simp [S, Str.length]
theorem join_S (z : Cs) : ∀ ws : List Cs, Str.join (S z) (ws.map S) = S (jn z ws)
  | [] => rfl
  | [w] => rfl
  | w :: v :: r => by
    show S w ++ S z ++ Str.join (S z) ((v :: r).map S) = S (w ++ z ++ jn z (v :: r))
    rw [join_S z (v :: r), S_app, S_app]
theorem txt_join_S (z : Cs) (ws : List Cs) : Txt.join (S z) (ws.map S) = S (jn z ws) := by
  show Builtin.Str.glued (S z) (ws.map S) = _
  rw [StrLaws.glued_eq_join, join_S]
theorem split_S (l : Cs) (c : Nat) : Txt.split (S l) (S [c]) = (sp c l).map S := by
  have h1 := StrLaws.split_free (S l) c
  have h2 := StrLaws.join_split (S l) (S [c])
  obtain ⟨ws, hw⟩ : ∃ ws : List Cs, Txt.split (S l) (S [c]) = ws.map S := ⟨(Txt.split (S l) (S [c])).map (fun x => x.cps.toList), by
    rw [List.map_map]
    conv => lhs; rw [← List.map_id (Txt.split (S l) (S [c]))]
    exact List.map_congr_left fun x _ => (S_toList x).symm⟩
  have hne : ws ≠ [] := fun e => by
    have := split_pos (S l) (S [c])
    rw [hw, e] at this
    simp at this
  rw [hw] at h2 ⊢
  rw [join_S] at h2
  have h3 : ∀ w ∈ ws, c ∉ w := fun w hm => by
    have := h1 (S w) (by show S w ∈ Txt.split (S l) (S [c]); rw [hw]; exact List.mem_map_of_mem hm)
    rwa [S_cps] at this
  rw [← S_inj h2, sp_jn hne h3]
def sub (c : Nat) (z : Cs) (l : Cs) : Cs := l.flatMap fun k => if k = c then z else [k]
theorem jn_sub (c : Nat) (z : Cs) : ∀ l : Cs, jn z (sp c l) = sub c z l
  | [] => rfl
  | k :: r => by
    have ih := jn_sub c z r
    unfold sp
    split
    · rename_i e
      cases h0 : sp c r with
      | nil => exact absurd h0 (sp_ne c r)
      | cons w ws =>
        rw [h0] at ih
        show [] ++ z ++ jn z (w :: ws) = sub c z (k :: r)
        rw [ih]
        simp [sub, e]
    · rename_i e
      split
      · rename_i h0
        exact absurd h0 (sp_ne c r)
      · rename_i w ws h0
        rw [h0] at ih
        have : sub c z (k :: r) = k :: sub c z r := by simp [sub, e]
        rw [this, ← ih]
        cases ws with
        | nil => rfl
        | cons v vs => rfl
theorem replace_S (l z : Cs) (c : Nat) : Txt.replace (S l) (S [c]) (S z) = S (sub c z l) := by
  have h := StrLaws.replace_one (S l) (S z) c
  show Txt.replace (S l) ⟨#[c]⟩ (S z) = _
  rw [h]
  have e : Txt.split (S l) ⟨#[c]⟩ = (sp c l).map S := split_S l c
  rw [e, join_S, jn_sub]

/-! ### tokens -/
def isSep (c : Nat) : Bool := c == 32 || c == 40 || c == 41
def pend (w : Cs) : List Cs := if w = [] then [] else [w]
def tk : Cs → Cs → List Cs
  | w, [] => pend w
  | w, c :: r => if isSep c then pend w ++ (if c = 32 then [] else [[c]]) ++ tk [] r else tk (w ++ [c]) r
def spread (l : Cs) : Cs := sub 41 [32, 41, 32] (sub 40 [32, 40, 32] l)
theorem spread_cons (c : Nat) (r : Cs) : spread (c :: r) = (if c = 40 then [32, 40, 32] else if c = 41 then [32, 41, 32] else [c]) ++ spread r := by
  unfold spread sub
  by_cases h1 : c = 40
  · subst h1; simp
  · by_cases h2 : c = 41
    · subst h2; simp
    · simp [h1, h2]
def noSep (w : Cs) : Prop := ∀ c ∈ w, isSep c = false
theorem noSep_32 {w : Cs} (h : noSep w) : 32 ∉ w := fun m => by
  have := h 32 m
  simp [isSep] at this
theorem tk_words : ∀ (l w : Cs), noSep w → (sp 32 (w ++ spread l)).filter (fun x => x ≠ []) = tk w l
  | [], w, h => by
    show List.filter _ (sp 32 (w ++ [])) = pend w
    rw [List.append_nil, sp_free (noSep_32 h)]
    unfold pend
    by_cases e : w = [] <;> simp [e]
  | c :: r, w, h => by
    have ih0 := tk_words r [] (fun _ m => by cases m)
    rw [List.nil_append] at ih0
    have cut : ∀ {u : Cs}, noSep u → ∀ r : Cs, (sp 32 (u ++ 32 :: r)).filter (fun x => x ≠ []) = pend u ++ (sp 32 r).filter (fun x => x ≠ []) := fun {u} hu r => by
      rw [sp_app (noSep_32 hu)]
      unfold pend
      by_cases e : u = [] <;> simp [e]
    rw [spread_cons]
    by_cases h1 : c = 40
    · subst h1
      rw [if_pos rfl]
      show (sp 32 (w ++ 32 :: ([40] ++ 32 :: spread r))).filter _ = pend w ++ [[40]] ++ tk [] r
      rw [cut h]
      rw [sp_app (show 32 ∉ [40] by simp)]
      rw [← ih0, List.append_assoc]
      simp
    · by_cases h2 : c = 41
      · subst h2
        rw [if_neg h1, if_pos rfl]
        show (sp 32 (w ++ 32 :: ([41] ++ 32 :: spread r))).filter _ = pend w ++ [[41]] ++ tk [] r
        rw [cut h]
        rw [sp_app (show 32 ∉ [41] by simp)]
        rw [← ih0, List.append_assoc]
        simp
      · rw [if_neg h1, if_neg h2]
        by_cases h3 : c = 32
        · subst h3
          show (sp 32 (w ++ 32 :: spread r)).filter _ = pend w ++ [] ++ tk [] r
          rw [cut h, ih0, List.append_nil]
        · have hs : isSep c = false := by simp [isSep, h1, h2, h3]
          have hw : noSep (w ++ [c]) := fun x hx => by
            rcases List.mem_append.mp hx with hx | hx
            · exact h x hx
            · rw [List.mem_singleton.mp hx]; exact hs
          have ih := tk_words r (w ++ [c]) hw
          rw [List.append_assoc] at ih
          show _ = if isSep c = true then _ else tk (w ++ [c]) r
          rw [hs, ← ih]
          simp
theorem law_tokens (l : Cs) : (sp 32 (spread l)).filter (fun x => x ≠ []) = tk [] l := tk_words l [] (fun _ m => by cases m)

/-! ### the line of tokens -/
def lo : Cs → List Cs → Cs
  | _, [] => []
  | p, t :: ts => (if t ≠ [41] ∧ p ≠ [40] then [32] else []) ++ t ++ lo t ts
def lineOf : List Cs → Cs
  | [] => []
  | t :: ts => t ++ lo t ts

/-! ### words -/
def isDg (c : Nat) : Bool := 48 ≤ c && c ≤ 57
def isLw (c : Nat) : Bool := 97 ≤ c && c ≤ 122
def figs (w : Cs) : Cs := if w.head? = some 45 then w.tail else w
def isNum (w : Cs) : Bool := !((figs w).isEmpty || decide ((figs w).length > 1000) || !((figs w).all isDg)) && ((figs w).head? != some 48 || w == [48])
def isWd (w : Cs) : Bool := (match w.head? with
  | some c => isLw c
  | none => false) && w.all fun c => isLw c || isDg c
def valW (w : Cs) : Int := if w.head? = some 45 then -((digitsVal w.tail : Nat) : Int) else ((digitsVal w : Nat) : Int)
def rdWord (w : Cs) : Option D := if w = [45] then some .non else if isNum w then some (.int (valW w)) else if isWd w then some (.str (S w)) else none

/-! ### the stack of open rows, the innermost ahead -/
def step : List (List D) → Cs → Option (List (List D))
  | [], _ => none
  | top :: rest, t =>
    if t = [40] then (if rest.length = 11 then none else some ([] :: top :: rest))
    else if t = [41] then match rest with
      | [] => none
      | nxt :: rest => some ((nxt ++ [.tup top]) :: rest)
    else (rdWord t).map fun d => (top ++ [d]) :: rest
def go : List (List D) → List Cs → Option (List (List D))
  | st, [] => some st
  | st, t :: ts => (step st t).bind fun st' => go st' ts
def oneRow : List (List D) → Option (List D)
  | [row] => some row
  | _ => none
def readLine (l : Cs) : Option (List D) := if tk [] l = [] ∨ lineOf (tk [] l) ≠ l then none else (go [[]] (tk [] l)).bind oneRow

/-! ### writing -/
def numeral (i : Int) : Cs := (toString i).toList.map Char.toNat
mutual
def wr : D → Cs
  | .non => [45]
  | .int i => numeral i
  | .str x => x.cps.toList
  | .tup ds => 40 :: (wrs ds ++ [41])
  | .bl _ => []
  | .ref _ => []
/-- the members with one blank between them -/
def wrs : List D → Cs
  | [] => []
  | d :: ds => wr d ++ wrt ds
def wrt : List D → Cs
  | [] => []
  | d :: ds => 32 :: (wr d ++ wrt ds)
end
theorem wrt_jn : ∀ (ds : List D) (x : Cs), x ++ wrt ds = jn [32] (x :: ds.map wr)
  | [], x => by simp [wrt, jn]
  | d :: ds, x => by
    show x ++ 32 :: (wr d ++ wrt ds) = x ++ [32] ++ jn [32] (wr d :: ds.map wr)
    rw [wrt_jn ds (wr d)]
    simp
theorem wrs_jn : ∀ ds : List D, wrs ds = jn [32] (ds.map wr)
  | [] => rfl
  | d :: ds => wrt_jn ds (wr d)
mutual
def toksD : D → List Cs
  | .non => [[45]]
  | .int i => [numeral i]
  | .str x => [x.cps.toList]
  | .tup ds => [40] :: (toksL ds ++ [[41]])
  | .bl _ => [[]]
  | .ref _ => [[]]
def toksL : List D → List Cs
  | [] => []
  | d :: ds => toksD d ++ toksL ds
end
theorem toksL_app (a b : List D) : toksL (a ++ b) = toksL a ++ toksL b := by
  induction a with
  | nil => rfl
  | cons d a ih => show toksD d ++ toksL (a ++ b) = (toksD d ++ toksL a) ++ toksL b; rw [ih, List.append_assoc]
theorem toksD_ne : ∀ d : D, toksD d ≠ []
  | .non => by simp [toksD]
  | .int i => by simp [toksD]
  | .str x => by simp [toksD]
  | .tup ds => by simp [toksD]
  | .bl _ => by simp [toksD]
  | .ref _ => by simp [toksD]
theorem toksL_nil {ds : List D} (h : toksL ds = []) : ds = [] := by
  cases ds with
  | nil => rfl
  | cons d ds => exact absurd (List.append_eq_nil_iff.mp h).1 (toksD_ne d)

/-! ### numerals -/
theorem nat_repr (m : Nat) : (toString ((m : Nat) : Int)).toList = Nat.toDigits 10 m := by
  show (Nat.repr m).toList = _
  rw [Nat.toList_repr]
theorem numeral_nat (m : Nat) : numeral (m : Int) = (Nat.toDigits 10 m).map Char.toNat := by
  unfold numeral
  rw [nat_repr]
theorem numeral_neg (m : Nat) : numeral (-((m + 1 : Nat) : Int)) = 45 :: (Nat.toDigits 10 (m + 1)).map Char.toNat := by
  have e : (-((m + 1 : Nat) : Int)) = Int.negSucc m := rfl
  rw [e]
  show ((toString (Int.negSucc m)).toList.map Char.toNat) = _
  have e2 : toString (Int.negSucc m) = "-" ++ Nat.repr (m + 1) := rfl
  rw [e2, String.toList_append, List.map_append, Nat.toList_repr]
  rfl
theorem dg_digits (m : Nat) : ((Nat.toDigits 10 m).map Char.toNat).all isDg = true := by
  rw [List.all_eq_true]
  intro c hc
  obtain ⟨ch, hch, rfl⟩ := List.mem_map.mp hc
  have r := digit_range (Nat.isDigit_of_mem_toDigits (by decide) (by decide) hch)
  simp [isDg, r.1, r.2]
theorem digits_ne (m : Nat) : (Nat.toDigits 10 m).map Char.toNat ≠ [] := by
  intro e
  have h := toDigits_len_ge 10 m
  rw [List.map_eq_nil_iff.mp e] at h
  exact absurd h (by decide)
theorem digits_snoc (n d : Nat) (h0 : 0 < n) (hd : d < 10) : Nat.toDigits 10 (10 * n + d) = Nat.toDigits 10 n ++ [Nat.digitChar d] := by
  rw [← Nat.toDigits_append_toDigits (by decide) h0 hd, Nat.toDigits_of_lt_base hd]
theorem digit_fwd : ∀ d : Nat, d < 10 → (Nat.digitChar d).toNat = d + 48 := by decide
theorem digitsVal_pos {w : Cs} (h : w.all isDg = true) (h0 : w.head? ≠ some 48) (hne : w ≠ []) : 0 < digitsVal w := by
  have key : ∀ (l : Cs) (acc : Nat), 0 < acc → 0 < l.foldl (fun acc c => acc * 10 + (c - 48)) acc := fun l => by
    induction l with
    | nil => exact fun acc h => h
    | cons c l ih => exact fun acc h => ih (acc * 10 + (c - 48)) (by omega)
  cases w with
  | nil => exact absurd rfl hne
  | cons c l =>
    refine key l _ ?_
    simp only [List.all_cons, Bool.and_eq_true, isDg, decide_eq_true_eq] at h
    have : c ≠ 48 := fun e => h0 (by rw [e]; rfl)
    show 0 < 0 * 10 + (c - 48)
    omega
theorem digitsVal_snoc' (l : Cs) (c : Nat) : digitsVal (l ++ [c]) = digitsVal l * 10 + (c - 48) := by
  unfold digitsVal
  rw [List.foldl_append]; rfl
theorem digits_back : ∀ (n : Nat) (w : Cs), w.length = n → w.all isDg = true → w ≠ [] → (w.head? ≠ some 48 ∨ w = [48]) → (Nat.toDigits 10 (digitsVal w)).map Char.toNat = w := by
  intro n
  induction n with
  | zero => intro w hl _ hne _; exact absurd (List.length_eq_zero_iff.mp hl) hne
  | succ n ih =>
    intro w hl hd hne h0
    obtain ⟨u, c, rfl⟩ : ∃ u c, w = u ++ [c] := ⟨w.dropLast, w.getLast hne, (List.dropLast_concat_getLast hne).symm⟩
    rw [List.all_append, Bool.and_eq_true] at hd
    obtain ⟨hu, hc⟩ := hd
    simp only [List.all_cons, List.all_nil, Bool.and_true, isDg, Bool.and_eq_true, decide_eq_true_eq] at hc
    have hc10 : c - 48 < 10 := by omega
    have hcb : (Nat.digitChar (c - 48)).toNat = c := by rw [digit_fwd _ hc10]; omega
    rw [digitsVal_snoc']
    by_cases hun : u = []
    · subst hun
      show (Nat.toDigits 10 (0 * 10 + (c - 48))).map Char.toNat = [c]
      rw [Nat.zero_mul, Nat.zero_add, Nat.toDigits_of_lt_base hc10]
      show [(Nat.digitChar (c - 48)).toNat] = [c]
      rw [hcb]
    · have hu0 : u.head? ≠ some 48 := by
        rcases h0 with h0 | h0
        · intro e
          apply h0
          cases u with
          | nil => exact absurd rfl hun
          | cons a l => exact e
        · have := congrArg List.length h0
          simp at this
          exact absurd this hun
      have hp := digitsVal_pos hu hu0 hun
      rw [Nat.mul_comm, digits_snoc _ _ hp hc10, List.map_append, ih u (by simpa using hl) hu hun (.inl hu0)]
      show u ++ [(Nat.digitChar (c - 48)).toNat] = _
      rw [hcb]
theorem isNum_figs {w : Cs} (h : isNum w = true) : figs w ≠ [] ∧ (figs w).length ≤ 1000 ∧ (figs w).all isDg = true ∧ ((figs w).head? ≠ some 48 ∨ w = [48]) := by
  unfold isNum at h
  simp only [Bool.and_eq_true, Bool.not_eq_true', Bool.or_eq_false_iff, Bool.not_eq_false', decide_eq_false_iff_not, Bool.or_eq_true, bne_iff_ne, beq_iff_eq, List.isEmpty_eq_false_iff] at h
  obtain ⟨⟨⟨h1, h2⟩, h3⟩, h4⟩ := h
  exact ⟨h1, by omega, h3, h4⟩
/-- a written number is what its value writes -/
theorem numeral_val {w : Cs} (h : isNum w = true) : numeral (valW w) = w := by
  obtain ⟨h1, h2, h3, h4⟩ := isNum_figs h
  unfold figs at h1 h2 h3 h4
  unfold valW
  by_cases hm : w.head? = some 45
  · rw [if_pos hm] at h1 h2 h3 h4 ⊢
    obtain ⟨u, rfl⟩ : ∃ u, w = 45 :: u := by
      cases w with
      | nil => cases hm
      | cons c u => cases hm; exact ⟨u, rfl⟩
    show numeral (-((digitsVal u : Nat) : Int)) = _
    have h4' : u.head? ≠ some 48 := by
      rcases h4 with h4 | h4
      · exact h4
      · cases h4
    have hp : 0 < digitsVal u := digitsVal_pos h3 h4' h1
    obtain ⟨m, hm'⟩ : ∃ m, digitsVal u = m + 1 := ⟨digitsVal u - 1, by omega⟩
    rw [hm', numeral_neg, ← hm', digits_back _ u rfl h3 h1 (.inl h4')]
  · rw [if_neg hm] at h1 h2 h3 h4 ⊢
    rw [numeral_nat, digits_back _ w rfl h3 h1 h4]
theorem digitsVal_ge : ∀ (l : Cs) (acc : Nat), acc * 10 ^ l.length ≤ l.foldl (fun acc c => acc * 10 + (c - 48)) acc
  | [], acc => by simp
  | c :: l, acc => by
    have ih := digitsVal_ge l (acc * 10 + (c - 48))
    refine Nat.le_trans ?_ ih
    rw [List.length_cons, Nat.pow_succ, Nat.mul_comm (10 ^ l.length) 10, ← Nat.mul_assoc]
    exact Nat.mul_le_mul_right _ (by omega)
theorem digits_head {m : Nat} (h : 0 < m) : ((Nat.toDigits 10 m).map Char.toNat).head? ≠ some 48 := by
  induction m using Nat.strongRecOn with
  | _ m ih =>
    by_cases hl : m < 10
    · rw [Nat.toDigits_of_lt_base hl]
      show some (Nat.digitChar m).toNat ≠ some 48
      rw [digit_fwd m hl]
      intro e
      injection e with e
      omega
    · have hm : m % 10 < 10 := Nat.mod_lt m (by decide)
      have t := digits_snoc (m / 10) (m % 10) (by omega) hm
      rw [Nat.div_add_mod] at t
      rw [t, List.map_append]
      have h1 := ih (m / 10) (by omega) (by omega)
      have h2 := digits_ne (m / 10)
      cases h3 : (Nat.toDigits 10 (m / 10)).map Char.toNat with
      | nil => exact absurd h3 h2
      | cons a l => rw [h3] at h1; exact h1
theorem digits_len {m k : Nat} (hk : 0 < k) (h : m < 10 ^ k) : ((Nat.toDigits 10 m).map Char.toNat).length ≤ k := by
  by_cases h0 : m = 0
  · subst h0
    show 1 ≤ k
    exact hk
  · have hv := PySem.W.KIN.val_back m
    have hh := digits_head (m := m) (by omega)
    have hd := dg_digits m
    cases h3 : (Nat.toDigits 10 m).map Char.toNat with
    | nil => exact absurd h3 (digits_ne m)
    | cons c l =>
      rw [h3] at hv hh hd
      have hc : 1 ≤ c - 48 := by
        simp only [List.all_cons, Bool.and_eq_true, isDg, decide_eq_true_eq] at hd
        have : c ≠ 48 := fun e => hh (by rw [e]; rfl)
        omega
      have g := digitsVal_ge l (0 * 10 + (c - 48))
      have g2 : 10 ^ l.length ≤ m := by
        rw [← hv]
        show _ ≤ l.foldl (fun acc c => acc * 10 + (c - 48)) (0 * 10 + (c - 48))
        refine Nat.le_trans ?_ g
        rw [Nat.zero_mul, Nat.zero_add]
        exact Nat.le_mul_of_pos_left _ hc
      have g3 : 10 ^ l.length < 10 ^ k := Nat.lt_of_le_of_lt g2 h
      have g4 := (Nat.pow_lt_pow_iff_right (by decide : 1 < 10)).mp g3
      exact g4
/-- what an int writes is a written number of this value -/
theorem isNum_numeral {i : Int} (h : i.natAbs < 10 ^ 1000) : isNum (numeral i) = true ∧ valW (numeral i) = i := by
  have main : ∀ m : Nat, m < 10 ^ 1000 → (figs (numeral (m : Int)) = numeral (m : Int)) ∧ (numeral (m : Int)).head? ≠ some 45 := fun m _ => by
    rw [numeral_nat]
    have h1 := dg_digits m
    have h2 : ((Nat.toDigits 10 m).map Char.toNat).head? ≠ some 45 := by
      cases h3 : (Nat.toDigits 10 m).map Char.toNat with
      | nil => simp
      | cons c l =>
        rw [h3] at h1
        simp only [List.all_cons, Bool.and_eq_true, isDg, decide_eq_true_eq] at h1
        intro e
        injection e with e
        omega
    exact ⟨by unfold figs; rw [if_neg h2], h2⟩
  rcases Int.natAbs_eq i with e | e
  · generalize hm : i.natAbs = m at e h
    subst e
    obtain ⟨m1, m2⟩ := main m h
    have hl := digits_len (m := m) (k := 1000) (by decide) h
    have hne := digits_ne m
    have hd := dg_digits m
    refine ⟨?_, ?_⟩
    · unfold isNum
      rw [m1, numeral_nat]
      have a1 : ((Nat.toDigits 10 m).map Char.toNat).isEmpty = false := by simpa using hne
      have a2 : decide (((Nat.toDigits 10 m).map Char.toNat).length > 1000) = false := decide_eq_false (by omega)
      rw [a1, a2, hd]
      by_cases h0 : m = 0
      · subst h0; decide
      · have b1 : (((Nat.toDigits 10 m).map Char.toNat).head? != some 48) = true := bne_iff_ne.mpr (digits_head (m := m) (by omega))
        rw [b1]
        rfl
    · unfold valW
      rw [if_neg m2, numeral_nat, PySem.W.KIN.val_back]
  · generalize hm : i.natAbs = m at e h
    by_cases h0 : m = 0
    · subst h0; subst e
      exact ⟨by decide, by decide⟩
    · obtain ⟨k, rfl⟩ : ∃ k, m = k + 1 := ⟨m - 1, by omega⟩
      subst e
      have hl := digits_len (m := k + 1) (k := 1000) (by decide) h
      have hne := digits_ne (k + 1)
      have hd := dg_digits (k + 1)
      have hh := digits_head (m := k + 1) (by omega)
      have ef : figs (numeral (-((k + 1 : Nat) : Int))) = (Nat.toDigits 10 (k + 1)).map Char.toNat := by rw [numeral_neg]; rfl
      refine ⟨?_, ?_⟩
      · unfold isNum
        rw [ef]
        have a1 : ((Nat.toDigits 10 (k + 1)).map Char.toNat).isEmpty = false := by simpa using hne
        have a2 : decide (((Nat.toDigits 10 (k + 1)).map Char.toNat).length > 1000) = false := decide_eq_false (by omega)
        have b1 : (((Nat.toDigits 10 (k + 1)).map Char.toNat).head? != some 48) = true := bne_iff_ne.mpr hh
        rw [a1, a2, hd, b1]
        rfl
      · rw [numeral_neg]
        show -((digitsVal ((Nat.toDigits 10 (k + 1)).map Char.toNat) : Nat) : Int) = _
        rw [PySem.W.KIN.val_back]

/-! ### what has been read is what was written -/
theorem rdWord_toks {w : Cs} {d : D} (h : rdWord w = some d) : toksD d = [w] := by
  unfold rdWord at h
  split at h
  · rename_i e; cases h; rw [e]; rfl
  · split at h
    · rename_i e2
      cases h
      show [numeral (valW w)] = [w]
      rw [numeral_val e2]
    · split at h
      · cases h
        show [(S w).cps.toList] = [w]
        rw [S_cps]
      · cases h
def flat : List (List D) → List Cs
  | [] => []
  | [row] => toksL row
  | top :: nxt :: rest => flat (nxt :: rest) ++ [[40]] ++ toksL top
theorem flat_snoc (top : List D) (rest : List (List D)) (d : D) : flat ((top ++ [d]) :: rest) = flat (top :: rest) ++ toksD d := by
  have e : toksL (top ++ [d]) = toksL top ++ toksD d := by
    rw [toksL_app]
    show _ ++ (toksD d ++ []) = _
    rw [List.append_nil]
  cases rest with
  | nil => exact e
  | cons n r =>
    show flat (n :: r) ++ [[40]] ++ toksL (top ++ [d]) = _
    rw [e, ← List.append_assoc]; rfl
theorem step_flat {st st' : List (List D)} {t : Cs} (h : step st t = some st') : flat st' = flat st ++ [t] := by
  cases st with
  | nil => cases h
  | cons top rest =>
    unfold step at h
    dsimp only at h
    split at h
    · rename_i e
      split at h
      · cases h
      · cases h
        show flat (top :: rest) ++ [[40]] ++ [] = _
        rw [List.append_nil, e]
    · split at h
      · rename_i e
        split at h
        · cases h
        · rename_i nxt rest
          cases h
          rw [flat_snoc, e]
          show _ ++ ([40] :: (toksL top ++ [[41]])) = flat (nxt :: rest) ++ [[40]] ++ toksL top ++ [[41]]
          simp
      · obtain ⟨d, hd, e2⟩ := Option.map_eq_some_iff.mp h
        subst e2
        rw [flat_snoc, rdWord_toks hd]
theorem go_flat : ∀ (ts : List Cs) {st st' : List (List D)}, go st ts = some st' → flat st' = flat st ++ ts
  | [], st, st', h => by cases h; simp
  | t :: ts, st, st', h => by
    obtain ⟨s1, h1, h2⟩ := Option.bind_eq_some_iff.mp h
    rw [go_flat ts h2, step_flat h1, List.append_assoc]; rfl
theorem go_toks {ts : List Cs} {row : List D} (h : go [[]] ts = some [row]) : ts = toksL row := by
  have := go_flat ts h
  exact this.symm
/- members as a line may bear them -/
mutual
def okM : D → Bool
  | .non => true
  | .int i => decide (i.natAbs < 10 ^ 1000)
  | .str x => isWd x.cps.toList
  | .tup ds => okMs ds
  | .bl _ => false
  | .ref _ => false
def okMs : List D → Bool
  | [] => true
  | d :: ds => okM d && okMs ds
end
theorem okMs_app (a b : List D) : okMs (a ++ b) = (okMs a && okMs b) := by
  induction a with
  | nil => rfl
  | cons d a ih => show (okM d && okMs (a ++ b)) = ((okM d && okMs a) && okMs b); rw [ih, Bool.and_assoc]
def lastT : D → Cs
  | .non => [45]
  | .int i => numeral i
  | .str x => x.cps.toList
  | .tup ds => [41]
  | .bl _ => []
  | .ref _ => []
theorem isNum_ne {w : Cs} (h : isNum w = true) (c : Nat) (hc : isDg c = false) : w ≠ [c] := by
  intro e
  subst e
  obtain ⟨h1, h2, h3, h4⟩ := isNum_figs h
  unfold figs at h1 h3
  split at h1
  · exact h1 rfl
  · rename_i hn
    rw [if_neg hn] at h3
    simp [hc] at h3
theorem isWd_ne {w : Cs} (h : isWd w = true) (c : Nat) (hc : isLw c = false) : w ≠ [c] := by
  intro e
  subst e
  simp [isWd, hc] at h
theorem lo_word {w : Cs} (p : Cs) (ts : List Cs) (h : w ≠ [41]) : lo p ([w] ++ ts) = (if p ≠ [40] then [32] else []) ++ w ++ lo w ts := by
  show (if w ≠ [41] ∧ p ≠ [40] then [32] else []) ++ w ++ lo w ts = _
  simp only [h, ne_eq, not_false_eq_true, true_and]
def inn (p : Cs) : List D → Cs
  | [] => []
  | d :: ds => (if p ≠ [40] then [32] else []) ++ wr d ++ wrt ds
mutual
theorem lo_toks : ∀ (d : D) (p : Cs) (ts : List Cs), okM d = true → lo p (toksD d ++ ts) = (if p ≠ [40] then [32] else []) ++ wr d ++ lo (lastT d) ts ∧ lastT d ≠ [40]
  | .non, p, ts, _ => ⟨lo_word (w := [45]) p ts (by decide), by show ([45] : Cs) ≠ [40]; decide⟩
  | .bl b, p, ts, h => by cases h
  | .int i, p, ts, h => by
    have h' : i.natAbs < 10 ^ 1000 := of_decide_eq_true h
    have hn := (isNum_numeral h').1
    exact ⟨lo_word (w := numeral i) p ts (isNum_ne hn 41 (by decide)), isNum_ne hn 40 (by decide)⟩
  | .str x, p, ts, h => ⟨lo_word (w := x.cps.toList) p ts (isWd_ne h 41 (by decide)), isWd_ne h 40 (by decide)⟩
  | .ref k, p, ts, h => by cases h
  | .tup ds, p, ts, h => by
    refine ⟨?_, by show ([41] : Cs) ≠ [40]; decide⟩
    show lo p ([40] :: (toksL ds ++ [[41]]) ++ ts) = _ ++ (40 :: (wrs ds ++ [41])) ++ lo [41] ts
    have e1 := lo_in ds [40] ts h
    have e2 : ([40] :: (toksL ds ++ [[41]]) ++ ts : List Cs) = [40] :: (toksL ds ++ [41] :: ts) := by simp
    rw [e2]
    show (if ([40] : Cs) ≠ [41] ∧ p ≠ [40] then [32] else []) ++ [40] ++ lo [40] (toksL ds ++ [41] :: ts) = _
    rw [e1]
    have e3 : inn [40] ds = wrs ds := by
      cases ds with
      | nil => rfl
      | cons d ds' => simp [wrs, inn]
    rw [e3]
    have e4 : (([40] : Cs) ≠ [41] ∧ p ≠ [40]) = (p ≠ [40]) := by simp
    simp only [e4]
    simp
theorem lo_in : ∀ (ds : List D) (p : Cs) (ts : List Cs), okMs ds = true → lo p (toksL ds ++ [41] :: ts) = inn p ds ++ [41] ++ lo [41] ts
  | [], p, ts, _ => by
    show (if ([41] : Cs) ≠ [41] ∧ p ≠ [40] then [32] else []) ++ [41] ++ lo [41] ts = _
    simp [inn]
  | d :: ds, p, ts, h => by
    have h' := Bool.and_eq_true_iff.mp (show (okM d && okMs ds) = true from h)
    obtain ⟨a1, a2⟩ := lo_toks d p (toksL ds ++ [41] :: ts) h'.1
    have a3 := lo_in ds (lastT d) ts h'.2
    show lo p (toksD d ++ toksL ds ++ [41] :: ts) = _
    rw [List.append_assoc, a1, a3]
    cases ds with
    | nil => simp [wrt, inn]
    | cons d2 ds2 => simp [wrt, inn, a2]
end
theorem lo_row : ∀ (ds : List D) (p : Cs), okMs ds = true → p ≠ [40] → lo p (toksL ds) = wrt ds
  | [], p, _, _ => rfl
  | d :: ds, p, h, hp => by
    have h' := Bool.and_eq_true_iff.mp (show (okM d && okMs ds) = true from h)
    obtain ⟨a1, a2⟩ := lo_toks d p (toksL ds) h'.1
    show lo p (toksD d ++ toksL ds) = 32 :: (wr d ++ wrt ds)
    rw [a1, lo_row ds _ h'.2 a2, if_pos hp]
    simp
theorem lineOf_lo {ts : List Cs} (h : ∀ t r, ts = t :: r → t ≠ [41]) : lineOf ts = lo [40] ts := by
  cases ts with
  | nil => rfl
  | cons t r =>
    have := h t r rfl
    show t ++ lo t r = (if t ≠ [41] ∧ ([40] : Cs) ≠ [40] then [32] else []) ++ t ++ lo t r
    simp
theorem lineOf_row (row : List D) (h : okMs row = true) : lineOf (toksL row) = wrs row := by
  cases row with
  | nil => rfl
  | cons d ds =>
    have h' := Bool.and_eq_true_iff.mp (show (okM d && okMs ds) = true from h)
    have e : lineOf (toksL (d :: ds)) = lo [40] (toksL (d :: ds)) := by
      cases ht : toksL (d :: ds) with
      | nil => rfl
      | cons t r =>
        show t ++ lo t r = (if t ≠ [41] ∧ ([40] : Cs) ≠ [40] then [32] else []) ++ t ++ lo t r
        simp
    rw [e]
    obtain ⟨a1, a2⟩ := lo_toks d [40] (toksL ds) h'.1
    show lo [40] (toksD d ++ toksL ds) = wr d ++ wrt ds
    rw [a1, lo_row ds _ h'.2 a2]
    simp
end K66

set_option Elab.async false
set_option linter.all false
set_option maxRecDepth 100000
set_option maxHeartbeats 4000000
/-! K66B: the two readers read alike; what is written is read back. -/
namespace K66
open PySem PySem.NumText PyProof.Rows L2 Mi

theorem digitsVal_lt : ∀ (l : Cs) (acc : Nat), (∀ c ∈ l, isDg c = true) → l.foldl (fun acc c => acc * 10 + (c - 48)) acc < (acc + 1) * 10 ^ l.length
  | [], acc, _ => by simp
  | c :: l, acc, h => by
    have hc := h c (List.mem_cons_self ..)
    simp only [isDg, Bool.and_eq_true, decide_eq_true_eq] at hc
    have ih := digitsVal_lt l (acc * 10 + (c - 48)) (fun x hx => h x (List.mem_cons_of_mem _ hx))
    refine Nat.lt_of_lt_of_le ih ?_
    rw [List.length_cons, Nat.pow_succ, Nat.mul_comm (10 ^ l.length) 10, ← Nat.mul_assoc]
    exact Nat.mul_le_mul_right _ (by omega)
theorem valW_lt {w : Cs} (h : isNum w = true) : (valW w).natAbs < 10 ^ 1000 := by
  obtain ⟨h1, h2, h3, h4⟩ := isNum_figs h
  have key : ∀ u : Cs, u.length ≤ 1000 → u.all isDg = true → digitsVal u < 10 ^ 1000 := fun u hu hd => by
    have := digitsVal_lt u 0 (fun c hc => List.all_eq_true.mp hd c hc)
    rw [Nat.zero_add, Nat.one_mul] at this
    exact Nat.lt_of_lt_of_le this (Nat.pow_le_pow_right (by decide) hu)
  unfold figs at h2 h3
  unfold valW
  split
  · rename_i hm
    rw [if_pos hm] at h2 h3
    rw [Int.natAbs_neg, Int.natAbs_natCast]
    exact key _ h2 h3
  · rename_i hm
    rw [if_neg hm] at h2 h3
    rw [Int.natAbs_natCast]
    exact key _ h2 h3
theorem rdWord_ok {w : Cs} {d : D} (h : rdWord w = some d) : okM d = true := by
  unfold rdWord at h
  split at h
  · cases h; rfl
  · split at h
    · rename_i e2
      cases h
      exact decide_eq_true (valW_lt e2)
    · split at h
      · rename_i e3
        cases h
        show isWd (S w).cps.toList = true
        rw [S_cps]; exact e3
      · cases h
/-! ### how deep -/
mutual
def dep : D → Nat
  | .tup ds => deps ds + 1
  | .non => 0
  | .bl _ => 0
  | .int _ => 0
  | .str _ => 0
  | .ref _ => 0
def deps : List D → Nat
  | [] => 0
  | d :: ds => max (dep d) (deps ds)
end
theorem deps_app (a b : List D) : deps (a ++ b) = max (deps a) (deps b) := by
  induction a with
  | nil => show deps b = max 0 (deps b); omega
  | cons d a ih => show max (dep d) (deps (a ++ b)) = max (max (dep d) (deps a)) (deps b); rw [ih]; omega
/-- the stack is in order -/
def okSt : List (List D) → Prop
  | [] => True
  | top :: rest => okMs top = true ∧ deps top + rest.length ≤ 11 ∧ okSt rest
theorem step_ok {st st' : List (List D)} {t : Cs} (h : step st t = some st') (k : okSt st) : okSt st' := by
  cases st with
  | nil => cases h
  | cons top rest =>
    obtain ⟨k1, k2, k3⟩ := k
    unfold step at h
    dsimp only at h
    split at h
    · split at h
      · cases h
      · rename_i hn
        cases h
        refine ⟨rfl, ?_, k1, k2, k3⟩
        show 0 + (rest.length + 1) ≤ 11
        omega
    · split at h
      · split at h
        · cases h
        · rename_i nxt rest
          cases h
          obtain ⟨j1, j2, j3⟩ := k3
          refine ⟨?_, ?_, j3⟩
          · rw [okMs_app, j1]
            show (okMs top && true) = true
            rw [k1]; rfl
          · rw [deps_app]
            show max (deps nxt) (max (deps top + 1) 0) + rest.length ≤ 11
            simp only [List.length_cons] at k2
            omega
      · obtain ⟨d, hd, e⟩ := Option.map_eq_some_iff.mp h
        subst e
        have q := rdWord_ok hd
        have qd : dep d = 0 := by
          unfold rdWord at hd
          split at hd
          · cases hd; rfl
          · split at hd
            · cases hd; rfl
            · split at hd
              · cases hd; rfl
              · cases hd
        refine ⟨?_, ?_, k3⟩
        · rw [okMs_app, k1]
          show (okM d && true) = true
          rw [q]; rfl
        · rw [deps_app]
          show max (deps top) (max (dep d) 0) + rest.length ≤ 11
          omega
theorem go_ok : ∀ (ts : List Cs) {st st' : List (List D)}, go st ts = some st' → okSt st → okSt st'
  | [], st, st', h, k => by cases h; exact k
  | t :: ts, st, st', h, k => by
    obtain ⟨s1, h1, h2⟩ := Option.bind_eq_some_iff.mp h
    exact go_ok ts h2 (step_ok h1 k)
theorem okSt0 : okSt [[]] := ⟨rfl, by show 0 + 0 ≤ 11; decide, trivial⟩
/-- the law's own reader of a line -/
def lawLine (l : Cs) : Option (List D) := match go [[]] (tk [] l) with
  | some [row] => if row.isEmpty then none else if wrs row = l then some row else none
  | _ => none
theorem go_nil_row {ts : List Cs} {row : List D} (h : go [[]] ts = some [row]) : row.isEmpty = true ↔ ts = [] := by
  have := go_toks h
  constructor
  · intro e
    rw [List.isEmpty_iff.mp e] at this
    exact this
  · intro e
    rw [e] at this
    rw [toksL_nil this.symm]; rfl
theorem read_law (l : Cs) : readLine l = lawLine l := by
  unfold readLine lawLine
  cases hg : go [[]] (tk [] l) with
  | none => simp
  | some st =>
    cases st with
    | nil => simp [oneRow]
    | cons row rest =>
      cases rest with
      | cons r2 rest => simp [oneRow]
      | nil =>
        obtain ⟨o1, _, _⟩ := go_ok _ hg okSt0
        have e1 := go_toks hg
        have e2 := go_nil_row hg
        have e3 : lineOf (tk [] l) = wrs row := by rw [e1]; exact lineOf_row row o1
        rw [e3]
        by_cases c1 : tk [] l = []
        · rw [if_pos (.inl c1)]
          simp [e2.mpr c1]
        · have c1' : row.isEmpty = false := by
            cases hb : row.isEmpty with
            | false => rfl
            | true => exact absurd (e2.mp hb) c1
          simp only [c1', Bool.false_eq_true, if_false]
          by_cases c2 : wrs row = l
          · rw [if_neg (by rintro (h | h); exact c1 h; exact h c2), if_pos c2]
            rfl
          · rw [if_pos (.inr c2), if_neg c2]
theorem readLine_ok {l : Cs} {row : List D} (h : readLine l = some row) : okMs row = true ∧ deps row ≤ 11 ∧ wrs row = l := by
  rw [read_law] at h
  unfold lawLine at h
  split at h
  · rename_i r hg
    split at h
    · cases h
    · split at h
      · rename_i e
        cases h
        obtain ⟨o1, o2, _⟩ := go_ok _ hg okSt0
        exact ⟨o1, o2, e⟩
      · cases h
  · cases h

/-! ### what is written is read back -/
def sepHead : Cs → Prop
  | [] => True
  | c :: _ => isSep c = true
theorem tk_run : ∀ (w u rest : Cs), noSep w → tk u (w ++ rest) = tk (u ++ w) rest
  | [], u, rest, _ => by simp
  | c :: w, u, rest, h => by
    have hc := h c (List.mem_cons_self ..)
    show (if isSep c = true then _ else tk (u ++ [c]) (w ++ rest)) = _
    rw [if_neg (by rw [hc]; exact Bool.false_ne_true), tk_run w _ rest (fun x hx => h x (List.mem_cons_of_mem _ hx)), List.append_assoc]
    rfl
theorem tk_pend {u : Cs} : ∀ {rest : Cs}, sepHead rest → tk u rest = pend u ++ tk [] rest
  | [], _ => by
    show pend u = pend u ++ pend []
    simp [pend]
  | c :: r, h => by
    have h' : isSep c = true := h
    show (if isSep c = true then pend u ++ (if c = 32 then [] else [[c]]) ++ tk [] r else _) = pend u ++ (if isSep c = true then pend [] ++ (if c = 32 then [] else [[c]]) ++ tk [] r else _)
    rw [if_pos h', if_pos h']
    simp [pend]
theorem tk_word {w rest : Cs} (h : noSep w) (hne : w ≠ []) (hr : sepHead rest) : tk [] (w ++ rest) = [w] ++ tk [] rest := by
  rw [tk_run w [] rest h, List.nil_append, tk_pend hr]
  simp [pend, hne]
theorem numeral_signs (i : Int) : ∀ c ∈ numeral i, c = 45 ∨ isDg c = true := by
  intro c hc
  rcases Int.natAbs_eq i with e | e
  · rw [e, numeral_nat] at hc
    exact .inr (List.all_eq_true.mp (dg_digits _) c hc)
  · by_cases h0 : i.natAbs = 0
    · rw [e, h0] at hc
      have : c ∈ ([48] : Cs) := hc
      rw [List.mem_singleton.mp this]; exact .inr (by decide)
    · obtain ⟨k, hk⟩ : ∃ k, i.natAbs = k + 1 := ⟨i.natAbs - 1, by omega⟩
      rw [e, hk, numeral_neg] at hc
      rcases List.mem_cons.mp hc with h | h
      · exact .inl h
      · exact .inr (List.all_eq_true.mp (dg_digits _) c h)
theorem numeral_ne (i : Int) : numeral i ≠ [] := by
  rcases Int.natAbs_eq i with e | e
  · rw [e, numeral_nat]; exact digits_ne _
  · by_cases h0 : i.natAbs = 0
    · rw [e, h0]; decide
    · obtain ⟨k, hk⟩ : ∃ k, i.natAbs = k + 1 := ⟨i.natAbs - 1, by omega⟩
      rw [e, hk, numeral_neg]; simp
theorem numeral_noSep (i : Int) : noSep (numeral i) := fun c hc => by
  rcases numeral_signs i c hc with h | h
  · rw [h]; decide
  · simp only [isDg, Bool.and_eq_true, decide_eq_true_eq] at h
    simp [isSep]
    omega
theorem isWd_noSep {w : Cs} (h : isWd w = true) : noSep w ∧ w ≠ [] := by
  unfold isWd at h
  rw [Bool.and_eq_true] at h
  refine ⟨fun c hc => ?_, fun e => by rw [e] at h; exact Bool.false_ne_true h.1⟩
  have := List.all_eq_true.mp h.2 c hc
  simp only [isLw, isDg, Bool.or_eq_true, Bool.and_eq_true, decide_eq_true_eq] at this
  simp [isSep]
  omega
theorem sepHead_wrt : ∀ (ds : List D) {rest : Cs}, sepHead rest → sepHead (wrt ds ++ rest)
  | [], rest, h => h
  | d :: ds, rest, h => by show isSep 32 = true; decide
mutual
theorem tk_wr : ∀ (d : D) (rest : Cs), okM d = true → sepHead rest → tk [] (wr d ++ rest) = toksD d ++ tk [] rest
  | .non, rest, _, hr => tk_word (w := [45]) (fun c hc => by rw [List.mem_singleton.mp hc]; decide) (by simp) hr
  | .bl _, rest, h, _ => by cases h
  | .ref _, rest, h, _ => by cases h
  | .int i, rest, _, hr => tk_word (numeral_noSep i) (numeral_ne i) hr
  | .str x, rest, h, hr => tk_word (isWd_noSep h).1 (isWd_noSep h).2 hr
  | .tup ds, rest, h, hr => by
    show tk [] (40 :: (wrs ds ++ [41]) ++ rest) = ([40] :: (toksL ds ++ [[41]])) ++ tk [] rest
    have e : (40 :: (wrs ds ++ [41]) ++ rest : Cs) = 40 :: (wrs ds ++ 41 :: rest) := by simp
    rw [e]
    show pend [] ++ [[40]] ++ tk [] (wrs ds ++ 41 :: rest) = _
    rw [tk_wrs ds (41 :: rest) h (by show isSep 41 = true; decide)]
    show _ ++ (toksL ds ++ (pend [] ++ [[41]] ++ tk [] rest)) = _
    simp [pend]
theorem tk_wrs : ∀ (ds : List D) (rest : Cs), okMs ds = true → sepHead rest → tk [] (wrs ds ++ rest) = toksL ds ++ tk [] rest
  | [], rest, _, _ => rfl
  | d :: ds, rest, h, hr => by
    have h' := Bool.and_eq_true_iff.mp (show (okM d && okMs ds) = true from h)
    show tk [] (wr d ++ wrt ds ++ rest) = toksD d ++ toksL ds ++ tk [] rest
    rw [List.append_assoc, tk_wr d _ h'.1 (sepHead_wrt ds hr), tk_wrt ds rest h'.2 hr, List.append_assoc]
theorem tk_wrt : ∀ (ds : List D) (rest : Cs), okMs ds = true → sepHead rest → tk [] (wrt ds ++ rest) = toksL ds ++ tk [] rest
  | [], rest, _, _ => rfl
  | d :: ds, rest, h, hr => by
    have h' := Bool.and_eq_true_iff.mp (show (okM d && okMs ds) = true from h)
    show tk [] (32 :: (wr d ++ wrt ds) ++ rest) = toksD d ++ toksL ds ++ tk [] rest
    have e : (32 :: (wr d ++ wrt ds) ++ rest : Cs) = 32 :: (wr d ++ (wrt ds ++ rest)) := by simp
    rw [e]
    show pend [] ++ [] ++ tk [] (wr d ++ (wrt ds ++ rest)) = _
    rw [tk_wr d _ h'.1 (sepHead_wrt ds hr), tk_wrt ds rest h'.2 hr, List.append_assoc]
    simp [pend]
end
theorem rdWord_num {i : Int} (h : i.natAbs < 10 ^ 1000) : rdWord (numeral i) = some (.int i) := by
  obtain ⟨h1, h2⟩ := isNum_numeral h
  unfold rdWord
  rw [if_neg (isNum_ne h1 45 (by decide)), if_pos h1, h2]
theorem rdWord_wd {w : Cs} (h : isWd w = true) : rdWord w = some (.str (S w)) := by
  have hn : isNum w = false := by
    cases hb : isNum w with
    | false => rfl
    | true =>
      exfalso
      obtain ⟨h1, h2, h3, h4⟩ := isNum_figs hb
      unfold isWd at h
      rw [Bool.and_eq_true] at h
      cases w with
      | nil => exact Bool.false_ne_true h.1
      | cons c r =>
        have hc : isLw c = true := h.1
        simp only [isLw, Bool.and_eq_true, decide_eq_true_eq] at hc
        have : figs (c :: r) = c :: r := by
          unfold figs
          rw [if_neg (by simp; omega)]
        rw [this] at h3
        simp only [List.all_cons, Bool.and_eq_true, isDg, decide_eq_true_eq] at h3
        omega
  unfold rdWord
  rw [if_neg (isWd_ne h 45 (by decide)), hn, if_neg Bool.false_ne_true, if_pos h]
theorem step_word {top : List D} {rest : List (List D)} {w : Cs} {d : D} (h : rdWord w = some d) (h1 : w ≠ [40]) (h2 : w ≠ [41]) : step (top :: rest) w = some ((top ++ [d]) :: rest) := by
  unfold step
  dsimp only
  rw [if_neg h1, if_neg h2, h]
  rfl
mutual
theorem go_toksD : ∀ (d : D) (top : List D) (rest : List (List D)) (ts : List Cs), okM d = true → rest.length + dep d ≤ 11 → go (top :: rest) (toksD d ++ ts) = go ((top ++ [d]) :: rest) ts
  | .non, top, rest, ts, _, _ => by
    show (step (top :: rest) [45]).bind _ = _
    rw [step_word (d := .non) (show rdWord [45] = some D.non from if_pos rfl) (by decide) (by decide)]; rfl
  | .bl _, top, rest, ts, h, _ => by cases h
  | .ref _, top, rest, ts, h, _ => by cases h
  | .int i, top, rest, ts, h, _ => by
    have h' : i.natAbs < 10 ^ 1000 := of_decide_eq_true h
    have hn := (isNum_numeral h').1
    show (step (top :: rest) (numeral i)).bind _ = _
    rw [step_word (rdWord_num h') (isNum_ne hn 40 (by decide)) (isNum_ne hn 41 (by decide))]; rfl
  | .str x, top, rest, ts, h, _ => by
    show (step (top :: rest) x.cps.toList).bind _ = _
    rw [step_word (rdWord_wd h) (isWd_ne h 40 (by decide)) (isWd_ne h 41 (by decide)), S_toList]; rfl
  | .tup ds, top, rest, ts, h, hd => by
    have hd' : rest.length + (deps ds + 1) ≤ 11 := hd
    show (step (top :: rest) [40]).bind (fun st' => go st' ((toksL ds ++ [[41]]) ++ ts)) = _
    have e1 : step (top :: rest) [40] = some ([] :: top :: rest) := by
      unfold step
      dsimp only
      rw [if_pos rfl, if_neg (by omega)]
    rw [e1]
    show go ([] :: top :: rest) ((toksL ds ++ [[41]]) ++ ts) = _
    rw [List.append_assoc, go_toksL ds [] (top :: rest) _ h (by show rest.length + 1 + deps ds ≤ 11; omega)]
    rfl
theorem go_toksL : ∀ (ds : List D) (top : List D) (rest : List (List D)) (ts : List Cs), okMs ds = true → rest.length + deps ds ≤ 11 → go (top :: rest) (toksL ds ++ ts) = go ((top ++ ds) :: rest) ts
  | [], top, rest, ts, _, _ => by rw [List.append_nil]; rfl
  | d :: ds, top, rest, ts, h, hd => by
    have h' := Bool.and_eq_true_iff.mp (show (okM d && okMs ds) = true from h)
    have hd' : rest.length + max (dep d) (deps ds) ≤ 11 := hd
    show go (top :: rest) (toksD d ++ toksL ds ++ ts) = _
    rw [List.append_assoc, go_toksD d top rest _ h'.1 (by omega), go_toksL ds _ rest _ h'.2 (by omega), List.append_assoc]
    rfl
end
theorem read_back {row : List D} (hne : row ≠ []) (h : okMs row = true) (hd : deps row ≤ 11) : readLine (wrs row) = some row := by
  have e1 : tk [] (wrs row) = toksL row := by
    have := tk_wrs row [] h trivial
    rw [List.append_nil] at this
    rw [this]
    show toksL row ++ pend [] = _
    simp [pend]
  have e2 : go [[]] (toksL row) = some [row] := by
    have := go_toksL row [] [] [] h (by show 0 + deps row ≤ 11; omega)
    rw [List.append_nil] at this
    rw [this]; rfl
  unfold readLine
  rw [e1, e2, if_neg]
  · rfl
  · rintro (h1 | h1)
    · exact hne (toksL_nil h1)
    · exact h1 (lineOf_row row h)

/-! ### a whole text -/
def rowsP : Nat → List Cs → Sum Nat (List D)
  | _, [] => .inr []
  | n, l :: ls => match readLine l with
    | none => .inl n
    | some ds => match rowsP (n + 1) ls with
      | .inl k => .inl k
      | .inr rs => .inr (.tup ds :: rs)
def toldD : Sum Nat (List D) → D
  | .inl n => .tup [.str "raised", .int n]
  | .inr rs => .tup [.str "let", .tup rs]
def readP (t : Cs) : D := if t = [] then toldD (.inr []) else toldD (rowsP 1 (sp 10 t))
theorem rowsP_back : ∀ (rows : List (List D)) (n : Nat), (∀ r ∈ rows, r ≠ [] ∧ okMs r = true ∧ deps r ≤ 11) → rowsP n (rows.map wrs) = .inr (rows.map D.tup)
  | [], n, _ => rfl
  | r :: rs, n, h => by
    obtain ⟨h1, h2, h3⟩ := h r (List.mem_cons_self ..)
    show (match readLine (wrs r) with | none => _ | some ds => _) = _
    rw [read_back h1 h2 h3]
    dsimp only
    rw [rowsP_back rs (n + 1) (fun x hx => h x (List.mem_cons_of_mem _ hx))]
    rfl
mutual
theorem wr_no10 : ∀ d : D, okM d = true → 10 ∉ wr d
  | .non, _ => by show 10 ∉ ([45] : Cs); simp
  | .bl _, h => by cases h
  | .ref _, h => by cases h
  | .int i, _ => fun hc => by
    rcases numeral_signs i 10 hc with h | h
    · cases h
    · cases h
  | .str x, h => fun hc => by
    unfold okM isWd at h
    rw [Bool.and_eq_true] at h
    have := List.all_eq_true.mp h.2 10 hc
    cases this
  | .tup ds, h => by
    have := wrs_no10 ds h
    show 10 ∉ (40 :: (wrs ds ++ [41]) : Cs)
    simp [this]
theorem wrs_no10 : ∀ ds : List D, okMs ds = true → 10 ∉ wrs ds
  | [], _ => by show 10 ∉ ([] : Cs); simp
  | d :: ds, h => by
    have h' := Bool.and_eq_true_iff.mp (show (okM d && okMs ds) = true from h)
    show 10 ∉ wr d ++ wrt ds
    have a := wr_no10 d h'.1
    have b := wrt_no10 ds h'.2
    simp [a, b]
theorem wrt_no10 : ∀ ds : List D, okMs ds = true → 10 ∉ wrt ds
  | [], _ => by show 10 ∉ ([] : Cs); simp
  | d :: ds, h => by
    have h' := Bool.and_eq_true_iff.mp (show (okM d && okMs ds) = true from h)
    show 10 ∉ (32 :: (wr d ++ wrt ds) : Cs)
    have a := wr_no10 d h'.1
    have b := wrt_no10 ds h'.2
    simp [a, b]
end
theorem wr_ne : ∀ d : D, okM d = true → wr d ≠ []
  | .non, _ => by show ([45] : Cs) ≠ []; simp
  | .bl _, h => by cases h
  | .ref _, h => by cases h
  | .int i, _ => numeral_ne i
  | .str x, h => (isWd_noSep h).2
  | .tup ds, h => by show (40 :: (wrs ds ++ [41]) : Cs) ≠ []; simp
theorem wrs_ne {ds : List D} (hne : ds ≠ []) (h : okMs ds = true) : wrs ds ≠ [] := by
  cases ds with
  | nil => exact absurd rfl hne
  | cons d ds =>
    have h' := Bool.and_eq_true_iff.mp (show (okM d && okMs ds) = true from h)
    show wr d ++ wrt ds ≠ []
    intro e
    exact wr_ne d h'.1 (List.append_eq_nil_iff.mp e).1
theorem jn_ne {z : Cs} : ∀ {ws : List Cs}, (∀ w ∈ ws, w ≠ []) → ws ≠ [] → jn z ws ≠ []
  | [], _, h => absurd rfl h
  | [w], h, _ => h w (List.mem_singleton.mpr rfl)
  | w :: v :: r, h, _ => by
    show w ++ z ++ jn z (v :: r) ≠ []
    intro e
    exact h w (List.mem_cons_self ..) (List.append_eq_nil_iff.mp (List.append_eq_nil_iff.mp e).1).1
def textP (rows : List (List D)) : Cs := jn [10] (rows.map wrs)
theorem readP_back {rows : List (List D)} (h : ∀ r ∈ rows, r ≠ [] ∧ okMs r = true ∧ deps r ≤ 11) : readP (textP rows) = toldD (.inr (rows.map D.tup)) := by
  unfold readP textP
  by_cases e : rows = []
  · subst e; rfl
  · have e' : rows.map wrs ≠ [] := fun z => e (List.map_eq_nil_iff.mp z)
    rw [if_neg (jn_ne (fun w hw => by obtain ⟨r, hr, rfl⟩ := List.mem_map.mp hw; exact wrs_ne (h r hr).1 (h r hr).2.1) e'),
      sp_jn e' (fun w hw => by obtain ⟨r, hr, rfl⟩ := List.mem_map.mp hw; exact wrs_no10 r (h r hr).2.1), rowsP_back rows 1 h]
end K66

set_option Elab.async false
set_option linter.all false
set_option maxRecDepth 100000
set_option maxHeartbeats 4000000
/-! K66C: what the mirrors of the readers hand back. -/
namespace K66
open PySem PySem.NumText PyProof.Rows L2 Mi
def okC (l : Cs) : Prop := ∀ c ∈ l, c < 1114112
theorem okC_S {l : Cs} (h : okC l) : okS (S l) := by intro c hc; rw [S_cps] at hc; exact h c hc
theorem SL_v : SL = 16777216 := rfl
theorem k_dash : (Str.ofString "-") = S [45] := by decide +kernel
theorem k_op : (Str.ofString "(") = S [40] := by decide +kernel
theorem k_cl : (Str.ofString ")") = S [41] := by decide +kernel
theorem k_sp : (Str.ofString " ") = S [32] := by decide +kernel
theorem k_nl : (Str.ofString "\n") = S [10] := by decide +kernel
theorem k_0 : (Str.ofString "0") = S [48] := by decide +kernel
theorem k_e : (Str.ofString "") = S [] := by decide +kernel
theorem k_seps : (Str.ofString " ()") = S [32, 40, 41] := by decide +kernel
theorem k_dg : (Str.ofString "0123456789") = S [48,49,50,51,52,53,54,55,56,57] := by decide +kernel
theorem k_lw : (Str.ofString "abcdefghijklmnopqrstuvwxyz") = S [97,98,99,100,101,102,103,104,105,106,107,108,109,110,111,112,113,114,115,116,117,118,119,120,121,122] := by decide +kernel
theorem k_lwdg : (Str.ofString "abcdefghijklmnopqrstuvwxyz0123456789") = S [97,98,99,100,101,102,103,104,105,106,107,108,109,110,111,112,113,114,115,116,117,118,119,120,121,122,48,49,50,51,52,53,54,55,56,57] := by decide +kernel
theorem mem_dg (c : Nat) : decide (c ∈ [48,49,50,51,52,53,54,55,56,57]) = isDg c := by
  unfold isDg
  rw [Bool.eq_iff_iff]
  simp
  omega
theorem mem_lw (c : Nat) : decide (c ∈ [97,98,99,100,101,102,103,104,105,106,107,108,109,110,111,112,113,114,115,116,117,118,119,120,121,122]) = isLw c := by
  unfold isLw
  rw [Bool.eq_iff_iff]
  simp
  omega
theorem mem_lwdg (c : Nat) : decide (c ∈ [97,98,99,100,101,102,103,104,105,106,107,108,109,110,111,112,113,114,115,116,117,118,119,120,121,122,48,49,50,51,52,53,54,55,56,57]) = (isLw c || isDg c) := by
  unfold isLw isDg
  rw [Bool.eq_iff_iff]
  simp
  omega
theorem mem_sep (c : Nat) : decide (c ∈ [32, 40, 41]) = isSep c := by
  unfold isSep
  rw [Bool.eq_iff_iff]
  simp [or_assoc]
section
variable {mh : MH}
theorem s_add {a b : Cs} : opAdd (.str (S a)) (.str (S b)) mh = if a.length + b.length ≤ SL then .ok (.str (S (a ++ b))) mh else .bad := by
  unfold opAdd
  dsimp only
  rw [S_len, S_len, S_app]
theorem S_beq (a b : Cs) : (S a == S b) = decide (a = b) := by
  rw [Bool.eq_iff_iff, beq_iff_eq, decide_eq_true_eq]
  exact ⟨S_inj, fun h => by rw [h]⟩
theorem s_eq {a b : Cs} (ha : okC a) (hb : okC b) : opEq (.str (S a)) (.str (S b)) mh = .ok (.bl (decide (a = b))) mh := by rw [eq_str (okC_S ha) (okC_S hb), S_beq]
theorem s_ne {a b : Cs} (ha : okC a) (hb : okC b) : opNe (.str (S a)) (.str (S b)) mh = .ok (.bl (!decide (a = b))) mh := by rw [ne_str (okC_S ha) (okC_S hb), S_beq]
theorem s_in {neg : Bool} {c : Nat} {b : Cs} : opIn neg (.str (S [c])) (.str (S b)) mh = .ok (.bl (neg ^^ decide (c ∈ b))) mh := by
  unfold opIn
  dsimp only
  rw [if_pos (by rfl), S_cps]
  rfl
theorem atI_nat {α : Type} {l : List α} {n : Nat} : atI l (n : Int) = l[n]? := by
  unfold L2.atI ixN
  rw [if_pos (by omega)]
  by_cases h : n < l.length
  · rw [if_pos (by omega), Int.toNat_natCast]; rfl
  · rw [if_neg (by omega)]
    show none = l[n]?
    rw [List.getElem?_eq_none (by omega)]
theorem s_ix {l : Cs} {n c : Nat} (hl : l.length ≤ SL) (h : l[n]? = some c) : opIx (.str (S l)) (.int (n : Int)) mh = .ok (.str (S [c])) mh := by
  unfold opIx
  dsimp only
  rw [if_pos (by rw [S_len]; exact hl), S_cps, atI_nat, h]
  rfl
theorem s_ix0 {l : Cs} {c : Nat} (hl : (c :: l).length ≤ SL) : opIx (.str (S (c :: l))) (.int 0) mh = .ok (.str (S [c])) mh := s_ix (n := 0) hl rfl
theorem s_len {l : Cs} (hl : l.length ≤ SL) : cLen [.str (S l)] mh = .ok (.int (l.length : Nat)) mh := by
  unfold cLen
  dsimp only
  rw [S_len, if_pos hl]
theorem s_tail {l : Cs} (hl : l.length ≤ SL) : opSl (.str (S l)) (some 1) none mh = .ok (.str (S l.tail)) mh := by
  unfold opSl
  dsimp only
  rw [S_len, if_pos hl]
  have e : cutS (S l) (some 1) none = S l.tail := by
    unfold cutS
    rw [S_cps, S_len]
    show (⟨((l.drop (HT.sIx l.length 0 (some ((1 : Nat) : Int)))).take (l.length - HT.sIx l.length 0 (some ((1 : Nat) : Int)))).toArray⟩ : Str) = S l.tail
    rw [HT.sIx_nat]
    show S ((l.drop (min 1 l.length)).take (l.length - min 1 l.length)) = S l.tail
    congr 1
    cases l with
    | nil => rfl
    | cons c l => simp
  rw [e]
theorem all_bl {p : Nat → Bool} : ∀ l : Cs, bls (l.map fun c => D.bl (p c)) = some (l.map p)
  | [] => rfl
  | c :: l => by
    show (bls (l.map fun c => D.bl (p c))).map _ = _
    rw [all_bl l]; rfl
/-- the signs of a text, each tested -/
theorem comp_signs {x elt : ME} {t : D → Mi.Env → Option Mi.Env} {vs : List Nat} {env : Mi.Env} {l : Cs} {p : Nat → Bool} {P : D → MH → Prop} (hx : x env mh = .ok (.str (S l)) mh) (hl : l.length ≤ SL)
    (hel : ∀ c h, ∃ env1, t (.str (S [c])) (wipeE env vs) = some env1 ∧ elt env1 h = .ok (.bl (p c)) h) (hP : ∀ h, mh <+: h → cAll [.ref mh.length] h = .ok (.bl (l.all p)) h → P (.ref mh.length) h) : PX (mComp (mIter x) t mYes elt vs env mh) P nX := by
  refine comp_pure (src := srcS (S l)) (ds := l.map fun c => D.str (S [c])) (q := fun _ => true) (f := fun d => match d with | .str z => .bl (p (z.cps.getD 0 0)) | _ => .non) ?_ (by rw [List.length_map]; exact hl) ?_ ?_ ?_
  · rw [ev_iter, hx, List.length_map, ← S_len l]; rfl
  · intro i h _
    unfold srcS
    rw [← Array.getElem?_toList, S_cps, List.getElem?_map]
    rfl
  · intro d hd h _
    obtain ⟨c, _, rfl⟩ := List.mem_map.mp hd
    obtain ⟨env1, e1, e2⟩ := hel c h
    exact ⟨env1, e1, rfl, fun _ => by rw [e2]; rfl⟩
  · intro h p1 hk
    refine hP h p1 ?_
    unfold cAll
    dsimp only
    rw [lsAt_lst hk]
    have e : ((l.map fun c => D.str (S [c])).filter (fun _ => true)).map (fun d => match d with | .str z => D.bl (p (z.cps.getD 0 0)) | _ => .non) = l.map fun c => D.bl (p c) := by
      rw [List.filter_eq_self.mpr (fun _ _ => rfl), List.map_map]; rfl
    rw [e]
    show (match bls (l.map fun c => D.bl (p c)) with | some bs => _ | none => _) = _
    rw [all_bl]
    show Res.ok (D.bl ((l.map p).all id)) h = _
    rw [List.all_map]; rfl
end
theorem okC_of {l : Cs} (h : l.all (fun c => decide (c < 1114112)) = true) : okC l := fun c hc => of_decide_eq_true (List.all_eq_true.mp h c hc)
theorem is_number_px {w : Cs} (hne : w ≠ []) (hl : w.length ≤ 1000000) (hc : okC w) (mh : MH) : PX (F_is_number [.str (S w)] mh) (fun d h => d = .bl (isNum w) ∧ mh <+: h) nX := by
  have hsl : w.length ≤ SL := by rw [SL_v]; omega
  have k48 : okC [48] := okC_of rfl
  obtain ⟨c, r, rfl⟩ : ∃ c r, w = c :: r := by
    cases w with
    | nil => exact absurd rfl hne
    | cons c r => exact ⟨c, r, rfl⟩
  have key : ∀ f : Cs, f = figs (c :: r) → PX (T2_is_number [some (.str (S (c :: r))), some (.str (S f)), none] mh) (fun fl h => fl = .rt (.bl (isNum (c :: r))) ∧ mh <+: h) nX := by
    intro f hf
    have hfl : f.length ≤ (c :: r).length := by
      rw [hf]; unfold figs; split
      · simp
      · exact Nat.le_refl _
    have hfc : okC f := by
      rw [hf]; unfold figs; split
      · exact fun x hx => hc x (List.mem_of_mem_tail hx)
      · exact hc
    have hfs : f.length ≤ SL := Nat.le_trans hfl hsl
    have en : isNum (c :: r) = (!(f.isEmpty || decide (f.length > 1000) || !(f.all isDg)) && (f.head? != some 48 || (c :: r) == [48])) := by rw [hf]; rfl
    unfold T2_is_number C1_is_number
    by_cases h0 : f = []
    · subst h0
      simp only [ev_var, ev_C, ev_bin, ev_and, ev_or, ev_not, ev_neg, ev_opNeg, ev_tru, ev_truB, ev_B, ev_tAnd, ev_tOr, ev_tNot, ev_if, ev_nil, ev_cons, ev_tup, ev_lst, ev_P0, ev_P1, ev_sl, ev_CB, ev_call, ev_skip, ev_seq, ev_break, ev_cont, ev_drop, ev_ret, ev_retN, ev_ifS, ev_set, ev_asgN, ev_setIx, ev_iter, ev_rng1, ev_for, ev_yes, ev_def, ev_meth0, ev_meth, ev_isI, ev_raise, ev_repl, ev_split1, px_bind, px_safe, px_ok, px_exc, px_bad, px_iteB, px_ite, List.getElem?_cons_zero, List.getElem?_cons_succ, List.set_cons_zero, List.set_cons_succ, List.map_cons, List.map_nil, List.cons_append, List.nil_append, List.length_cons, List.length_nil, Nat.reduceAdd, Nat.reduceSub, List.replicate_succ, List.replicate_zero, if_true, if_false, Bool.false_eq_true, Bool.not_true, Bool.not_false, k_e, s_eq hfc hfc, decide_true]
      exact ⟨by rw [en]; rfl, List.prefix_refl _⟩
    · have h0' : f.isEmpty = false := by simpa using h0
      simp only [ev_var, ev_C, ev_bin, ev_and, ev_or, ev_not, ev_neg, ev_opNeg, ev_tru, ev_truB, ev_B, ev_tAnd, ev_tOr, ev_tNot, ev_if, ev_nil, ev_cons, ev_tup, ev_lst, ev_P0, ev_P1, ev_sl, ev_CB, ev_call, ev_skip, ev_seq, ev_break, ev_cont, ev_drop, ev_ret, ev_retN, ev_ifS, ev_set, ev_asgN, ev_setIx, ev_iter, ev_rng1, ev_for, ev_yes, ev_def, ev_meth0, ev_meth, ev_isI, ev_raise, ev_repl, ev_split1, px_bind, px_safe, px_ok, px_exc, px_bad, px_iteB, px_ite, List.getElem?_cons_zero, List.getElem?_cons_succ, List.set_cons_zero, List.set_cons_succ, List.map_cons, List.map_nil, List.cons_append, List.nil_append, List.length_cons, List.length_nil, Nat.reduceAdd, Nat.reduceSub, List.replicate_succ, List.replicate_zero, if_true, if_false, Bool.false_eq_true, Bool.not_true, Bool.not_false, k_e, s_eq hfc (show okC [] from fun _ z => by cases z), decide_eq_false h0, s_len hfs]
      by_cases h1 : f.length > 1000
      · have e1 : opGt (.int (f.length : Nat)) (.int 1000) mh = .ok (.bl true) mh := by
          unfold opGt i2; dsimp only; rw [decide_eq_true (by omega)]
        simp only [ev_var, ev_C, ev_bin, ev_and, ev_or, ev_not, ev_neg, ev_opNeg, ev_tru, ev_truB, ev_B, ev_tAnd, ev_tOr, ev_tNot, ev_if, ev_nil, ev_cons, ev_tup, ev_lst, ev_P0, ev_P1, ev_sl, ev_CB, ev_call, ev_skip, ev_seq, ev_break, ev_cont, ev_drop, ev_ret, ev_retN, ev_ifS, ev_set, ev_asgN, ev_setIx, ev_iter, ev_rng1, ev_for, ev_yes, ev_def, ev_meth0, ev_meth, ev_isI, ev_raise, ev_repl, ev_split1, px_bind, px_safe, px_ok, px_exc, px_bad, px_iteB, px_ite, List.getElem?_cons_zero, List.getElem?_cons_succ, List.set_cons_zero, List.set_cons_succ, List.map_cons, List.map_nil, List.cons_append, List.nil_append, List.length_cons, List.length_nil, Nat.reduceAdd, Nat.reduceSub, List.replicate_succ, List.replicate_zero, if_true, if_false, Bool.false_eq_true, Bool.not_true, Bool.not_false, e1]
        exact ⟨by rw [en, h0', decide_eq_true h1]; rfl, List.prefix_refl _⟩
      · have e1 : opGt (.int (f.length : Nat)) (.int 1000) mh = .ok (.bl false) mh := by
          unfold opGt i2; dsimp only; rw [decide_eq_false (by omega)]
        simp only [ev_var, ev_C, ev_bin, ev_and, ev_or, ev_not, ev_neg, ev_opNeg, ev_tru, ev_truB, ev_B, ev_tAnd, ev_tOr, ev_tNot, ev_if, ev_nil, ev_cons, ev_tup, ev_lst, ev_P0, ev_P1, ev_sl, ev_CB, ev_call, ev_skip, ev_seq, ev_break, ev_cont, ev_drop, ev_ret, ev_retN, ev_ifS, ev_set, ev_asgN, ev_setIx, ev_iter, ev_rng1, ev_for, ev_yes, ev_def, ev_meth0, ev_meth, ev_isI, ev_raise, ev_repl, ev_split1, px_bind, px_safe, px_ok, px_exc, px_bad, px_iteB, px_ite, List.getElem?_cons_zero, List.getElem?_cons_succ, List.set_cons_zero, List.set_cons_succ, List.map_cons, List.map_nil, List.cons_append, List.nil_append, List.length_cons, List.length_nil, Nat.reduceAdd, Nat.reduceSub, List.replicate_succ, List.replicate_zero, if_true, if_false, Bool.false_eq_true, Bool.not_true, Bool.not_false, e1]
        refine comp_signs (l := f) (p := isDg) rfl hfs (fun c h => ⟨_, rfl, ?_⟩) (fun h p1 ha => ?_)
        · show (opIn false (.str (S [c])) (.str (Str.ofString "0123456789")) h) = _
          rw [k_dg, s_in, mem_dg, Bool.false_xor]
        · rw [ha]
          cases hb : f.all isDg with
          | false =>
            simp only [ev_var, ev_C, ev_bin, ev_and, ev_or, ev_not, ev_neg, ev_opNeg, ev_tru, ev_truB, ev_B, ev_tAnd, ev_tOr, ev_tNot, ev_if, ev_nil, ev_cons, ev_tup, ev_lst, ev_P0, ev_P1, ev_sl, ev_CB, ev_call, ev_skip, ev_seq, ev_break, ev_cont, ev_drop, ev_ret, ev_retN, ev_ifS, ev_set, ev_asgN, ev_setIx, ev_iter, ev_rng1, ev_for, ev_yes, ev_def, ev_meth0, ev_meth, ev_isI, ev_raise, ev_repl, ev_split1, px_bind, px_safe, px_ok, px_exc, px_bad, px_iteB, px_ite, List.getElem?_cons_zero, List.getElem?_cons_succ, List.set_cons_zero, List.set_cons_succ, List.map_cons, List.map_nil, List.cons_append, List.nil_append, List.length_cons, List.length_nil, Nat.reduceAdd, Nat.reduceSub, List.replicate_succ, List.replicate_zero, if_true, if_false, Bool.false_eq_true, Bool.not_true, Bool.not_false]
            exact ⟨by rw [en, hb, h0', decide_eq_false h1]; rfl, p1⟩
          | true =>
            obtain ⟨c2, r2, rfl⟩ : ∃ c r, f = c :: r := by
              cases f with
              | nil => exact absurd rfl h0
              | cons c r => exact ⟨c, r, rfl⟩
            have c2o : okC [c2] := fun x hx => by rw [List.mem_singleton.mp hx]; exact hfc c2 (List.mem_cons_self ..)
            unfold T1_is_number
            simp only [ev_var, ev_C, ev_bin, ev_and, ev_or, ev_not, ev_neg, ev_opNeg, ev_tru, ev_truB, ev_B, ev_tAnd, ev_tOr, ev_tNot, ev_if, ev_nil, ev_cons, ev_tup, ev_lst, ev_P0, ev_P1, ev_sl, ev_CB, ev_call, ev_skip, ev_seq, ev_break, ev_cont, ev_drop, ev_ret, ev_retN, ev_ifS, ev_set, ev_asgN, ev_setIx, ev_iter, ev_rng1, ev_for, ev_yes, ev_def, ev_meth0, ev_meth, ev_isI, ev_raise, ev_repl, ev_split1, px_bind, px_safe, px_ok, px_exc, px_bad, px_iteB, px_ite, List.getElem?_cons_zero, List.getElem?_cons_succ, List.set_cons_zero, List.set_cons_succ, List.map_cons, List.map_nil, List.cons_append, List.nil_append, List.length_cons, List.length_nil, Nat.reduceAdd, Nat.reduceSub, List.replicate_succ, List.replicate_zero, if_true, if_false, Bool.false_eq_true, Bool.not_true, Bool.not_false, s_ix0 hfs, k_0, s_ne c2o k48]
            by_cases h2 : c2 = 48
            · subst h2
              simp only [decide_true, ev_var, ev_C, ev_bin, ev_and, ev_or, ev_not, ev_neg, ev_opNeg, ev_tru, ev_truB, ev_B, ev_tAnd, ev_tOr, ev_tNot, ev_if, ev_nil, ev_cons, ev_tup, ev_lst, ev_P0, ev_P1, ev_sl, ev_CB, ev_call, ev_skip, ev_seq, ev_break, ev_cont, ev_drop, ev_ret, ev_retN, ev_ifS, ev_set, ev_asgN, ev_setIx, ev_iter, ev_rng1, ev_for, ev_yes, ev_def, ev_meth0, ev_meth, ev_isI, ev_raise, ev_repl, ev_split1, px_bind, px_safe, px_ok, px_exc, px_bad, px_iteB, px_ite, List.getElem?_cons_zero, List.getElem?_cons_succ, List.set_cons_zero, List.set_cons_succ, List.map_cons, List.map_nil, List.cons_append, List.nil_append, List.length_cons, List.length_nil, Nat.reduceAdd, Nat.reduceSub, List.replicate_succ, List.replicate_zero, if_true, if_false, Bool.false_eq_true, Bool.not_true, Bool.not_false, s_eq hc k48]
              refine ⟨?_, p1⟩
              have e9 : decide ((c :: r) = [48]) = ((c :: r) == [48]) := by rw [Bool.eq_iff_iff]; simp
              rw [en, hb, h0', decide_eq_false h1, e9]
              rfl
            · have h2' : ¬ [c2] = [48] := fun e => h2 (by injection e)
              simp only [decide_eq_false h2', ev_var, ev_C, ev_bin, ev_and, ev_or, ev_not, ev_neg, ev_opNeg, ev_tru, ev_truB, ev_B, ev_tAnd, ev_tOr, ev_tNot, ev_if, ev_nil, ev_cons, ev_tup, ev_lst, ev_P0, ev_P1, ev_sl, ev_CB, ev_call, ev_skip, ev_seq, ev_break, ev_cont, ev_drop, ev_ret, ev_retN, ev_ifS, ev_set, ev_asgN, ev_setIx, ev_iter, ev_rng1, ev_for, ev_yes, ev_def, ev_meth0, ev_meth, ev_isI, ev_raise, ev_repl, ev_split1, px_bind, px_safe, px_ok, px_exc, px_bad, px_iteB, px_ite, List.getElem?_cons_zero, List.getElem?_cons_succ, List.set_cons_zero, List.set_cons_succ, List.map_cons, List.map_nil, List.cons_append, List.nil_append, List.length_cons, List.length_nil, Nat.reduceAdd, Nat.reduceSub, List.replicate_succ, List.replicate_zero, if_true, if_false, Bool.false_eq_true, Bool.not_true, Bool.not_false]
              refine ⟨?_, p1⟩
              have h3 : ((c2 :: r2).head? != some 48) = true := by simpa using h2
              rw [en, hb, h0', decide_eq_false h1, h3]; rfl
  unfold F_is_number B_is_number
  have ho : okC [c] := fun x hx => by rw [List.mem_singleton.mp hx]; exact hc c (List.mem_cons_self ..)
  simp only [ev_var, ev_C, ev_bin, ev_and, ev_or, ev_not, ev_neg, ev_opNeg, ev_tru, ev_truB, ev_B, ev_tAnd, ev_tOr, ev_tNot, ev_if, ev_nil, ev_cons, ev_tup, ev_lst, ev_P0, ev_P1, ev_sl, ev_CB, ev_call, ev_skip, ev_seq, ev_break, ev_cont, ev_drop, ev_ret, ev_retN, ev_ifS, ev_set, ev_asgN, ev_setIx, ev_iter, ev_rng1, ev_for, ev_yes, ev_def, ev_meth0, ev_meth, ev_isI, ev_raise, ev_repl, ev_split1, px_bind, px_safe, px_ok, px_exc, px_bad, px_iteB, px_ite, List.getElem?_cons_zero, List.getElem?_cons_succ, List.set_cons_zero, List.set_cons_succ, List.map_cons, List.map_nil, List.cons_append, List.nil_append, List.length_cons, List.length_nil, Nat.reduceAdd, Nat.reduceSub, List.replicate_succ, List.replicate_zero, if_true, if_false, Bool.false_eq_true, Bool.not_true, Bool.not_false, s_ix0 hsl, k_dash, s_eq ho (show okC [45] from okC_of rfl)]
  by_cases h1 : c = 45
  · subst h1
    simp only [decide_true, ev_var, ev_C, ev_bin, ev_and, ev_or, ev_not, ev_neg, ev_opNeg, ev_tru, ev_truB, ev_B, ev_tAnd, ev_tOr, ev_tNot, ev_if, ev_nil, ev_cons, ev_tup, ev_lst, ev_P0, ev_P1, ev_sl, ev_CB, ev_call, ev_skip, ev_seq, ev_break, ev_cont, ev_drop, ev_ret, ev_retN, ev_ifS, ev_set, ev_asgN, ev_setIx, ev_iter, ev_rng1, ev_for, ev_yes, ev_def, ev_meth0, ev_meth, ev_isI, ev_raise, ev_repl, ev_split1, px_bind, px_safe, px_ok, px_exc, px_bad, px_iteB, px_ite, List.getElem?_cons_zero, List.getElem?_cons_succ, List.set_cons_zero, List.set_cons_succ, List.map_cons, List.map_nil, List.cons_append, List.nil_append, List.length_cons, List.length_nil, Nat.reduceAdd, Nat.reduceSub, List.replicate_succ, List.replicate_zero, if_true, if_false, Bool.false_eq_true, Bool.not_true, Bool.not_false, s_tail hsl]
    refine (key r rfl).imp fun fl h z => ?_
    obtain ⟨rfl, p⟩ := z
    exact ⟨rfl, p⟩
  · have h1' : ¬ [c] = [45] := fun e => h1 (by injection e)
    simp only [decide_eq_false h1', ev_var, ev_C, ev_bin, ev_and, ev_or, ev_not, ev_neg, ev_opNeg, ev_tru, ev_truB, ev_B, ev_tAnd, ev_tOr, ev_tNot, ev_if, ev_nil, ev_cons, ev_tup, ev_lst, ev_P0, ev_P1, ev_sl, ev_CB, ev_call, ev_skip, ev_seq, ev_break, ev_cont, ev_drop, ev_ret, ev_retN, ev_ifS, ev_set, ev_asgN, ev_setIx, ev_iter, ev_rng1, ev_for, ev_yes, ev_def, ev_meth0, ev_meth, ev_isI, ev_raise, ev_repl, ev_split1, px_bind, px_safe, px_ok, px_exc, px_bad, px_iteB, px_ite, List.getElem?_cons_zero, List.getElem?_cons_succ, List.set_cons_zero, List.set_cons_succ, List.map_cons, List.map_nil, List.cons_append, List.nil_append, List.length_cons, List.length_nil, Nat.reduceAdd, Nat.reduceSub, List.replicate_succ, List.replicate_zero, if_true, if_false, Bool.false_eq_true, Bool.not_true, Bool.not_false]
    refine (key (c :: r) (by unfold figs; rw [if_neg (by simpa using h1)])).imp fun fl h z => ?_
    obtain ⟨rfl, p⟩ := z
    exact ⟨rfl, p⟩
theorem is_word_px {w : Cs} (hne : w ≠ []) (hl : w.length ≤ 1000000) (hc : okC w) (mh : MH) : PX (F_is_word [.str (S w)] mh) (fun d h => d = .bl (isWd w) ∧ mh <+: h) nX := by
  have hsl : w.length ≤ SL := by rw [SL_v]; omega
  obtain ⟨c, r, rfl⟩ : ∃ c r, w = c :: r := by
    cases w with
    | nil => exact absurd rfl hne
    | cons c r => exact ⟨c, r, rfl⟩
  unfold F_is_word B_is_word
  simp only [ev_var, ev_C, ev_bin, ev_and, ev_or, ev_not, ev_neg, ev_opNeg, ev_tru, ev_truB, ev_B, ev_tAnd, ev_tOr, ev_tNot, ev_if, ev_nil, ev_cons, ev_tup, ev_lst, ev_P0, ev_P1, ev_sl, ev_CB, ev_call, ev_skip, ev_seq, ev_break, ev_cont, ev_drop, ev_ret, ev_retN, ev_ifS, ev_set, ev_asgN, ev_setIx, ev_iter, ev_rng1, ev_for, ev_yes, ev_def, ev_meth0, ev_meth, ev_isI, ev_raise, ev_repl, ev_split1, px_bind, px_safe, px_ok, px_exc, px_bad, px_iteB, px_ite, List.getElem?_cons_zero, List.getElem?_cons_succ, List.set_cons_zero, List.set_cons_succ, List.map_cons, List.map_nil, List.cons_append, List.nil_append, List.length_cons, List.length_nil, Nat.reduceAdd, Nat.reduceSub, List.replicate_succ, List.replicate_zero, if_true, if_false, Bool.false_eq_true, Bool.not_true, Bool.not_false, s_ix0 hsl, k_lw, s_in, mem_lw, Bool.false_xor]
  cases hb : isLw c with
  | false =>
    simp only [ev_var, ev_C, ev_bin, ev_and, ev_or, ev_not, ev_neg, ev_opNeg, ev_tru, ev_truB, ev_B, ev_tAnd, ev_tOr, ev_tNot, ev_if, ev_nil, ev_cons, ev_tup, ev_lst, ev_P0, ev_P1, ev_sl, ev_CB, ev_call, ev_skip, ev_seq, ev_break, ev_cont, ev_drop, ev_ret, ev_retN, ev_ifS, ev_set, ev_asgN, ev_setIx, ev_iter, ev_rng1, ev_for, ev_yes, ev_def, ev_meth0, ev_meth, ev_isI, ev_raise, ev_repl, ev_split1, px_bind, px_safe, px_ok, px_exc, px_bad, px_iteB, px_ite, List.getElem?_cons_zero, List.getElem?_cons_succ, List.set_cons_zero, List.set_cons_succ, List.map_cons, List.map_nil, List.cons_append, List.nil_append, List.length_cons, List.length_nil, Nat.reduceAdd, Nat.reduceSub, List.replicate_succ, List.replicate_zero, if_true, if_false, Bool.false_eq_true, Bool.not_true, Bool.not_false]
    exact ⟨by unfold isWd; simp [hb], List.prefix_refl _⟩
  | true =>
    simp only [ev_var, ev_C, ev_bin, ev_and, ev_or, ev_not, ev_neg, ev_opNeg, ev_tru, ev_truB, ev_B, ev_tAnd, ev_tOr, ev_tNot, ev_if, ev_nil, ev_cons, ev_tup, ev_lst, ev_P0, ev_P1, ev_sl, ev_CB, ev_call, ev_skip, ev_seq, ev_break, ev_cont, ev_drop, ev_ret, ev_retN, ev_ifS, ev_set, ev_asgN, ev_setIx, ev_iter, ev_rng1, ev_for, ev_yes, ev_def, ev_meth0, ev_meth, ev_isI, ev_raise, ev_repl, ev_split1, px_bind, px_safe, px_ok, px_exc, px_bad, px_iteB, px_ite, List.getElem?_cons_zero, List.getElem?_cons_succ, List.set_cons_zero, List.set_cons_succ, List.map_cons, List.map_nil, List.cons_append, List.nil_append, List.length_cons, List.length_nil, Nat.reduceAdd, Nat.reduceSub, List.replicate_succ, List.replicate_zero, if_true, if_false, Bool.false_eq_true, Bool.not_true, Bool.not_false]
    refine comp_signs (l := c :: r) (p := fun c => isLw c || isDg c) rfl hsl (fun c h => ⟨_, rfl, ?_⟩) (fun h p1 ha => ?_)
    · show (opAdd (.str (S [97,98,99,100,101,102,103,104,105,106,107,108,109,110,111,112,113,114,115,116,117,118,119,120,121,122])) (.str (Str.ofString "0123456789")) h).bind (fun b h2 => opIn false (.str (S [c])) b h2) = _
      rw [k_dg, s_add, if_pos (by decide)]
      show opIn false (.str (S [c])) (.str (S _)) h = _
      rw [s_in, ← mem_lwdg, Bool.false_xor]
      rfl
    · rw [ha]
      exact ⟨by unfold isWd; simp [hb], p1⟩
end K66

set_option Elab.async false
set_option linter.all false
set_option maxRecDepth 100000
set_option maxHeartbeats 4000000
/-! K66E: read_word, line_of, line_tokens. -/
namespace K66
open PySem PySem.NumText PyProof.Rows L2 Mi
theorem allDg {u : Cs} (h : u.all isDg = true) : AllDigits u := fun c hc => by
  have := List.all_eq_true.mp h c hc
  simp only [isDg, Bool.and_eq_true, decide_eq_true_eq] at this
  exact this
theorem intText_S {w : Cs} (h : isNum w = true) : intText? (S w) = some (valW w) := by
  obtain ⟨h1, h2, h3, h4⟩ := isNum_figs h
  unfold figs at h1 h2 h3
  unfold valW
  by_cases hm : w.head? = some 45
  · rw [if_pos hm] at h1 h2 h3 ⊢
    obtain ⟨u, rfl⟩ : ∃ u, w = 45 :: u := by
      cases w with
      | nil => cases hm
      | cons c u => cases hm; exact ⟨u, rfl⟩
    have h2' : u.length ≤ 1000 := h2
    exact intText_neg (S_cps _) (allDg h3) h1 (by rw [S_len]; simp only [List.length_cons]; omega)
  · rw [if_neg hm] at h1 h2 h3 ⊢
    have := intText_digits (x := S w) (by rw [S_cps]; exact allDg h3) (by rw [S_cps]; exact h1) (by rw [S_len]; omega)
    rw [this, S_cps]
abbrev lineF (n : Int) : List (Str × D) := [(Str.ofString "line", .int n)]
theorem read_word_px {w : Cs} {n : Int} (hne : w ≠ []) (hl : w.length ≤ 1000000) (hc : okC w) (hn : 0 ≤ n ∧ n < 10 ^ 10) (mh : MH) :
    PX (F_read_word [.str (S w), .int n] mh) (fun d h => rdWord w = some d ∧ mh <+: h) (fun c fs h => rdWord w = none ∧ c = 0 ∧ fs = lineF n ∧ mh <+: h) := by
  have hsl : (S w).length ≤ SL := by rw [S_len, SL_v]; omega
  unfold F_read_word B_read_word C1_read_word
  simp only [ev_var, ev_C, ev_bin, ev_and, ev_or, ev_not, ev_neg, ev_opNeg, ev_tru, ev_truB, ev_B, ev_tAnd, ev_tOr, ev_tNot, ev_if, ev_nil, ev_cons, ev_tup, ev_lst, ev_P0, ev_P1, ev_sl, ev_CB, ev_call, ev_skip, ev_seq, ev_break, ev_cont, ev_drop, ev_ret, ev_retN, ev_ifS, ev_set, ev_asgN, ev_setIx, ev_iter, ev_rng1, ev_for, ev_yes, ev_def, ev_meth0, ev_meth, ev_isI, ev_raise, ev_repl, ev_split1, px_bind, px_safe, px_ok, px_exc, px_bad, px_iteB, px_ite, List.getElem?_cons_zero, List.getElem?_cons_succ, List.set_cons_zero, List.set_cons_succ, List.map_cons, List.map_nil, List.cons_append, List.nil_append, List.length_cons, List.length_nil, Nat.reduceAdd, Nat.reduceSub, List.replicate_succ, List.replicate_zero, if_true, if_false, Bool.false_eq_true, Bool.not_true, Bool.not_false, k_dash, s_eq hc (show okC [45] from okC_of rfl)]
  by_cases h1 : w = [45]
  · simp only [decide_eq_true h1, ev_var, ev_C, ev_bin, ev_and, ev_or, ev_not, ev_neg, ev_opNeg, ev_tru, ev_truB, ev_B, ev_tAnd, ev_tOr, ev_tNot, ev_if, ev_nil, ev_cons, ev_tup, ev_lst, ev_P0, ev_P1, ev_sl, ev_CB, ev_call, ev_skip, ev_seq, ev_break, ev_cont, ev_drop, ev_ret, ev_retN, ev_ifS, ev_set, ev_asgN, ev_setIx, ev_iter, ev_rng1, ev_for, ev_yes, ev_def, ev_meth0, ev_meth, ev_isI, ev_raise, ev_repl, ev_split1, px_bind, px_safe, px_ok, px_exc, px_bad, px_iteB, px_ite, List.getElem?_cons_zero, List.getElem?_cons_succ, List.set_cons_zero, List.set_cons_succ, List.map_cons, List.map_nil, List.cons_append, List.nil_append, List.length_cons, List.length_nil, Nat.reduceAdd, Nat.reduceSub, List.replicate_succ, List.replicate_zero, if_true, if_false, Bool.false_eq_true, Bool.not_true, Bool.not_false]
    exact ⟨by unfold rdWord; rw [if_pos h1], List.prefix_refl _⟩
  · simp only [decide_eq_false h1, ev_var, ev_C, ev_bin, ev_and, ev_or, ev_not, ev_neg, ev_opNeg, ev_tru, ev_truB, ev_B, ev_tAnd, ev_tOr, ev_tNot, ev_if, ev_nil, ev_cons, ev_tup, ev_lst, ev_P0, ev_P1, ev_sl, ev_CB, ev_call, ev_skip, ev_seq, ev_break, ev_cont, ev_drop, ev_ret, ev_retN, ev_ifS, ev_set, ev_asgN, ev_setIx, ev_iter, ev_rng1, ev_for, ev_yes, ev_def, ev_meth0, ev_meth, ev_isI, ev_raise, ev_repl, ev_split1, px_bind, px_safe, px_ok, px_exc, px_bad, px_iteB, px_ite, List.getElem?_cons_zero, List.getElem?_cons_succ, List.set_cons_zero, List.set_cons_succ, List.map_cons, List.map_nil, List.cons_append, List.nil_append, List.length_cons, List.length_nil, Nat.reduceAdd, Nat.reduceSub, List.replicate_succ, List.replicate_zero, if_true, if_false, Bool.false_eq_true, Bool.not_true, Bool.not_false]
    unfold T3_read_word C2_read_word
    simp only [ev_var, ev_C, ev_bin, ev_and, ev_or, ev_not, ev_neg, ev_opNeg, ev_tru, ev_truB, ev_B, ev_tAnd, ev_tOr, ev_tNot, ev_if, ev_nil, ev_cons, ev_tup, ev_lst, ev_P0, ev_P1, ev_sl, ev_CB, ev_call, ev_skip, ev_seq, ev_break, ev_cont, ev_drop, ev_ret, ev_retN, ev_ifS, ev_set, ev_asgN, ev_setIx, ev_iter, ev_rng1, ev_for, ev_yes, ev_def, ev_meth0, ev_meth, ev_isI, ev_raise, ev_repl, ev_split1, px_bind, px_safe, px_ok, px_exc, px_bad, px_iteB, px_ite, List.getElem?_cons_zero, List.getElem?_cons_succ, List.set_cons_zero, List.set_cons_succ, List.map_cons, List.map_nil, List.cons_append, List.nil_append, List.length_cons, List.length_nil, Nat.reduceAdd, Nat.reduceSub, List.replicate_succ, List.replicate_zero, if_true, if_false, Bool.false_eq_true, Bool.not_true, Bool.not_false]
    refine (is_number_px hne hl hc mh).imp fun d h z => ?_
    obtain ⟨rfl, p1⟩ := z
    cases h2 : isNum w with
    | true =>
      simp only [ev_var, ev_C, ev_bin, ev_and, ev_or, ev_not, ev_neg, ev_opNeg, ev_tru, ev_truB, ev_B, ev_tAnd, ev_tOr, ev_tNot, ev_if, ev_nil, ev_cons, ev_tup, ev_lst, ev_P0, ev_P1, ev_sl, ev_CB, ev_call, ev_skip, ev_seq, ev_break, ev_cont, ev_drop, ev_ret, ev_retN, ev_ifS, ev_set, ev_asgN, ev_setIx, ev_iter, ev_rng1, ev_for, ev_yes, ev_def, ev_meth0, ev_meth, ev_isI, ev_raise, ev_repl, ev_split1, px_bind, px_safe, px_ok, px_exc, px_bad, px_iteB, px_ite, List.getElem?_cons_zero, List.getElem?_cons_succ, List.set_cons_zero, List.set_cons_succ, List.map_cons, List.map_nil, List.cons_append, List.nil_append, List.length_cons, List.length_nil, Nat.reduceAdd, Nat.reduceSub, List.replicate_succ, List.replicate_zero, if_true, if_false, Bool.false_eq_true, Bool.not_true, Bool.not_false]
      unfold cInt
      simp only [ev_var, ev_C, ev_bin, ev_and, ev_or, ev_not, ev_neg, ev_opNeg, ev_tru, ev_truB, ev_B, ev_tAnd, ev_tOr, ev_tNot, ev_if, ev_nil, ev_cons, ev_tup, ev_lst, ev_P0, ev_P1, ev_sl, ev_CB, ev_call, ev_skip, ev_seq, ev_break, ev_cont, ev_drop, ev_ret, ev_retN, ev_ifS, ev_set, ev_asgN, ev_setIx, ev_iter, ev_rng1, ev_for, ev_yes, ev_def, ev_meth0, ev_meth, ev_isI, ev_raise, ev_repl, ev_split1, px_bind, px_safe, px_ok, px_exc, px_bad, px_iteB, px_ite, List.getElem?_cons_zero, List.getElem?_cons_succ, List.set_cons_zero, List.set_cons_succ, List.map_cons, List.map_nil, List.cons_append, List.nil_append, List.length_cons, List.length_nil, Nat.reduceAdd, Nat.reduceSub, List.replicate_succ, List.replicate_zero, if_true, if_false, Bool.false_eq_true, Bool.not_true, Bool.not_false, if_pos hsl, intText_S h2]
      exact ⟨by unfold rdWord; rw [if_neg h1, if_pos h2], p1⟩
    | false =>
      simp only [ev_var, ev_C, ev_bin, ev_and, ev_or, ev_not, ev_neg, ev_opNeg, ev_tru, ev_truB, ev_B, ev_tAnd, ev_tOr, ev_tNot, ev_if, ev_nil, ev_cons, ev_tup, ev_lst, ev_P0, ev_P1, ev_sl, ev_CB, ev_call, ev_skip, ev_seq, ev_break, ev_cont, ev_drop, ev_ret, ev_retN, ev_ifS, ev_set, ev_asgN, ev_setIx, ev_iter, ev_rng1, ev_for, ev_yes, ev_def, ev_meth0, ev_meth, ev_isI, ev_raise, ev_repl, ev_split1, px_bind, px_safe, px_ok, px_exc, px_bad, px_iteB, px_ite, List.getElem?_cons_zero, List.getElem?_cons_succ, List.set_cons_zero, List.set_cons_succ, List.map_cons, List.map_nil, List.cons_append, List.nil_append, List.length_cons, List.length_nil, Nat.reduceAdd, Nat.reduceSub, List.replicate_succ, List.replicate_zero, if_true, if_false, Bool.false_eq_true, Bool.not_true, Bool.not_false]
      unfold T2_read_word C3_read_word
      simp only [ev_var, ev_C, ev_bin, ev_and, ev_or, ev_not, ev_neg, ev_opNeg, ev_tru, ev_truB, ev_B, ev_tAnd, ev_tOr, ev_tNot, ev_if, ev_nil, ev_cons, ev_tup, ev_lst, ev_P0, ev_P1, ev_sl, ev_CB, ev_call, ev_skip, ev_seq, ev_break, ev_cont, ev_drop, ev_ret, ev_retN, ev_ifS, ev_set, ev_asgN, ev_setIx, ev_iter, ev_rng1, ev_for, ev_yes, ev_def, ev_meth0, ev_meth, ev_isI, ev_raise, ev_repl, ev_split1, px_bind, px_safe, px_ok, px_exc, px_bad, px_iteB, px_ite, List.getElem?_cons_zero, List.getElem?_cons_succ, List.set_cons_zero, List.set_cons_succ, List.map_cons, List.map_nil, List.cons_append, List.nil_append, List.length_cons, List.length_nil, Nat.reduceAdd, Nat.reduceSub, List.replicate_succ, List.replicate_zero, if_true, if_false, Bool.false_eq_true, Bool.not_true, Bool.not_false]
      refine (is_word_px hne hl hc h).imp fun d h' z => ?_
      obtain ⟨rfl, p2⟩ := z
      have e2 : ¬ (isNum w = true) := by rw [h2]; exact Bool.false_ne_true
      cases h3 : isWd w with
      | true =>
        simp only [ev_var, ev_C, ev_bin, ev_and, ev_or, ev_not, ev_neg, ev_opNeg, ev_tru, ev_truB, ev_B, ev_tAnd, ev_tOr, ev_tNot, ev_if, ev_nil, ev_cons, ev_tup, ev_lst, ev_P0, ev_P1, ev_sl, ev_CB, ev_call, ev_skip, ev_seq, ev_break, ev_cont, ev_drop, ev_ret, ev_retN, ev_ifS, ev_set, ev_asgN, ev_setIx, ev_iter, ev_rng1, ev_for, ev_yes, ev_def, ev_meth0, ev_meth, ev_isI, ev_raise, ev_repl, ev_split1, px_bind, px_safe, px_ok, px_exc, px_bad, px_iteB, px_ite, List.getElem?_cons_zero, List.getElem?_cons_succ, List.set_cons_zero, List.set_cons_succ, List.map_cons, List.map_nil, List.cons_append, List.nil_append, List.length_cons, List.length_nil, Nat.reduceAdd, Nat.reduceSub, List.replicate_succ, List.replicate_zero, if_true, if_false, Bool.false_eq_true, Bool.not_true, Bool.not_false]
        exact ⟨by unfold rdWord; rw [if_neg h1, if_neg e2, if_pos h3], p1.trans p2⟩
      | false =>
        have e3 : ¬ (isWd w = true) := by rw [h3]; exact Bool.false_ne_true
        have e4 : okX (.int n) = true := cdec_iff.mpr hn
        unfold T1_read_word
        simp only [ev_var, ev_C, ev_bin, ev_and, ev_or, ev_not, ev_neg, ev_opNeg, ev_tru, ev_truB, ev_B, ev_tAnd, ev_tOr, ev_tNot, ev_if, ev_nil, ev_cons, ev_tup, ev_lst, ev_P0, ev_P1, ev_sl, ev_CB, ev_call, ev_skip, ev_seq, ev_break, ev_cont, ev_drop, ev_ret, ev_retN, ev_ifS, ev_set, ev_asgN, ev_setIx, ev_iter, ev_rng1, ev_for, ev_yes, ev_def, ev_meth0, ev_meth, ev_isI, ev_raise, ev_repl, ev_split1, px_bind, px_safe, px_ok, px_exc, px_bad, px_iteB, px_ite, List.getElem?_cons_zero, List.getElem?_cons_succ, List.set_cons_zero, List.set_cons_succ, List.map_cons, List.map_nil, List.cons_append, List.nil_append, List.length_cons, List.length_nil, Nat.reduceAdd, Nat.reduceSub, List.replicate_succ, List.replicate_zero, if_true, if_false, Bool.false_eq_true, Bool.not_true, Bool.not_false, e4]
        exact ⟨by unfold rdWord; rw [if_neg h1, if_neg e2, if_neg e3], trivial, trivial, p1.trans p2⟩

/-! ### line_of -/
def toStrs (ts : List Cs) : List D := ts.map fun t => .str (S t)
def lastOr (p : Cs) : List Cs → Cs
  | [] => p
  | t :: ts => lastOr t ts
theorem lo_snoc : ∀ (us : List Cs) (p t : Cs), lo p (us ++ [t]) = lo p us ++ ((if t ≠ [41] ∧ lastOr p us ≠ [40] then [32] else []) ++ t)
  | [], p, t => by
    show (if t ≠ [41] ∧ p ≠ [40] then [32] else []) ++ t ++ [] = [] ++ ((if t ≠ [41] ∧ p ≠ [40] then [32] else []) ++ t)
    rw [List.append_nil, List.nil_append]
  | u :: us, p, t => by
    show (if u ≠ [41] ∧ p ≠ [40] then [32] else []) ++ u ++ lo u (us ++ [t]) = (if u ≠ [41] ∧ p ≠ [40] then [32] else []) ++ u ++ lo u us ++ _
    rw [lo_snoc us u t, ← List.append_assoc]
    rfl
theorem lastOr_snoc : ∀ (us : List Cs) (p q : Cs), lastOr p (us ++ [q]) = q
  | [], p, q => rfl
  | u :: us, p, q => lastOr_snoc us u q
theorem lineOf_snoc {us : List Cs} {p t : Cs} : lineOf (us ++ [p] ++ [t]) = lineOf (us ++ [p]) ++ ((if t ≠ [41] ∧ p ≠ [40] then [32] else []) ++ t) := by
  cases us with
  | nil =>
    show p ++ lo p [t] = p ++ [] ++ _
    show p ++ ((if t ≠ [41] ∧ p ≠ [40] then [32] else []) ++ t ++ []) = _
    simp
  | cons u us =>
    show u ++ lo u (us ++ [p] ++ [t]) = u ++ lo u (us ++ [p]) ++ _
    rw [lo_snoc (us ++ [p]) u t, lastOr_snoc, ← List.append_assoc]
def wt : List Cs → Nat
  | [] => 0
  | t :: ts => t.length + 1 + wt ts
theorem lo_len : ∀ (ts : List Cs) (p : Cs), (lo p ts).length ≤ wt ts
  | [], p => Nat.le_refl _
  | t :: ts, p => by
    have ih := lo_len ts t
    show ((if t ≠ [41] ∧ p ≠ [40] then [32] else []) ++ t ++ lo t ts).length ≤ t.length + 1 + wt ts
    have : (if t ≠ [41] ∧ p ≠ [40] then [32] else ([] : Cs)).length ≤ 1 := by split <;> simp
    simp only [List.length_append]
    omega
theorem lineOf_len (ts : List Cs) : (lineOf ts).length ≤ wt ts := by
  cases ts with
  | nil => exact Nat.le_refl _
  | cons t ts =>
    have ih := lo_len ts t
    show (t ++ lo t ts).length ≤ t.length + 1 + wt ts
    simp only [List.length_append]
    omega
theorem wt_take : ∀ (ts : List Cs) (i : Nat), wt (ts.take i) ≤ wt ts
  | [], i => by simp [wt]
  | t :: ts, 0 => Nat.zero_le _
  | t :: ts, i + 1 => by
    have := wt_take ts i
    show t.length + 1 + wt (ts.take i) ≤ t.length + 1 + wt ts
    omega
theorem wt_mem : ∀ {ts : List Cs} {t : Cs}, t ∈ ts → t.length + 1 ≤ wt ts
  | t :: ts, u, h => by
    show u.length + 1 ≤ t.length + 1 + wt ts
    rcases List.mem_cons.mp h with h | h
    · rw [h]; omega
    · have := wt_mem h; omega
theorem wt_count : ∀ ts : List Cs, ts.length ≤ wt ts
  | [] => Nat.le_refl _
  | t :: ts => by
    have := wt_count ts
    show ts.length + 1 ≤ t.length + 1 + wt ts
    omega
section
variable {mh : MH} {k : Nat}
theorem ix_ls {ds : List D} {n : Nat} {d : D} (h : lsAt mh k = some ds) (e : ds[n]? = some d) : opIx (.ref k) (.int (n : Int)) mh = .ok d mh := by
  unfold opIx
  dsimp only
  rw [h]
  dsimp only
  rw [atI_nat, e]
theorem len_ls {ds : List D} (h : lsAt mh k = some ds) : cLen [.ref k] mh = .ok (.int (ds.length : Nat)) mh := by
  unfold cLen
  dsimp only
  rw [h]
theorem gt_nat {a b : Nat} : opGt (.int (a : Int)) (.int (b : Int)) mh = .ok (.bl (decide (b < a))) mh := by
  unfold opGt i2
  dsimp only
  congr 2
  rw [Bool.eq_iff_iff, decide_eq_true_eq, decide_eq_true_eq]
  omega
theorem gt_nat0 {a : Nat} : opGt (.int (a : Int)) (.int 0) mh = .ok (.bl (decide (0 < a))) mh := gt_nat (b := 0)
theorem sub_1 {a : Nat} (h : 0 < a) : opSub (.int (a : Int)) (.int 1) mh = .ok (.int ((a - 1 : Nat) : Int)) mh := by
  unfold opSub i2
  dsimp only
  congr 2
  omega
theorem srcR_at {n j : Nat} (h : j < n) : srcR 0 n j mh = some (some (.int (j : Int))) := by
  unfold srcR
  rw [if_pos h, Int.zero_add]
theorem srcR_end {n : Nat} : srcR 0 n n mh = some none := by
  unfold srcR
  rw [if_neg (Nat.lt_irrefl _)]
end
theorem okC_app {a b : Cs} (ha : okC a) (hb : okC b) : okC (a ++ b) := fun c hc => by
  rcases List.mem_append.mp hc with h | h
  · exact ha c h
  · exact hb c h
theorem okC32 : okC [32] := okC_of rfl
theorem okC40 : okC [40] := okC_of rfl
theorem okC41 : okC [41] := okC_of rfl
theorem okC_nil : okC [] := fun _ z => by cases z
theorem line_of_test {ts : List Cs} {h : MH} {k j : Nat} {y : Option D} (hk : lsAt h k = some (toStrs ts)) (hj : j < ts.length) (hc : ∀ t ∈ ts, okC t) :
    C1_line_of [some (.ref k), y, some (.int (j : Int))] h = .ok (decide (0 < j ∧ ts[j] ≠ [41] ∧ ts[j - 1]'(by omega) ≠ [40])) h := by
  have e1 : (toStrs ts)[j]? = some (.str (S ts[j])) := by unfold toStrs; rw [List.getElem?_map, List.getElem?_eq_getElem hj]; rfl
  have hi : j - 1 < ts.length := by omega
  have e2 : (toStrs ts)[j - 1]? = some (.str (S ts[j - 1])) := by unfold toStrs; rw [List.getElem?_map, List.getElem?_eq_getElem hi]; rfl
  unfold C1_line_of
  simp only [ev_tAnd, ev_B, ev_bin, ev_var, ev_C, List.getElem?_cons_zero, List.getElem?_cons_succ, Res.bind, gt_nat0, ix_ls hk e1, k_cl, k_op, s_ne (hc _ (List.getElem_mem hj)) okC41]
  by_cases c0 : 0 < j
  · by_cases c1 : ts[j] = [41]
    · simp [c1]
    · by_cases c2 : ts[j - 1] = [40]
      · simp [c0, c1, c2, sub_1 c0, ix_ls hk e2, s_ne okC40 okC40]
      · simp [c0, c1, c2, sub_1 c0, ix_ls hk e2, s_ne (hc _ (List.getElem_mem hi)) okC40]
  · simp [c0]
theorem line_of_px {ts : List Cs} {mh : MH} {k : Nat} (hk : lsAt mh k = some (toStrs ts)) (hw : wt ts ≤ 8000000) (hc : ∀ t ∈ ts, okC t) : PX (F_line_of [.ref k] mh) (fun d h => d = .str (S (lineOf ts)) ∧ h = mh) nX := by
  have hlen : ts.length ≤ 8000000 := Nat.le_trans (wt_count ts) hw
  have hsl : (toStrs ts).length = ts.length := List.length_map ..
  have hSL : SL = 16777216 := rfl
  unfold F_line_of B_line_of T3_line_of
  simp only [ev_var, ev_C, ev_bin, ev_and, ev_or, ev_not, ev_neg, ev_opNeg, ev_tru, ev_truB, ev_B, ev_tAnd, ev_tOr, ev_tNot, ev_if, ev_nil, ev_cons, ev_tup, ev_lst, ev_P0, ev_P1, ev_sl, ev_CB, ev_call, ev_skip, ev_seq, ev_break, ev_cont, ev_drop, ev_ret, ev_retN, ev_ifS, ev_set, ev_asgN, ev_setIx, ev_iter, ev_rng1, ev_for, ev_yes, ev_def, ev_meth0, ev_meth, ev_isI, ev_raise, ev_repl, ev_split1, px_bind, px_safe, px_ok, px_exc, px_bad, px_iteB, px_ite, List.getElem?_cons_zero, List.getElem?_cons_succ, List.set_cons_zero, List.set_cons_succ, List.map_cons, List.map_nil, List.cons_append, List.nil_append, List.length_cons, List.length_nil, Nat.reduceAdd, Nat.reduceSub, List.replicate_succ, List.replicate_zero, if_true, if_false, Bool.false_eq_true, Bool.not_true, Bool.not_false, k_e, len_ls hk, hsl, inR_nat (n := ts.length) (by omega), Int.toNat_natCast]
  refine loop_px (fun i env h => h = mh ∧ ∃ x, env = [some (.ref k), some (.str (S (lineOf (ts.take i)))), x]) _ _ _ _ ⟨rfl, none, rfl⟩ ?_ ?_
  · rintro j env h _ hj ⟨rfl, x, rfl⟩
    have hj' : j < ts.length := by omega
    refine ⟨_, _, srcR_at hj', rfl, ?_⟩
    have e1 : (toStrs ts)[j]? = some (.str (S ts[j])) := by unfold toStrs; rw [List.getElem?_map, List.getElem?_eq_getElem hj']; rfl
    have hm : ts[j] ∈ ts := List.getElem_mem hj'
    have hjw := wt_mem hm
    have hb1 : (lineOf (ts.take j)).length ≤ 8000000 := Nat.le_trans (lineOf_len _) (Nat.le_trans (wt_take ts j) hw)
    have et : ts.take (j + 1) = ts.take j ++ [ts[j]] := by rw [List.take_add_one, List.getElem?_eq_getElem hj']; rfl
    have b1 : (lineOf (ts.take j)).length + ts[j].length ≤ SL := by omega
    have b2 : (lineOf (ts.take j)).length + 0 + 1 ≤ SL := by omega
    have b3 : (lineOf (ts.take j) ++ [32]).length + ts[j].length ≤ SL := by simp only [List.length_append, List.length_cons, List.length_nil]; omega
    have eL : lineOf (ts.take (j + 1)) = lineOf (ts.take j) ++ ((if 0 < j ∧ ts[j] ≠ [41] ∧ ts[j - 1]'(by omega) ≠ [40] then [32] else []) ++ ts[j]) := by
      cases j with
      | zero =>
        rw [et]
        simp [lineOf, lo]
      | succ i =>
        have hi' : i < ts.length := by omega
        have et2 : ts.take (i + 1) = ts.take i ++ [ts[i]] := by rw [List.take_add_one, List.getElem?_eq_getElem hi']; rfl
        rw [et, et2, lineOf_snoc]
        simp
    unfold L1_line_of
    simp only [ev_seq, ev_ifS, px_bind]
    refine PX.of (line_of_test (y := some (.str (S (lineOf (ts.take j))))) hk hj' hc) ?_
    by_cases c : 0 < j ∧ ts[j] ≠ [41] ∧ ts[j - 1]'(by omega) ≠ [40]
    · rw [if_pos c] at eL
      rw [if_pos (decide_eq_true c)]
      unfold T1_line_of
      simp only [ev_var, ev_C, ev_bin, ev_and, ev_or, ev_not, ev_neg, ev_opNeg, ev_tru, ev_truB, ev_B, ev_tAnd, ev_tOr, ev_tNot, ev_if, ev_nil, ev_cons, ev_tup, ev_lst, ev_P0, ev_P1, ev_sl, ev_CB, ev_call, ev_skip, ev_seq, ev_break, ev_cont, ev_drop, ev_ret, ev_retN, ev_ifS, ev_set, ev_asgN, ev_setIx, ev_iter, ev_rng1, ev_for, ev_yes, ev_def, ev_meth0, ev_meth, ev_isI, ev_raise, ev_repl, ev_split1, px_bind, px_safe, px_ok, px_exc, px_bad, px_iteB, px_ite, List.getElem?_cons_zero, List.getElem?_cons_succ, List.set_cons_zero, List.set_cons_succ, List.map_cons, List.map_nil, List.cons_append, List.nil_append, List.length_cons, List.length_nil, Nat.reduceAdd, Nat.reduceSub, List.replicate_succ, List.replicate_zero, if_true, if_false, Bool.false_eq_true, Bool.not_true, Bool.not_false, k_sp, s_add, b2, b3, ix_ls hk e1]
      refine ⟨trivial, some (.int (j : Int)), ?_⟩
      rw [eL, List.append_assoc]
    · rw [if_neg c] at eL
      rw [if_neg (by rw [decide_eq_false c]; exact Bool.false_ne_true)]
      unfold T1_line_of
      simp only [ev_var, ev_C, ev_bin, ev_and, ev_or, ev_not, ev_neg, ev_opNeg, ev_tru, ev_truB, ev_B, ev_tAnd, ev_tOr, ev_tNot, ev_if, ev_nil, ev_cons, ev_tup, ev_lst, ev_P0, ev_P1, ev_sl, ev_CB, ev_call, ev_skip, ev_seq, ev_break, ev_cont, ev_drop, ev_ret, ev_retN, ev_ifS, ev_set, ev_asgN, ev_setIx, ev_iter, ev_rng1, ev_for, ev_yes, ev_def, ev_meth0, ev_meth, ev_isI, ev_raise, ev_repl, ev_split1, px_bind, px_safe, px_ok, px_exc, px_bad, px_iteB, px_ite, List.getElem?_cons_zero, List.getElem?_cons_succ, List.set_cons_zero, List.set_cons_succ, List.map_cons, List.map_nil, List.cons_append, List.nil_append, List.length_cons, List.length_nil, Nat.reduceAdd, Nat.reduceSub, List.replicate_succ, List.replicate_zero, if_true, if_false, Bool.false_eq_true, Bool.not_true, Bool.not_false, s_add, b1, ix_ls hk e1]
      refine ⟨trivial, some (.int (j : Int)), ?_⟩
      rw [eL, List.nil_append]
  · rintro env h ⟨rfl, x, rfl⟩
    rw [Nat.zero_add] at *
    refine ⟨srcR_end, ?_⟩
    unfold T2_line_of
    simp only [ev_var, ev_C, ev_bin, ev_and, ev_or, ev_not, ev_neg, ev_opNeg, ev_tru, ev_truB, ev_B, ev_tAnd, ev_tOr, ev_tNot, ev_if, ev_nil, ev_cons, ev_tup, ev_lst, ev_P0, ev_P1, ev_sl, ev_CB, ev_call, ev_skip, ev_seq, ev_break, ev_cont, ev_drop, ev_ret, ev_retN, ev_ifS, ev_set, ev_asgN, ev_setIx, ev_iter, ev_rng1, ev_for, ev_yes, ev_def, ev_meth0, ev_meth, ev_isI, ev_raise, ev_repl, ev_split1, px_bind, px_safe, px_ok, px_exc, px_bad, px_iteB, px_ite, List.getElem?_cons_zero, List.getElem?_cons_succ, List.set_cons_zero, List.set_cons_succ, List.map_cons, List.map_nil, List.cons_append, List.nil_append, List.length_cons, List.length_nil, Nat.reduceAdd, Nat.reduceSub, List.replicate_succ, List.replicate_zero, if_true, if_false, Bool.false_eq_true, Bool.not_true, Bool.not_false, List.take_length]
    exact ⟨trivial, trivial⟩
end K66

set_option Elab.async false
set_option linter.all false
set_option maxRecDepth 100000
set_option maxHeartbeats 4000000
/-! K66G: line_tokens. -/
namespace K66
open PySem PySem.NumText PyProof.Rows L2 Mi
theorem wt_app (a b : List Cs) : wt (a ++ b) = wt a + wt b := by
  induction a with
  | nil => simp [wt]
  | cons t a ih => show t.length + 1 + wt (a ++ b) = t.length + 1 + wt a + wt b; rw [ih]; omega
theorem wt_pend (w : Cs) : wt (pend w) ≤ 2 * w.length := by
  unfold pend
  split
  · exact Nat.zero_le _
  · rename_i h
    have : 0 < w.length := List.length_pos_iff.mpr h
    show w.length + 1 + 0 ≤ _
    omega
theorem wt_tk : ∀ (l w : Cs), wt (tk w l) ≤ 2 * (w.length + l.length)
  | [], w => by
    have := wt_pend w
    show wt (pend w) ≤ _
    simp only [List.length_nil]
    omega
  | c :: r, w => by
    unfold tk
    split
    · have h1 := wt_pend w
      have h2 := wt_tk r []
      rw [wt_app, wt_app]
      have h3 : wt (if c = 32 then [] else [[c]]) ≤ 2 := by split <;> simp [wt]
      simp only [List.length_cons, List.length_nil] at h2 ⊢
      omega
    · have := wt_tk r (w ++ [c])
      simp only [List.length_append, List.length_cons, List.length_nil] at this ⊢
      omega
theorem okC_pend {w : Cs} (h : okC w) : ∀ t ∈ pend w, okC t := fun t ht => by
  unfold pend at ht
  split at ht
  · cases ht
  · rw [List.mem_singleton.mp ht]; exact h
theorem okC_tk : ∀ (l w : Cs), okC w → okC l → ∀ t ∈ tk w l, okC t
  | [], w, hw, _ => okC_pend hw
  | c :: r, w, hw, hl => by
    have hc : okC [c] := fun x hx => by rw [List.mem_singleton.mp hx]; exact hl c (List.mem_cons_self ..)
    have hr : okC r := fun x hx => hl x (List.mem_cons_of_mem _ hx)
    intro t ht
    unfold tk at ht
    split at ht
    · rcases List.mem_append.mp ht with ht | ht
      · rcases List.mem_append.mp ht with ht | ht
        · exact okC_pend hw t ht
        · split at ht
          · cases ht
          · rw [List.mem_singleton.mp ht]; exact hc
      · exact okC_tk r [] okC_nil hr t ht
    · exact okC_tk r (w ++ [c]) (okC_app hw hc) hr t ht
theorem okC_lo : ∀ (ts : List Cs) (p : Cs), (∀ t ∈ ts, okC t) → okC (lo p ts)
  | [], p, _ => okC_nil
  | t :: ts, p, h => by
    have ih := okC_lo ts t (fun x hx => h x (List.mem_cons_of_mem _ hx))
    show okC ((if t ≠ [41] ∧ p ≠ [40] then [32] else []) ++ t ++ lo t ts)
    refine okC_app (okC_app ?_ (h t (List.mem_cons_self ..))) ih
    split
    · exact okC32
    · exact okC_nil
theorem okC_lineOf {ts : List Cs} (h : ∀ t ∈ ts, okC t) : okC (lineOf ts) := by
  cases ts with
  | nil => exact okC_nil
  | cons t ts => exact okC_app (h t (List.mem_cons_self ..)) (okC_lo ts t (fun x hx => h x (List.mem_cons_of_mem _ hx)))
section
variable {mh : MH} {k : Nat}
theorem ty_list {ds : List D} (h : lsAt mh k = some ds) : tyD "list" mh (.ref k) = true := by
  unfold tyD
  rw [if_neg (by decide), if_pos rfl]
  show (lsAt mh k).isSome = true
  rw [h]; rfl
theorem app_ok' {xs : List D} {y : D} (h : mh[k]? = some (.lst xs)) (hl : xs.length < SL) : mdAppend (.ref k) [y] mh = .ok .non (mh.set k (.lst (xs ++ [y]))) := by
  unfold mdAppend
  dsimp only
  rw [h]
  dsimp only
  rw [if_pos hl]
end
theorem toStrs_snoc (a : List Cs) (t : Cs) : toStrs a ++ [.str (S t)] = toStrs (a ++ [t]) := by simp [toStrs]
theorem set_get {h : MH} {k : Nat} {o o' : MO} (e : h[k]? = some o) : (h.set k o')[k]? = some o' := List.getElem?_set_self (List.getElem?_eq_some_iff.mp e).1
/-- what stands when the sign at i is to be looked at -/
def InvT (l : Cs) (mh : MH) (i : Nat) (env : Mi.Env) (h : MH) : Prop :=
  ∃ (w : Cs) (acc : List Cs) (y1 y2 : Option D), env = [some (.str (S l)), some (.ref mh.length), some (.str (S w)), y1, y2] ∧ mh <+: h ∧ h[mh.length]? = some (.lst (toStrs acc)) ∧ acc ++ tk w (l.drop i) = tk [] l ∧ w.length ≤ i ∧ acc.length ≤ 2 * i ∧ okC w
theorem tok_end {l : Cs} {mh h : MH} {i c : Nat} {acc : List Cs} {y1 : Option D} (hl : l.length ≤ 1000000) (hc : okC l) (hi : i < l.length) (ec : l[i]? = some c) (p : mh <+: h) (hk : h[mh.length]? = some (.lst (toStrs acc)))
    (e : acc ++ ((if c = 32 then [] else [[c]]) ++ tk [] (l.drop (i + 1))) = tk [] l) (ha : acc.length ≤ 2 * i + 1) :
    PX (T3_line_tokens [some (.str (S l)), some (.ref mh.length), some (.str (S [])), y1, some (.str (S [c]))] h) (fun f h => match f with | .nx e => InvT l mh (i + 1) e h | _ => False) nX := by
  have hSL : SL = 16777216 := rfl
  have okc : okC [c] := fun x hx => by rw [List.mem_singleton.mp hx]; exact hc c (List.mem_of_getElem? ec)
  unfold T3_line_tokens C3_line_tokens
  simp only [ev_var, ev_C, ev_bin, ev_and, ev_or, ev_not, ev_neg, ev_opNeg, ev_tru, ev_truB, ev_B, ev_tAnd, ev_tOr, ev_tNot, ev_if, ev_nil, ev_cons, ev_tup, ev_lst, ev_P0, ev_P1, ev_sl, ev_CB, ev_call, ev_skip, ev_seq, ev_break, ev_cont, ev_drop, ev_ret, ev_retN, ev_ifS, ev_set, ev_asgN, ev_setIx, ev_iter, ev_rng1, ev_for, ev_yes, ev_def, ev_meth0, ev_meth, ev_isI, ev_raise, ev_repl, ev_split1, px_bind, px_safe, px_ok, px_exc, px_bad, px_iteB, px_ite, List.getElem?_cons_zero, List.getElem?_cons_succ, List.set_cons_zero, List.set_cons_succ, List.map_cons, List.map_nil, List.cons_append, List.nil_append, List.length_cons, List.length_nil, Nat.reduceAdd, Nat.reduceSub, List.replicate_succ, List.replicate_zero, if_true, if_false, Bool.false_eq_true, Bool.not_true, Bool.not_false, k_sp, s_ne okc okC32]
  by_cases c1 : c = 32
  · subst c1
    rw [if_pos rfl, List.nil_append] at e
    simp only [decide_true, ev_var, ev_C, ev_bin, ev_and, ev_or, ev_not, ev_neg, ev_opNeg, ev_tru, ev_truB, ev_B, ev_tAnd, ev_tOr, ev_tNot, ev_if, ev_nil, ev_cons, ev_tup, ev_lst, ev_P0, ev_P1, ev_sl, ev_CB, ev_call, ev_skip, ev_seq, ev_break, ev_cont, ev_drop, ev_ret, ev_retN, ev_ifS, ev_set, ev_asgN, ev_setIx, ev_iter, ev_rng1, ev_for, ev_yes, ev_def, ev_meth0, ev_meth, ev_isI, ev_raise, ev_repl, ev_split1, px_bind, px_safe, px_ok, px_exc, px_bad, px_iteB, px_ite, List.getElem?_cons_zero, List.getElem?_cons_succ, List.set_cons_zero, List.set_cons_succ, List.map_cons, List.map_nil, List.cons_append, List.nil_append, List.length_cons, List.length_nil, Nat.reduceAdd, Nat.reduceSub, List.replicate_succ, List.replicate_zero, if_true, if_false, Bool.false_eq_true, Bool.not_true, Bool.not_false]
    exact ⟨[], acc, y1, _, rfl, p, hk, e, Nat.zero_le _, by omega, okC_nil⟩
  · rw [if_neg c1] at e
    have c1' : ¬ [c] = [32] := fun z => c1 (by injection z)
    have hls : lsAt h mh.length = some (toStrs acc) := lsAt_lst hk
    simp only [decide_eq_false c1', ev_var, ev_C, ev_bin, ev_and, ev_or, ev_not, ev_neg, ev_opNeg, ev_tru, ev_truB, ev_B, ev_tAnd, ev_tOr, ev_tNot, ev_if, ev_nil, ev_cons, ev_tup, ev_lst, ev_P0, ev_P1, ev_sl, ev_CB, ev_call, ev_skip, ev_seq, ev_break, ev_cont, ev_drop, ev_ret, ev_retN, ev_ifS, ev_set, ev_asgN, ev_setIx, ev_iter, ev_rng1, ev_for, ev_yes, ev_def, ev_meth0, ev_meth, ev_isI, ev_raise, ev_repl, ev_split1, px_bind, px_safe, px_ok, px_exc, px_bad, px_iteB, px_ite, List.getElem?_cons_zero, List.getElem?_cons_succ, List.set_cons_zero, List.set_cons_succ, List.map_cons, List.map_nil, List.cons_append, List.nil_append, List.length_cons, List.length_nil, Nat.reduceAdd, Nat.reduceSub, List.replicate_succ, List.replicate_zero, if_true, if_false, Bool.false_eq_true, Bool.not_true, Bool.not_false, ty_list hls, app_ok' hk (show (toStrs acc).length < SL by unfold toStrs; rw [List.length_map]; omega)]
    refine ⟨[], acc ++ [[c]], y1, _, rfl, pre_set p (Nat.le_refl _) _, ?_, ?_, Nat.zero_le _, ?_, okC_nil⟩
    · rw [set_get hk, toStrs_snoc]
    · rw [List.append_assoc]; exact e
    · rw [List.length_append]; simp only [List.length_cons, List.length_nil]; omega
theorem tok_step {l : Cs} {mh : MH} (hl : l.length ≤ 1000000) (hc : okC l) {i : Nat} (hi : i < l.length) {env : Mi.Env} {h : MH} (inv : InvT l mh i env h) :
    PX (L1_line_tokens (env.set 3 (some (.int (i : Int)))) h) (fun f h => match f with | .nx e => InvT l mh (i + 1) e h | .ct e => InvT l mh (i + 1) e h | _ => False) nX := by
  have hSL : SL = 16777216 := rfl
  obtain ⟨w, acc, y1, y2, rfl, p, hk, e, hw, ha, okw⟩ := inv
  obtain ⟨c, ec⟩ : ∃ c, l[i]? = some c := ⟨l[i], List.getElem?_eq_getElem hi⟩
  have ed : l.drop i = c :: l.drop (i + 1) := by
    rw [List.drop_eq_getElem_cons hi]
    congr 1
    rw [List.getElem?_eq_getElem hi] at ec
    exact Option.some.inj ec
  have okc : okC [c] := fun x hx => by rw [List.mem_singleton.mp hx]; exact hc c (List.mem_of_getElem? ec)
  rw [ed] at e
  unfold L1_line_tokens
  simp only [ev_var, ev_C, ev_bin, ev_and, ev_or, ev_not, ev_neg, ev_opNeg, ev_tru, ev_truB, ev_B, ev_tAnd, ev_tOr, ev_tNot, ev_if, ev_nil, ev_cons, ev_tup, ev_lst, ev_P0, ev_P1, ev_sl, ev_CB, ev_call, ev_skip, ev_seq, ev_break, ev_cont, ev_drop, ev_ret, ev_retN, ev_ifS, ev_set, ev_asgN, ev_setIx, ev_iter, ev_rng1, ev_for, ev_yes, ev_def, ev_meth0, ev_meth, ev_isI, ev_raise, ev_repl, ev_split1, px_bind, px_safe, px_ok, px_exc, px_bad, px_iteB, px_ite, List.getElem?_cons_zero, List.getElem?_cons_succ, List.set_cons_zero, List.set_cons_succ, List.map_cons, List.map_nil, List.cons_append, List.nil_append, List.length_cons, List.length_nil, Nat.reduceAdd, Nat.reduceSub, List.replicate_succ, List.replicate_zero, if_true, if_false, Bool.false_eq_true, Bool.not_true, Bool.not_false, s_ix (show l.length ≤ SL by omega) ec]
  unfold T5_line_tokens C1_line_tokens
  simp only [ev_var, ev_C, ev_bin, ev_and, ev_or, ev_not, ev_neg, ev_opNeg, ev_tru, ev_truB, ev_B, ev_tAnd, ev_tOr, ev_tNot, ev_if, ev_nil, ev_cons, ev_tup, ev_lst, ev_P0, ev_P1, ev_sl, ev_CB, ev_call, ev_skip, ev_seq, ev_break, ev_cont, ev_drop, ev_ret, ev_retN, ev_ifS, ev_set, ev_asgN, ev_setIx, ev_iter, ev_rng1, ev_for, ev_yes, ev_def, ev_meth0, ev_meth, ev_isI, ev_raise, ev_repl, ev_split1, px_bind, px_safe, px_ok, px_exc, px_bad, px_iteB, px_ite, List.getElem?_cons_zero, List.getElem?_cons_succ, List.set_cons_zero, List.set_cons_succ, List.map_cons, List.map_nil, List.cons_append, List.nil_append, List.length_cons, List.length_nil, Nat.reduceAdd, Nat.reduceSub, List.replicate_succ, List.replicate_zero, if_true, if_false, Bool.false_eq_true, Bool.not_true, Bool.not_false, k_seps, s_in, mem_sep, Bool.true_xor]
  cases hs : isSep c with
  | false =>
    have e' : acc ++ tk (w ++ [c]) (l.drop (i + 1)) = tk [] l := by
      rw [← e]
      show _ = acc ++ (if isSep c = true then _ else tk (w ++ [c]) (l.drop (i + 1)))
      rw [hs]; rfl
    have b1 : w.length + (0 + 1) ≤ SL := by omega
    have b2 : w.length + 1 ≤ SL := by omega
    simp only [ev_var, ev_C, ev_bin, ev_and, ev_or, ev_not, ev_neg, ev_opNeg, ev_tru, ev_truB, ev_B, ev_tAnd, ev_tOr, ev_tNot, ev_if, ev_nil, ev_cons, ev_tup, ev_lst, ev_P0, ev_P1, ev_sl, ev_CB, ev_call, ev_skip, ev_seq, ev_break, ev_cont, ev_drop, ev_ret, ev_retN, ev_ifS, ev_set, ev_asgN, ev_setIx, ev_iter, ev_rng1, ev_for, ev_yes, ev_def, ev_meth0, ev_meth, ev_isI, ev_raise, ev_repl, ev_split1, px_bind, px_safe, px_ok, px_exc, px_bad, px_iteB, px_ite, List.getElem?_cons_zero, List.getElem?_cons_succ, List.set_cons_zero, List.set_cons_succ, List.map_cons, List.map_nil, List.cons_append, List.nil_append, List.length_cons, List.length_nil, Nat.reduceAdd, Nat.reduceSub, List.replicate_succ, List.replicate_zero, if_true, if_false, Bool.false_eq_true, Bool.not_true, Bool.not_false, s_add, b2]
    unfold T1_line_tokens
    simp only [ev_var, ev_C, ev_bin, ev_and, ev_or, ev_not, ev_neg, ev_opNeg, ev_tru, ev_truB, ev_B, ev_tAnd, ev_tOr, ev_tNot, ev_if, ev_nil, ev_cons, ev_tup, ev_lst, ev_P0, ev_P1, ev_sl, ev_CB, ev_call, ev_skip, ev_seq, ev_break, ev_cont, ev_drop, ev_ret, ev_retN, ev_ifS, ev_set, ev_asgN, ev_setIx, ev_iter, ev_rng1, ev_for, ev_yes, ev_def, ev_meth0, ev_meth, ev_isI, ev_raise, ev_repl, ev_split1, px_bind, px_safe, px_ok, px_exc, px_bad, px_iteB, px_ite, List.getElem?_cons_zero, List.getElem?_cons_succ, List.set_cons_zero, List.set_cons_succ, List.map_cons, List.map_nil, List.cons_append, List.nil_append, List.length_cons, List.length_nil, Nat.reduceAdd, Nat.reduceSub, List.replicate_succ, List.replicate_zero, if_true, if_false, Bool.false_eq_true, Bool.not_true, Bool.not_false]
    refine ⟨w ++ [c], acc, _, _, rfl, p, hk, e', ?_, by omega, okC_app okw okc⟩
    rw [List.length_append]; simp only [List.length_cons, List.length_nil]; omega
  | true =>
    have e' : acc ++ (pend w ++ (if c = 32 then [] else [[c]]) ++ tk [] (l.drop (i + 1))) = tk [] l := by
      rw [← e]
      show _ = acc ++ (if isSep c = true then pend w ++ (if c = 32 then [] else [[c]]) ++ tk [] (l.drop (i + 1)) else _)
      rw [hs]; rfl
    simp only [ev_var, ev_C, ev_bin, ev_and, ev_or, ev_not, ev_neg, ev_opNeg, ev_tru, ev_truB, ev_B, ev_tAnd, ev_tOr, ev_tNot, ev_if, ev_nil, ev_cons, ev_tup, ev_lst, ev_P0, ev_P1, ev_sl, ev_CB, ev_call, ev_skip, ev_seq, ev_break, ev_cont, ev_drop, ev_ret, ev_retN, ev_ifS, ev_set, ev_asgN, ev_setIx, ev_iter, ev_rng1, ev_for, ev_yes, ev_def, ev_meth0, ev_meth, ev_isI, ev_raise, ev_repl, ev_split1, px_bind, px_safe, px_ok, px_exc, px_bad, px_iteB, px_ite, List.getElem?_cons_zero, List.getElem?_cons_succ, List.set_cons_zero, List.set_cons_succ, List.map_cons, List.map_nil, List.cons_append, List.nil_append, List.length_cons, List.length_nil, Nat.reduceAdd, Nat.reduceSub, List.replicate_succ, List.replicate_zero, if_true, if_false, Bool.false_eq_true, Bool.not_true, Bool.not_false]
    unfold T4_line_tokens C2_line_tokens
    simp only [ev_var, ev_C, ev_bin, ev_and, ev_or, ev_not, ev_neg, ev_opNeg, ev_tru, ev_truB, ev_B, ev_tAnd, ev_tOr, ev_tNot, ev_if, ev_nil, ev_cons, ev_tup, ev_lst, ev_P0, ev_P1, ev_sl, ev_CB, ev_call, ev_skip, ev_seq, ev_break, ev_cont, ev_drop, ev_ret, ev_retN, ev_ifS, ev_set, ev_asgN, ev_setIx, ev_iter, ev_rng1, ev_for, ev_yes, ev_def, ev_meth0, ev_meth, ev_isI, ev_raise, ev_repl, ev_split1, px_bind, px_safe, px_ok, px_exc, px_bad, px_iteB, px_ite, List.getElem?_cons_zero, List.getElem?_cons_succ, List.set_cons_zero, List.set_cons_succ, List.map_cons, List.map_nil, List.cons_append, List.nil_append, List.length_cons, List.length_nil, Nat.reduceAdd, Nat.reduceSub, List.replicate_succ, List.replicate_zero, if_true, if_false, Bool.false_eq_true, Bool.not_true, Bool.not_false, k_e, s_ne okw okC_nil]
    by_cases c1 : w = []
    · subst c1
      simp only [decide_true, ev_var, ev_C, ev_bin, ev_and, ev_or, ev_not, ev_neg, ev_opNeg, ev_tru, ev_truB, ev_B, ev_tAnd, ev_tOr, ev_tNot, ev_if, ev_nil, ev_cons, ev_tup, ev_lst, ev_P0, ev_P1, ev_sl, ev_CB, ev_call, ev_skip, ev_seq, ev_break, ev_cont, ev_drop, ev_ret, ev_retN, ev_ifS, ev_set, ev_asgN, ev_setIx, ev_iter, ev_rng1, ev_for, ev_yes, ev_def, ev_meth0, ev_meth, ev_isI, ev_raise, ev_repl, ev_split1, px_bind, px_safe, px_ok, px_exc, px_bad, px_iteB, px_ite, List.getElem?_cons_zero, List.getElem?_cons_succ, List.set_cons_zero, List.set_cons_succ, List.map_cons, List.map_nil, List.cons_append, List.nil_append, List.length_cons, List.length_nil, Nat.reduceAdd, Nat.reduceSub, List.replicate_succ, List.replicate_zero, if_true, if_false, Bool.false_eq_true, Bool.not_true, Bool.not_false]
      refine (tok_end (y1 := some (.int (i : Int))) hl hc hi ec p hk (by simpa [pend] using e') (by omega)).mono (fun f h z => ?_) (fun _ _ _ z => z)
      cases f with
      | nx e => exact z
      | _ => exact z.elim
    · have hls : lsAt h mh.length = some (toStrs acc) := lsAt_lst hk
      simp only [decide_eq_false c1, ev_var, ev_C, ev_bin, ev_and, ev_or, ev_not, ev_neg, ev_opNeg, ev_tru, ev_truB, ev_B, ev_tAnd, ev_tOr, ev_tNot, ev_if, ev_nil, ev_cons, ev_tup, ev_lst, ev_P0, ev_P1, ev_sl, ev_CB, ev_call, ev_skip, ev_seq, ev_break, ev_cont, ev_drop, ev_ret, ev_retN, ev_ifS, ev_set, ev_asgN, ev_setIx, ev_iter, ev_rng1, ev_for, ev_yes, ev_def, ev_meth0, ev_meth, ev_isI, ev_raise, ev_repl, ev_split1, px_bind, px_safe, px_ok, px_exc, px_bad, px_iteB, px_ite, List.getElem?_cons_zero, List.getElem?_cons_succ, List.set_cons_zero, List.set_cons_succ, List.map_cons, List.map_nil, List.cons_append, List.nil_append, List.length_cons, List.length_nil, Nat.reduceAdd, Nat.reduceSub, List.replicate_succ, List.replicate_zero, if_true, if_false, Bool.false_eq_true, Bool.not_true, Bool.not_false, ty_list hls, app_ok' hk (show (toStrs acc).length < SL by unfold toStrs; rw [List.length_map]; omega)]
      unfold T2_line_tokens
      simp only [ev_var, ev_C, ev_bin, ev_and, ev_or, ev_not, ev_neg, ev_opNeg, ev_tru, ev_truB, ev_B, ev_tAnd, ev_tOr, ev_tNot, ev_if, ev_nil, ev_cons, ev_tup, ev_lst, ev_P0, ev_P1, ev_sl, ev_CB, ev_call, ev_skip, ev_seq, ev_break, ev_cont, ev_drop, ev_ret, ev_retN, ev_ifS, ev_set, ev_asgN, ev_setIx, ev_iter, ev_rng1, ev_for, ev_yes, ev_def, ev_meth0, ev_meth, ev_isI, ev_raise, ev_repl, ev_split1, px_bind, px_safe, px_ok, px_exc, px_bad, px_iteB, px_ite, List.getElem?_cons_zero, List.getElem?_cons_succ, List.set_cons_zero, List.set_cons_succ, List.map_cons, List.map_nil, List.cons_append, List.nil_append, List.length_cons, List.length_nil, Nat.reduceAdd, Nat.reduceSub, List.replicate_succ, List.replicate_zero, if_true, if_false, Bool.false_eq_true, Bool.not_true, Bool.not_false, k_e]
      refine (tok_end (acc := acc ++ [w]) (y1 := some (.int (i : Int))) hl hc hi ec (pre_set p (Nat.le_refl _) _) (by rw [set_get hk, toStrs_snoc]) ?_ ?_).mono (fun f h z => ?_) (fun _ _ _ z => z)
      · rw [← e']
        simp [pend, c1]
      · rw [List.length_append]; simp only [List.length_cons, List.length_nil]; omega
      · cases f with
        | nx e => exact z
        | _ => exact z.elim
theorem line_tokens_px {l : Cs} (hl : l.length ≤ 1000000) (hc : okC l) (mh : MH) :
    PX (F_line_tokens [.str (S l)] mh) (fun d h => mh <+: h ∧ if lineOf (tk [] l) = l then d = .ref mh.length ∧ h[mh.length]? = some (.lst (toStrs (tk [] l))) else d = .non) nX := by
  have hSL : SL = 16777216 := rfl
  unfold F_line_tokens B_line_tokens
  have b0 : (0 : Nat) ≤ SL := by omega
  simp only [ev_var, ev_C, ev_bin, ev_and, ev_or, ev_not, ev_neg, ev_opNeg, ev_tru, ev_truB, ev_B, ev_tAnd, ev_tOr, ev_tNot, ev_if, ev_nil, ev_cons, ev_tup, ev_lst, ev_P0, ev_P1, ev_sl, ev_CB, ev_call, ev_skip, ev_seq, ev_break, ev_cont, ev_drop, ev_ret, ev_retN, ev_ifS, ev_set, ev_asgN, ev_setIx, ev_iter, ev_rng1, ev_for, ev_yes, ev_def, ev_meth0, ev_meth, ev_isI, ev_raise, ev_repl, ev_split1, px_bind, px_safe, px_ok, px_exc, px_bad, px_iteB, px_ite, List.getElem?_cons_zero, List.getElem?_cons_succ, List.set_cons_zero, List.set_cons_succ, List.map_cons, List.map_nil, List.cons_append, List.nil_append, List.length_cons, List.length_nil, Nat.reduceAdd, Nat.reduceSub, List.replicate_succ, List.replicate_zero, if_true, if_false, Bool.false_eq_true, Bool.not_true, Bool.not_false, b0]
  unfold T9_line_tokens T8_line_tokens
  simp only [ev_var, ev_C, ev_bin, ev_and, ev_or, ev_not, ev_neg, ev_opNeg, ev_tru, ev_truB, ev_B, ev_tAnd, ev_tOr, ev_tNot, ev_if, ev_nil, ev_cons, ev_tup, ev_lst, ev_P0, ev_P1, ev_sl, ev_CB, ev_call, ev_skip, ev_seq, ev_break, ev_cont, ev_drop, ev_ret, ev_retN, ev_ifS, ev_set, ev_asgN, ev_setIx, ev_iter, ev_rng1, ev_for, ev_yes, ev_def, ev_meth0, ev_meth, ev_isI, ev_raise, ev_repl, ev_split1, px_bind, px_safe, px_ok, px_exc, px_bad, px_iteB, px_ite, List.getElem?_cons_zero, List.getElem?_cons_succ, List.set_cons_zero, List.set_cons_succ, List.map_cons, List.map_nil, List.cons_append, List.nil_append, List.length_cons, List.length_nil, Nat.reduceAdd, Nat.reduceSub, List.replicate_succ, List.replicate_zero, if_true, if_false, Bool.false_eq_true, Bool.not_true, Bool.not_false, k_e, s_len (show l.length ≤ SL by omega), inR_nat (n := l.length) (by omega), Int.toNat_natCast]
  refine loop_px (InvT l mh) _ _ _ _ ⟨[], [], none, none, rfl, pre_app _ _, by simp [toStrs], rfl, Nat.zero_le _, Nat.zero_le _, okC_nil⟩ ?_ ?_
  · intro j env h _ hj inv
    refine ⟨_, _, srcR_at (by omega), rfl, ?_⟩
    refine (tok_step hl hc (by omega) inv).mono (fun f h z => ?_) (fun _ _ _ z => z)
    cases f with
    | nx e => exact z
    | ct e => exact z
    | _ => exact z.elim
  · rintro env h ⟨w, acc, y1, y2, rfl, p, hk, e, hw, ha, okw⟩
    rw [Nat.zero_add] at *
    refine ⟨srcR_end, ?_⟩
    rw [List.drop_length] at e
    have e' : acc ++ pend w = tk [] l := e
    have fin : ∀ h', mh <+: h' → h'[mh.length]? = some (.lst (toStrs (tk [] l))) → PX (T6_line_tokens [some (.str (S l)), some (.ref mh.length), some (.str (S w)), y1, y2] h') (fun f h => match f with | .rt d => (mh <+: h ∧ if lineOf (tk [] l) = l then d = .ref mh.length ∧ h[mh.length]? = some (.lst (toStrs (tk [] l))) else d = .non) | _ => False) nX := by
      intro h' p' hk'
      have hok := okC_tk l [] okC_nil hc
      have hwt := wt_tk l []
      unfold T6_line_tokens
      simp only [ev_var, ev_C, ev_bin, ev_and, ev_or, ev_not, ev_neg, ev_opNeg, ev_tru, ev_truB, ev_B, ev_tAnd, ev_tOr, ev_tNot, ev_if, ev_nil, ev_cons, ev_tup, ev_lst, ev_P0, ev_P1, ev_sl, ev_CB, ev_call, ev_skip, ev_seq, ev_break, ev_cont, ev_drop, ev_ret, ev_retN, ev_ifS, ev_set, ev_asgN, ev_setIx, ev_iter, ev_rng1, ev_for, ev_yes, ev_def, ev_meth0, ev_meth, ev_isI, ev_raise, ev_repl, ev_split1, px_bind, px_safe, px_ok, px_exc, px_bad, px_iteB, px_ite, List.getElem?_cons_zero, List.getElem?_cons_succ, List.set_cons_zero, List.set_cons_succ, List.map_cons, List.map_nil, List.cons_append, List.nil_append, List.length_cons, List.length_nil, Nat.reduceAdd, Nat.reduceSub, List.replicate_succ, List.replicate_zero, if_true, if_false, Bool.false_eq_true, Bool.not_true, Bool.not_false]
      refine (line_of_px (lsAt_lst hk') (by simp only [List.length_nil] at hwt; omega) hok).mono (fun d h2 z => ?_) (fun _ _ _ z => z)
      obtain ⟨rfl, rfl⟩ := z
      simp only [ev_var, ev_C, ev_bin, ev_and, ev_or, ev_not, ev_neg, ev_opNeg, ev_tru, ev_truB, ev_B, ev_tAnd, ev_tOr, ev_tNot, ev_if, ev_nil, ev_cons, ev_tup, ev_lst, ev_P0, ev_P1, ev_sl, ev_CB, ev_call, ev_skip, ev_seq, ev_break, ev_cont, ev_drop, ev_ret, ev_retN, ev_ifS, ev_set, ev_asgN, ev_setIx, ev_iter, ev_rng1, ev_for, ev_yes, ev_def, ev_meth0, ev_meth, ev_isI, ev_raise, ev_repl, ev_split1, px_bind, px_safe, px_ok, px_exc, px_bad, px_iteB, px_ite, List.getElem?_cons_zero, List.getElem?_cons_succ, List.set_cons_zero, List.set_cons_succ, List.map_cons, List.map_nil, List.cons_append, List.nil_append, List.length_cons, List.length_nil, Nat.reduceAdd, Nat.reduceSub, List.replicate_succ, List.replicate_zero, if_true, if_false, Bool.false_eq_true, Bool.not_true, Bool.not_false, s_eq (okC_lineOf hok) hc]
      by_cases c1 : lineOf (tk [] l) = l
      · simp only [decide_eq_true c1, ev_var, ev_C, ev_bin, ev_and, ev_or, ev_not, ev_neg, ev_opNeg, ev_tru, ev_truB, ev_B, ev_tAnd, ev_tOr, ev_tNot, ev_if, ev_nil, ev_cons, ev_tup, ev_lst, ev_P0, ev_P1, ev_sl, ev_CB, ev_call, ev_skip, ev_seq, ev_break, ev_cont, ev_drop, ev_ret, ev_retN, ev_ifS, ev_set, ev_asgN, ev_setIx, ev_iter, ev_rng1, ev_for, ev_yes, ev_def, ev_meth0, ev_meth, ev_isI, ev_raise, ev_repl, ev_split1, px_bind, px_safe, px_ok, px_exc, px_bad, px_iteB, px_ite, List.getElem?_cons_zero, List.getElem?_cons_succ, List.set_cons_zero, List.set_cons_succ, List.map_cons, List.map_nil, List.cons_append, List.nil_append, List.length_cons, List.length_nil, Nat.reduceAdd, Nat.reduceSub, List.replicate_succ, List.replicate_zero, if_true, if_false, Bool.false_eq_true, Bool.not_true, Bool.not_false, if_pos c1]
        exact ⟨p', trivial, hk'⟩
      · simp only [decide_eq_false c1, ev_var, ev_C, ev_bin, ev_and, ev_or, ev_not, ev_neg, ev_opNeg, ev_tru, ev_truB, ev_B, ev_tAnd, ev_tOr, ev_tNot, ev_if, ev_nil, ev_cons, ev_tup, ev_lst, ev_P0, ev_P1, ev_sl, ev_CB, ev_call, ev_skip, ev_seq, ev_break, ev_cont, ev_drop, ev_ret, ev_retN, ev_ifS, ev_set, ev_asgN, ev_setIx, ev_iter, ev_rng1, ev_for, ev_yes, ev_def, ev_meth0, ev_meth, ev_isI, ev_raise, ev_repl, ev_split1, px_bind, px_safe, px_ok, px_exc, px_bad, px_iteB, px_ite, List.getElem?_cons_zero, List.getElem?_cons_succ, List.set_cons_zero, List.set_cons_succ, List.map_cons, List.map_nil, List.cons_append, List.nil_append, List.length_cons, List.length_nil, Nat.reduceAdd, Nat.reduceSub, List.replicate_succ, List.replicate_zero, if_true, if_false, Bool.false_eq_true, Bool.not_true, Bool.not_false, if_neg c1]
        exact ⟨p', trivial⟩
    unfold T7_line_tokens C4_line_tokens
    simp only [ev_var, ev_C, ev_bin, ev_and, ev_or, ev_not, ev_neg, ev_opNeg, ev_tru, ev_truB, ev_B, ev_tAnd, ev_tOr, ev_tNot, ev_if, ev_nil, ev_cons, ev_tup, ev_lst, ev_P0, ev_P1, ev_sl, ev_CB, ev_call, ev_skip, ev_seq, ev_break, ev_cont, ev_drop, ev_ret, ev_retN, ev_ifS, ev_set, ev_asgN, ev_setIx, ev_iter, ev_rng1, ev_for, ev_yes, ev_def, ev_meth0, ev_meth, ev_isI, ev_raise, ev_repl, ev_split1, px_bind, px_safe, px_ok, px_exc, px_bad, px_iteB, px_ite, List.getElem?_cons_zero, List.getElem?_cons_succ, List.set_cons_zero, List.set_cons_succ, List.map_cons, List.map_nil, List.cons_append, List.nil_append, List.length_cons, List.length_nil, Nat.reduceAdd, Nat.reduceSub, List.replicate_succ, List.replicate_zero, if_true, if_false, Bool.false_eq_true, Bool.not_true, Bool.not_false, k_e, s_ne okw okC_nil]
    by_cases c1 : w = []
    · subst c1
      simp only [decide_true, ev_var, ev_C, ev_bin, ev_and, ev_or, ev_not, ev_neg, ev_opNeg, ev_tru, ev_truB, ev_B, ev_tAnd, ev_tOr, ev_tNot, ev_if, ev_nil, ev_cons, ev_tup, ev_lst, ev_P0, ev_P1, ev_sl, ev_CB, ev_call, ev_skip, ev_seq, ev_break, ev_cont, ev_drop, ev_ret, ev_retN, ev_ifS, ev_set, ev_asgN, ev_setIx, ev_iter, ev_rng1, ev_for, ev_yes, ev_def, ev_meth0, ev_meth, ev_isI, ev_raise, ev_repl, ev_split1, px_bind, px_safe, px_ok, px_exc, px_bad, px_iteB, px_ite, List.getElem?_cons_zero, List.getElem?_cons_succ, List.set_cons_zero, List.set_cons_succ, List.map_cons, List.map_nil, List.cons_append, List.nil_append, List.length_cons, List.length_nil, Nat.reduceAdd, Nat.reduceSub, List.replicate_succ, List.replicate_zero, if_true, if_false, Bool.false_eq_true, Bool.not_true, Bool.not_false]
      rw [show pend [] = [] from rfl, List.append_nil] at e'
      refine (fin h p (by rw [hk, e'])).mono (fun f h z => ?_) (fun _ _ _ z => z)
      cases f with
      | rt d => exact z
      | _ => exact z.elim
    · have hls : lsAt h mh.length = some (toStrs acc) := lsAt_lst hk
      have hle : (toStrs acc).length < SL := by unfold toStrs; rw [List.length_map]; omega
      simp only [decide_eq_false c1, ev_var, ev_C, ev_bin, ev_and, ev_or, ev_not, ev_neg, ev_opNeg, ev_tru, ev_truB, ev_B, ev_tAnd, ev_tOr, ev_tNot, ev_if, ev_nil, ev_cons, ev_tup, ev_lst, ev_P0, ev_P1, ev_sl, ev_CB, ev_call, ev_skip, ev_seq, ev_break, ev_cont, ev_drop, ev_ret, ev_retN, ev_ifS, ev_set, ev_asgN, ev_setIx, ev_iter, ev_rng1, ev_for, ev_yes, ev_def, ev_meth0, ev_meth, ev_isI, ev_raise, ev_repl, ev_split1, px_bind, px_safe, px_ok, px_exc, px_bad, px_iteB, px_ite, List.getElem?_cons_zero, List.getElem?_cons_succ, List.set_cons_zero, List.set_cons_succ, List.map_cons, List.map_nil, List.cons_append, List.nil_append, List.length_cons, List.length_nil, Nat.reduceAdd, Nat.reduceSub, List.replicate_succ, List.replicate_zero, if_true, if_false, Bool.false_eq_true, Bool.not_true, Bool.not_false, ty_list hls, app_ok' hk hle]
      have e2 : acc ++ [w] = tk [] l := by rw [← e']; simp [pend, c1]
      refine (fin _ (pre_set p (Nat.le_refl _) _) (by rw [set_get hk, toStrs_snoc, e2])).mono (fun f h z => ?_) (fun _ _ _ z => z)
      cases f with
      | rt d => exact z
      | _ => exact z.elim
end K66

set_option Elab.async false
set_option linter.all false
set_option maxRecDepth 100000
set_option maxHeartbeats 4000000
/-! K66I: the stack of open rows; read_line. -/
namespace K66
open PySem PySem.NumText PyProof.Rows L2 Mi
def rowsAt (h : MH) : List Nat → List (List D) → Prop
  | [], [] => True
  | a :: as, r :: st => h[a]? = some (.lst r) ∧ rowsAt h as st
  | _, _ => False
theorem rowsAt_len {h : MH} : ∀ {as : List Nat} {st : List (List D)}, rowsAt h as st → as.length = st.length
  | [], [], _ => rfl
  | a :: as, r :: st, x => by simp [rowsAt_len x.2]
  | [], r :: st, x => x.elim
  | a :: as, [], x => x.elim
theorem rowsAt_lt {h : MH} : ∀ {as : List Nat} {st : List (List D)}, rowsAt h as st → ∀ a ∈ as, a < h.length
  | [], [], _, a, ha => by cases ha
  | b :: as, r :: st, x, a, ha => by
    rcases List.mem_cons.mp ha with e | e
    · rw [e]; exact (List.getElem?_eq_some_iff.mp x.1).1
    · exact rowsAt_lt x.2 a e
  | [], r :: st, x, _, _ => x.elim
  | a :: as, [], x, _, _ => x.elim
theorem rowsAt_set {h : MH} {k : Nat} {o : MO} : ∀ {as : List Nat} {st : List (List D)}, rowsAt h as st → k ∉ as → rowsAt (h.set k o) as st
  | [], [], _, _ => trivial
  | b :: as, r :: st, x, n => by
    have n1 : k ≠ b := fun e => n (by rw [e]; exact List.mem_cons_self ..)
    exact ⟨by rw [List.getElem?_set_ne n1]; exact x.1, rowsAt_set x.2 fun m => n (List.mem_cons_of_mem _ m)⟩
  | [], r :: st, x, _ => x.elim
  | a :: as, [], x, _ => x.elim
theorem rowsAt_pre {h h' : MH} (p : h <+: h') : ∀ {as : List Nat} {st : List (List D)}, rowsAt h as st → rowsAt h' as st
  | [], [], _ => trivial
  | b :: as, r :: st, x => ⟨pre_some p x.1, rowsAt_pre p x.2⟩
  | [], r :: st, x => x.elim
  | a :: as, [], x => x.elim
structure Stk (b : Nat) (h : MH) (K : Nat) (as : List Nat) (st : List (List D)) : Prop where
  at_ : h[K]? = some (.lst (as.reverse.map D.ref))
  lo : b ≤ K
  no : K ∉ as
  nd : as.Nodup
  los : ∀ a ∈ as, b ≤ a
  rows : rowsAt h as st
theorem Stk.ls {b K : Nat} {h : MH} {as : List Nat} {st : List (List D)} (s : Stk b h K as st) : lsAt h K = some (as.reverse.map D.ref) := lsAt_lst s.at_
theorem Stk.grow {b K : Nat} {h h' : MH} {as : List Nat} {st : List (List D)} (s : Stk b h K as st) (p : h <+: h') : Stk b h' K as st := ⟨pre_some p s.at_, s.lo, s.no, s.nd, s.los, rowsAt_pre p s.rows⟩
theorem Stk.push {b K : Nat} {h : MH} {as : List Nat} {st : List (List D)} (s : Stk b h K as st) : Stk b ((h ++ [MO.lst []]).set K (MO.lst (as.reverse.map D.ref ++ [D.ref h.length]))) K (h.length :: as) ([] :: st) := by
  have hK := (List.getElem?_eq_some_iff.mp s.at_).1
  have n1 : h.length ∉ as := fun m => Nat.lt_irrefl _ (rowsAt_lt s.rows _ m)
  refine ⟨?_, s.lo, ?_, ?_, ?_, ?_, ?_⟩
  · rw [List.getElem?_set_self (by simp; omega)]
    simp
  · intro m
    rcases List.mem_cons.mp m with e | e
    · omega
    · exact s.no e
  · exact List.nodup_cons.mpr ⟨n1, s.nd⟩
  · intro a ha
    rcases List.mem_cons.mp ha with e | e
    · have := s.lo; omega
    · exact s.los a e
  · rw [List.getElem?_set_ne (by omega)]
    simp
  · exact rowsAt_set (rowsAt_pre (pre_app _ _) s.rows) s.no
theorem Stk.top {b K : Nat} {h : MH} {a : Nat} {as : List Nat} {r r' : List D} {st : List (List D)} (s : Stk b h K (a :: as) (r :: st)) : Stk b (h.set a (.lst r')) K (a :: as) (r' :: st) := by
  have n0 : K ≠ a := fun e => s.no (by rw [e]; exact List.mem_cons_self ..)
  have n1 := (List.nodup_cons.mp s.nd).1
  exact ⟨by rw [List.getElem?_set_ne (Ne.symm n0)]; exact s.at_, s.lo, s.no, s.nd, s.los, set_get s.rows.1, rowsAt_set s.rows.2 n1⟩
theorem Stk.pop {b K : Nat} {h : MH} {a : Nat} {as : List Nat} {r : List D} {st : List (List D)} (s : Stk b h K (a :: as) (r :: st)) : Stk b (h.set K (.lst (as.reverse.map D.ref))) K as st ∧ (h.set K (.lst (as.reverse.map D.ref)))[a]? = some (.lst r) := by
  have n0 : K ≠ a := fun e => s.no (by rw [e]; exact List.mem_cons_self ..)
  have n2 : K ∉ as := fun m => s.no (List.mem_cons_of_mem _ m)
  exact ⟨⟨set_get s.at_, s.lo, n2, (List.nodup_cons.mp s.nd).2, fun x hx => s.los x (List.mem_cons_of_mem _ hx), rowsAt_set s.rows.2 n2⟩, by rw [List.getElem?_set_ne n0]; exact s.rows.1⟩
theorem atI_last {α : Type} {xs : List α} {x : α} : atI (xs ++ [x]) (-1) = some x := by
  unfold L2.atI ixN
  rw [if_neg (by omega), if_pos (by simp; omega)]
  show (xs ++ [x])[((-1 : Int) + ((xs ++ [x]).length : Nat)).toNat]? = some x
  have e : ((-1 : Int) + ((xs ++ [x]).length : Nat)).toNat = xs.length := by simp; omega
  rw [e]
  simp
section
variable {b K : Nat} {h : MH} {a : Nat} {as : List Nat} {r : List D} {st : List (List D)}
theorem Stk.ixLast (s : Stk b h K (a :: as) st) : opIx (.ref K) (.int (-1)) h = .ok (.ref a) h := by
  unfold opIx
  dsimp only
  rw [s.ls]
  dsimp only
  rw [List.reverse_cons, List.map_append]
  show (match atI (as.reverse.map D.ref ++ [D.ref a]) (-1) with | some d => _ | none => _) = _
  rw [atI_last]
theorem Stk.popOk (s : Stk b h K (a :: as) st) : mdPop (.ref K) [] h = .ok (.ref a) (h.set K (.lst (as.reverse.map D.ref))) := by
  unfold mdPop
  dsimp only
  rw [s.at_]
  dsimp only
  rw [List.reverse_cons, List.map_append]
  show (match (as.reverse.map D.ref ++ [D.ref a])[(as.reverse.map D.ref ++ [D.ref a]).length - 1]? with | some y => Res.ok y (h.set K (.lst (as.reverse.map D.ref ++ [D.ref a]).dropLast)) | none => Res.bad) = _
  have e : (as.reverse.map D.ref ++ [D.ref a])[(as.reverse.map D.ref ++ [D.ref a]).length - 1]? = some (D.ref a) := by simp
  rw [e, List.dropLast_concat]
theorem tupOf {k : Nat} {ds : List D} (e : lsAt h k = some ds) : cTuple [.ref k] h = .ok (.tup ds) h := by
  unfold cTuple
  dsimp only
  rw [e]
theorem eq_nat {m n : Nat} {mh : MH} : opEq (.int (m : Int)) (.int (n : Int)) mh = .ok (.bl (decide (m = n))) mh := by
  rw [Mi.eq_int]
  congr 2
  rw [Bool.eq_iff_iff, beq_iff_eq, decide_eq_true_eq]
  omega
end
theorem go_app : ∀ (a b : List Cs) (st : List (List D)), go st (a ++ b) = (go st a).bind fun s => go s b
  | [], b, st => rfl
  | t :: a, b, st => by
    show (step st t).bind (fun s => go s (a ++ b)) = ((step st t).bind fun s => go s a).bind fun s => go s b
    cases step st t with
    | none => rfl
    | some s => exact go_app a b s
theorem go_take {ts : List Cs} {i : Nat} {st : List (List D)} (hi : i < ts.length) (h : go [[]] (ts.take i) = some st) : go [[]] (ts.take (i + 1)) = step st ts[i] := by
  have et : ts.take (i + 1) = ts.take i ++ [ts[i]] := by rw [List.take_add_one, List.getElem?_eq_getElem hi]; rfl
  rw [et, go_app, h]
  show (step st ts[i]).bind (fun s => some s) = _
  cases step st ts[i] <;> rfl
theorem go_none {ts : List Cs} {i : Nat} {st : List (List D)} (hi : i < ts.length) (h : go [[]] (ts.take i) = some st) (hs : step st ts[i] = none) : go [[]] ts = none := by
  have e : ts = ts.take (i + 1) ++ ts.drop (i + 1) := (List.take_append_drop _ _).symm
  rw [e, go_app, go_take hi h, hs]
  rfl
theorem tk_ne : ∀ (l w : Cs), ∀ t ∈ tk w l, t ≠ []
  | [], w, t, h => by
    have h' : t ∈ pend w := h
    unfold pend at h'
    split at h'
    · cases h'
    · rename_i n; rw [List.mem_singleton.mp h']; exact n
  | c :: r, w, t, h => by
    unfold tk at h
    split at h
    · rcases List.mem_append.mp h with h | h
      · rcases List.mem_append.mp h with h | h
        · unfold pend at h
          split at h
          · cases h
          · rename_i n; rw [List.mem_singleton.mp h]; exact n
        · split at h
          · cases h
          · rw [List.mem_singleton.mp h]; simp
      · exact tk_ne r [] t h
    · exact tk_ne r (w ++ [c]) t h
/-- what stands before token i is read -/
def InvL (l : Cs) (n : Int) (kt K : Nat) (h0 : MH) (ts : List Cs) (i : Nat) (env : Mi.Env) (h : MH) : Prop :=
  ∃ (as : List Nat) (st : List (List D)) (y4 y5 : Option D), env = [some (.str (S l)), some (.int n), some (.ref kt), some (.ref K), y4, y5] ∧ h0 <+: h ∧ Stk h0.length h K as st ∧ go [[]] (ts.take i) = some st ∧ ∀ r ∈ st, r.length ≤ i
theorem read_line_step {l : Cs} {n : Int} {kt K : Nat} {h0 : MH} {ts : List Cs} {mh0 : MH} {R : Prop} (hn : 0 ≤ n ∧ n < 10 ^ 10) (ht : ∀ t ∈ ts, t ≠ [] ∧ t.length ≤ 1000000 ∧ okC t) (hlen : ts.length ≤ 1000000) (hR : go [[]] ts = none → R) (hp : mh0 <+: h0)
    {i : Nat} (hi : i < ts.length) {env : Mi.Env} {h : MH} (inv : InvL l n kt K h0 ts i env h) :
    PX (L1_read_line (env.set 4 (some (.str (S ts[i])))) h) (fun f h => match f with | .nx e => InvL l n kt K h0 ts (i + 1) e h | _ => False) (fun c fs h => R ∧ c = 0 ∧ fs = lineF n ∧ mh0 <+: h) := by
  have hSL : SL = 16777216 := rfl
  obtain ⟨as, st, y4, y5, rfl, p, s, eg, hr⟩ := inv
  obtain ⟨t1, t2, t3⟩ := ht ts[i] (List.getElem_mem hi)
  have est := go_take hi eg
  have eno := go_none hi eg
  have ok := go_ok _ eg okSt0
  have okn : okX (.int n) = true := cdec_iff.mpr hn
  have hlas := rowsAt_len s.rows
  obtain ⟨top, rest, rfl⟩ : ∃ top rest, st = top :: rest := by
    cases st with
    | nil =>
      exfalso
      have : ∀ (ts : List Cs) (st : List (List D)), st ≠ [] → go st ts ≠ some [] := by
        intro ts
        induction ts with
        | nil => intro st h e; cases e; exact h rfl
        | cons t ts ih =>
          intro st h e
          obtain ⟨s1, e1, e2⟩ := Option.bind_eq_some_iff.mp e
          refine ih s1 ?_ e2
          cases st with
          | nil => exact absurd rfl h
          | cons top rest =>
            unfold step at e1
            dsimp only at e1
            split at e1
            · split at e1
              · cases e1
              · cases e1; simp
            · split at e1
              · split at e1
                · cases e1
                · cases e1; simp
              · obtain ⟨d, _, e3⟩ := Option.map_eq_some_iff.mp e1
                rw [← e3]; simp
      exact this _ [[]] (by simp) eg
    | cons top rest => exact ⟨top, rest, rfl⟩
  obtain ⟨a, as, rfl⟩ : ∃ a as', as = a :: as' := by
    cases as with
    | nil => cases hlas
    | cons a as => exact ⟨a, as, rfl⟩
  have hrl : rest.length ≤ 11 := by have := ok.2.1; omega
  have hal : as.length = rest.length := by simpa using hlas
  have hl1 : ((a :: as).reverse.map D.ref).length = rest.length + 1 := by simp [hal]
  have htop : top.length ≤ i := hr top (List.mem_cons_self ..)
  unfold L1_read_line C2_read_line
  simp only [ev_var, ev_C, ev_bin, ev_and, ev_or, ev_not, ev_neg, ev_opNeg, ev_tru, ev_truB, ev_B, ev_tAnd, ev_tOr, ev_tNot, ev_if, ev_nil, ev_cons, ev_tup, ev_lst, ev_P0, ev_P1, ev_sl, ev_CB, ev_call, ev_skip, ev_seq, ev_break, ev_cont, ev_drop, ev_ret, ev_retN, ev_ifS, ev_set, ev_asgN, ev_setIx, ev_iter, ev_rng1, ev_for, ev_yes, ev_def, ev_meth0, ev_meth, ev_isI, ev_raise, ev_repl, ev_split1, px_bind, px_safe, px_ok, px_exc, px_bad, px_iteB, px_ite, List.getElem?_cons_zero, List.getElem?_cons_succ, List.set_cons_zero, List.set_cons_succ, List.map_cons, List.map_nil, List.cons_append, List.nil_append, List.length_cons, List.length_nil, Nat.reduceAdd, Nat.reduceSub, List.replicate_succ, List.replicate_zero, if_true, if_false, Bool.false_eq_true, Bool.not_true, Bool.not_false, k_op, s_eq t3 okC40]
  by_cases c1 : ts[i] = [40]
  · simp only [decide_eq_true c1, ev_var, ev_C, ev_bin, ev_and, ev_or, ev_not, ev_neg, ev_opNeg, ev_tru, ev_truB, ev_B, ev_tAnd, ev_tOr, ev_tNot, ev_if, ev_nil, ev_cons, ev_tup, ev_lst, ev_P0, ev_P1, ev_sl, ev_CB, ev_call, ev_skip, ev_seq, ev_break, ev_cont, ev_drop, ev_ret, ev_retN, ev_ifS, ev_set, ev_asgN, ev_setIx, ev_iter, ev_rng1, ev_for, ev_yes, ev_def, ev_meth0, ev_meth, ev_isI, ev_raise, ev_repl, ev_split1, px_bind, px_safe, px_ok, px_exc, px_bad, px_iteB, px_ite, List.getElem?_cons_zero, List.getElem?_cons_succ, List.set_cons_zero, List.set_cons_succ, List.map_cons, List.map_nil, List.cons_append, List.nil_append, List.length_cons, List.length_nil, Nat.reduceAdd, Nat.reduceSub, List.replicate_succ, List.replicate_zero, if_true, if_false, Bool.false_eq_true, Bool.not_true, Bool.not_false]
    unfold C3_read_line
    have e12 : opEq (.int ((rest.length + 1 : Nat) : Int)) (.int 12) h = .ok (.bl (decide (rest.length + 1 = 12))) h := eq_nat (n := 12)
    simp only [ev_var, ev_C, ev_bin, ev_and, ev_or, ev_not, ev_neg, ev_opNeg, ev_tru, ev_truB, ev_B, ev_tAnd, ev_tOr, ev_tNot, ev_if, ev_nil, ev_cons, ev_tup, ev_lst, ev_P0, ev_P1, ev_sl, ev_CB, ev_call, ev_skip, ev_seq, ev_break, ev_cont, ev_drop, ev_ret, ev_retN, ev_ifS, ev_set, ev_asgN, ev_setIx, ev_iter, ev_rng1, ev_for, ev_yes, ev_def, ev_meth0, ev_meth, ev_isI, ev_raise, ev_repl, ev_split1, px_bind, px_safe, px_ok, px_exc, px_bad, px_iteB, px_ite, List.getElem?_cons_zero, List.getElem?_cons_succ, List.set_cons_zero, List.set_cons_succ, List.map_cons, List.map_nil, List.cons_append, List.nil_append, List.length_cons, List.length_nil, Nat.reduceAdd, Nat.reduceSub, List.replicate_succ, List.replicate_zero, if_true, if_false, Bool.false_eq_true, Bool.not_true, Bool.not_false, len_ls s.ls, hl1, e12]
    by_cases c2 : rest.length = 11
    · have c2' : rest.length + 1 = 12 := by omega
      simp only [decide_eq_true c2', ev_var, ev_C, ev_bin, ev_and, ev_or, ev_not, ev_neg, ev_opNeg, ev_tru, ev_truB, ev_B, ev_tAnd, ev_tOr, ev_tNot, ev_if, ev_nil, ev_cons, ev_tup, ev_lst, ev_P0, ev_P1, ev_sl, ev_CB, ev_call, ev_skip, ev_seq, ev_break, ev_cont, ev_drop, ev_ret, ev_retN, ev_ifS, ev_set, ev_asgN, ev_setIx, ev_iter, ev_rng1, ev_for, ev_yes, ev_def, ev_meth0, ev_meth, ev_isI, ev_raise, ev_repl, ev_split1, px_bind, px_safe, px_ok, px_exc, px_bad, px_iteB, px_ite, List.getElem?_cons_zero, List.getElem?_cons_succ, List.set_cons_zero, List.set_cons_succ, List.map_cons, List.map_nil, List.cons_append, List.nil_append, List.length_cons, List.length_nil, Nat.reduceAdd, Nat.reduceSub, List.replicate_succ, List.replicate_zero, if_true, if_false, Bool.false_eq_true, Bool.not_true, Bool.not_false, okn]
      refine ⟨hR (eno ?_), trivial, trivial, hp.trans p⟩
      unfold step
      dsimp only
      rw [if_pos c1, if_pos c2]
    · have c2' : ¬ rest.length + 1 = 12 := by omega
      have es : step (top :: rest) ts[i] = some ([] :: top :: rest) := by
        unfold step
        dsimp only
        rw [if_pos c1, if_neg c2]
      simp only [decide_eq_false c2', ev_var, ev_C, ev_bin, ev_and, ev_or, ev_not, ev_neg, ev_opNeg, ev_tru, ev_truB, ev_B, ev_tAnd, ev_tOr, ev_tNot, ev_if, ev_nil, ev_cons, ev_tup, ev_lst, ev_P0, ev_P1, ev_sl, ev_CB, ev_call, ev_skip, ev_seq, ev_break, ev_cont, ev_drop, ev_ret, ev_retN, ev_ifS, ev_set, ev_asgN, ev_setIx, ev_iter, ev_rng1, ev_for, ev_yes, ev_def, ev_meth0, ev_meth, ev_isI, ev_raise, ev_repl, ev_split1, px_bind, px_safe, px_ok, px_exc, px_bad, px_iteB, px_ite, List.getElem?_cons_zero, List.getElem?_cons_succ, List.set_cons_zero, List.set_cons_succ, List.map_cons, List.map_nil, List.cons_append, List.nil_append, List.length_cons, List.length_nil, Nat.reduceAdd, Nat.reduceSub, List.replicate_succ, List.replicate_zero, if_true, if_false, Bool.false_eq_true, Bool.not_true, Bool.not_false]
      unfold T1_read_line
      have b0 : (0 : Nat) ≤ SL := by omega
      have q : (h ++ [MO.lst []])[K]? = some (.lst ((a :: as).reverse.map D.ref)) := pre_some (pre_app _ _) s.at_
      simp only [ev_var, ev_C, ev_bin, ev_and, ev_or, ev_not, ev_neg, ev_opNeg, ev_tru, ev_truB, ev_B, ev_tAnd, ev_tOr, ev_tNot, ev_if, ev_nil, ev_cons, ev_tup, ev_lst, ev_P0, ev_P1, ev_sl, ev_CB, ev_call, ev_skip, ev_seq, ev_break, ev_cont, ev_drop, ev_ret, ev_retN, ev_ifS, ev_set, ev_asgN, ev_setIx, ev_iter, ev_rng1, ev_for, ev_yes, ev_def, ev_meth0, ev_meth, ev_isI, ev_raise, ev_repl, ev_split1, px_bind, px_safe, px_ok, px_exc, px_bad, px_iteB, px_ite, List.getElem?_cons_zero, List.getElem?_cons_succ, List.set_cons_zero, List.set_cons_succ, List.map_cons, List.map_nil, List.cons_append, List.nil_append, List.length_cons, List.length_nil, Nat.reduceAdd, Nat.reduceSub, List.replicate_succ, List.replicate_zero, if_true, if_false, Bool.false_eq_true, Bool.not_true, Bool.not_false, ty_list s.ls, b0, app_ok' q (show ((a :: as).reverse.map D.ref).length < SL by rw [hl1]; omega)]
      refine ⟨h.length :: a :: as, [] :: top :: rest, _, y5, rfl, pre_set (p.trans (pre_app _ _)) s.lo _, s.push, by rw [est, es], ?_⟩
      intro r hrm
      rcases List.mem_cons.mp hrm with e | e
      · rw [e]; exact Nat.zero_le _
      · exact Nat.le_succ_of_le (hr r e)
  · simp only [decide_eq_false c1, ev_var, ev_C, ev_bin, ev_and, ev_or, ev_not, ev_neg, ev_opNeg, ev_tru, ev_truB, ev_B, ev_tAnd, ev_tOr, ev_tNot, ev_if, ev_nil, ev_cons, ev_tup, ev_lst, ev_P0, ev_P1, ev_sl, ev_CB, ev_call, ev_skip, ev_seq, ev_break, ev_cont, ev_drop, ev_ret, ev_retN, ev_ifS, ev_set, ev_asgN, ev_setIx, ev_iter, ev_rng1, ev_for, ev_yes, ev_def, ev_meth0, ev_meth, ev_isI, ev_raise, ev_repl, ev_split1, px_bind, px_safe, px_ok, px_exc, px_bad, px_iteB, px_ite, List.getElem?_cons_zero, List.getElem?_cons_succ, List.set_cons_zero, List.set_cons_succ, List.map_cons, List.map_nil, List.cons_append, List.nil_append, List.length_cons, List.length_nil, Nat.reduceAdd, Nat.reduceSub, List.replicate_succ, List.replicate_zero, if_true, if_false, Bool.false_eq_true, Bool.not_true, Bool.not_false]
    unfold C4_read_line
    simp only [ev_var, ev_C, ev_bin, ev_and, ev_or, ev_not, ev_neg, ev_opNeg, ev_tru, ev_truB, ev_B, ev_tAnd, ev_tOr, ev_tNot, ev_if, ev_nil, ev_cons, ev_tup, ev_lst, ev_P0, ev_P1, ev_sl, ev_CB, ev_call, ev_skip, ev_seq, ev_break, ev_cont, ev_drop, ev_ret, ev_retN, ev_ifS, ev_set, ev_asgN, ev_setIx, ev_iter, ev_rng1, ev_for, ev_yes, ev_def, ev_meth0, ev_meth, ev_isI, ev_raise, ev_repl, ev_split1, px_bind, px_safe, px_ok, px_exc, px_bad, px_iteB, px_ite, List.getElem?_cons_zero, List.getElem?_cons_succ, List.set_cons_zero, List.set_cons_succ, List.map_cons, List.map_nil, List.cons_append, List.nil_append, List.length_cons, List.length_nil, Nat.reduceAdd, Nat.reduceSub, List.replicate_succ, List.replicate_zero, if_true, if_false, Bool.false_eq_true, Bool.not_true, Bool.not_false, k_cl, s_eq t3 okC41]
    by_cases c2 : ts[i] = [41]
    · simp only [decide_eq_true c2, ev_var, ev_C, ev_bin, ev_and, ev_or, ev_not, ev_neg, ev_opNeg, ev_tru, ev_truB, ev_B, ev_tAnd, ev_tOr, ev_tNot, ev_if, ev_nil, ev_cons, ev_tup, ev_lst, ev_P0, ev_P1, ev_sl, ev_CB, ev_call, ev_skip, ev_seq, ev_break, ev_cont, ev_drop, ev_ret, ev_retN, ev_ifS, ev_set, ev_asgN, ev_setIx, ev_iter, ev_rng1, ev_for, ev_yes, ev_def, ev_meth0, ev_meth, ev_isI, ev_raise, ev_repl, ev_split1, px_bind, px_safe, px_ok, px_exc, px_bad, px_iteB, px_ite, List.getElem?_cons_zero, List.getElem?_cons_succ, List.set_cons_zero, List.set_cons_succ, List.map_cons, List.map_nil, List.cons_append, List.nil_append, List.length_cons, List.length_nil, Nat.reduceAdd, Nat.reduceSub, List.replicate_succ, List.replicate_zero, if_true, if_false, Bool.false_eq_true, Bool.not_true, Bool.not_false]
      unfold C5_read_line
      have e1 : opEq (.int ((rest.length + 1 : Nat) : Int)) (.int 1) h = .ok (.bl (decide (rest.length + 1 = 1))) h := eq_nat (n := 1)
      simp only [ev_var, ev_C, ev_bin, ev_and, ev_or, ev_not, ev_neg, ev_opNeg, ev_tru, ev_truB, ev_B, ev_tAnd, ev_tOr, ev_tNot, ev_if, ev_nil, ev_cons, ev_tup, ev_lst, ev_P0, ev_P1, ev_sl, ev_CB, ev_call, ev_skip, ev_seq, ev_break, ev_cont, ev_drop, ev_ret, ev_retN, ev_ifS, ev_set, ev_asgN, ev_setIx, ev_iter, ev_rng1, ev_for, ev_yes, ev_def, ev_meth0, ev_meth, ev_isI, ev_raise, ev_repl, ev_split1, px_bind, px_safe, px_ok, px_exc, px_bad, px_iteB, px_ite, List.getElem?_cons_zero, List.getElem?_cons_succ, List.set_cons_zero, List.set_cons_succ, List.map_cons, List.map_nil, List.cons_append, List.nil_append, List.length_cons, List.length_nil, Nat.reduceAdd, Nat.reduceSub, List.replicate_succ, List.replicate_zero, if_true, if_false, Bool.false_eq_true, Bool.not_true, Bool.not_false, len_ls s.ls, hl1, e1]
      cases rest with
      | nil =>
        simp only [List.length_nil, Nat.zero_add, decide_true, ev_var, ev_C, ev_bin, ev_and, ev_or, ev_not, ev_neg, ev_opNeg, ev_tru, ev_truB, ev_B, ev_tAnd, ev_tOr, ev_tNot, ev_if, ev_nil, ev_cons, ev_tup, ev_lst, ev_P0, ev_P1, ev_sl, ev_CB, ev_call, ev_skip, ev_seq, ev_break, ev_cont, ev_drop, ev_ret, ev_retN, ev_ifS, ev_set, ev_asgN, ev_setIx, ev_iter, ev_rng1, ev_for, ev_yes, ev_def, ev_meth0, ev_meth, ev_isI, ev_raise, ev_repl, ev_split1, px_bind, px_safe, px_ok, px_exc, px_bad, px_iteB, px_ite, List.getElem?_cons_zero, List.getElem?_cons_succ, List.set_cons_zero, List.set_cons_succ, List.map_cons, List.map_nil, List.cons_append, List.nil_append, List.length_cons, List.length_nil, Nat.reduceAdd, Nat.reduceSub, List.replicate_succ, List.replicate_zero, if_true, if_false, Bool.false_eq_true, Bool.not_true, Bool.not_false, okn]
        refine ⟨hR (eno ?_), trivial, trivial, hp.trans p⟩
        unfold step
        dsimp only
        rw [if_neg c1, if_pos c2]
      | cons nxt rest =>
        have es : step (top :: nxt :: rest) ts[i] = some ((nxt ++ [.tup top]) :: rest) := by
          unfold step
          dsimp only
          rw [if_neg c1, if_pos c2]
        obtain ⟨a2, as, rfl⟩ : ∃ a as', as = a :: as' := by
          cases as with
          | nil => cases hal
          | cons a as => exact ⟨a, as, rfl⟩
        obtain ⟨s2, ea⟩ := s.pop
        have c3 : ¬ (nxt :: rest).length + 1 = 1 := by simp
        simp only [decide_eq_false c3, ev_var, ev_C, ev_bin, ev_and, ev_or, ev_not, ev_neg, ev_opNeg, ev_tru, ev_truB, ev_B, ev_tAnd, ev_tOr, ev_tNot, ev_if, ev_nil, ev_cons, ev_tup, ev_lst, ev_P0, ev_P1, ev_sl, ev_CB, ev_call, ev_skip, ev_seq, ev_break, ev_cont, ev_drop, ev_ret, ev_retN, ev_ifS, ev_set, ev_asgN, ev_setIx, ev_iter, ev_rng1, ev_for, ev_yes, ev_def, ev_meth0, ev_meth, ev_isI, ev_raise, ev_repl, ev_split1, px_bind, px_safe, px_ok, px_exc, px_bad, px_iteB, px_ite, List.getElem?_cons_zero, List.getElem?_cons_succ, List.set_cons_zero, List.set_cons_succ, List.map_cons, List.map_nil, List.cons_append, List.nil_append, List.length_cons, List.length_nil, Nat.reduceAdd, Nat.reduceSub, List.replicate_succ, List.replicate_zero, if_true, if_false, Bool.false_eq_true, Bool.not_true, Bool.not_false]
        unfold T3_read_line
        simp only [ev_var, ev_C, ev_bin, ev_and, ev_or, ev_not, ev_neg, ev_opNeg, ev_tru, ev_truB, ev_B, ev_tAnd, ev_tOr, ev_tNot, ev_if, ev_nil, ev_cons, ev_tup, ev_lst, ev_P0, ev_P1, ev_sl, ev_CB, ev_call, ev_skip, ev_seq, ev_break, ev_cont, ev_drop, ev_ret, ev_retN, ev_ifS, ev_set, ev_asgN, ev_setIx, ev_iter, ev_rng1, ev_for, ev_yes, ev_def, ev_meth0, ev_meth, ev_isI, ev_raise, ev_repl, ev_split1, px_bind, px_safe, px_ok, px_exc, px_bad, px_iteB, px_ite, List.getElem?_cons_zero, List.getElem?_cons_succ, List.set_cons_zero, List.set_cons_succ, List.map_cons, List.map_nil, List.cons_append, List.nil_append, List.length_cons, List.length_nil, Nat.reduceAdd, Nat.reduceSub, List.replicate_succ, List.replicate_zero, if_true, if_false, Bool.false_eq_true, Bool.not_true, Bool.not_false, ty_list s.ls, s.popOk, tupOf (lsAt_lst ea)]
        unfold T2_read_line
        have hnx : nxt.length ≤ i := hr nxt (by simp)
        simp only [ev_var, ev_C, ev_bin, ev_and, ev_or, ev_not, ev_neg, ev_opNeg, ev_tru, ev_truB, ev_B, ev_tAnd, ev_tOr, ev_tNot, ev_if, ev_nil, ev_cons, ev_tup, ev_lst, ev_P0, ev_P1, ev_sl, ev_CB, ev_call, ev_skip, ev_seq, ev_break, ev_cont, ev_drop, ev_ret, ev_retN, ev_ifS, ev_set, ev_asgN, ev_setIx, ev_iter, ev_rng1, ev_for, ev_yes, ev_def, ev_meth0, ev_meth, ev_isI, ev_raise, ev_repl, ev_split1, px_bind, px_safe, px_ok, px_exc, px_bad, px_iteB, px_ite, List.getElem?_cons_zero, List.getElem?_cons_succ, List.set_cons_zero, List.set_cons_succ, List.map_cons, List.map_nil, List.cons_append, List.nil_append, List.length_cons, List.length_nil, Nat.reduceAdd, Nat.reduceSub, List.replicate_succ, List.replicate_zero, if_true, if_false, Bool.false_eq_true, Bool.not_true, Bool.not_false, s2.ixLast, ty_list (lsAt_lst s2.rows.1), app_ok' s2.rows.1 (show nxt.length < SL by omega)]
        refine ⟨a2 :: as, (nxt ++ [.tup top]) :: rest, _, _, rfl, pre_set (pre_set p s.lo _) (s2.los a2 (List.mem_cons_self ..)) _, s2.top, by rw [est, es], ?_⟩
        intro r hrm
        rcases List.mem_cons.mp hrm with e | e
        · rw [e, List.length_append]; simp only [List.length_cons, List.length_nil]; omega
        · exact Nat.le_succ_of_le (hr r (by simp [e]))
    · simp only [decide_eq_false c2, ev_var, ev_C, ev_bin, ev_and, ev_or, ev_not, ev_neg, ev_opNeg, ev_tru, ev_truB, ev_B, ev_tAnd, ev_tOr, ev_tNot, ev_if, ev_nil, ev_cons, ev_tup, ev_lst, ev_P0, ev_P1, ev_sl, ev_CB, ev_call, ev_skip, ev_seq, ev_break, ev_cont, ev_drop, ev_ret, ev_retN, ev_ifS, ev_set, ev_asgN, ev_setIx, ev_iter, ev_rng1, ev_for, ev_yes, ev_def, ev_meth0, ev_meth, ev_isI, ev_raise, ev_repl, ev_split1, px_bind, px_safe, px_ok, px_exc, px_bad, px_iteB, px_ite, List.getElem?_cons_zero, List.getElem?_cons_succ, List.set_cons_zero, List.set_cons_succ, List.map_cons, List.map_nil, List.cons_append, List.nil_append, List.length_cons, List.length_nil, Nat.reduceAdd, Nat.reduceSub, List.replicate_succ, List.replicate_zero, if_true, if_false, Bool.false_eq_true, Bool.not_true, Bool.not_false, s.ixLast, ty_list (lsAt_lst s.rows.1)]
      refine (read_word_px t1 t2 t3 hn h).mono (fun d h2 z => ?_) (fun c fs h2 z => ?_)
      · obtain ⟨ed, p2⟩ := z
        have s2 := s.grow p2
        have es : step (top :: rest) ts[i] = some ((top ++ [d]) :: rest) := by
          unfold step
          dsimp only
          rw [if_neg c1, if_neg c2, ed]
          rfl
        simp only [ev_var, ev_C, ev_bin, ev_and, ev_or, ev_not, ev_neg, ev_opNeg, ev_tru, ev_truB, ev_B, ev_tAnd, ev_tOr, ev_tNot, ev_if, ev_nil, ev_cons, ev_tup, ev_lst, ev_P0, ev_P1, ev_sl, ev_CB, ev_call, ev_skip, ev_seq, ev_break, ev_cont, ev_drop, ev_ret, ev_retN, ev_ifS, ev_set, ev_asgN, ev_setIx, ev_iter, ev_rng1, ev_for, ev_yes, ev_def, ev_meth0, ev_meth, ev_isI, ev_raise, ev_repl, ev_split1, px_bind, px_safe, px_ok, px_exc, px_bad, px_iteB, px_ite, List.getElem?_cons_zero, List.getElem?_cons_succ, List.set_cons_zero, List.set_cons_succ, List.map_cons, List.map_nil, List.cons_append, List.nil_append, List.length_cons, List.length_nil, Nat.reduceAdd, Nat.reduceSub, List.replicate_succ, List.replicate_zero, if_true, if_false, Bool.false_eq_true, Bool.not_true, Bool.not_false, app_ok' s2.rows.1 (show top.length < SL by omega)]
        refine ⟨a :: as, (top ++ [d]) :: rest, _, y5, rfl, pre_set (p.trans p2) (s2.los a (List.mem_cons_self ..)) _, s2.top, by rw [est, es], ?_⟩
        intro r hrm
        rcases List.mem_cons.mp hrm with e | e
        · rw [e, List.length_append]; simp only [List.length_cons, List.length_nil]; omega
        · exact Nat.le_succ_of_le (hr r (by simp [e]))
      · obtain ⟨ed, z1, z2, p2⟩ := z
        refine ⟨hR (eno ?_), z1, z2, (hp.trans p).trans p2⟩
        unfold step
        dsimp only
        rw [if_neg c1, if_neg c2, ed]
        rfl
end K66

set_option Elab.async false
set_option linter.all false
set_option maxRecDepth 100000
set_option maxHeartbeats 4000000
/-! K66J: read_line, paper_from, _law_told. -/
namespace K66
open PySem PySem.NumText PyProof.Rows L2 Mi
theorem toStrs_at {ts : List Cs} {j : Nat} (h : j < ts.length) : (toStrs ts)[j]? = some (.str (S ts[j])) := by unfold toStrs; rw [List.getElem?_map, List.getElem?_eq_getElem h]; rfl
theorem toStrs_len (ts : List Cs) : (toStrs ts).length = ts.length := List.length_map ..
theorem srcL_at {h : MH} {k j : Nat} {ds : List D} (e : lsAt h k = some ds) : srcL k j h = some ds[j]? := by unfold srcL; rw [e]; rfl
theorem read_line_px {l : Cs} {n : Int} (hl : l.length ≤ 400000) (hc : okC l) (hn : 0 ≤ n ∧ n < 10 ^ 10) (mh : MH) :
    PX (F_read_line [.str (S l), .int n] mh) (fun d h => mh <+: h ∧ ∃ row, readLine l = some row ∧ d = .tup row) (fun c fs h => readLine l = none ∧ c = 0 ∧ fs = lineF n ∧ mh <+: h) := by
  have hSL : SL = 16777216 := rfl
  have okn : okX (.int n) = true := cdec_iff.mpr hn
  unfold F_read_line B_read_line
  simp only [ev_var, ev_C, ev_bin, ev_and, ev_or, ev_not, ev_neg, ev_opNeg, ev_tru, ev_truB, ev_B, ev_tAnd, ev_tOr, ev_tNot, ev_if, ev_nil, ev_cons, ev_tup, ev_lst, ev_P0, ev_P1, ev_sl, ev_CB, ev_call, ev_skip, ev_seq, ev_break, ev_cont, ev_drop, ev_ret, ev_retN, ev_ifS, ev_set, ev_asgN, ev_setIx, ev_iter, ev_rng1, ev_for, ev_yes, ev_def, ev_meth0, ev_meth, ev_isI, ev_raise, ev_repl, ev_split1, px_bind, px_safe, px_ok, px_exc, px_bad, px_iteB, px_ite, List.getElem?_cons_zero, List.getElem?_cons_succ, List.set_cons_zero, List.set_cons_succ, List.map_cons, List.map_nil, List.cons_append, List.nil_append, List.length_cons, List.length_nil, Nat.reduceAdd, Nat.reduceSub, List.replicate_succ, List.replicate_zero, if_true, if_false, Bool.false_eq_true, Bool.not_true, Bool.not_false]
  refine (line_tokens_px (show l.length ≤ 1000000 by omega) hc mh).imp fun d h z => ?_
  obtain ⟨p0, z⟩ := z
  have hwt := wt_tk l []
  have hok := okC_tk l [] okC_nil hc
  have hne := tk_ne l []
  generalize hts : tk [] l = ts at z hwt hok hne
  simp only [List.length_nil, Nat.zero_add] at hwt
  unfold T8_read_line C1_read_line
  by_cases c0 : lineOf ts = l
  · rw [if_pos c0] at z
    obtain ⟨rfl, hk⟩ := z
    have hls := lsAt_lst hk
    have e0 : opEq (.int (ts.length : Nat)) (.int 0) h = .ok (.bl (decide (ts.length = 0))) h := eq_nat (n := 0)
    have ei : opIs (.ref mh.length) .non h = .ok (.bl false) h := rfl
    simp only [ev_var, ev_C, ev_bin, ev_and, ev_or, ev_not, ev_neg, ev_opNeg, ev_tru, ev_truB, ev_B, ev_tAnd, ev_tOr, ev_tNot, ev_if, ev_nil, ev_cons, ev_tup, ev_lst, ev_P0, ev_P1, ev_sl, ev_CB, ev_call, ev_skip, ev_seq, ev_break, ev_cont, ev_drop, ev_ret, ev_retN, ev_ifS, ev_set, ev_asgN, ev_setIx, ev_iter, ev_rng1, ev_for, ev_yes, ev_def, ev_meth0, ev_meth, ev_isI, ev_raise, ev_repl, ev_split1, px_bind, px_safe, px_ok, px_exc, px_bad, px_iteB, px_ite, List.getElem?_cons_zero, List.getElem?_cons_succ, List.set_cons_zero, List.set_cons_succ, List.map_cons, List.map_nil, List.cons_append, List.nil_append, List.length_cons, List.length_nil, Nat.reduceAdd, Nat.reduceSub, List.replicate_succ, List.replicate_zero, if_true, if_false, Bool.false_eq_true, Bool.not_true, Bool.not_false, ei, len_ls hls, toStrs_len, e0]
    by_cases c1 : ts = []
    · have c1' : ts.length = 0 := by rw [c1]; rfl
      simp only [decide_eq_true c1', ev_var, ev_C, ev_bin, ev_and, ev_or, ev_not, ev_neg, ev_opNeg, ev_tru, ev_truB, ev_B, ev_tAnd, ev_tOr, ev_tNot, ev_if, ev_nil, ev_cons, ev_tup, ev_lst, ev_P0, ev_P1, ev_sl, ev_CB, ev_call, ev_skip, ev_seq, ev_break, ev_cont, ev_drop, ev_ret, ev_retN, ev_ifS, ev_set, ev_asgN, ev_setIx, ev_iter, ev_rng1, ev_for, ev_yes, ev_def, ev_meth0, ev_meth, ev_isI, ev_raise, ev_repl, ev_split1, px_bind, px_safe, px_ok, px_exc, px_bad, px_iteB, px_ite, List.getElem?_cons_zero, List.getElem?_cons_succ, List.set_cons_zero, List.set_cons_succ, List.map_cons, List.map_nil, List.cons_append, List.nil_append, List.length_cons, List.length_nil, Nat.reduceAdd, Nat.reduceSub, List.replicate_succ, List.replicate_zero, if_true, if_false, Bool.false_eq_true, Bool.not_true, Bool.not_false, okn]
      refine ⟨?_, trivial, trivial, p0⟩
      unfold readLine
      rw [hts, if_pos (.inl c1)]
    · have c1' : ¬ ts.length = 0 := fun e => c1 (List.length_eq_zero_iff.mp e)
      have er : readLine l = (go [[]] ts).bind oneRow := by
        unfold readLine
        rw [hts, if_neg (by rintro (e | e); exact c1 e; exact e c0)]
      have hcnt := wt_count ts
      simp only [decide_eq_false c1', ev_var, ev_C, ev_bin, ev_and, ev_or, ev_not, ev_neg, ev_opNeg, ev_tru, ev_truB, ev_B, ev_tAnd, ev_tOr, ev_tNot, ev_if, ev_nil, ev_cons, ev_tup, ev_lst, ev_P0, ev_P1, ev_sl, ev_CB, ev_call, ev_skip, ev_seq, ev_break, ev_cont, ev_drop, ev_ret, ev_retN, ev_ifS, ev_set, ev_asgN, ev_setIx, ev_iter, ev_rng1, ev_for, ev_yes, ev_def, ev_meth0, ev_meth, ev_isI, ev_raise, ev_repl, ev_split1, px_bind, px_safe, px_ok, px_exc, px_bad, px_iteB, px_ite, List.getElem?_cons_zero, List.getElem?_cons_succ, List.set_cons_zero, List.set_cons_succ, List.map_cons, List.map_nil, List.cons_append, List.nil_append, List.length_cons, List.length_nil, Nat.reduceAdd, Nat.reduceSub, List.replicate_succ, List.replicate_zero, if_true, if_false, Bool.false_eq_true, Bool.not_true, Bool.not_false]
      unfold T7_read_line
      have b0 : (0 : Nat) ≤ SL := by omega
      have b1 : (0 + 1 : Nat) ≤ SL := by omega
      have b1' : (1 : Nat) ≤ SL := by omega
      simp only [ev_var, ev_C, ev_bin, ev_and, ev_or, ev_not, ev_neg, ev_opNeg, ev_tru, ev_truB, ev_B, ev_tAnd, ev_tOr, ev_tNot, ev_if, ev_nil, ev_cons, ev_tup, ev_lst, ev_P0, ev_P1, ev_sl, ev_CB, ev_call, ev_skip, ev_seq, ev_break, ev_cont, ev_drop, ev_ret, ev_retN, ev_ifS, ev_set, ev_asgN, ev_setIx, ev_iter, ev_rng1, ev_for, ev_yes, ev_def, ev_meth0, ev_meth, ev_isI, ev_raise, ev_repl, ev_split1, px_bind, px_safe, px_ok, px_exc, px_bad, px_iteB, px_ite, List.getElem?_cons_zero, List.getElem?_cons_succ, List.set_cons_zero, List.set_cons_succ, List.map_cons, List.map_nil, List.cons_append, List.nil_append, List.length_cons, List.length_nil, Nat.reduceAdd, Nat.reduceSub, List.replicate_succ, List.replicate_zero, if_true, if_false, Bool.false_eq_true, Bool.not_true, Bool.not_false, b0, b1, b1']
      unfold T6_read_line
      have pf : h <+: h ++ [MO.lst []] ++ [MO.lst [D.ref h.length]] := (pre_app _ _).trans (pre_app _ _)
      have hls2 : lsAt (h ++ [MO.lst []] ++ [MO.lst [D.ref h.length]]) mh.length = some (toStrs ts) := pre_ls pf hls
      simp only [ev_var, ev_C, ev_bin, ev_and, ev_or, ev_not, ev_neg, ev_opNeg, ev_tru, ev_truB, ev_B, ev_tAnd, ev_tOr, ev_tNot, ev_if, ev_nil, ev_cons, ev_tup, ev_lst, ev_P0, ev_P1, ev_sl, ev_CB, ev_call, ev_skip, ev_seq, ev_break, ev_cont, ev_drop, ev_ret, ev_retN, ev_ifS, ev_set, ev_asgN, ev_setIx, ev_iter, ev_rng1, ev_for, ev_yes, ev_def, ev_meth0, ev_meth, ev_isI, ev_raise, ev_repl, ev_split1, px_bind, px_safe, px_ok, px_exc, px_bad, px_iteB, px_ite, List.getElem?_cons_zero, List.getElem?_cons_succ, List.set_cons_zero, List.set_cons_succ, List.map_cons, List.map_nil, List.cons_append, List.nil_append, List.length_cons, List.length_nil, Nat.reduceAdd, Nat.reduceSub, List.replicate_succ, List.replicate_zero, if_true, if_false, Bool.false_eq_true, Bool.not_true, Bool.not_false, hls2, toStrs_len]
      refine loop_px (InvL l n mh.length (h ++ [MO.lst []]).length h ts) _ _ _ _ ⟨[h.length], [[]], none, none, rfl, pf, ⟨?_, ?_, ?_, ?_, ?_, ?_, trivial⟩, rfl, ?_⟩ ?_ ?_
      · simp
      · simp
      · simp
      · simp
      · intro a ha; rw [List.mem_singleton.mp ha]; exact Nat.le_refl _
      · show (h ++ [MO.lst []] ++ [MO.lst [D.ref h.length]])[h.length]? = some (MO.lst [])
        rw [List.append_assoc, List.getElem?_append_right (Nat.le_refl _)]
        simp
      · intro r hr; rw [List.mem_singleton.mp hr]; exact Nat.le_refl _
      · intro j env h2 _ hj inv
        have hj' : j < ts.length := by omega
        obtain ⟨as, st, y4, y5, rfl, p, s, eg, hr⟩ := id inv
        refine ⟨.str (S ts[j]), _, ?_, rfl, ?_⟩
        · rw [srcL_at (pre_ls p hls), toStrs_at hj']
        · refine (read_line_step (mh0 := mh) (R := readLine l = none) hn (fun t ht => ⟨hne t ht, by have := wt_mem ht; omega, hok t ht⟩) (by omega) (fun e => by rw [er, e]; rfl) p0 hj' inv).mono (fun f h3 z => ?_) (fun _ _ _ z => z)
          cases f with
          | nx e => exact z
          | _ => exact z.elim
      · rintro env h2 ⟨as, st, y4, y5, rfl, p, s, eg, hr⟩
        rw [Nat.zero_add] at *
        rw [List.take_length] at eg
        refine ⟨by rw [srcL_at (pre_ls p hls), List.getElem?_eq_none (by rw [toStrs_len]; exact Nat.le_refl _)], ?_⟩
        have hlas := rowsAt_len s.rows
        have hl1 : (as.reverse.map D.ref).length = st.length := by simp [hlas]
        unfold T5_read_line C6_read_line
        have e1 : opGt (.int (st.length : Nat)) (.int 1) h2 = .ok (.bl (decide (1 < st.length))) h2 := gt_nat (b := 1)
        simp only [ev_var, ev_C, ev_bin, ev_and, ev_or, ev_not, ev_neg, ev_opNeg, ev_tru, ev_truB, ev_B, ev_tAnd, ev_tOr, ev_tNot, ev_if, ev_nil, ev_cons, ev_tup, ev_lst, ev_P0, ev_P1, ev_sl, ev_CB, ev_call, ev_skip, ev_seq, ev_break, ev_cont, ev_drop, ev_ret, ev_retN, ev_ifS, ev_set, ev_asgN, ev_setIx, ev_iter, ev_rng1, ev_for, ev_yes, ev_def, ev_meth0, ev_meth, ev_isI, ev_raise, ev_repl, ev_split1, px_bind, px_safe, px_ok, px_exc, px_bad, px_iteB, px_ite, List.getElem?_cons_zero, List.getElem?_cons_succ, List.set_cons_zero, List.set_cons_succ, List.map_cons, List.map_nil, List.cons_append, List.nil_append, List.length_cons, List.length_nil, Nat.reduceAdd, Nat.reduceSub, List.replicate_succ, List.replicate_zero, if_true, if_false, Bool.false_eq_true, Bool.not_true, Bool.not_false, len_ls s.ls, hl1, e1]
        by_cases c2 : 1 < st.length
        · simp only [decide_eq_true c2, ev_var, ev_C, ev_bin, ev_and, ev_or, ev_not, ev_neg, ev_opNeg, ev_tru, ev_truB, ev_B, ev_tAnd, ev_tOr, ev_tNot, ev_if, ev_nil, ev_cons, ev_tup, ev_lst, ev_P0, ev_P1, ev_sl, ev_CB, ev_call, ev_skip, ev_seq, ev_break, ev_cont, ev_drop, ev_ret, ev_retN, ev_ifS, ev_set, ev_asgN, ev_setIx, ev_iter, ev_rng1, ev_for, ev_yes, ev_def, ev_meth0, ev_meth, ev_isI, ev_raise, ev_repl, ev_split1, px_bind, px_safe, px_ok, px_exc, px_bad, px_iteB, px_ite, List.getElem?_cons_zero, List.getElem?_cons_succ, List.set_cons_zero, List.set_cons_succ, List.map_cons, List.map_nil, List.cons_append, List.nil_append, List.length_cons, List.length_nil, Nat.reduceAdd, Nat.reduceSub, List.replicate_succ, List.replicate_zero, if_true, if_false, Bool.false_eq_true, Bool.not_true, Bool.not_false, okn]
          refine ⟨?_, trivial, trivial, p0.trans p⟩
          rw [er, eg]
          show oneRow st = none
          match st, c2 with
          | [], c2 => simp at c2
          | [_], c2 => simp at c2
          | _ :: _ :: _, _ => rfl
        · simp only [decide_eq_false c2, ev_var, ev_C, ev_bin, ev_and, ev_or, ev_not, ev_neg, ev_opNeg, ev_tru, ev_truB, ev_B, ev_tAnd, ev_tOr, ev_tNot, ev_if, ev_nil, ev_cons, ev_tup, ev_lst, ev_P0, ev_P1, ev_sl, ev_CB, ev_call, ev_skip, ev_seq, ev_break, ev_cont, ev_drop, ev_ret, ev_retN, ev_ifS, ev_set, ev_asgN, ev_setIx, ev_iter, ev_rng1, ev_for, ev_yes, ev_def, ev_meth0, ev_meth, ev_isI, ev_raise, ev_repl, ev_split1, px_bind, px_safe, px_ok, px_exc, px_bad, px_iteB, px_ite, List.getElem?_cons_zero, List.getElem?_cons_succ, List.set_cons_zero, List.set_cons_succ, List.map_cons, List.map_nil, List.cons_append, List.nil_append, List.length_cons, List.length_nil, Nat.reduceAdd, Nat.reduceSub, List.replicate_succ, List.replicate_zero, if_true, if_false, Bool.false_eq_true, Bool.not_true, Bool.not_false]
          unfold T4_read_line
          have hst : st ≠ [] := by
            intro e
            have h1 := go_flat ts eg
            rw [e] at h1
            have : ts = [] := h1.symm
            exact c1 this
          obtain ⟨row, rfl⟩ : ∃ row, st = [row] := by
            match st, c2, hst with
            | [], _, hst => exact absurd rfl hst
            | [r], _, _ => exact ⟨r, rfl⟩
            | _ :: _ :: _, c2, _ => exact absurd (by simp) c2
          obtain ⟨a, rfl⟩ : ∃ a, as = [a] := by
            match as, hlas with
            | [a], _ => exact ⟨a, rfl⟩
          have ex : opIx (.ref (h ++ [MO.lst []]).length) (.int 0) h2 = .ok (.ref a) h2 := ix_ls (n := 0) s.ls rfl
          simp only [ev_var, ev_C, ev_bin, ev_and, ev_or, ev_not, ev_neg, ev_opNeg, ev_tru, ev_truB, ev_B, ev_tAnd, ev_tOr, ev_tNot, ev_if, ev_nil, ev_cons, ev_tup, ev_lst, ev_P0, ev_P1, ev_sl, ev_CB, ev_call, ev_skip, ev_seq, ev_break, ev_cont, ev_drop, ev_ret, ev_retN, ev_ifS, ev_set, ev_asgN, ev_setIx, ev_iter, ev_rng1, ev_for, ev_yes, ev_def, ev_meth0, ev_meth, ev_isI, ev_raise, ev_repl, ev_split1, px_bind, px_safe, px_ok, px_exc, px_bad, px_iteB, px_ite, List.getElem?_cons_zero, List.getElem?_cons_succ, List.set_cons_zero, List.set_cons_succ, List.map_cons, List.map_nil, List.cons_append, List.nil_append, List.length_cons, List.length_nil, Nat.reduceAdd, Nat.reduceSub, List.replicate_succ, List.replicate_zero, if_true, if_false, Bool.false_eq_true, Bool.not_true, Bool.not_false, ex, tupOf (lsAt_lst s.rows.1)]
          exact ⟨p0.trans p, row, by rw [er, eg]; rfl, rfl⟩
  · rw [if_neg c0] at z
    subst z
    have ei : opIs .non .non h = .ok (.bl true) h := rfl
    simp only [ev_var, ev_C, ev_bin, ev_and, ev_or, ev_not, ev_neg, ev_opNeg, ev_tru, ev_truB, ev_B, ev_tAnd, ev_tOr, ev_tNot, ev_if, ev_nil, ev_cons, ev_tup, ev_lst, ev_P0, ev_P1, ev_sl, ev_CB, ev_call, ev_skip, ev_seq, ev_break, ev_cont, ev_drop, ev_ret, ev_retN, ev_ifS, ev_set, ev_asgN, ev_setIx, ev_iter, ev_rng1, ev_for, ev_yes, ev_def, ev_meth0, ev_meth, ev_isI, ev_raise, ev_repl, ev_split1, px_bind, px_safe, px_ok, px_exc, px_bad, px_iteB, px_ite, List.getElem?_cons_zero, List.getElem?_cons_succ, List.set_cons_zero, List.set_cons_succ, List.map_cons, List.map_nil, List.cons_append, List.nil_append, List.length_cons, List.length_nil, Nat.reduceAdd, Nat.reduceSub, List.replicate_succ, List.replicate_zero, if_true, if_false, Bool.false_eq_true, Bool.not_true, Bool.not_false, ei, okn]
    refine ⟨?_, trivial, trivial, p0⟩
    unfold readLine
    rw [hts, if_pos (.inr c0)]

/-! ### paper_from -/
def resP (t : Cs) : Sum Nat (List D) := if t = [] then .inr [] else rowsP 1 (sp 10 t)
theorem readP_res (t : Cs) : readP t = toldD (resP t) := by
  unfold readP resP
  split <;> rfl
theorem rowsP_cons {n : Nat} {l : Cs} {ls : List Cs} : rowsP n (l :: ls) = match readLine l with | none => .inl n | some ds => match rowsP (n + 1) ls with | .inl k => .inl k | .inr rs => .inr (.tup ds :: rs) := rfl
theorem rowsP_app : ∀ (a : List Cs) (n : Nat) {b : List Cs} {acc : List D}, rowsP n a = .inr acc → rowsP n (a ++ b) = match rowsP (n + a.length) b with | .inl k => .inl k | .inr rs => .inr (acc ++ rs)
  | [], n, b, acc, h => by
    cases h
    show rowsP n b = match rowsP n b with | .inl k => .inl k | .inr rs => .inr rs
    cases rowsP n b <;> rfl
  | l :: a, n, b, acc, h => by
    unfold rowsP at h
    cases hr : readLine l with
    | none => rw [hr] at h; cases h
    | some ds =>
      rw [hr] at h
      dsimp only at h
      cases h2 : rowsP (n + 1) a with
      | inl k => rw [h2] at h; cases h
      | inr rs =>
        rw [h2] at h
        cases h
        show rowsP n (l :: (a ++ b)) = _
        rw [rowsP_cons, hr]
        dsimp only
        rw [rowsP_app a (n + 1) h2, List.length_cons, show n + 1 + a.length = n + (a.length + 1) by omega]
        cases rowsP (n + (a.length + 1)) b <;> rfl
theorem sp_len : ∀ (c : Nat) (l : Cs), (sp c l).length ≤ l.length + 1
  | c, [] => by simp [sp]
  | c, k :: r => by
    have ih := sp_len c r
    unfold sp
    split
    · simp; omega
    · split
      · simp
      · rename_i w ws e
        rw [e] at ih
        simp at ih ⊢
        omega
theorem sp_sub : ∀ (c : Nat) (l : Cs) (w : Cs), w ∈ sp c l → w.length ≤ l.length ∧ ∀ x ∈ w, x ∈ l
  | c, [], w, h => by
    simp [sp] at h
    rw [h]; simp
  | c, k :: r, w, h => by
    unfold sp at h
    split at h
    · rcases List.mem_cons.mp h with h | h
      · rw [h]; simp
      · obtain ⟨a, b⟩ := sp_sub c r w h
        exact ⟨by simp; omega, fun x hx => List.mem_cons_of_mem _ (b x hx)⟩
    · split at h
      · rename_i e; exact absurd e (sp_ne c r)
      · rename_i u us e
        rcases List.mem_cons.mp h with h | h
        · obtain ⟨a, b⟩ := sp_sub c r u (by rw [e]; exact List.mem_cons_self ..)
          rw [h]
          refine ⟨by simp; omega, fun x hx => ?_⟩
          rcases List.mem_cons.mp hx with hx | hx
          · rw [hx]; exact List.mem_cons_self ..
          · exact List.mem_cons_of_mem _ (b x hx)
        · obtain ⟨a, b⟩ := sp_sub c r w (by rw [e]; exact List.mem_cons_of_mem _ h)
          exact ⟨by simp; omega, fun x hx => List.mem_cons_of_mem _ (b x hx)⟩
theorem split_ok {t : Cs} {c : Nat} {mh : MH} (ht : t.length + 2 ≤ SL) : mdSplit (.str (S t)) [.str (S [c])] mh = .ok (.ref mh.length) (mh ++ [.lst (toStrs (sp c t))]) := by
  unfold mdSplit
  dsimp only
  rw [if_pos ⟨by rw [S_len]; simp, by rw [S_len]; exact ht⟩, split_S, List.map_map]
  rfl
theorem add_nat {m n : Nat} {mh : MH} : opAdd (.int (m : Int)) (.int (n : Int)) mh = .ok (.int ((m + n : Nat) : Int)) mh := by
  unfold opAdd
  dsimp only
  rw [Int.natCast_add]
theorem ty_str {x : Str} {mh : MH} : tyD "str" mh (.str x) = true := rfl
theorem paper_from_px {t : Cs} (ht : t.length ≤ 400000) (hc : okC t) (mh : MH) :
    PX (F_paper_from [.str (S t)] mh) (fun d h => mh <+: h ∧ ∃ rs, resP t = .inr rs ∧ d = .tup rs) (fun c fs h => ∃ k : Nat, resP t = .inl k ∧ c = 0 ∧ fs = lineF (k : Int) ∧ mh <+: h) := by
  have hSL : SL = 16777216 := rfl
  unfold F_paper_from B_paper_from C1_paper_from
  simp only [ev_var, ev_C, ev_bin, ev_and, ev_or, ev_not, ev_neg, ev_opNeg, ev_tru, ev_truB, ev_B, ev_tAnd, ev_tOr, ev_tNot, ev_if, ev_nil, ev_cons, ev_tup, ev_lst, ev_P0, ev_P1, ev_sl, ev_CB, ev_call, ev_skip, ev_seq, ev_break, ev_cont, ev_drop, ev_ret, ev_retN, ev_ifS, ev_set, ev_asgN, ev_setIx, ev_iter, ev_rng1, ev_for, ev_yes, ev_def, ev_meth0, ev_meth, ev_isI, ev_raise, ev_repl, ev_split1, px_bind, px_safe, px_ok, px_exc, px_bad, px_iteB, px_ite, List.getElem?_cons_zero, List.getElem?_cons_succ, List.set_cons_zero, List.set_cons_succ, List.map_cons, List.map_nil, List.cons_append, List.nil_append, List.length_cons, List.length_nil, Nat.reduceAdd, Nat.reduceSub, List.replicate_succ, List.replicate_zero, if_true, if_false, Bool.false_eq_true, Bool.not_true, Bool.not_false, k_e, s_eq hc okC_nil]
  by_cases c0 : t = []
  · have b0 : (0 : Nat) ≤ SL := by omega
    simp only [decide_eq_true c0, ev_var, ev_C, ev_bin, ev_and, ev_or, ev_not, ev_neg, ev_opNeg, ev_tru, ev_truB, ev_B, ev_tAnd, ev_tOr, ev_tNot, ev_if, ev_nil, ev_cons, ev_tup, ev_lst, ev_P0, ev_P1, ev_sl, ev_CB, ev_call, ev_skip, ev_seq, ev_break, ev_cont, ev_drop, ev_ret, ev_retN, ev_ifS, ev_set, ev_asgN, ev_setIx, ev_iter, ev_rng1, ev_for, ev_yes, ev_def, ev_meth0, ev_meth, ev_isI, ev_raise, ev_repl, ev_split1, px_bind, px_safe, px_ok, px_exc, px_bad, px_iteB, px_ite, List.getElem?_cons_zero, List.getElem?_cons_succ, List.set_cons_zero, List.set_cons_succ, List.map_cons, List.map_nil, List.cons_append, List.nil_append, List.length_cons, List.length_nil, Nat.reduceAdd, Nat.reduceSub, List.replicate_succ, List.replicate_zero, if_true, if_false, Bool.false_eq_true, Bool.not_true, Bool.not_false, b0]
    exact ⟨List.prefix_refl _, [], by unfold resP; rw [if_pos c0], rfl⟩
  · simp only [decide_eq_false c0, ev_var, ev_C, ev_bin, ev_and, ev_or, ev_not, ev_neg, ev_opNeg, ev_tru, ev_truB, ev_B, ev_tAnd, ev_tOr, ev_tNot, ev_if, ev_nil, ev_cons, ev_tup, ev_lst, ev_P0, ev_P1, ev_sl, ev_CB, ev_call, ev_skip, ev_seq, ev_break, ev_cont, ev_drop, ev_ret, ev_retN, ev_ifS, ev_set, ev_asgN, ev_setIx, ev_iter, ev_rng1, ev_for, ev_yes, ev_def, ev_meth0, ev_meth, ev_isI, ev_raise, ev_repl, ev_split1, px_bind, px_safe, px_ok, px_exc, px_bad, px_iteB, px_ite, List.getElem?_cons_zero, List.getElem?_cons_succ, List.set_cons_zero, List.set_cons_succ, List.map_cons, List.map_nil, List.cons_append, List.nil_append, List.length_cons, List.length_nil, Nat.reduceAdd, Nat.reduceSub, List.replicate_succ, List.replicate_zero, if_true, if_false, Bool.false_eq_true, Bool.not_true, Bool.not_false]
    unfold T2_paper_from
    simp only [ev_var, ev_C, ev_bin, ev_and, ev_or, ev_not, ev_neg, ev_opNeg, ev_tru, ev_truB, ev_B, ev_tAnd, ev_tOr, ev_tNot, ev_if, ev_nil, ev_cons, ev_tup, ev_lst, ev_P0, ev_P1, ev_sl, ev_CB, ev_call, ev_skip, ev_seq, ev_break, ev_cont, ev_drop, ev_ret, ev_retN, ev_ifS, ev_set, ev_asgN, ev_setIx, ev_iter, ev_rng1, ev_for, ev_yes, ev_def, ev_meth0, ev_meth, ev_isI, ev_raise, ev_repl, ev_split1, px_bind, px_safe, px_ok, px_exc, px_bad, px_iteB, px_ite, List.getElem?_cons_zero, List.getElem?_cons_succ, List.set_cons_zero, List.set_cons_succ, List.map_cons, List.map_nil, List.cons_append, List.nil_append, List.length_cons, List.length_nil, Nat.reduceAdd, Nat.reduceSub, List.replicate_succ, List.replicate_zero, if_true, if_false, Bool.false_eq_true, Bool.not_true, Bool.not_false, ty_str, k_nl, split_ok (show t.length + 2 ≤ SL by omega)]
    unfold T1_paper_from
    have hlen := sp_len 10 t
    have hls : lsAt (mh ++ [MO.lst (toStrs (sp 10 t))]) mh.length = some (toStrs (sp 10 t)) := lsAt_lst (by simp)
    have er : resP t = rowsP 1 (sp 10 t) := by unfold resP; rw [if_neg c0]
    have hsub := sp_sub 10 t
    generalize hls' : sp 10 t = ls at hlen hls er hsub
    simp only [ev_var, ev_C, ev_bin, ev_and, ev_or, ev_not, ev_neg, ev_opNeg, ev_tru, ev_truB, ev_B, ev_tAnd, ev_tOr, ev_tNot, ev_if, ev_nil, ev_cons, ev_tup, ev_lst, ev_P0, ev_P1, ev_sl, ev_CB, ev_call, ev_skip, ev_seq, ev_break, ev_cont, ev_drop, ev_ret, ev_retN, ev_ifS, ev_set, ev_asgN, ev_setIx, ev_iter, ev_rng1, ev_for, ev_yes, ev_def, ev_meth0, ev_meth, ev_isI, ev_raise, ev_repl, ev_split1, px_bind, px_safe, px_ok, px_exc, px_bad, px_iteB, px_ite, List.getElem?_cons_zero, List.getElem?_cons_succ, List.set_cons_zero, List.set_cons_succ, List.map_cons, List.map_nil, List.cons_append, List.nil_append, List.length_cons, List.length_nil, Nat.reduceAdd, Nat.reduceSub, List.replicate_succ, List.replicate_zero, if_true, if_false, Bool.false_eq_true, Bool.not_true, Bool.not_false, ev_compX, len_ls hls, toStrs_len, inR_nat (n := ls.length) (by omega), Int.toNat_natCast]
    refine cloopX_px (fun i acc h => mh ++ [MO.lst (toStrs ls)] <+: h ∧ rowsP 1 (ls.take i) = .inr acc ∧ acc.length = i) ls.length 0 [] _ ⟨pre_app _ _, rfl, rfl⟩ (by simp) ?_ ?_
    · rintro j acc h _ hj ⟨p, ea, eal⟩ hk
      have hj' : j < ls.length := by omega
      have hlsj := pre_ls p hls
      have hm : ls[j] ∈ ls := List.getElem_mem hj'
      obtain ⟨m1, m2⟩ := hsub _ hm
      refine ⟨_, _, srcR_at hj', rfl, ?_⟩
      have ej : ls = ls.take j ++ (ls[j] :: ls.drop (j + 1)) := by rw [← List.drop_eq_getElem_cons hj', List.take_append_drop]
      have et : ls.take (j + 1) = ls.take j ++ [ls[j]] := by rw [List.take_add_one, List.getElem?_eq_getElem hj']; rfl
      have htl : (ls.take j).length = j := by rw [List.length_take]; omega
      have ea1 : opAdd (.int (j : Int)) (.int 1) h = .ok (.int ((j + 1 : Nat) : Int)) h := add_nat (n := 1)
      simp only [ev_yes, px_ok, if_true, wipeE, nName, ev_var, ev_C, ev_bin, ev_and, ev_or, ev_not, ev_neg, ev_opNeg, ev_tru, ev_truB, ev_B, ev_tAnd, ev_tOr, ev_tNot, ev_if, ev_nil, ev_cons, ev_tup, ev_lst, ev_P0, ev_P1, ev_sl, ev_CB, ev_call, ev_skip, ev_seq, ev_break, ev_cont, ev_drop, ev_ret, ev_retN, ev_ifS, ev_set, ev_asgN, ev_setIx, ev_iter, ev_rng1, ev_for, ev_yes, ev_def, ev_meth0, ev_meth, ev_isI, ev_raise, ev_repl, ev_split1, px_bind, px_safe, px_ok, px_exc, px_bad, px_iteB, px_ite, List.getElem?_cons_zero, List.getElem?_cons_succ, List.set_cons_zero, List.set_cons_succ, List.map_cons, List.map_nil, List.cons_append, List.nil_append, List.length_cons, List.length_nil, Nat.reduceAdd, Nat.reduceSub, List.replicate_succ, List.replicate_zero, if_true, if_false, Bool.false_eq_true, Bool.not_true, Bool.not_false, ix_ls hlsj (toStrs_at hj'), ea1]
      refine (read_line_px (n := ((j + 1 : Nat) : Int)) (by omega) (fun x hx => hc x (m2 x hx)) ⟨by omega, by omega⟩ h).mono (fun d h2 z => ?_) (fun c fs h2 z => ?_)
      · obtain ⟨p2, row, e1, rfl⟩ := z
        refine ⟨pre_some p2 hk, by omega, pre_set (p.trans p2) (by simp) _, ?_, by rw [List.length_append]; simp [eal]⟩
        rw [et, rowsP_app _ _ ea, htl]
        unfold rowsP
        rw [e1]
        rfl
      · obtain ⟨e1, z1, z2, p2⟩ := z
        refine ⟨j + 1, ?_, z1, z2, (pre_app _ _).trans (p.trans p2)⟩
        rw [er, ej, rowsP_app _ _ ea, htl]
        unfold rowsP
        rw [e1]
        dsimp only
        rw [Nat.add_comm]
    · rintro acc h ⟨p, ea, eal⟩ hk
      rw [Nat.zero_add] at *
      rw [List.take_length] at ea
      refine ⟨srcR_end, ?_⟩
      simp only [ev_var, ev_C, ev_bin, ev_and, ev_or, ev_not, ev_neg, ev_opNeg, ev_tru, ev_truB, ev_B, ev_tAnd, ev_tOr, ev_tNot, ev_if, ev_nil, ev_cons, ev_tup, ev_lst, ev_P0, ev_P1, ev_sl, ev_CB, ev_call, ev_skip, ev_seq, ev_break, ev_cont, ev_drop, ev_ret, ev_retN, ev_ifS, ev_set, ev_asgN, ev_setIx, ev_iter, ev_rng1, ev_for, ev_yes, ev_def, ev_meth0, ev_meth, ev_isI, ev_raise, ev_repl, ev_split1, px_bind, px_safe, px_ok, px_exc, px_bad, px_iteB, px_ite, List.getElem?_cons_zero, List.getElem?_cons_succ, List.set_cons_zero, List.set_cons_succ, List.map_cons, List.map_nil, List.cons_append, List.nil_append, List.length_cons, List.length_nil, Nat.reduceAdd, Nat.reduceSub, List.replicate_succ, List.replicate_zero, if_true, if_false, Bool.false_eq_true, Bool.not_true, Bool.not_false, tupOf (lsAt_lst hk)]
      exact ⟨(pre_app _ _).trans p, acc, by rw [er, ea], rfl⟩
theorem px_try {i n c : Nat} {xs : MA} {F : MF} {Sf : List (Str × D) → Option D} {env : Mi.Env} {mh : MH} {ds : List D} {P1 : D → MH → Prop} {X1 X : Nat → List (Str × D) → MH → Prop} {P : Fl → MH → Prop} (ha : xs env mh = .ok ds mh) (hF : PX (F ds mh) P1 X1)
    (h1 : ∀ d h, P1 d h → P (.nx (env.set i (some d))) h) (h2 : ∀ c' fs h, X1 c' fs h → c' = c ∧ n < env.length ∧ ∃ v, Sf fs = some v ∧ P (.rt v) h) : PX (mTry i n xs F c Sf env mh) P X := by
  unfold mTry
  rw [ha]
  show PX (match F ds mh with | .ok d mh2 => Res.ok (Fl.nx (env.set i (some d))) mh2 | .exc c' fs mh2 => if c' = c ∧ n < env.length then (match Sf fs with | some v => Res.ok (Fl.rt v) mh2 | none => Res.bad) else Res.bad | .bad => Res.bad) P X
  cases hr : F ds mh with
  | ok d h => rw [hr] at hF; exact h1 d h hF
  | bad => rw [hr] at hF; exact hF.elim
  | exc c' fs h =>
    rw [hr] at hF
    obtain ⟨e1, e2, v, e3, q⟩ := h2 c' fs h hF
    dsimp only
    rw [if_pos ⟨e1, e2⟩, e3]
    exact q
theorem law_told_px {t : Cs} (ht : t.length ≤ 400000) (hc : okC t) (mh : MH) : PX (F_law_told [.str (S t)] mh) (fun d h => d = readP t ∧ mh <+: h) nX := by
  have hSL : SL = 16777216 := rfl
  unfold F_law_told B_law_told
  rw [ev_def, px_bind, ev_seq, px_bind]
  refine px_try (ds := [.str (S t)]) rfl (paper_from_px ht hc mh) (fun d h z => ?_) (fun c fs h z => ?_)
  · obtain ⟨p, rs, e1, rfl⟩ := z
    unfold T1_law_told
    have b2 : (2 : Nat) ≤ SL := by omega
    simp only [ev_var, ev_C, ev_bin, ev_and, ev_or, ev_not, ev_neg, ev_opNeg, ev_tru, ev_truB, ev_B, ev_tAnd, ev_tOr, ev_tNot, ev_if, ev_nil, ev_cons, ev_tup, ev_lst, ev_P0, ev_P1, ev_sl, ev_CB, ev_call, ev_skip, ev_seq, ev_break, ev_cont, ev_drop, ev_ret, ev_retN, ev_ifS, ev_set, ev_asgN, ev_setIx, ev_iter, ev_rng1, ev_for, ev_yes, ev_def, ev_meth0, ev_meth, ev_isI, ev_raise, ev_repl, ev_split1, px_bind, px_safe, px_ok, px_exc, px_bad, px_iteB, px_ite, List.getElem?_cons_zero, List.getElem?_cons_succ, List.set_cons_zero, List.set_cons_succ, List.map_cons, List.map_nil, List.cons_append, List.nil_append, List.length_cons, List.length_nil, Nat.reduceAdd, Nat.reduceSub, List.replicate_succ, List.replicate_zero, if_true, if_false, Bool.false_eq_true, Bool.not_true, Bool.not_false, b2]
    exact ⟨by rw [readP_res, e1]; rfl, p⟩
  · obtain ⟨k, e1, rfl, rfl, p⟩ := z
    refine ⟨rfl, (by show 2 < 3; decide), .tup [.str "raised", .int (k : Int)], rfl, ?_⟩
    simp only [ev_var, ev_C, ev_bin, ev_and, ev_or, ev_not, ev_neg, ev_opNeg, ev_tru, ev_truB, ev_B, ev_tAnd, ev_tOr, ev_tNot, ev_if, ev_nil, ev_cons, ev_tup, ev_lst, ev_P0, ev_P1, ev_sl, ev_CB, ev_call, ev_skip, ev_seq, ev_break, ev_cont, ev_drop, ev_ret, ev_retN, ev_ifS, ev_set, ev_asgN, ev_setIx, ev_iter, ev_rng1, ev_for, ev_yes, ev_def, ev_meth0, ev_meth, ev_isI, ev_raise, ev_repl, ev_split1, px_bind, px_safe, px_ok, px_exc, px_bad, px_iteB, px_ite, List.getElem?_cons_zero, List.getElem?_cons_succ, List.set_cons_zero, List.set_cons_succ, List.map_cons, List.map_nil, List.cons_append, List.nil_append, List.length_cons, List.length_nil, Nat.reduceAdd, Nat.reduceSub, List.replicate_succ, List.replicate_zero, if_true, if_false, Bool.false_eq_true, Bool.not_true, Bool.not_false]
    exact ⟨by rw [readP_res, e1]; rfl, p⟩
end K66

set_option Elab.async false
set_option linter.all false
set_option maxRecDepth 100000
set_option maxHeartbeats 4000000
/-! K66K: _law_written, member_text, paper_text, _law_same. -/
namespace K66
open PySem PySem.NumText PyProof.Rows L2 Mi
theorem comp_grow {it : MI} {t : D → Mi.Env → Option Mi.Env} {elt : ME} {vs : List Nat} {env : Mi.Env} {mh : MH} {src : Src} {ds : List D} {f : D → D} {P : D → MH → Prop} {X : Nat → List (Str × D) → MH → Prop} (hit : it env mh = .ok (ds.length, src) mh) (hl : ds.length ≤ SL)
    (hsrc : ∀ i h, mh <+: h → src i h = some ds[i]?) (hel : ∀ d ∈ ds, ∀ h, mh <+: h → ∃ env1, t d (wipeE env vs) = some env1 ∧ PX (elt env1 h) (fun y h2 => y = f d ∧ h <+: h2) nX)
    (hP : ∀ h, mh <+: h → h[mh.length]? = some (.lst (ds.map f)) → P (.ref mh.length) h) : PX (mComp it t mYes elt vs env mh) P X := by
  rw [ev_comp, hit]
  show PX (mCLoop src mh.length t mYes elt (wipeE env vs) ds.length 0 (mh ++ [.lst []])) P X
  refine cloop_px (fun i acc h => mh <+: h ∧ acc = (ds.take i).map f) ds.length 0 [] _ ⟨pre_app _ _, by simp⟩ (by simp) ?_ ?_
  · rintro j acc h h1 h2 ⟨p, ea⟩ hk
    have hj : j < ds.length := by omega
    obtain ⟨env1, e1, e2⟩ := hel ds[j] (List.getElem_mem hj) h p
    have et : ds.take (j + 1) = ds.take j ++ [ds[j]] := by rw [List.take_add_one, List.getElem?_eq_getElem hj]; rfl
    refine ⟨ds[j], env1, by rw [hsrc j h p, List.getElem?_eq_getElem hj], e1, ?_⟩
    rw [ev_yes, px_ok, if_pos rfl]
    refine e2.imp fun y h2 z => ?_
    obtain ⟨rfl, p2⟩ := z
    refine ⟨pre_some p2 hk, ?_, pre_set (p.trans p2) (Nat.le_refl _) _, ?_⟩
    · rw [ea, List.length_map, List.length_take]; omega
    · rw [et, List.map_append, ea]; rfl
  · rintro acc h ⟨p, ea⟩ hk
    rw [Nat.zero_add, List.take_length] at ea
    refine ⟨by rw [hsrc _ h p]; simp, hP h p (by rw [hk, ea])⟩
theorem S_of (s : String) : Str.ofString s = S (s.toList.map Char.toNat) := by
  rw [← S_toList (Str.ofString s), signs_ofString]
theorem cStr_int {i : Int} {mh : MH} (h : i.natAbs < 10 ^ 1000) : cStrL [.int i] mh = .ok (.str (S (numeral i))) mh := by
  unfold cStrL
  dsimp only
  have e : okLong i = true := okLong_iff.mpr (Nat.lt_of_lt_of_le h (Nat.pow_le_pow_right (by decide) (by decide)))
  rw [if_pos e]
  exact congrArg (fun x => Res.ok (D.str x) mh) (S_of _)
theorem sum_jn : ∀ ws : List Cs, (ws.map List.length).sum + ws.length ≤ (jn [32] ws).length + 1
  | [] => by simp
  | [w] => by simp [jn]
  | w :: v :: r => by
    have ih := sum_jn (v :: r)
    show (((w :: v :: r).map List.length).sum + (w :: v :: r).length) ≤ (w ++ [32] ++ jn [32] (v :: r)).length + 1
    simp only [List.map_cons, List.sum_cons, List.length_cons, List.length_append, List.length_nil] at ih ⊢
    omega
theorem sum_jn10 : ∀ ws : List Cs, (ws.map List.length).sum + ws.length ≤ (jn [10] ws).length + 1
  | [] => by simp
  | [w] => by simp [jn]
  | w :: v :: r => by
    have ih := sum_jn10 (v :: r)
    show (((w :: v :: r).map List.length).sum + (w :: v :: r).length) ≤ (w ++ [10] ++ jn [10] (v :: r)).length + 1
    simp only [List.map_cons, List.sum_cons, List.length_cons, List.length_append, List.length_nil] at ih ⊢
    omega
theorem strsD_S : ∀ ws : List Cs, strsD (toStrs ws) = some (ws.map S)
  | [] => rfl
  | w :: ws => by
    show (strsD (toStrs ws)).map _ = _
    rw [strsD_S ws]; rfl
theorem join_ok {z : Cs} {ws : List Cs} {k : Nat} {mh : MH} (hk : lsAt mh k = some (toStrs ws)) (hs : (ws.map List.length).sum + ws.length * z.length ≤ 16777216) : mdJoin (.str (S z)) [.ref k] mh = .ok (.str (S (jn z ws))) mh := by
  unfold mdJoin
  dsimp only
  rw [hk]
  show (match strsD (toStrs ws) with | some ys => _ | none => _) = _
  rw [strsD_S]
  dsimp only
  have e : joinC (S z) (ws.map S) = true := by
    refine joinC_iff.mpr ?_
    rw [List.map_map, List.length_map, S_len]
    have : ((fun x : Str => x.length) ∘ S) = List.length := by funext w; exact S_len w
    rw [this]
    exact hs
  rw [if_pos e, txt_join_S]
theorem srcT_at {ds : List D} {i : Nat} {h : MH} : srcT ds i h = some ds[i]? := rfl
theorem okMs_mem {ds : List D} (h : okMs ds = true) : ∀ d ∈ ds, okM d = true := by
  induction ds with
  | nil => intro d hd; cases hd
  | cons a ds ih =>
    have h' := Bool.and_eq_true_iff.mp (show (okM a && okMs ds) = true from h)
    intro d hd
    rcases List.mem_cons.mp hd with e | e
    · rw [e]; exact h'.1
    · exact ih h'.2 d e
theorem deps_mem {ds : List D} : ∀ d ∈ ds, dep d ≤ deps ds := by
  induction ds with
  | nil => intro d hd; cases hd
  | cons a ds ih =>
    intro d hd
    show dep d ≤ max (dep a) (deps ds)
    rcases List.mem_cons.mp hd with e | e
    · rw [e]; omega
    · have := ih d e; omega
theorem jn_mem_len {z : Cs} : ∀ {ws : List Cs} {w : Cs}, w ∈ ws → w.length ≤ (jn z ws).length
  | [x], w, h => by rw [List.mem_singleton.mp h]; exact Nat.le_refl _
  | x :: y :: r, w, h => by
    show w.length ≤ (x ++ z ++ jn z (y :: r)).length
    simp only [List.length_append]
    rcases List.mem_cons.mp h with e | e
    · rw [e]; omega
    · have := jn_mem_len (z := z) e; omega
theorem jn_count {c : Nat} : ∀ ws : List Cs, ws.length ≤ (jn [c] ws).length + 1
  | [] => by simp
  | [w] => by simp
  | w :: v :: r => by
    have ih := jn_count (c := c) (v :: r)
    show (w :: v :: r).length ≤ (w ++ [c] ++ jn [c] (v :: r)).length + 1
    simp only [List.length_append, List.length_cons, List.length_nil] at ih ⊢
    omega
/-- one def that writes a member, by its body -/
theorem wr_body {B : MF → MS} {F : Nat → MF} (hF : ∀ n, F (n + 1) = mDef 2 (B (F n)))
    (hB : ∀ (R : MF) (d : D) (mh : MH) (P : Fl → MH → Prop), okM d = true → (∀ ds, d = .tup ds → PX (mBin opAdd (mBin opAdd (mC (.str "(")) (mMeth "str" mdJoin (mC (.str " ")) (mCons (mComp (mIter (mVar 0)) (nName 1) (mYes) (mCall R (mCons (mVar 1) (mNil))) [1]) (mNil)))) (mC (.str ")")) [some d, none] mh) (fun r h => P (.rt r) h) nX) → ((∀ ds, d ≠ .tup ds) → P (.rt (.str (S (wr d)))) mh) → PX (B R [some d, none] mh) P nX) :
    ∀ (n : Nat) (d : D) (mh : MH), okM d = true → dep d < n → (wr d).length ≤ 4000000 → PX (F n [d] mh) (fun r h => r = .str (S (wr d)) ∧ mh <+: h) nX
  | 0, d, mh, _, hd, _ => absurd hd (Nat.not_lt_zero _)
  | n + 1, d, mh, ok, hd, hl => by
    have hSL : SL = 16777216 := rfl
    rw [hF, ev_def, px_bind]
    refine hB (F n) d mh _ ok (fun ds e => ?_) (fun _ => ?_)
    · subst e
      have ok' : okMs ds = true := ok
      have hd' : deps ds + 1 < n + 1 := hd
      have hl' : (wrs ds).length + 2 ≤ 4000000 := by
        have : wr (.tup ds) = 40 :: (wrs ds ++ [41]) := rfl
        rw [this] at hl
        simp only [List.length_cons, List.length_append, List.length_nil] at hl
        omega
      have hj := wrs_jn ds
      have hcnt : ds.length ≤ 4000000 := by
        have := jn_count (c := 32) (ds.map wr)
        rw [← hj, List.length_map] at this
        omega
      simp only [ev_bin, ev_C, ev_meth, ev_cons, ev_nil, px_bind, px_ok, k_op, k_cl, k_sp, ty_str, if_true]
      refine comp_grow (src := srcT ds) (ds := ds) (f := fun d => .str (S (wr d))) rfl (by omega) (fun _ _ _ => rfl) (fun x hx h p => ⟨_, rfl, ?_⟩) (fun h p hk => ?_)
      · have hxl : (wr x).length ≤ 4000000 := by
          have := jn_mem_len (z := [32]) (List.mem_map_of_mem (f := wr) hx)
          rw [← hj] at this
          omega
        have hxd := deps_mem x hx
        exact wr_body hF hB n x h (okMs_mem ok' x hx) (by omega) hxl
      · have hls : lsAt h mh.length = some (toStrs (ds.map wr)) := by
          rw [lsAt_lst hk]
          unfold toStrs
          rw [List.map_map]; rfl
        have hsum := sum_jn (ds.map wr)
        rw [← hj] at hsum
        rw [join_ok hls (by simp only [List.length_map, List.length_cons, List.length_nil] at hsum ⊢; omega), px_ok, s_add, ← hj]
        have b1 : [40].length + (wrs ds).length ≤ SL := by simp only [List.length_cons, List.length_nil]; omega
        have b2 : ([40] ++ wrs ds).length + [41].length ≤ SL := by simp only [List.length_append, List.length_cons, List.length_nil]; omega
        rw [if_pos b1, px_ok, s_add, if_pos b2, px_ok]
        exact ⟨by rw [show wr (.tup ds) = 40 :: (wrs ds ++ [41]) from rfl]; rfl, p⟩
    · exact ⟨rfl, List.prefix_refl _⟩
theorem law_written_px : ∀ (n : Nat) (d : D) (mh : MH), okM d = true → dep d < n → (wr d).length ≤ 4000000 → PX (F_law_written n [d] mh) (fun r h => r = .str (S (wr d)) ∧ mh <+: h) nX :=
  wr_body (B := B_law_written) (fun _ => rfl) fun R d mh P ok ht hn => by
    unfold B_law_written C1_law_written T2_law_written C2_law_written T1_law_written
    cases d with
    | non => exact hn (fun _ e => D.noConfusion e)
    | bl b => cases ok
    | ref k => cases ok
    | int i =>
      have e0 : opIs (.int i) .non mh = .ok (.bl false) mh := rfl
      have e1 : tyName mh (.int i) = some "int" := rfl
      have e2 : isIn "int" "tuple" = false := by decide
      have h' : i.natAbs < 10 ^ 1000 := of_decide_eq_true ok
      simp only [ev_var, ev_C, ev_bin, ev_and, ev_or, ev_not, ev_neg, ev_opNeg, ev_tru, ev_truB, ev_B, ev_tAnd, ev_tOr, ev_tNot, ev_if, ev_nil, ev_cons, ev_tup, ev_lst, ev_P0, ev_P1, ev_sl, ev_CB, ev_call, ev_skip, ev_seq, ev_break, ev_cont, ev_drop, ev_ret, ev_retN, ev_ifS, ev_set, ev_asgN, ev_setIx, ev_iter, ev_rng1, ev_for, ev_yes, ev_def, ev_meth0, ev_meth, ev_isI, ev_raise, ev_repl, ev_split1, px_bind, px_safe, px_ok, px_exc, px_bad, px_iteB, px_ite, List.getElem?_cons_zero, List.getElem?_cons_succ, List.set_cons_zero, List.set_cons_succ, List.map_cons, List.map_nil, List.cons_append, List.nil_append, List.length_cons, List.length_nil, Nat.reduceAdd, Nat.reduceSub, List.replicate_succ, List.replicate_zero, if_true, if_false, Bool.false_eq_true, Bool.not_true, Bool.not_false, e0, e1, e2, cStr_int h']
      exact hn (fun _ e => D.noConfusion e)
    | str x =>
      have e0 : opIs (.str x) .non mh = .ok (.bl false) mh := rfl
      have e1 : tyName mh (.str x) = some "str" := rfl
      have e2 : isIn "str" "tuple" = false := by decide
      have e3 : cStrL [.str x] mh = .ok (.str x) mh := rfl
      simp only [ev_var, ev_C, ev_bin, ev_and, ev_or, ev_not, ev_neg, ev_opNeg, ev_tru, ev_truB, ev_B, ev_tAnd, ev_tOr, ev_tNot, ev_if, ev_nil, ev_cons, ev_tup, ev_lst, ev_P0, ev_P1, ev_sl, ev_CB, ev_call, ev_skip, ev_seq, ev_break, ev_cont, ev_drop, ev_ret, ev_retN, ev_ifS, ev_set, ev_asgN, ev_setIx, ev_iter, ev_rng1, ev_for, ev_yes, ev_def, ev_meth0, ev_meth, ev_isI, ev_raise, ev_repl, ev_split1, px_bind, px_safe, px_ok, px_exc, px_bad, px_iteB, px_ite, List.getElem?_cons_zero, List.getElem?_cons_succ, List.set_cons_zero, List.set_cons_succ, List.map_cons, List.map_nil, List.cons_append, List.nil_append, List.length_cons, List.length_nil, Nat.reduceAdd, Nat.reduceSub, List.replicate_succ, List.replicate_zero, if_true, if_false, Bool.false_eq_true, Bool.not_true, Bool.not_false, e0, e1, e2, e3]
      have := hn (fun _ e => D.noConfusion e)
      rw [show S (wr (.str x)) = x from S_toList x] at this
      exact this
    | tup ds =>
      have e0 : opIs (.tup ds) .non mh = .ok (.bl false) mh := rfl
      have e1 : tyName mh (.tup ds) = some "tuple" := rfl
      have e2 : isIn "tuple" "tuple" = true := by decide
      have h' := ht ds rfl
      rw [ev_seq, px_bind, ev_ifS, px_bind, ev_B, px_bind, ev_bin]
      show PX (opIs (.tup ds) .non mh) _ _
      rw [e0, px_ok, px_ok]
      show PX (mSeq _ _ _ mh) _ _
      rw [ev_seq, px_bind, ev_ifS, px_bind, ev_tru, px_bind, ev_isI, px_bind]
      show PX (Res.ok (D.tup ds) mh) _ _
      rw [px_ok]
      show PX (Res.ok (D.bl (isIn "tuple" "tuple")) mh) _ _
      rw [e2, px_ok]
      show PX (mRet _ _ mh) _ _
      rw [ev_ret, px_bind]
      exact h'
theorem member_text_px : ∀ (n : Nat) (d : D) (mh : MH), okM d = true → dep d < n → (wr d).length ≤ 4000000 → PX (F_member_text n [d] mh) (fun r h => r = .str (S (wr d)) ∧ mh <+: h) nX :=
  wr_body (B := B_member_text) (fun _ => rfl) fun R d mh P ok ht hn => by
    unfold B_member_text C1_member_text T2_member_text C2_member_text T1_member_text
    cases d with
    | non => exact hn (fun _ e => D.noConfusion e)
    | bl b => cases ok
    | ref k => cases ok
    | int i =>
      have e0 : opIs (.int i) .non mh = .ok (.bl false) mh := rfl
      have e1 : tyName mh (.int i) = some "int" := rfl
      have e2 : isIn "int" "tuple" = false := by decide
      have h' : i.natAbs < 10 ^ 1000 := of_decide_eq_true ok
      simp only [ev_var, ev_C, ev_bin, ev_and, ev_or, ev_not, ev_neg, ev_opNeg, ev_tru, ev_truB, ev_B, ev_tAnd, ev_tOr, ev_tNot, ev_if, ev_nil, ev_cons, ev_tup, ev_lst, ev_P0, ev_P1, ev_sl, ev_CB, ev_call, ev_skip, ev_seq, ev_break, ev_cont, ev_drop, ev_ret, ev_retN, ev_ifS, ev_set, ev_asgN, ev_setIx, ev_iter, ev_rng1, ev_for, ev_yes, ev_def, ev_meth0, ev_meth, ev_isI, ev_raise, ev_repl, ev_split1, px_bind, px_safe, px_ok, px_exc, px_bad, px_iteB, px_ite, List.getElem?_cons_zero, List.getElem?_cons_succ, List.set_cons_zero, List.set_cons_succ, List.map_cons, List.map_nil, List.cons_append, List.nil_append, List.length_cons, List.length_nil, Nat.reduceAdd, Nat.reduceSub, List.replicate_succ, List.replicate_zero, if_true, if_false, Bool.false_eq_true, Bool.not_true, Bool.not_false, e0, e1, e2, cStr_int h']
      exact hn (fun _ e => D.noConfusion e)
    | str x =>
      have e0 : opIs (.str x) .non mh = .ok (.bl false) mh := rfl
      have e1 : tyName mh (.str x) = some "str" := rfl
      have e2 : isIn "str" "tuple" = false := by decide
      have e3 : cStrL [.str x] mh = .ok (.str x) mh := rfl
      simp only [ev_var, ev_C, ev_bin, ev_and, ev_or, ev_not, ev_neg, ev_opNeg, ev_tru, ev_truB, ev_B, ev_tAnd, ev_tOr, ev_tNot, ev_if, ev_nil, ev_cons, ev_tup, ev_lst, ev_P0, ev_P1, ev_sl, ev_CB, ev_call, ev_skip, ev_seq, ev_break, ev_cont, ev_drop, ev_ret, ev_retN, ev_ifS, ev_set, ev_asgN, ev_setIx, ev_iter, ev_rng1, ev_for, ev_yes, ev_def, ev_meth0, ev_meth, ev_isI, ev_raise, ev_repl, ev_split1, px_bind, px_safe, px_ok, px_exc, px_bad, px_iteB, px_ite, List.getElem?_cons_zero, List.getElem?_cons_succ, List.set_cons_zero, List.set_cons_succ, List.map_cons, List.map_nil, List.cons_append, List.nil_append, List.length_cons, List.length_nil, Nat.reduceAdd, Nat.reduceSub, List.replicate_succ, List.replicate_zero, if_true, if_false, Bool.false_eq_true, Bool.not_true, Bool.not_false, e0, e1, e2, e3]
      have := hn (fun _ e => D.noConfusion e)
      rw [show S (wr (.str x)) = x from S_toList x] at this
      exact this
    | tup ds =>
      have e0 : opIs (.tup ds) .non mh = .ok (.bl false) mh := rfl
      have e2 : isIn "tuple" "tuple" = true := by decide
      have h' := ht ds rfl
      rw [ev_seq, px_bind, ev_ifS, px_bind, ev_B, px_bind, ev_bin]
      show PX (opIs (.tup ds) .non mh) _ _
      rw [e0, px_ok, px_ok]
      show PX (mSeq _ _ _ mh) _ _
      rw [ev_seq, px_bind, ev_ifS, px_bind, ev_tru, px_bind, ev_isI, px_bind]
      show PX (Res.ok (D.tup ds) mh) _ _
      rw [px_ok]
      show PX (Res.ok (D.bl (isIn "tuple" "tuple")) mh) _ _
      rw [e2, px_ok]
      show PX (mRet _ _ mh) _ _
      rw [ev_ret, px_bind]
      exact h'
end K66

set_option Elab.async false
set_option linter.all false
set_option maxRecDepth 100000
set_option maxHeartbeats 4000000
/-! K66L: paper_text, _law_same. -/
namespace K66
open PySem PySem.NumText PyProof.Rows L2 Mi
def rowOk (r : List D) : Prop := r ≠ [] ∧ okMs r = true ∧ deps r ≤ 11
theorem paper_text_px {rows : List (List D)} (h : ∀ r ∈ rows, rowOk r) (hl : (textP rows).length ≤ 4000000) (mh : MH) : PX (F_paper_text [.tup (rows.map D.tup)] mh) (fun d h => d = .str (S (textP rows)) ∧ mh <+: h) nX := by
  have hSL : SL = 16777216 := rfl
  have hcnt : rows.length ≤ 4000001 := by
    have := jn_count (c := 10) (rows.map wrs)
    rw [List.length_map] at this
    unfold textP at hl
    omega
  unfold F_paper_text B_paper_text
  simp only [ev_def, ev_ret, ev_meth, ev_cons, ev_nil, ev_C, px_bind, px_ok, k_nl, k_sp, ty_str, if_true]
  refine comp_grow (src := srcT (rows.map D.tup)) (ds := rows.map D.tup) (f := fun d => match d with | .tup r => .str (S (wrs r)) | _ => .non) rfl (by rw [List.length_map]; omega) (fun _ _ _ => rfl) (fun x hx h1 p => ⟨_, rfl, ?_⟩) (fun h1 p hk => ?_)
  · obtain ⟨r, hr, rfl⟩ := List.mem_map.mp hx
    obtain ⟨r1, r2, r3⟩ := h r hr
    have hrl : (wrs r).length ≤ 4000000 := Nat.le_trans (jn_mem_len (z := [10]) (List.mem_map_of_mem (f := wrs) hr)) hl
    have hj := wrs_jn r
    have hrc : r.length ≤ 4000001 := by
      have := jn_count (c := 32) (r.map wr)
      rw [← hj, List.length_map] at this
      omega
    simp only [ev_meth, ev_cons, ev_nil, ev_C, px_bind, px_ok, ty_str, if_true]
    refine comp_grow (src := srcT r) (ds := r) (f := fun d => .str (S (wr d))) rfl (by omega) (fun _ _ _ => rfl) (fun y hy h2 p2 => ⟨_, rfl, ?_⟩) (fun h2 p2 hk => ?_)
    · have hxl : (wr y).length ≤ 4000000 := by
        have := jn_mem_len (z := [32]) (List.mem_map_of_mem (f := wr) hy)
        rw [← hj] at this
        omega
      have hd := deps_mem y hy
      exact member_text_px 20 y h2 (okMs_mem r2 y hy) (by omega) hxl
    · have hls : lsAt h2 h1.length = some (toStrs (r.map wr)) := by
        rw [lsAt_lst hk]
        unfold toStrs
        rw [List.map_map]; rfl
      have hsum := sum_jn (r.map wr)
      rw [← hj] at hsum
      rw [join_ok hls (by simp only [List.length_map, List.length_cons, List.length_nil] at hsum ⊢; omega), px_ok, ← hj]
      exact ⟨rfl, p2⟩
  · have hls : lsAt h1 mh.length = some (toStrs (rows.map wrs)) := by
      rw [lsAt_lst hk]
      unfold toStrs
      rw [List.map_map, List.map_map]; rfl
    have hsum := sum_jn10 (rows.map wrs)
    unfold textP at hl
    rw [join_ok hls (by simp only [List.length_map, List.length_cons, List.length_nil] at hsum ⊢; omega), px_ok]
    exact ⟨rfl, p⟩

/-! ### _law_same of the same data -/
mutual
def pln : D → Prop
  | .non => True
  | .int _ => True
  | .str x => okS x
  | .tup ds => plns ds
  | .bl _ => False
  | .ref _ => False
def plns : List D → Prop
  | [] => True
  | d :: ds => pln d ∧ plns ds
end
theorem plns_mem {ds : List D} (h : plns ds) : ∀ d ∈ ds, pln d := by
  induction ds with
  | nil => intro d hd; cases hd
  | cons a ds ih =>
    intro d hd
    rcases List.mem_cons.mp hd with e | e
    · rw [e]; exact h.1
    · exact ih h.2 d e
theorem ev_zip {xs : MA} {env : Mi.Env} {mh : MH} : mZip xs env mh = (xs env mh).bind fun ds mh1 => match ds with
  | [.ref j, .ref k] => match lsAt mh1 j, lsAt mh1 k with
    | some a, some b => .ok (a.length, srcZL j k) mh1
    | _, _ => .bad
  | [.tup a, .tup b] => .ok (a.length, srcZT a b) mh1
  | _ => .bad := rfl
theorem srcZT_at {ds : List D} {j : Nat} {h : MH} (hj : j < ds.length) : srcZT ds ds j h = some (some (.tup [ds[j], ds[j]])) := by
  unfold srcZT
  rw [List.getElem?_eq_getElem hj]
theorem srcZT_end {ds : List D} {h : MH} : srcZT ds ds ds.length h = some none := by
  unfold srcZT
  rw [List.getElem?_eq_none (Nat.le_refl _)]
theorem law_same_px : ∀ (n : Nat) (d : D) (mh : MH), pln d → dep d < n → PX (F_law_same n [d, d] mh) (fun r h => r = .bl true ∧ mh <+: h) nX
  | 0, d, mh, _, hd => absurd hd (Nat.not_lt_zero _)
  | n + 1, d, mh, hp, hd => by
    have i1 : isIn "int" "bool" = false := by decide
    have i2 : isIn "int" "int" = true := by decide
    have i3 : isIn "str" "bool" = false := by decide
    have i4 : isIn "str" "int" = false := by decide
    have i5 : isIn "str" "str" = true := by decide
    have i6 : isIn "tuple" "bool" = false := by decide
    have i7 : isIn "tuple" "int" = false := by decide
    have i8 : isIn "tuple" "str" = false := by decide
    have i9 : isIn "tuple" "dict" = false := by decide
    have i10 : isIn "tuple" "tuple" = true := by decide
    show PX (mDef 5 (B_law_same (F_law_same n)) [d, d] mh) _ _
    unfold B_law_same C1_law_same
    cases d with
    | non =>
      have e0 : opIs .non .non mh = .ok (.bl true) mh := rfl
      simp only [ev_var, ev_C, ev_bin, ev_and, ev_or, ev_not, ev_neg, ev_opNeg, ev_tru, ev_truB, ev_B, ev_tAnd, ev_tOr, ev_tNot, ev_if, ev_nil, ev_cons, ev_tup, ev_lst, ev_P0, ev_P1, ev_sl, ev_CB, ev_call, ev_skip, ev_seq, ev_break, ev_cont, ev_drop, ev_ret, ev_retN, ev_ifS, ev_set, ev_asgN, ev_setIx, ev_iter, ev_rng1, ev_for, ev_yes, ev_def, ev_meth0, ev_meth, ev_isI, ev_raise, ev_repl, ev_split1, px_bind, px_safe, px_ok, px_exc, px_bad, px_iteB, px_ite, List.getElem?_cons_zero, List.getElem?_cons_succ, List.set_cons_zero, List.set_cons_succ, List.map_cons, List.map_nil, List.cons_append, List.nil_append, List.length_cons, List.length_nil, Nat.reduceAdd, Nat.reduceSub, List.replicate_succ, List.replicate_zero, if_true, if_false, Bool.false_eq_true, Bool.not_true, Bool.not_false, e0]
      exact ⟨trivial, List.prefix_refl _⟩
    | bl b => exact hp.elim
    | ref k => exact hp.elim
    | int i =>
      have e0 : opIs (.int i) .non mh = .ok (.bl false) mh := rfl
      have e1 : tyName mh (.int i) = some "int" := rfl
      have e3 : opEq (.int i) (.int i) mh = .ok (.bl true) mh := by rw [Mi.eq_int, beq_self_eq_true]
      unfold T8_law_same C2_law_same T7_law_same C3_law_same
      simp only [ev_var, ev_C, ev_bin, ev_and, ev_or, ev_not, ev_neg, ev_opNeg, ev_tru, ev_truB, ev_B, ev_tAnd, ev_tOr, ev_tNot, ev_if, ev_nil, ev_cons, ev_tup, ev_lst, ev_P0, ev_P1, ev_sl, ev_CB, ev_call, ev_skip, ev_seq, ev_break, ev_cont, ev_drop, ev_ret, ev_retN, ev_ifS, ev_set, ev_asgN, ev_setIx, ev_iter, ev_rng1, ev_for, ev_yes, ev_def, ev_meth0, ev_meth, ev_isI, ev_raise, ev_repl, ev_split1, px_bind, px_safe, px_ok, px_exc, px_bad, px_iteB, px_ite, List.getElem?_cons_zero, List.getElem?_cons_succ, List.set_cons_zero, List.set_cons_succ, List.map_cons, List.map_nil, List.cons_append, List.nil_append, List.length_cons, List.length_nil, Nat.reduceAdd, Nat.reduceSub, List.replicate_succ, List.replicate_zero, if_true, if_false, Bool.false_eq_true, Bool.not_true, Bool.not_false, e0, e1, i1, i2, e3]
      exact ⟨trivial, List.prefix_refl _⟩
    | str x =>
      have e0 : opIs (.str x) .non mh = .ok (.bl false) mh := rfl
      have e1 : tyName mh (.str x) = some "str" := rfl
      have hx : okS x := hp
      have e3 : opEq (.str x) (.str x) mh = .ok (.bl true) mh := by rw [Mi.eq_str hx hx, beq_self_eq_true]
      unfold T8_law_same C2_law_same T7_law_same C3_law_same T6_law_same C4_law_same
      simp only [ev_var, ev_C, ev_bin, ev_and, ev_or, ev_not, ev_neg, ev_opNeg, ev_tru, ev_truB, ev_B, ev_tAnd, ev_tOr, ev_tNot, ev_if, ev_nil, ev_cons, ev_tup, ev_lst, ev_P0, ev_P1, ev_sl, ev_CB, ev_call, ev_skip, ev_seq, ev_break, ev_cont, ev_drop, ev_ret, ev_retN, ev_ifS, ev_set, ev_asgN, ev_setIx, ev_iter, ev_rng1, ev_for, ev_yes, ev_def, ev_meth0, ev_meth, ev_isI, ev_raise, ev_repl, ev_split1, px_bind, px_safe, px_ok, px_exc, px_bad, px_iteB, px_ite, List.getElem?_cons_zero, List.getElem?_cons_succ, List.set_cons_zero, List.set_cons_succ, List.map_cons, List.map_nil, List.cons_append, List.nil_append, List.length_cons, List.length_nil, Nat.reduceAdd, Nat.reduceSub, List.replicate_succ, List.replicate_zero, if_true, if_false, Bool.false_eq_true, Bool.not_true, Bool.not_false, e0, e1, i3, i4, i5, e3]
      exact ⟨trivial, List.prefix_refl _⟩
    | tup ds =>
      have hd' : deps ds < n := by
        have : deps ds + 1 < n + 1 := hd
        omega
      have e0 : opIs (.tup ds) .non mh = .ok (.bl false) mh := rfl
      have e1 : tyName mh (.tup ds) = some "tuple" := rfl
      have el : cLen [.tup ds] mh = .ok (.int (ds.length : Nat)) mh := rfl
      have en : opNe (.int ((ds.length : Nat) : Int)) (.int ((ds.length : Nat) : Int)) mh = .ok (.bl false) mh := by rw [Mi.ne_int, beq_self_eq_true]; rfl
      unfold T8_law_same C2_law_same T7_law_same C3_law_same T6_law_same C4_law_same T5_law_same T4_law_same C5_law_same C6_law_same T3_law_same C8_law_same
      simp only [ev_var, ev_C, ev_bin, ev_and, ev_or, ev_not, ev_neg, ev_opNeg, ev_tru, ev_truB, ev_B, ev_tAnd, ev_tOr, ev_tNot, ev_if, ev_nil, ev_cons, ev_tup, ev_lst, ev_P0, ev_P1, ev_sl, ev_CB, ev_call, ev_skip, ev_seq, ev_break, ev_cont, ev_drop, ev_ret, ev_retN, ev_ifS, ev_set, ev_asgN, ev_setIx, ev_iter, ev_rng1, ev_for, ev_yes, ev_def, ev_meth0, ev_meth, ev_isI, ev_raise, ev_repl, ev_split1, px_bind, px_safe, px_ok, px_exc, px_bad, px_iteB, px_ite, List.getElem?_cons_zero, List.getElem?_cons_succ, List.set_cons_zero, List.set_cons_succ, List.map_cons, List.map_nil, List.cons_append, List.nil_append, List.length_cons, List.length_nil, Nat.reduceAdd, Nat.reduceSub, List.replicate_succ, List.replicate_zero, if_true, if_false, Bool.false_eq_true, Bool.not_true, Bool.not_false, e0, e1, i6, i7, i8, i9, i10, el, en]
      unfold T2_law_same
      simp only [ev_var, ev_C, ev_bin, ev_and, ev_or, ev_not, ev_neg, ev_opNeg, ev_tru, ev_truB, ev_B, ev_tAnd, ev_tOr, ev_tNot, ev_if, ev_nil, ev_cons, ev_tup, ev_lst, ev_P0, ev_P1, ev_sl, ev_CB, ev_call, ev_skip, ev_seq, ev_break, ev_cont, ev_drop, ev_ret, ev_retN, ev_ifS, ev_set, ev_asgN, ev_setIx, ev_iter, ev_rng1, ev_for, ev_yes, ev_def, ev_meth0, ev_meth, ev_isI, ev_raise, ev_repl, ev_split1, px_bind, px_safe, px_ok, px_exc, px_bad, px_iteB, px_ite, List.getElem?_cons_zero, List.getElem?_cons_succ, List.set_cons_zero, List.set_cons_succ, List.map_cons, List.map_nil, List.cons_append, List.nil_append, List.length_cons, List.length_nil, Nat.reduceAdd, Nat.reduceSub, List.replicate_succ, List.replicate_zero, if_true, if_false, Bool.false_eq_true, Bool.not_true, Bool.not_false, ev_zip]
      refine loop_px (fun i env h => mh <+: h ∧ ∃ y2 y3 y4, env = [some (.tup ds), some (.tup ds), y2, y3, y4]) _ _ _ _ ⟨List.prefix_refl _, none, none, none, rfl⟩ ?_ ?_
      · rintro j env h _ hj ⟨p, y2, y3, y4, rfl⟩
        have hj' : j < ds.length := by omega
        refine ⟨_, [some (.tup ds), some (.tup ds), y2, some ds[j], some ds[j]], srcZT_at hj', rfl, ?_⟩
        unfold L1_law_same C9_law_same
        simp only [ev_var, ev_C, ev_bin, ev_and, ev_or, ev_not, ev_neg, ev_opNeg, ev_tru, ev_truB, ev_B, ev_tAnd, ev_tOr, ev_tNot, ev_if, ev_nil, ev_cons, ev_tup, ev_lst, ev_P0, ev_P1, ev_sl, ev_CB, ev_call, ev_skip, ev_seq, ev_break, ev_cont, ev_drop, ev_ret, ev_retN, ev_ifS, ev_set, ev_asgN, ev_setIx, ev_iter, ev_rng1, ev_for, ev_yes, ev_def, ev_meth0, ev_meth, ev_isI, ev_raise, ev_repl, ev_split1, px_bind, px_safe, px_ok, px_exc, px_bad, px_iteB, px_ite, List.getElem?_cons_zero, List.getElem?_cons_succ, List.set_cons_zero, List.set_cons_succ, List.map_cons, List.map_nil, List.cons_append, List.nil_append, List.length_cons, List.length_nil, Nat.reduceAdd, Nat.reduceSub, List.replicate_succ, List.replicate_zero, if_true, if_false, Bool.false_eq_true, Bool.not_true, Bool.not_false]
        have hm : ds[j] ∈ ds := List.getElem_mem hj'
        have hdm := deps_mem _ hm
        refine (law_same_px n ds[j] h (plns_mem hp _ hm) (by omega)).mono (fun r h2 z => ?_) (fun _ _ _ z => z)
        obtain ⟨rfl, p2⟩ := z
        simp only [ev_var, ev_C, ev_bin, ev_and, ev_or, ev_not, ev_neg, ev_opNeg, ev_tru, ev_truB, ev_B, ev_tAnd, ev_tOr, ev_tNot, ev_if, ev_nil, ev_cons, ev_tup, ev_lst, ev_P0, ev_P1, ev_sl, ev_CB, ev_call, ev_skip, ev_seq, ev_break, ev_cont, ev_drop, ev_ret, ev_retN, ev_ifS, ev_set, ev_asgN, ev_setIx, ev_iter, ev_rng1, ev_for, ev_yes, ev_def, ev_meth0, ev_meth, ev_isI, ev_raise, ev_repl, ev_split1, px_bind, px_safe, px_ok, px_exc, px_bad, px_iteB, px_ite, List.getElem?_cons_zero, List.getElem?_cons_succ, List.set_cons_zero, List.set_cons_succ, List.map_cons, List.map_nil, List.cons_append, List.nil_append, List.length_cons, List.length_nil, Nat.reduceAdd, Nat.reduceSub, List.replicate_succ, List.replicate_zero, if_true, if_false, Bool.false_eq_true, Bool.not_true, Bool.not_false]
        exact ⟨p.trans p2, y2, _, _, rfl⟩
      · rintro env h ⟨p, y2, y3, y4, rfl⟩
        rw [Nat.zero_add] at *
        refine ⟨srcZT_end, ?_⟩
        unfold T1_law_same
        simp only [ev_var, ev_C, ev_bin, ev_and, ev_or, ev_not, ev_neg, ev_opNeg, ev_tru, ev_truB, ev_B, ev_tAnd, ev_tOr, ev_tNot, ev_if, ev_nil, ev_cons, ev_tup, ev_lst, ev_P0, ev_P1, ev_sl, ev_CB, ev_call, ev_skip, ev_seq, ev_break, ev_cont, ev_drop, ev_ret, ev_retN, ev_ifS, ev_set, ev_asgN, ev_setIx, ev_iter, ev_rng1, ev_for, ev_yes, ev_def, ev_meth0, ev_meth, ev_isI, ev_raise, ev_repl, ev_split1, px_bind, px_safe, px_ok, px_exc, px_bad, px_iteB, px_ite, List.getElem?_cons_zero, List.getElem?_cons_succ, List.set_cons_zero, List.set_cons_succ, List.map_cons, List.map_nil, List.cons_append, List.nil_append, List.length_cons, List.length_nil, Nat.reduceAdd, Nat.reduceSub, List.replicate_succ, List.replicate_zero, if_true, if_false, Bool.false_eq_true, Bool.not_true, Bool.not_false]
        exact ⟨trivial, p⟩
theorem okM_pln : ∀ (d : D), okM d = true → pln d := by
  have wd : ∀ x : Str, isWd x.cps.toList = true → okS x := fun x h c hc => by
    unfold isWd at h
    rw [Bool.and_eq_true] at h
    have := List.all_eq_true.mp h.2 c hc
    simp only [isLw, isDg, Bool.or_eq_true, Bool.and_eq_true, decide_eq_true_eq] at this
    omega
  intro d
  induction d using D.rec (motive_2 := fun ds => okMs ds = true → plns ds) with
  | non => exact fun _ => trivial
  | bl b => intro h; cases h
  | int i => exact fun _ => trivial
  | str x => exact fun h => wd x h
  | tup ds ih => exact fun h => ih h
  | ref k => intro h; cases h
  | nil => exact trivial
  | cons d ds ih1 ih2 => exact ⟨ih1 (Bool.and_eq_true_iff.mp (by assumption)).1, ih2 (Bool.and_eq_true_iff.mp (by assumption)).2⟩
end K66

set_option Elab.async false
set_option linter.all false
set_option maxRecDepth 100000
set_option maxHeartbeats 4000000
/-! K66N: _law_word. -/
namespace K66
open PySem PySem.NumText PyProof.Rows L2 Mi
theorem comp_signsF {x elt : ME} {t : D → Mi.Env → Option Mi.Env} {vs : List Nat} {env : Mi.Env} {c : MT} {l : Cs} {p : Nat → Bool} {P : D → MH → Prop} {mh : MH} (hx : x env mh = .ok (.str (S l)) mh) (hl : l.length ≤ SL)
    (hel : ∀ ch h, ∃ env1, t (.str (S [ch])) (wipeE env vs) = some env1 ∧ c env1 h = .ok (p ch) h ∧ elt env1 h = .ok (.str (S [ch])) h) (hP : ∀ h, mh <+: h → cLen [.ref mh.length] h = .ok (.int ((l.filter p).length : Nat)) h → P (.ref mh.length) h) : PX (mComp (mIter x) t c elt vs env mh) P nX := by
  refine comp_pure (src := srcS (S l)) (ds := l.map fun c => D.str (S [c])) (q := fun d => match d with | .str z => p (z.cps.getD 0 0) | _ => false) (f := fun d => d) ?_ (by rw [List.length_map]; exact hl) ?_ ?_ ?_
  · rw [ev_iter, hx, List.length_map, ← S_len l]; rfl
  · intro i h _
    unfold srcS
    rw [← Array.getElem?_toList, S_cps, List.getElem?_map]
    rfl
  · intro d hd h _
    obtain ⟨c, _, rfl⟩ := List.mem_map.mp hd
    obtain ⟨env1, e1, e2, e3⟩ := hel c h
    exact ⟨env1, e1, e2, fun _ => e3⟩
  · intro h p1 hk
    refine hP h p1 ?_
    rw [len_ls (lsAt_lst hk), List.length_map, List.filter_map, List.length_map]
    rfl
theorem intText_dg {w : Cs} (h1 : figs w ≠ []) (h2 : (figs w).length ≤ 1000) (h3 : (figs w).all isDg = true) : intText? (S w) = some (valW w) := by
  unfold figs at h1 h2 h3
  unfold valW
  by_cases hm : w.head? = some 45
  · rw [if_pos hm] at h1 h2 h3 ⊢
    obtain ⟨u, rfl⟩ : ∃ u, w = 45 :: u := by
      cases w with
      | nil => cases hm
      | cons c u => cases hm; exact ⟨u, rfl⟩
    have h2' : u.length ≤ 1000 := h2
    exact intText_neg (S_cps _) (allDg h3) h1 (by rw [S_len]; simp only [List.length_cons]; omega)
  · rw [if_neg hm] at h1 h2 h3 ⊢
    have := intText_digits (x := S w) (by rw [S_cps]; exact allDg h3) (by rw [S_cps]; exact h1) (by rw [S_len]; omega)
    rw [this, S_cps]
theorem filter_len0 {l : Cs} {p : Nat → Bool} : decide ((l.filter fun c => !(p c)).length = 0) = l.all p := by
  rw [Bool.eq_iff_iff, decide_eq_true_eq, List.length_eq_zero_iff, List.filter_eq_nil_iff, List.all_eq_true]
  simp
theorem le_nat {a b : Nat} {mh : MH} : opLe (.int (a : Int)) (.int (b : Int)) mh = .ok (.bl (decide (a ≤ b))) mh := by
  unfold opLe i2
  dsimp only
  congr 2
  rw [Bool.eq_iff_iff, decide_eq_true_eq, decide_eq_true_eq]
  omega
theorem s_take1 {c : Nat} {r : Cs} {mh : MH} (hl : (c :: r).length ≤ SL) : opSl (.str (S (c :: r))) none (some 1) mh = .ok (.str (S [c])) mh := by
  unfold opSl
  dsimp only
  rw [S_len, if_pos hl]
  have e : cutS (S (c :: r)) none (some 1) = S [c] := by
    unfold cutS
    rw [S_cps, S_len]
    show (⟨(((c :: r).drop (HT.sIx (c :: r).length 0 none)).take (HT.sIx (c :: r).length (c :: r).length (some ((1 : Nat) : Int)) - HT.sIx (c :: r).length 0 none)).toArray⟩ : Str) = S [c]
    rw [HT.sIx_nat]
    show S (((c :: r).drop 0).take (min 1 (c :: r).length - 0)) = S [c]
    have e1 : min 1 (c :: r).length - 0 = 1 := by simp
    rw [e1]; rfl
  rw [e]
theorem rdWord_not {w : Cs} (h1 : w ≠ [45]) (h2 : isNum w = false) (h3 : isWd w = false) : rdWord w = none := by
  unfold rdWord
  rw [if_neg h1, if_neg (by rw [h2]; exact Bool.false_ne_true), if_neg (by rw [h3]; exact Bool.false_ne_true)]
theorem dg_notWd {c : Nat} {r : Cs} (h : (figs (c :: r)).all isDg = true) (hne : figs (c :: r) ≠ []) : isWd (c :: r) = false := by
  have hc : isLw c = false := by
    by_cases e : c = 45
    · rw [e]; decide
    · have ef : figs (c :: r) = c :: r := by unfold figs; rw [if_neg (by simpa using e)]
      rw [ef] at h
      simp only [List.all_cons, Bool.and_eq_true, isDg, decide_eq_true_eq] at h
      unfold isLw
      simp
      omega
  unfold isWd
  simp [hc]
theorem law_word_px {w : Cs} (hne : w ≠ []) (hl : w.length ≤ 1000000) (hc : okC w) (mh : MH) :
    PX (F_law_word [.str (S w)] mh) (fun d h => mh <+: h ∧ ∃ m, d = .tup [.bl (rdWord w).isSome, m] ∧ ∀ x, rdWord w = some x → m = x) nX := by
  have hSL : SL = 16777216 := rfl
  have hsl : w.length ≤ SL := by omega
  have k45 : okC [45] := okC_of rfl
  have k48 : okC [48] := okC_of rfl
  have b2 : (2 : Nat) ≤ SL := by omega
  obtain ⟨c, r, rfl⟩ : ∃ c r, w = c :: r := by
    cases w with
    | nil => exact absurd rfl hne
    | cons c r => exact ⟨c, r, rfl⟩
  have okc : okC [c] := fun x hx => by rw [List.mem_singleton.mp hx]; exact hc c (List.mem_cons_self ..)
  have key : ∀ f : Cs, f = figs (c :: r) → PX (T4_law_word [some (.str (S (c :: r))), some (.str (S f)), none, none] mh) (fun fl h => ∃ d, fl = .rt d ∧ mh <+: h ∧ ∃ m, d = .tup [.bl (rdWord (c :: r)).isSome, m] ∧ ∀ x, rdWord (c :: r) = some x → m = x) nX := by
    intro f hf
    have hfl : f.length ≤ (c :: r).length := by
      rw [hf]; unfold figs; split
      · simp
      · exact Nat.le_refl _
    have hfc : okC f := by
      rw [hf]; unfold figs; split
      · exact fun x hx => hc x (List.mem_of_mem_tail hx)
      · exact hc
    have hfs : f.length ≤ SL := Nat.le_trans hfl hsl
    have en : isNum (c :: r) = (!(f.isEmpty || decide (f.length > 1000) || !(f.all isDg)) && (f.head? != some 48 || (c :: r) == [48])) := by rw [hf]; rfl
    unfold T4_law_word C1_law_word
    simp only [ev_var, ev_C, ev_bin, ev_and, ev_or, ev_not, ev_neg, ev_opNeg, ev_tru, ev_truB, ev_B, ev_tAnd, ev_tOr, ev_tNot, ev_if, ev_nil, ev_cons, ev_tup, ev_lst, ev_P0, ev_P1, ev_sl, ev_CB, ev_call, ev_skip, ev_seq, ev_break, ev_cont, ev_drop, ev_ret, ev_retN, ev_ifS, ev_set, ev_asgN, ev_setIx, ev_iter, ev_rng1, ev_for, ev_yes, ev_def, ev_meth0, ev_meth, ev_isI, ev_raise, ev_repl, ev_split1, px_bind, px_safe, px_ok, px_exc, px_bad, px_iteB, px_ite, List.getElem?_cons_zero, List.getElem?_cons_succ, List.set_cons_zero, List.set_cons_succ, List.map_cons, List.map_nil, List.cons_append, List.nil_append, List.length_cons, List.length_nil, Nat.reduceAdd, Nat.reduceSub, List.replicate_succ, List.replicate_zero, if_true, if_false, Bool.false_eq_true, Bool.not_true, Bool.not_false, k_dash, s_eq hc k45]
    by_cases c0 : c :: r = [45]
    · simp only [decide_eq_true c0, ev_var, ev_C, ev_bin, ev_and, ev_or, ev_not, ev_neg, ev_opNeg, ev_tru, ev_truB, ev_B, ev_tAnd, ev_tOr, ev_tNot, ev_if, ev_nil, ev_cons, ev_tup, ev_lst, ev_P0, ev_P1, ev_sl, ev_CB, ev_call, ev_skip, ev_seq, ev_break, ev_cont, ev_drop, ev_ret, ev_retN, ev_ifS, ev_set, ev_asgN, ev_setIx, ev_iter, ev_rng1, ev_for, ev_yes, ev_def, ev_meth0, ev_meth, ev_isI, ev_raise, ev_repl, ev_split1, px_bind, px_safe, px_ok, px_exc, px_bad, px_iteB, px_ite, List.getElem?_cons_zero, List.getElem?_cons_succ, List.set_cons_zero, List.set_cons_succ, List.map_cons, List.map_nil, List.cons_append, List.nil_append, List.length_cons, List.length_nil, Nat.reduceAdd, Nat.reduceSub, List.replicate_succ, List.replicate_zero, if_true, if_false, Bool.false_eq_true, Bool.not_true, Bool.not_false, b2]
      have er : rdWord (c :: r) = some .non := by unfold rdWord; rw [if_pos c0]
      rw [er]
      exact ⟨_, rfl, List.prefix_refl _, .non, rfl, fun x hx => Option.some.inj hx⟩
    · simp only [decide_eq_false c0, ev_var, ev_C, ev_bin, ev_and, ev_or, ev_not, ev_neg, ev_opNeg, ev_tru, ev_truB, ev_B, ev_tAnd, ev_tOr, ev_tNot, ev_if, ev_nil, ev_cons, ev_tup, ev_lst, ev_P0, ev_P1, ev_sl, ev_CB, ev_call, ev_skip, ev_seq, ev_break, ev_cont, ev_drop, ev_ret, ev_retN, ev_ifS, ev_set, ev_asgN, ev_setIx, ev_iter, ev_rng1, ev_for, ev_yes, ev_def, ev_meth0, ev_meth, ev_isI, ev_raise, ev_repl, ev_split1, px_bind, px_safe, px_ok, px_exc, px_bad, px_iteB, px_ite, List.getElem?_cons_zero, List.getElem?_cons_succ, List.set_cons_zero, List.set_cons_succ, List.map_cons, List.map_nil, List.cons_append, List.nil_append, List.length_cons, List.length_nil, Nat.reduceAdd, Nat.reduceSub, List.replicate_succ, List.replicate_zero, if_true, if_false, Bool.false_eq_true, Bool.not_true, Bool.not_false]
      -- the last road
      have last : ∀ h, mh <+: h → isNum (c :: r) = false → PX (T2_law_word [some (.str (S (c :: r))), some (.str (S f)), none, none] h) (fun fl h => ∃ d, fl = .rt d ∧ mh <+: h ∧ ∃ m, d = .tup [.bl (rdWord (c :: r)).isSome, m] ∧ ∀ x, rdWord (c :: r) = some x → m = x) nX := by
        intro h p hnum
        have fin : ∀ (b : Bool) (h2 : MH), mh <+: h2 → b = isWd (c :: r) → PX (T1_law_word [some (.str (S (c :: r))), some (.str (S f)), some (.bl b), none] h2) (fun fl h => ∃ d, fl = .rt d ∧ mh <+: h ∧ ∃ m, d = .tup [.bl (rdWord (c :: r)).isSome, m] ∧ ∀ x, rdWord (c :: r) = some x → m = x) nX := by
          intro b h2 p2 eb
          unfold T1_law_word
          simp only [ev_var, ev_C, ev_bin, ev_and, ev_or, ev_not, ev_neg, ev_opNeg, ev_tru, ev_truB, ev_B, ev_tAnd, ev_tOr, ev_tNot, ev_if, ev_nil, ev_cons, ev_tup, ev_lst, ev_P0, ev_P1, ev_sl, ev_CB, ev_call, ev_skip, ev_seq, ev_break, ev_cont, ev_drop, ev_ret, ev_retN, ev_ifS, ev_set, ev_asgN, ev_setIx, ev_iter, ev_rng1, ev_for, ev_yes, ev_def, ev_meth0, ev_meth, ev_isI, ev_raise, ev_repl, ev_split1, px_bind, px_safe, px_ok, px_exc, px_bad, px_iteB, px_ite, List.getElem?_cons_zero, List.getElem?_cons_succ, List.set_cons_zero, List.set_cons_succ, List.map_cons, List.map_nil, List.cons_append, List.nil_append, List.length_cons, List.length_nil, Nat.reduceAdd, Nat.reduceSub, List.replicate_succ, List.replicate_zero, if_true, if_false, Bool.false_eq_true, Bool.not_true, Bool.not_false, b2]
          refine ⟨_, rfl, p2, .str (S (c :: r)), ?_, fun x hx => ?_⟩
          · rw [eb]
            cases hw : isWd (c :: r) with
            | true =>
              rw [rdWord_wd hw]; rfl
            | false => rw [rdWord_not c0 hnum hw]; rfl
          · cases hw : isWd (c :: r) with
            | true => rw [rdWord_wd hw] at hx; exact Option.some.inj hx
            | false => rw [rdWord_not c0 hnum hw] at hx; cases hx
        unfold T2_law_word
        have n0 : ¬ (c :: r = []) := by simp
        simp only [ev_var, ev_C, ev_bin, ev_and, ev_or, ev_not, ev_neg, ev_opNeg, ev_tru, ev_truB, ev_B, ev_tAnd, ev_tOr, ev_tNot, ev_if, ev_nil, ev_cons, ev_tup, ev_lst, ev_P0, ev_P1, ev_sl, ev_CB, ev_call, ev_skip, ev_seq, ev_break, ev_cont, ev_drop, ev_ret, ev_retN, ev_ifS, ev_set, ev_asgN, ev_setIx, ev_iter, ev_rng1, ev_for, ev_yes, ev_def, ev_meth0, ev_meth, ev_isI, ev_raise, ev_repl, ev_split1, px_bind, px_safe, px_ok, px_exc, px_bad, px_iteB, px_ite, List.getElem?_cons_zero, List.getElem?_cons_succ, List.set_cons_zero, List.set_cons_succ, List.map_cons, List.map_nil, List.cons_append, List.nil_append, List.length_cons, List.length_nil, Nat.reduceAdd, Nat.reduceSub, List.replicate_succ, List.replicate_zero, if_true, if_false, Bool.false_eq_true, Bool.not_true, Bool.not_false, k_e, s_ne hc okC_nil, decide_eq_false n0, s_ix0 hsl, k_lw, s_in, mem_lw, Bool.false_xor]
        cases hb : isLw c with
        | false =>
          simp only [ev_var, ev_C, ev_bin, ev_and, ev_or, ev_not, ev_neg, ev_opNeg, ev_tru, ev_truB, ev_B, ev_tAnd, ev_tOr, ev_tNot, ev_if, ev_nil, ev_cons, ev_tup, ev_lst, ev_P0, ev_P1, ev_sl, ev_CB, ev_call, ev_skip, ev_seq, ev_break, ev_cont, ev_drop, ev_ret, ev_retN, ev_ifS, ev_set, ev_asgN, ev_setIx, ev_iter, ev_rng1, ev_for, ev_yes, ev_def, ev_meth0, ev_meth, ev_isI, ev_raise, ev_repl, ev_split1, px_bind, px_safe, px_ok, px_exc, px_bad, px_iteB, px_ite, List.getElem?_cons_zero, List.getElem?_cons_succ, List.set_cons_zero, List.set_cons_succ, List.map_cons, List.map_nil, List.cons_append, List.nil_append, List.length_cons, List.length_nil, Nat.reduceAdd, Nat.reduceSub, List.replicate_succ, List.replicate_zero, if_true, if_false, Bool.false_eq_true, Bool.not_true, Bool.not_false]
          exact fin false h p (by unfold isWd; simp [hb])
        | true =>
          simp only [ev_var, ev_C, ev_bin, ev_and, ev_or, ev_not, ev_neg, ev_opNeg, ev_tru, ev_truB, ev_B, ev_tAnd, ev_tOr, ev_tNot, ev_if, ev_nil, ev_cons, ev_tup, ev_lst, ev_P0, ev_P1, ev_sl, ev_CB, ev_call, ev_skip, ev_seq, ev_break, ev_cont, ev_drop, ev_ret, ev_retN, ev_ifS, ev_set, ev_asgN, ev_setIx, ev_iter, ev_rng1, ev_for, ev_yes, ev_def, ev_meth0, ev_meth, ev_isI, ev_raise, ev_repl, ev_split1, px_bind, px_safe, px_ok, px_exc, px_bad, px_iteB, px_ite, List.getElem?_cons_zero, List.getElem?_cons_succ, List.set_cons_zero, List.set_cons_succ, List.map_cons, List.map_nil, List.cons_append, List.nil_append, List.length_cons, List.length_nil, Nat.reduceAdd, Nat.reduceSub, List.replicate_succ, List.replicate_zero, if_true, if_false, Bool.false_eq_true, Bool.not_true, Bool.not_false]
          refine comp_signsF (l := c :: r) (p := fun c => !(isLw c || isDg c)) rfl hsl (fun ch h => ⟨_, rfl, ?_, rfl⟩) (fun h2 p2 hlen => ?_)
          · show ((opIn true (.str (S [ch])) (.str (Str.ofString "abcdefghijklmnopqrstuvwxyz0123456789")) h).bind fun d mh1 => match d with | .bl k => Res.ok k mh1 | _ => Res.bad) = _
            rw [k_lwdg, s_in, mem_lwdg, Bool.true_xor]; rfl
          · have e0 : opEq (.int ((((c :: r).filter fun c => !(isLw c || isDg c)).length : Nat) : Int)) (.int 0) h2 = .ok (.bl (decide (((c :: r).filter fun c => !(isLw c || isDg c)).length = 0))) h2 := eq_nat (n := 0)
            simp only [hlen, ev_var, ev_C, ev_bin, ev_and, ev_or, ev_not, ev_neg, ev_opNeg, ev_tru, ev_truB, ev_B, ev_tAnd, ev_tOr, ev_tNot, ev_if, ev_nil, ev_cons, ev_tup, ev_lst, ev_P0, ev_P1, ev_sl, ev_CB, ev_call, ev_skip, ev_seq, ev_break, ev_cont, ev_drop, ev_ret, ev_retN, ev_ifS, ev_set, ev_asgN, ev_setIx, ev_iter, ev_rng1, ev_for, ev_yes, ev_def, ev_meth0, ev_meth, ev_isI, ev_raise, ev_repl, ev_split1, px_bind, px_safe, px_ok, px_exc, px_bad, px_iteB, px_ite, List.getElem?_cons_zero, List.getElem?_cons_succ, List.set_cons_zero, List.set_cons_succ, List.map_cons, List.map_nil, List.cons_append, List.nil_append, List.length_cons, List.length_nil, Nat.reduceAdd, Nat.reduceSub, List.replicate_succ, List.replicate_zero, if_true, if_false, Bool.false_eq_true, Bool.not_true, Bool.not_false, e0, filter_len0 (p := fun c => isLw c || isDg c)]
            exact fin _ h2 (p.trans p2) (by unfold isWd; simp [hb])
      unfold T3_law_word C2_law_word
      simp only [ev_var, ev_C, ev_bin, ev_and, ev_or, ev_not, ev_neg, ev_opNeg, ev_tru, ev_truB, ev_B, ev_tAnd, ev_tOr, ev_tNot, ev_if, ev_nil, ev_cons, ev_tup, ev_lst, ev_P0, ev_P1, ev_sl, ev_CB, ev_call, ev_skip, ev_seq, ev_break, ev_cont, ev_drop, ev_ret, ev_retN, ev_ifS, ev_set, ev_asgN, ev_setIx, ev_iter, ev_rng1, ev_for, ev_yes, ev_def, ev_meth0, ev_meth, ev_isI, ev_raise, ev_repl, ev_split1, px_bind, px_safe, px_ok, px_exc, px_bad, px_iteB, px_ite, List.getElem?_cons_zero, List.getElem?_cons_succ, List.set_cons_zero, List.set_cons_succ, List.map_cons, List.map_nil, List.cons_append, List.nil_append, List.length_cons, List.length_nil, Nat.reduceAdd, Nat.reduceSub, List.replicate_succ, List.replicate_zero, if_true, if_false, Bool.false_eq_true, Bool.not_true, Bool.not_false, k_e, s_ne hfc okC_nil]
      by_cases c1 : f = []
      · simp only [decide_eq_true c1, ev_var, ev_C, ev_bin, ev_and, ev_or, ev_not, ev_neg, ev_opNeg, ev_tru, ev_truB, ev_B, ev_tAnd, ev_tOr, ev_tNot, ev_if, ev_nil, ev_cons, ev_tup, ev_lst, ev_P0, ev_P1, ev_sl, ev_CB, ev_call, ev_skip, ev_seq, ev_break, ev_cont, ev_drop, ev_ret, ev_retN, ev_ifS, ev_set, ev_asgN, ev_setIx, ev_iter, ev_rng1, ev_for, ev_yes, ev_def, ev_meth0, ev_meth, ev_isI, ev_raise, ev_repl, ev_split1, px_bind, px_safe, px_ok, px_exc, px_bad, px_iteB, px_ite, List.getElem?_cons_zero, List.getElem?_cons_succ, List.set_cons_zero, List.set_cons_succ, List.map_cons, List.map_nil, List.cons_append, List.nil_append, List.length_cons, List.length_nil, Nat.reduceAdd, Nat.reduceSub, List.replicate_succ, List.replicate_zero, if_true, if_false, Bool.false_eq_true, Bool.not_true, Bool.not_false]
        exact last mh (List.prefix_refl _) (by rw [en, c1]; rfl)
      · have c1' : f.isEmpty = false := by simpa using c1
        simp only [decide_eq_false c1, ev_var, ev_C, ev_bin, ev_and, ev_or, ev_not, ev_neg, ev_opNeg, ev_tru, ev_truB, ev_B, ev_tAnd, ev_tOr, ev_tNot, ev_if, ev_nil, ev_cons, ev_tup, ev_lst, ev_P0, ev_P1, ev_sl, ev_CB, ev_call, ev_skip, ev_seq, ev_break, ev_cont, ev_drop, ev_ret, ev_retN, ev_ifS, ev_set, ev_asgN, ev_setIx, ev_iter, ev_rng1, ev_for, ev_yes, ev_def, ev_meth0, ev_meth, ev_isI, ev_raise, ev_repl, ev_split1, px_bind, px_safe, px_ok, px_exc, px_bad, px_iteB, px_ite, List.getElem?_cons_zero, List.getElem?_cons_succ, List.set_cons_zero, List.set_cons_succ, List.map_cons, List.map_nil, List.cons_append, List.nil_append, List.length_cons, List.length_nil, Nat.reduceAdd, Nat.reduceSub, List.replicate_succ, List.replicate_zero, if_true, if_false, Bool.false_eq_true, Bool.not_true, Bool.not_false]
        refine comp_signsF (l := f) (p := fun c => !(isDg c)) rfl hfs (fun ch h => ⟨_, rfl, ?_, rfl⟩) (fun h2 p2 hlen => ?_)
        · show ((opIn true (.str (S [ch])) (.str (Str.ofString "0123456789")) h).bind fun d mh1 => match d with | .bl k => Res.ok k mh1 | _ => Res.bad) = _
          rw [k_dg, s_in, mem_dg, Bool.true_xor]; rfl
        · have e0 : opEq (.int (((f.filter fun c => !(isDg c)).length : Nat) : Int)) (.int 0) h2 = .ok (.bl (decide ((f.filter fun c => !(isDg c)).length = 0))) h2 := eq_nat (n := 0)
          simp only [hlen, ev_var, ev_C, ev_bin, ev_and, ev_or, ev_not, ev_neg, ev_opNeg, ev_tru, ev_truB, ev_B, ev_tAnd, ev_tOr, ev_tNot, ev_if, ev_nil, ev_cons, ev_tup, ev_lst, ev_P0, ev_P1, ev_sl, ev_CB, ev_call, ev_skip, ev_seq, ev_break, ev_cont, ev_drop, ev_ret, ev_retN, ev_ifS, ev_set, ev_asgN, ev_setIx, ev_iter, ev_rng1, ev_for, ev_yes, ev_def, ev_meth0, ev_meth, ev_isI, ev_raise, ev_repl, ev_split1, px_bind, px_safe, px_ok, px_exc, px_bad, px_iteB, px_ite, List.getElem?_cons_zero, List.getElem?_cons_succ, List.set_cons_zero, List.set_cons_succ, List.map_cons, List.map_nil, List.cons_append, List.nil_append, List.length_cons, List.length_nil, Nat.reduceAdd, Nat.reduceSub, List.replicate_succ, List.replicate_zero, if_true, if_false, Bool.false_eq_true, Bool.not_true, Bool.not_false, e0, filter_len0 (p := isDg)]
          cases hb : f.all isDg with
          | false =>
            simp only [ev_var, ev_C, ev_bin, ev_and, ev_or, ev_not, ev_neg, ev_opNeg, ev_tru, ev_truB, ev_B, ev_tAnd, ev_tOr, ev_tNot, ev_if, ev_nil, ev_cons, ev_tup, ev_lst, ev_P0, ev_P1, ev_sl, ev_CB, ev_call, ev_skip, ev_seq, ev_break, ev_cont, ev_drop, ev_ret, ev_retN, ev_ifS, ev_set, ev_asgN, ev_setIx, ev_iter, ev_rng1, ev_for, ev_yes, ev_def, ev_meth0, ev_meth, ev_isI, ev_raise, ev_repl, ev_split1, px_bind, px_safe, px_ok, px_exc, px_bad, px_iteB, px_ite, List.getElem?_cons_zero, List.getElem?_cons_succ, List.set_cons_zero, List.set_cons_succ, List.map_cons, List.map_nil, List.cons_append, List.nil_append, List.length_cons, List.length_nil, Nat.reduceAdd, Nat.reduceSub, List.replicate_succ, List.replicate_zero, if_true, if_false, Bool.false_eq_true, Bool.not_true, Bool.not_false]
            exact last h2 p2 (by rw [en, c1', hb]; simp)
          | true =>
            have hwd : isWd (c :: r) = false := dg_notWd (by rw [← hf]; exact hb) (by rw [← hf]; exact c1)
            have e1000 : ∀ h : MH, opLe (.int (f.length : Nat)) (.int 1000) h = .ok (.bl (decide (f.length ≤ 1000))) h := fun h => le_nat (b := 1000)
            obtain ⟨c2, r2, hf2⟩ : ∃ c2 r2, f = c2 :: r2 := by
              cases f with
              | nil => exact absurd rfl c1
              | cons c r => exact ⟨c, r, rfl⟩
            have c2o : okC [c2] := fun x hx => by rw [List.mem_singleton.mp hx]; exact hfc c2 (by rw [hf2]; exact List.mem_cons_self ..)
            simp only [ev_var, ev_C, ev_bin, ev_and, ev_or, ev_not, ev_neg, ev_opNeg, ev_tru, ev_truB, ev_B, ev_tAnd, ev_tOr, ev_tNot, ev_if, ev_nil, ev_cons, ev_tup, ev_lst, ev_P0, ev_P1, ev_sl, ev_CB, ev_call, ev_skip, ev_seq, ev_break, ev_cont, ev_drop, ev_ret, ev_retN, ev_ifS, ev_set, ev_asgN, ev_setIx, ev_iter, ev_rng1, ev_for, ev_yes, ev_def, ev_meth0, ev_meth, ev_isI, ev_raise, ev_repl, ev_split1, px_bind, px_safe, px_ok, px_exc, px_bad, px_iteB, px_ite, List.getElem?_cons_zero, List.getElem?_cons_succ, List.set_cons_zero, List.set_cons_succ, List.map_cons, List.map_nil, List.cons_append, List.nil_append, List.length_cons, List.length_nil, Nat.reduceAdd, Nat.reduceSub, List.replicate_succ, List.replicate_zero, if_true, if_false, Bool.false_eq_true, Bool.not_true, Bool.not_false, s_len hfs, e1000]
            by_cases c3 : f.length ≤ 1000
            · have ei : cInt [.str (S (c :: r))] h2 = .ok (.int (valW (c :: r))) h2 := by
                unfold cInt
                dsimp only
                rw [S_len, if_pos hsl, intText_dg (by rw [← hf]; exact c1) (by rw [← hf]; exact c3) (by rw [← hf]; exact hb)]
              have hix : opIx (.str (S f)) (.int 0) h2 = .ok (.str (S [c2])) h2 := by rw [hf2]; exact s_ix0 (by rw [← hf2]; exact hfs)
              have fin : ∀ b : Bool, b = isNum (c :: r) → ∃ d, Fl.rt (D.tup [D.bl b, D.int (valW (c :: r))]) = .rt d ∧ mh <+: h2 ∧ ∃ m, d = .tup [.bl (rdWord (c :: r)).isSome, m] ∧ ∀ x, rdWord (c :: r) = some x → m = x := by
                intro b eb
                refine ⟨_, rfl, p2, .int (valW (c :: r)), ?_, fun x hx => ?_⟩
                · rw [eb]
                  unfold rdWord
                  rw [if_neg c0]
                  cases hn : isNum (c :: r) with
                  | true => rfl
                  | false => rw [if_neg Bool.false_ne_true, if_neg (by rw [hwd]; exact Bool.false_ne_true)]; rfl
                · unfold rdWord at hx
                  rw [if_neg c0] at hx
                  split at hx
                  · exact Option.some.inj hx
                  · rw [if_neg (by rw [hwd]; exact Bool.false_ne_true)] at hx
                    cases hx
              have en2 : isNum (c :: r) = (decide (c2 ≠ 48) || decide (c :: r = [48])) := by
                rw [en, c1', hb, decide_eq_false (by omega), hf2]
                show (true && ((c2 :: r2).head? != some 48 || (c :: r) == [48])) = _
                rw [Bool.true_and, Bool.eq_iff_iff]
                simp
              simp only [decide_eq_true c3, ev_var, ev_C, ev_bin, ev_and, ev_or, ev_not, ev_neg, ev_opNeg, ev_tru, ev_truB, ev_B, ev_tAnd, ev_tOr, ev_tNot, ev_if, ev_nil, ev_cons, ev_tup, ev_lst, ev_P0, ev_P1, ev_sl, ev_CB, ev_call, ev_skip, ev_seq, ev_break, ev_cont, ev_drop, ev_ret, ev_retN, ev_ifS, ev_set, ev_asgN, ev_setIx, ev_iter, ev_rng1, ev_for, ev_yes, ev_def, ev_meth0, ev_meth, ev_isI, ev_raise, ev_repl, ev_split1, px_bind, px_safe, px_ok, px_exc, px_bad, px_iteB, px_ite, List.getElem?_cons_zero, List.getElem?_cons_succ, List.set_cons_zero, List.set_cons_succ, List.map_cons, List.map_nil, List.cons_append, List.nil_append, List.length_cons, List.length_nil, Nat.reduceAdd, Nat.reduceSub, List.replicate_succ, List.replicate_zero, if_true, if_false, Bool.false_eq_true, Bool.not_true, Bool.not_false, hix, k_0, s_ne c2o k48]
              by_cases c4 : c2 = 48
              · subst c4
                simp only [decide_true, ev_var, ev_C, ev_bin, ev_and, ev_or, ev_not, ev_neg, ev_opNeg, ev_tru, ev_truB, ev_B, ev_tAnd, ev_tOr, ev_tNot, ev_if, ev_nil, ev_cons, ev_tup, ev_lst, ev_P0, ev_P1, ev_sl, ev_CB, ev_call, ev_skip, ev_seq, ev_break, ev_cont, ev_drop, ev_ret, ev_retN, ev_ifS, ev_set, ev_asgN, ev_setIx, ev_iter, ev_rng1, ev_for, ev_yes, ev_def, ev_meth0, ev_meth, ev_isI, ev_raise, ev_repl, ev_split1, px_bind, px_safe, px_ok, px_exc, px_bad, px_iteB, px_ite, List.getElem?_cons_zero, List.getElem?_cons_succ, List.set_cons_zero, List.set_cons_succ, List.map_cons, List.map_nil, List.cons_append, List.nil_append, List.length_cons, List.length_nil, Nat.reduceAdd, Nat.reduceSub, List.replicate_succ, List.replicate_zero, if_true, if_false, Bool.false_eq_true, Bool.not_true, Bool.not_false, s_eq hc k48, ei, b2]
                exact fin _ (by rw [en2]; simp)
              · have c4' : ¬ [c2] = [48] := fun e => c4 (by injection e)
                simp only [decide_eq_false c4', ev_var, ev_C, ev_bin, ev_and, ev_or, ev_not, ev_neg, ev_opNeg, ev_tru, ev_truB, ev_B, ev_tAnd, ev_tOr, ev_tNot, ev_if, ev_nil, ev_cons, ev_tup, ev_lst, ev_P0, ev_P1, ev_sl, ev_CB, ev_call, ev_skip, ev_seq, ev_break, ev_cont, ev_drop, ev_ret, ev_retN, ev_ifS, ev_set, ev_asgN, ev_setIx, ev_iter, ev_rng1, ev_for, ev_yes, ev_def, ev_meth0, ev_meth, ev_isI, ev_raise, ev_repl, ev_split1, px_bind, px_safe, px_ok, px_exc, px_bad, px_iteB, px_ite, List.getElem?_cons_zero, List.getElem?_cons_succ, List.set_cons_zero, List.set_cons_succ, List.map_cons, List.map_nil, List.cons_append, List.nil_append, List.length_cons, List.length_nil, Nat.reduceAdd, Nat.reduceSub, List.replicate_succ, List.replicate_zero, if_true, if_false, Bool.false_eq_true, Bool.not_true, Bool.not_false, ei, b2]
                exact fin _ (by rw [en2]; simp [c4])
            · simp only [decide_eq_false c3, ev_var, ev_C, ev_bin, ev_and, ev_or, ev_not, ev_neg, ev_opNeg, ev_tru, ev_truB, ev_B, ev_tAnd, ev_tOr, ev_tNot, ev_if, ev_nil, ev_cons, ev_tup, ev_lst, ev_P0, ev_P1, ev_sl, ev_CB, ev_call, ev_skip, ev_seq, ev_break, ev_cont, ev_drop, ev_ret, ev_retN, ev_ifS, ev_set, ev_asgN, ev_setIx, ev_iter, ev_rng1, ev_for, ev_yes, ev_def, ev_meth0, ev_meth, ev_isI, ev_raise, ev_repl, ev_split1, px_bind, px_safe, px_ok, px_exc, px_bad, px_iteB, px_ite, List.getElem?_cons_zero, List.getElem?_cons_succ, List.set_cons_zero, List.set_cons_succ, List.map_cons, List.map_nil, List.cons_append, List.nil_append, List.length_cons, List.length_nil, Nat.reduceAdd, Nat.reduceSub, List.replicate_succ, List.replicate_zero, if_true, if_false, Bool.false_eq_true, Bool.not_true, Bool.not_false, b2]
              have hn : isNum (c :: r) = false := by
                rw [en, decide_eq_true (show f.length > 1000 by omega)]; simp
              refine ⟨_, rfl, p2, .int 0, ?_, fun x hx => ?_⟩
              · rw [rdWord_not c0 hn hwd]; rfl
              · rw [rdWord_not c0 hn hwd] at hx; cases hx
  unfold F_law_word B_law_word
  simp only [ev_var, ev_C, ev_bin, ev_and, ev_or, ev_not, ev_neg, ev_opNeg, ev_tru, ev_truB, ev_B, ev_tAnd, ev_tOr, ev_tNot, ev_if, ev_nil, ev_cons, ev_tup, ev_lst, ev_P0, ev_P1, ev_sl, ev_CB, ev_call, ev_skip, ev_seq, ev_break, ev_cont, ev_drop, ev_ret, ev_retN, ev_ifS, ev_set, ev_asgN, ev_setIx, ev_iter, ev_rng1, ev_for, ev_yes, ev_def, ev_meth0, ev_meth, ev_isI, ev_raise, ev_repl, ev_split1, px_bind, px_safe, px_ok, px_exc, px_bad, px_iteB, px_ite, List.getElem?_cons_zero, List.getElem?_cons_succ, List.set_cons_zero, List.set_cons_succ, List.map_cons, List.map_nil, List.cons_append, List.nil_append, List.length_cons, List.length_nil, Nat.reduceAdd, Nat.reduceSub, List.replicate_succ, List.replicate_zero, if_true, if_false, Bool.false_eq_true, Bool.not_true, Bool.not_false, s_take1 hsl, k_dash, s_eq okc k45]
  by_cases h1 : c = 45
  · subst h1
    simp only [decide_true, ev_var, ev_C, ev_bin, ev_and, ev_or, ev_not, ev_neg, ev_opNeg, ev_tru, ev_truB, ev_B, ev_tAnd, ev_tOr, ev_tNot, ev_if, ev_nil, ev_cons, ev_tup, ev_lst, ev_P0, ev_P1, ev_sl, ev_CB, ev_call, ev_skip, ev_seq, ev_break, ev_cont, ev_drop, ev_ret, ev_retN, ev_ifS, ev_set, ev_asgN, ev_setIx, ev_iter, ev_rng1, ev_for, ev_yes, ev_def, ev_meth0, ev_meth, ev_isI, ev_raise, ev_repl, ev_split1, px_bind, px_safe, px_ok, px_exc, px_bad, px_iteB, px_ite, List.getElem?_cons_zero, List.getElem?_cons_succ, List.set_cons_zero, List.set_cons_succ, List.map_cons, List.map_nil, List.cons_append, List.nil_append, List.length_cons, List.length_nil, Nat.reduceAdd, Nat.reduceSub, List.replicate_succ, List.replicate_zero, if_true, if_false, Bool.false_eq_true, Bool.not_true, Bool.not_false, s_tail hsl]
    refine (key r rfl).imp fun fl h z => ?_
    obtain ⟨d, rfl, p, z⟩ := z
    exact ⟨p, z⟩
  · have h1' : ¬ [c] = [45] := fun e => h1 (by injection e)
    simp only [decide_eq_false h1', ev_var, ev_C, ev_bin, ev_and, ev_or, ev_not, ev_neg, ev_opNeg, ev_tru, ev_truB, ev_B, ev_tAnd, ev_tOr, ev_tNot, ev_if, ev_nil, ev_cons, ev_tup, ev_lst, ev_P0, ev_P1, ev_sl, ev_CB, ev_call, ev_skip, ev_seq, ev_break, ev_cont, ev_drop, ev_ret, ev_retN, ev_ifS, ev_set, ev_asgN, ev_setIx, ev_iter, ev_rng1, ev_for, ev_yes, ev_def, ev_meth0, ev_meth, ev_isI, ev_raise, ev_repl, ev_split1, px_bind, px_safe, px_ok, px_exc, px_bad, px_iteB, px_ite, List.getElem?_cons_zero, List.getElem?_cons_succ, List.set_cons_zero, List.set_cons_succ, List.map_cons, List.map_nil, List.cons_append, List.nil_append, List.length_cons, List.length_nil, Nat.reduceAdd, Nat.reduceSub, List.replicate_succ, List.replicate_zero, if_true, if_false, Bool.false_eq_true, Bool.not_true, Bool.not_false]
    refine (key (c :: r) (by unfold figs; rw [if_neg (by simpa using h1)])).imp fun fl h z => ?_
    obtain ⟨d, rfl, p, z⟩ := z
    exact ⟨p, z⟩
end K66

set_option Elab.async false
set_option linter.all false
set_option maxRecDepth 100000
set_option maxHeartbeats 4000000
/-! K66O: data compared; _law_line, _law_read. -/
namespace K66
open PySem PySem.NumText PyProof.Rows L2 Mi
theorem pyD_ok : ∀ (n : Nat) (d : D) (mh : MH), pln d → dep d ≤ n → ∃ p, pyD mh n d = some p ∧ p.canLay0 = true ∧ p.depth ≤ dep d := by
  have leaf : ∀ (n : Nat) (d : D) (mh : MH), pln d → (∀ ds, d ≠ .tup ds) → ∃ p, pyD mh n d = some p ∧ p.canLay0 = true ∧ p.depth ≤ dep d := fun n d mh h h1 => by
    cases d with
    | non => exact ⟨.none, by cases n <;> rfl, by rw [PyData.canLay0], by rw [PyData.depth]; exact Nat.zero_le _⟩
    | bl b => exact h.elim
    | int i => exact ⟨.int i, by cases n <;> rfl, by rw [PyData.canLay0], by rw [PyData.depth]; exact Nat.zero_le _⟩
    | str x => exact ⟨.str x, by cases n <;> rfl, by rw [PyData.canLay0]; exact strOk_of h, by rw [PyData.depth]; exact Nat.zero_le _⟩
    | tup ds => exact absurd rfl (h1 ds)
    | ref k => exact h.elim
  intro n
  induction n with
  | zero =>
    intro d mh h hd
    cases d with
    | tup ds => exact absurd hd (by show ¬ deps ds + 1 ≤ 0; omega)
    | _ => exact leaf 0 _ mh h (fun _ e => D.noConfusion e)
  | succ n ih =>
    intro d mh h hd
    cases d with
    | tup ds =>
      have hd' : deps ds + 1 ≤ n + 1 := hd
      have all : ∀ ds : List D, plns ds → deps ds ≤ n → ∃ ps, optAll (pyD mh n) ds = some ps ∧ PyData.canLayAll0 ps = true ∧ PyData.depthAll ps ≤ deps ds := by
        intro ds
        induction ds with
        | nil => exact fun _ _ => ⟨[], rfl, by rw [PyData.canLayAll0], by rw [PyData.depthAll]; exact Nat.zero_le _⟩
        | cons d ds ih2 =>
          intro h hd
          have hd2 : max (dep d) (deps ds) ≤ n := hd
          obtain ⟨p, e1, e2, e3⟩ := ih d mh h.1 (by omega)
          obtain ⟨ps, f1, f2, f3⟩ := ih2 h.2 (by omega)
          refine ⟨p :: ps, by simp only [optAll, e1, f1], by rw [PyData.canLayAll0, e2, f2]; rfl, ?_⟩
          rw [PyData.depthAll]
          show max p.depth (PyData.depthAll ps) ≤ max (dep d) (deps ds)
          omega
      obtain ⟨ps, f1, f2, f3⟩ := all ds h (by omega)
      refine ⟨.tuple ps, by show (optAll (pyD mh n) ds).map PyData.tuple = _; rw [f1]; rfl, by rw [PyData.canLay0]; exact f2, ?_⟩
      rw [PyData.depth]
      show PyData.depthAll ps + 1 ≤ deps ds + 1
      omega
    | _ => exact leaf (n + 1) _ mh h (fun _ e => D.noConfusion e)
theorem pyDs_ok (mh : MH) (n : Nat) : ∀ ds : List D, plns ds → deps ds ≤ n → ∃ ps, optAll (pyD mh n) ds = some ps ∧ PyData.canLayAll0 ps = true ∧ PyData.depthAll ps ≤ deps ds ∧ ps.length = ds.length
  | [], _, _ => ⟨[], rfl, by rw [PyData.canLayAll0], by rw [PyData.depthAll]; exact Nat.zero_le _, rfl⟩
  | d :: ds, h, hd => by
    have hd2 : max (dep d) (deps ds) ≤ n := hd
    obtain ⟨p, e1, e2, e3⟩ := pyD_ok n d mh h.1 (by omega)
    obtain ⟨ps, f1, f2, f3, f4⟩ := pyDs_ok mh n ds h.2 (by omega)
    refine ⟨p :: ps, by simp only [optAll, e1, f1], by rw [PyData.canLayAll0, e2, f2]; rfl, ?_, by simp [f4]⟩
    rw [PyData.depthAll]
    show max p.depth (PyData.depthAll ps) ≤ max (dep d) (deps ds)
    omega
theorem eq_empty {h : MH} {a b : Nat} {row : List D} (ha : lsAt h a = some row) (hb : lsAt h b = some []) (hp : plns row) (hd : deps row ≤ 39) : opEq (.ref a) (.ref b) h = .ok (.bl row.isEmpty) h := by
  obtain ⟨ps, f1, f2, f3, f4⟩ := pyDs_ok h 39 row hp hd
  have e1 : pyD h 40 (.ref a) = some (.list ps) := by
    show (match lsAt h a with | some ds => (optAll (pyD h 39) ds).map PyData.list | none => none) = _
    rw [ha]
    dsimp only
    rw [f1]; rfl
  have e2 : pyD h 40 (.ref b) = some (.list []) := by
    show (match lsAt h b with | some ds => (optAll (pyD h 39) ds).map PyData.list | none => none) = _
    rw [hb]; rfl
  unfold opEq opD
  rw [e1, e2]
  dsimp only
  have hb : both (.list ps) (.list []) = true := by
    unfold both SeqAt.shaped
    rw [PyData.canLay0, PyData.canLay0, PyData.canLayAll0, f2, PyData.depth, PyData.depth, PyData.depthAll, decide_eq_true (show PyData.depthAll ps + 1 ≤ 64 by omega)]
    rfl
  rw [if_pos hb, PyData.eqv]
  cases ps with
  | nil =>
    have : row = [] := List.length_eq_zero_iff.mp f4.symm
    rw [this, PyData.eqvAll]; rfl
  | cons p ps =>
    rw [PyData.eqvAll]
    cases row with
    | nil => cases f4
    | cons d row => rfl
mutual
theorem eqv_refl : ∀ p : PyData, p.canLay0 = true → PyData.eqv p p = true
  | .none, _ => by rw [PyData.eqv]
  | .bool b, _ => by rw [PyData.eqv, beq_self_eq_true]
  | .int i, _ => by rw [PyData.eqv, beq_self_eq_true]
  | .str x, _ => by rw [PyData.eqv, beq_self_eq_true]
  | .list xs, h => by rw [PyData.eqv]; exact eqvs_refl xs (by rw [PyData.canLay0] at h; exact h)
  | .tuple xs, h => by rw [PyData.eqv]; exact eqvs_refl xs (by rw [PyData.canLay0] at h; exact h)
  | .dict kvs, h => by rw [PyData.canLay0] at h; cases h
theorem eqvs_refl : ∀ ps : List PyData, PyData.canLayAll0 ps = true → PyData.eqvAll ps ps = true
  | [], _ => by rw [PyData.eqvAll]
  | p :: ps, h => by
    rw [PyData.canLayAll0, Bool.and_eq_true] at h
    rw [PyData.eqvAll, eqv_refl p h.1, eqvs_refl ps h.2]; rfl
end
theorem eq_same {h : MH} {d : D} (hp : pln d) (hd : dep d ≤ 40) : opEq d d h = .ok (.bl true) h := by
  obtain ⟨p, f1, f2, f3⟩ := pyD_ok 40 d h hp hd
  unfold opEq opD
  rw [f1]
  dsimp only
  have hb : both p p = true := by
    unfold both SeqAt.shaped
    rw [f2, decide_eq_true (show p.depth ≤ 64 by omega)]; rfl
  rw [if_pos hb, eqv_refl p f2]

/-! ### _law_line -/
theorem k_o3 : (Str.ofString " ( ") = S [32, 40, 32] := by decide +kernel
theorem k_c3 : (Str.ofString " ) ") = S [32, 41, 32] := by decide +kernel
theorem sub_len (c : Nat) (z : Cs) : ∀ l : Cs, (sub c z l).length ≤ (z.length + 1) * l.length
  | [] => by simp [sub]
  | k :: r => by
    have ih := sub_len c z r
    have e : sub c z (k :: r) = (if k = c then z else [k]) ++ sub c z r := by simp [sub]
    rw [e, List.length_append, List.length_cons, Nat.mul_succ]
    have : (if k = c then z else [k]).length ≤ z.length + 1 := by split <;> simp
    omega
theorem repl_ok {l z : Cs} {c : Nat} {mh : MH} (h : l.length + (l.length + 1) * z.length ≤ 16777216) : opRepl (S [c]) (S z) (.str (S l)) mh = .ok (.str (S (sub c z l))) mh := by
  unfold opRepl
  dsimp only
  rw [if_pos (replC_iff.mpr (by rw [S_len, S_len]; exact h)), replace_S]
theorem Stk.ls' {b K : Nat} {h : MH} {as : List Nat} {st : List (List D)} (s : Stk b h K as st) : K < h.length := (List.getElem?_eq_some_iff.mp s.at_).1
/-- what stands before token i is read (the law's own reader) -/
def InvW (l : Cs) (kw kt K : Nat) (mh : MH) (ts : List Cs) (i : Nat) (env : Mi.Env) (h : MH) : Prop :=
  ∃ (as : List Nat) (st : List (List D)) (y3 y4 y5 y6 y7 y8 : Option D), env = [some (.str (S l)), some (.ref K), some (.ref kw), y3, y4, y5, y6, y7, y8] ∧ mh <+: h ∧ Stk mh.length h K as st ∧ go [[]] (ts.take i) = some st ∧ (∀ r ∈ st, r.length ≤ i) ∧
    h[kt]? = some (.lst (toStrs ts)) ∧ kt ≠ K ∧ kt ∉ as
theorem go_ne : ∀ (ts : List Cs) (st : List (List D)), st ≠ [] → go st ts ≠ some [] := by
  intro ts
  induction ts with
  | nil => intro st h e; cases e; exact h rfl
  | cons t ts ih =>
    intro st h e
    obtain ⟨s1, e1, e2⟩ := Option.bind_eq_some_iff.mp e
    refine ih s1 ?_ e2
    cases st with
    | nil => exact absurd rfl h
    | cons top rest =>
      unfold step at e1
      dsimp only at e1
      split at e1
      · split at e1
        · cases e1
        · cases e1; simp
      · split at e1
        · split at e1
          · cases e1
          · cases e1; simp
        · obtain ⟨d, _, e3⟩ := Option.map_eq_some_iff.mp e1
          rw [← e3]; simp
theorem law_line_step {l : Cs} {kw kt K : Nat} {mh : MH} {ts : List Cs} {R : Prop} (ht : ∀ t ∈ ts, t ≠ [] ∧ t.length ≤ 1000000 ∧ okC t) (hlen : ts.length ≤ 1000000) (hR : go [[]] ts = none → R)
    {i : Nat} (hi : i < ts.length) {env : Mi.Env} {h : MH} (inv : InvW l kw kt K mh ts i env h) :
    PX (L1_law_line (env.set 3 (some (.str (S ts[i])))) h) (fun f h => match f with | .nx e => InvW l kw kt K mh ts (i + 1) e h | .rt d => R ∧ d = .non ∧ mh <+: h | _ => False) nX := by
  have hSL : SL = 16777216 := rfl
  obtain ⟨as, st, y3, y4, y5, y6, y7, y8, rfl, p, s, eg, hr, hkt, n1, n2⟩ := inv
  obtain ⟨t1, t2, t3⟩ := ht ts[i] (List.getElem_mem hi)
  have est := go_take hi eg
  have eno := go_none hi eg
  have ok := go_ok _ eg okSt0
  have hlas := rowsAt_len s.rows
  have hktl := (List.getElem?_eq_some_iff.mp hkt).1
  obtain ⟨top, rest, rfl⟩ : ∃ top rest, st = top :: rest := by
    cases st with
    | nil => exact absurd eg (go_ne _ [[]] (by simp))
    | cons top rest => exact ⟨top, rest, rfl⟩
  obtain ⟨a, as, rfl⟩ : ∃ a as', as = a :: as' := by
    cases as with
    | nil => cases hlas
    | cons a as => exact ⟨a, as, rfl⟩
  have hrl : rest.length ≤ 11 := by have := ok.2.1; omega
  have hal : as.length = rest.length := by simpa using hlas
  have hl1 : ((a :: as).reverse.map D.ref).length = rest.length + 1 := by simp [hal]
  have htop : top.length ≤ i := hr top (List.mem_cons_self ..)
  have nka : kt ≠ a := fun e => n2 (by rw [e]; exact List.mem_cons_self ..)
  unfold L1_law_line C1_law_line
  simp only [ev_var, ev_C, ev_bin, ev_and, ev_or, ev_not, ev_neg, ev_opNeg, ev_tru, ev_truB, ev_B, ev_tAnd, ev_tOr, ev_tNot, ev_if, ev_nil, ev_cons, ev_tup, ev_lst, ev_P0, ev_P1, ev_sl, ev_CB, ev_call, ev_skip, ev_seq, ev_break, ev_cont, ev_drop, ev_ret, ev_retN, ev_ifS, ev_set, ev_asgN, ev_setIx, ev_iter, ev_rng1, ev_for, ev_yes, ev_def, ev_meth0, ev_meth, ev_isI, ev_raise, ev_repl, ev_split1, px_bind, px_safe, px_ok, px_exc, px_bad, px_iteB, px_ite, List.getElem?_cons_zero, List.getElem?_cons_succ, List.set_cons_zero, List.set_cons_succ, List.map_cons, List.map_nil, List.cons_append, List.nil_append, List.length_cons, List.length_nil, Nat.reduceAdd, Nat.reduceSub, List.replicate_succ, List.replicate_zero, if_true, if_false, Bool.false_eq_true, Bool.not_true, Bool.not_false, k_op, s_eq t3 okC40]
  by_cases c1 : ts[i] = [40]
  · have b0 : (0 : Nat) ≤ SL := by omega
    have q : (h ++ [MO.lst []])[K]? = some (.lst ((a :: as).reverse.map D.ref)) := pre_some (pre_app _ _) s.at_
    simp only [decide_eq_true c1, ev_var, ev_C, ev_bin, ev_and, ev_or, ev_not, ev_neg, ev_opNeg, ev_tru, ev_truB, ev_B, ev_tAnd, ev_tOr, ev_tNot, ev_if, ev_nil, ev_cons, ev_tup, ev_lst, ev_P0, ev_P1, ev_sl, ev_CB, ev_call, ev_skip, ev_seq, ev_break, ev_cont, ev_drop, ev_ret, ev_retN, ev_ifS, ev_set, ev_asgN, ev_setIx, ev_iter, ev_rng1, ev_for, ev_yes, ev_def, ev_meth0, ev_meth, ev_isI, ev_raise, ev_repl, ev_split1, px_bind, px_safe, px_ok, px_exc, px_bad, px_iteB, px_ite, List.getElem?_cons_zero, List.getElem?_cons_succ, List.set_cons_zero, List.set_cons_succ, List.map_cons, List.map_nil, List.cons_append, List.nil_append, List.length_cons, List.length_nil, Nat.reduceAdd, Nat.reduceSub, List.replicate_succ, List.replicate_zero, if_true, if_false, Bool.false_eq_true, Bool.not_true, Bool.not_false, ty_list s.ls, b0, app_ok' q (show ((a :: as).reverse.map D.ref).length < SL by rw [hl1]; omega)]
    have s2 := s.push
    have hl2 : ((h.length :: a :: as).reverse.map D.ref).length = rest.length + 2 := by simp [hal]
    unfold T1_law_line C2_law_line
    have e12 : ∀ h : MH, opGt (.int ((rest.length + 2 : Nat) : Int)) (.int 12) h = .ok (.bl (decide (12 < rest.length + 2))) h := fun h => gt_nat (b := 12)
    simp only [ev_var, ev_C, ev_bin, ev_and, ev_or, ev_not, ev_neg, ev_opNeg, ev_tru, ev_truB, ev_B, ev_tAnd, ev_tOr, ev_tNot, ev_if, ev_nil, ev_cons, ev_tup, ev_lst, ev_P0, ev_P1, ev_sl, ev_CB, ev_call, ev_skip, ev_seq, ev_break, ev_cont, ev_drop, ev_ret, ev_retN, ev_ifS, ev_set, ev_asgN, ev_setIx, ev_iter, ev_rng1, ev_for, ev_yes, ev_def, ev_meth0, ev_meth, ev_isI, ev_raise, ev_repl, ev_split1, px_bind, px_safe, px_ok, px_exc, px_bad, px_iteB, px_ite, List.getElem?_cons_zero, List.getElem?_cons_succ, List.set_cons_zero, List.set_cons_succ, List.map_cons, List.map_nil, List.cons_append, List.nil_append, List.length_cons, List.length_nil, Nat.reduceAdd, Nat.reduceSub, List.replicate_succ, List.replicate_zero, if_true, if_false, Bool.false_eq_true, Bool.not_true, Bool.not_false, len_ls s2.ls, hl2, e12]
    have pp : mh <+: (h ++ [MO.lst []]).set K (MO.lst ((a :: as).reverse.map D.ref ++ [D.ref h.length])) := pre_set (p.trans (pre_app _ _)) s.lo _
    by_cases c2 : rest.length = 11
    · have c2' : 12 < rest.length + 2 := by omega
      simp only [decide_eq_true c2', ev_var, ev_C, ev_bin, ev_and, ev_or, ev_not, ev_neg, ev_opNeg, ev_tru, ev_truB, ev_B, ev_tAnd, ev_tOr, ev_tNot, ev_if, ev_nil, ev_cons, ev_tup, ev_lst, ev_P0, ev_P1, ev_sl, ev_CB, ev_call, ev_skip, ev_seq, ev_break, ev_cont, ev_drop, ev_ret, ev_retN, ev_ifS, ev_set, ev_asgN, ev_setIx, ev_iter, ev_rng1, ev_for, ev_yes, ev_def, ev_meth0, ev_meth, ev_isI, ev_raise, ev_repl, ev_split1, px_bind, px_safe, px_ok, px_exc, px_bad, px_iteB, px_ite, List.getElem?_cons_zero, List.getElem?_cons_succ, List.set_cons_zero, List.set_cons_succ, List.map_cons, List.map_nil, List.cons_append, List.nil_append, List.length_cons, List.length_nil, Nat.reduceAdd, Nat.reduceSub, List.replicate_succ, List.replicate_zero, if_true, if_false, Bool.false_eq_true, Bool.not_true, Bool.not_false]
      refine ⟨hR (eno ?_), trivial, pp⟩
      unfold step
      dsimp only
      rw [if_pos c1, if_pos c2]
    · have c2' : ¬ 12 < rest.length + 2 := by omega
      have es : step (top :: rest) ts[i] = some ([] :: top :: rest) := by
        unfold step
        dsimp only
        rw [if_pos c1, if_neg c2]
      simp only [decide_eq_false c2', ev_var, ev_C, ev_bin, ev_and, ev_or, ev_not, ev_neg, ev_opNeg, ev_tru, ev_truB, ev_B, ev_tAnd, ev_tOr, ev_tNot, ev_if, ev_nil, ev_cons, ev_tup, ev_lst, ev_P0, ev_P1, ev_sl, ev_CB, ev_call, ev_skip, ev_seq, ev_break, ev_cont, ev_drop, ev_ret, ev_retN, ev_ifS, ev_set, ev_asgN, ev_setIx, ev_iter, ev_rng1, ev_for, ev_yes, ev_def, ev_meth0, ev_meth, ev_isI, ev_raise, ev_repl, ev_split1, px_bind, px_safe, px_ok, px_exc, px_bad, px_iteB, px_ite, List.getElem?_cons_zero, List.getElem?_cons_succ, List.set_cons_zero, List.set_cons_succ, List.map_cons, List.map_nil, List.cons_append, List.nil_append, List.length_cons, List.length_nil, Nat.reduceAdd, Nat.reduceSub, List.replicate_succ, List.replicate_zero, if_true, if_false, Bool.false_eq_true, Bool.not_true, Bool.not_false]
      refine ⟨h.length :: a :: as, [] :: top :: rest, _, y4, y5, y6, y7, y8, rfl, pp, s2, by rw [est, es], ?_, ?_, n1, ?_⟩
      · intro r hrm
        rcases List.mem_cons.mp hrm with e | e
        · rw [e]; exact Nat.zero_le _
        · exact Nat.le_succ_of_le (hr r e)
      · rw [List.getElem?_set_ne (Ne.symm n1)]
        exact pre_some (pre_app _ _) hkt
      · intro m
        rcases List.mem_cons.mp m with e | e
        · omega
        · exact n2 e
  · simp only [decide_eq_false c1, ev_var, ev_C, ev_bin, ev_and, ev_or, ev_not, ev_neg, ev_opNeg, ev_tru, ev_truB, ev_B, ev_tAnd, ev_tOr, ev_tNot, ev_if, ev_nil, ev_cons, ev_tup, ev_lst, ev_P0, ev_P1, ev_sl, ev_CB, ev_call, ev_skip, ev_seq, ev_break, ev_cont, ev_drop, ev_ret, ev_retN, ev_ifS, ev_set, ev_asgN, ev_setIx, ev_iter, ev_rng1, ev_for, ev_yes, ev_def, ev_meth0, ev_meth, ev_isI, ev_raise, ev_repl, ev_split1, px_bind, px_safe, px_ok, px_exc, px_bad, px_iteB, px_ite, List.getElem?_cons_zero, List.getElem?_cons_succ, List.set_cons_zero, List.set_cons_succ, List.map_cons, List.map_nil, List.cons_append, List.nil_append, List.length_cons, List.length_nil, Nat.reduceAdd, Nat.reduceSub, List.replicate_succ, List.replicate_zero, if_true, if_false, Bool.false_eq_true, Bool.not_true, Bool.not_false]
    unfold C3_law_line
    simp only [ev_var, ev_C, ev_bin, ev_and, ev_or, ev_not, ev_neg, ev_opNeg, ev_tru, ev_truB, ev_B, ev_tAnd, ev_tOr, ev_tNot, ev_if, ev_nil, ev_cons, ev_tup, ev_lst, ev_P0, ev_P1, ev_sl, ev_CB, ev_call, ev_skip, ev_seq, ev_break, ev_cont, ev_drop, ev_ret, ev_retN, ev_ifS, ev_set, ev_asgN, ev_setIx, ev_iter, ev_rng1, ev_for, ev_yes, ev_def, ev_meth0, ev_meth, ev_isI, ev_raise, ev_repl, ev_split1, px_bind, px_safe, px_ok, px_exc, px_bad, px_iteB, px_ite, List.getElem?_cons_zero, List.getElem?_cons_succ, List.set_cons_zero, List.set_cons_succ, List.map_cons, List.map_nil, List.cons_append, List.nil_append, List.length_cons, List.length_nil, Nat.reduceAdd, Nat.reduceSub, List.replicate_succ, List.replicate_zero, if_true, if_false, Bool.false_eq_true, Bool.not_true, Bool.not_false, k_cl, s_eq t3 okC41]
    by_cases c2 : ts[i] = [41]
    · simp only [decide_eq_true c2, ev_var, ev_C, ev_bin, ev_and, ev_or, ev_not, ev_neg, ev_opNeg, ev_tru, ev_truB, ev_B, ev_tAnd, ev_tOr, ev_tNot, ev_if, ev_nil, ev_cons, ev_tup, ev_lst, ev_P0, ev_P1, ev_sl, ev_CB, ev_call, ev_skip, ev_seq, ev_break, ev_cont, ev_drop, ev_ret, ev_retN, ev_ifS, ev_set, ev_asgN, ev_setIx, ev_iter, ev_rng1, ev_for, ev_yes, ev_def, ev_meth0, ev_meth, ev_isI, ev_raise, ev_repl, ev_split1, px_bind, px_safe, px_ok, px_exc, px_bad, px_iteB, px_ite, List.getElem?_cons_zero, List.getElem?_cons_succ, List.set_cons_zero, List.set_cons_succ, List.map_cons, List.map_nil, List.cons_append, List.nil_append, List.length_cons, List.length_nil, Nat.reduceAdd, Nat.reduceSub, List.replicate_succ, List.replicate_zero, if_true, if_false, Bool.false_eq_true, Bool.not_true, Bool.not_false]
      unfold C4_law_line
      have e1 : opEq (.int ((rest.length + 1 : Nat) : Int)) (.int 1) h = .ok (.bl (decide (rest.length + 1 = 1))) h := eq_nat (n := 1)
      simp only [ev_var, ev_C, ev_bin, ev_and, ev_or, ev_not, ev_neg, ev_opNeg, ev_tru, ev_truB, ev_B, ev_tAnd, ev_tOr, ev_tNot, ev_if, ev_nil, ev_cons, ev_tup, ev_lst, ev_P0, ev_P1, ev_sl, ev_CB, ev_call, ev_skip, ev_seq, ev_break, ev_cont, ev_drop, ev_ret, ev_retN, ev_ifS, ev_set, ev_asgN, ev_setIx, ev_iter, ev_rng1, ev_for, ev_yes, ev_def, ev_meth0, ev_meth, ev_isI, ev_raise, ev_repl, ev_split1, px_bind, px_safe, px_ok, px_exc, px_bad, px_iteB, px_ite, List.getElem?_cons_zero, List.getElem?_cons_succ, List.set_cons_zero, List.set_cons_succ, List.map_cons, List.map_nil, List.cons_append, List.nil_append, List.length_cons, List.length_nil, Nat.reduceAdd, Nat.reduceSub, List.replicate_succ, List.replicate_zero, if_true, if_false, Bool.false_eq_true, Bool.not_true, Bool.not_false, len_ls s.ls, hl1, e1]
      cases rest with
      | nil =>
        simp only [List.length_nil, Nat.zero_add, decide_true, ev_var, ev_C, ev_bin, ev_and, ev_or, ev_not, ev_neg, ev_opNeg, ev_tru, ev_truB, ev_B, ev_tAnd, ev_tOr, ev_tNot, ev_if, ev_nil, ev_cons, ev_tup, ev_lst, ev_P0, ev_P1, ev_sl, ev_CB, ev_call, ev_skip, ev_seq, ev_break, ev_cont, ev_drop, ev_ret, ev_retN, ev_ifS, ev_set, ev_asgN, ev_setIx, ev_iter, ev_rng1, ev_for, ev_yes, ev_def, ev_meth0, ev_meth, ev_isI, ev_raise, ev_repl, ev_split1, px_bind, px_safe, px_ok, px_exc, px_bad, px_iteB, px_ite, List.getElem?_cons_zero, List.getElem?_cons_succ, List.set_cons_zero, List.set_cons_succ, List.map_cons, List.map_nil, List.cons_append, List.nil_append, List.length_cons, List.length_nil, Nat.reduceAdd, Nat.reduceSub, List.replicate_succ, List.replicate_zero, if_true, if_false, Bool.false_eq_true, Bool.not_true, Bool.not_false]
        refine ⟨hR (eno ?_), trivial, p⟩
        unfold step
        dsimp only
        rw [if_neg c1, if_pos c2]
      | cons nxt rest =>
        have es : step (top :: nxt :: rest) ts[i] = some ((nxt ++ [.tup top]) :: rest) := by
          unfold step
          dsimp only
          rw [if_neg c1, if_pos c2]
        obtain ⟨a2, as, rfl⟩ : ∃ a as', as = a :: as' := by
          cases as with
          | nil => cases hal
          | cons a as => exact ⟨a, as, rfl⟩
        obtain ⟨s2, ea⟩ := s.pop
        have c3 : ¬ (nxt :: rest).length + 1 = 1 := by simp
        have nka2 : kt ≠ a2 := fun e => n2 (by rw [e]; simp)
        simp only [decide_eq_false c3, ev_var, ev_C, ev_bin, ev_and, ev_or, ev_not, ev_neg, ev_opNeg, ev_tru, ev_truB, ev_B, ev_tAnd, ev_tOr, ev_tNot, ev_if, ev_nil, ev_cons, ev_tup, ev_lst, ev_P0, ev_P1, ev_sl, ev_CB, ev_call, ev_skip, ev_seq, ev_break, ev_cont, ev_drop, ev_ret, ev_retN, ev_ifS, ev_set, ev_asgN, ev_setIx, ev_iter, ev_rng1, ev_for, ev_yes, ev_def, ev_meth0, ev_meth, ev_isI, ev_raise, ev_repl, ev_split1, px_bind, px_safe, px_ok, px_exc, px_bad, px_iteB, px_ite, List.getElem?_cons_zero, List.getElem?_cons_succ, List.set_cons_zero, List.set_cons_succ, List.map_cons, List.map_nil, List.cons_append, List.nil_append, List.length_cons, List.length_nil, Nat.reduceAdd, Nat.reduceSub, List.replicate_succ, List.replicate_zero, if_true, if_false, Bool.false_eq_true, Bool.not_true, Bool.not_false]
        unfold T3_law_line
        simp only [ev_var, ev_C, ev_bin, ev_and, ev_or, ev_not, ev_neg, ev_opNeg, ev_tru, ev_truB, ev_B, ev_tAnd, ev_tOr, ev_tNot, ev_if, ev_nil, ev_cons, ev_tup, ev_lst, ev_P0, ev_P1, ev_sl, ev_CB, ev_call, ev_skip, ev_seq, ev_break, ev_cont, ev_drop, ev_ret, ev_retN, ev_ifS, ev_set, ev_asgN, ev_setIx, ev_iter, ev_rng1, ev_for, ev_yes, ev_def, ev_meth0, ev_meth, ev_isI, ev_raise, ev_repl, ev_split1, px_bind, px_safe, px_ok, px_exc, px_bad, px_iteB, px_ite, List.getElem?_cons_zero, List.getElem?_cons_succ, List.set_cons_zero, List.set_cons_succ, List.map_cons, List.map_nil, List.cons_append, List.nil_append, List.length_cons, List.length_nil, Nat.reduceAdd, Nat.reduceSub, List.replicate_succ, List.replicate_zero, if_true, if_false, Bool.false_eq_true, Bool.not_true, Bool.not_false, ty_list s.ls, s.popOk, tupOf (lsAt_lst ea)]
        unfold T2_law_line
        have hnx : nxt.length ≤ i := hr nxt (by simp)
        simp only [ev_var, ev_C, ev_bin, ev_and, ev_or, ev_not, ev_neg, ev_opNeg, ev_tru, ev_truB, ev_B, ev_tAnd, ev_tOr, ev_tNot, ev_if, ev_nil, ev_cons, ev_tup, ev_lst, ev_P0, ev_P1, ev_sl, ev_CB, ev_call, ev_skip, ev_seq, ev_break, ev_cont, ev_drop, ev_ret, ev_retN, ev_ifS, ev_set, ev_asgN, ev_setIx, ev_iter, ev_rng1, ev_for, ev_yes, ev_def, ev_meth0, ev_meth, ev_isI, ev_raise, ev_repl, ev_split1, px_bind, px_safe, px_ok, px_exc, px_bad, px_iteB, px_ite, List.getElem?_cons_zero, List.getElem?_cons_succ, List.set_cons_zero, List.set_cons_succ, List.map_cons, List.map_nil, List.cons_append, List.nil_append, List.length_cons, List.length_nil, Nat.reduceAdd, Nat.reduceSub, List.replicate_succ, List.replicate_zero, if_true, if_false, Bool.false_eq_true, Bool.not_true, Bool.not_false, s2.ixLast, ty_list (lsAt_lst s2.rows.1), app_ok' s2.rows.1 (show nxt.length < SL by omega)]
        refine ⟨a2 :: as, (nxt ++ [.tup top]) :: rest, _, _, y5, y6, y7, y8, rfl, pre_set (pre_set p s.lo _) (s2.los a2 (List.mem_cons_self ..)) _, s2.top, by rw [est, es], ?_, ?_, n1, fun m => n2 (List.mem_cons_of_mem _ m)⟩
        · intro r hrm
          rcases List.mem_cons.mp hrm with e | e
          · rw [e, List.length_append]; simp only [List.length_cons, List.length_nil]; omega
          · exact Nat.le_succ_of_le (hr r (by simp [e]))
        · rw [List.getElem?_set_ne (Ne.symm nka2), List.getElem?_set_ne (Ne.symm n1)]
          exact hkt
    · simp only [decide_eq_false c2, ev_var, ev_C, ev_bin, ev_and, ev_or, ev_not, ev_neg, ev_opNeg, ev_tru, ev_truB, ev_B, ev_tAnd, ev_tOr, ev_tNot, ev_if, ev_nil, ev_cons, ev_tup, ev_lst, ev_P0, ev_P1, ev_sl, ev_CB, ev_call, ev_skip, ev_seq, ev_break, ev_cont, ev_drop, ev_ret, ev_retN, ev_ifS, ev_set, ev_asgN, ev_setIx, ev_iter, ev_rng1, ev_for, ev_yes, ev_def, ev_meth0, ev_meth, ev_isI, ev_raise, ev_repl, ev_split1, px_bind, px_safe, px_ok, px_exc, px_bad, px_iteB, px_ite, List.getElem?_cons_zero, List.getElem?_cons_succ, List.set_cons_zero, List.set_cons_succ, List.map_cons, List.map_nil, List.cons_append, List.nil_append, List.length_cons, List.length_nil, Nat.reduceAdd, Nat.reduceSub, List.replicate_succ, List.replicate_zero, if_true, if_false, Bool.false_eq_true, Bool.not_true, Bool.not_false]
      refine (law_word_px t1 t2 t3 h).mono (fun d h2 z => ?_) (fun _ _ _ z => z)
      obtain ⟨p2, m, rfl, hm⟩ := z
      have s2 := s.grow p2
      simp only [ev_var, ev_C, ev_bin, ev_and, ev_or, ev_not, ev_neg, ev_opNeg, ev_tru, ev_truB, ev_B, ev_tAnd, ev_tOr, ev_tNot, ev_if, ev_nil, ev_cons, ev_tup, ev_lst, ev_P0, ev_P1, ev_sl, ev_CB, ev_call, ev_skip, ev_seq, ev_break, ev_cont, ev_drop, ev_ret, ev_retN, ev_ifS, ev_set, ev_asgN, ev_setIx, ev_iter, ev_rng1, ev_for, ev_yes, ev_def, ev_meth0, ev_meth, ev_isI, ev_raise, ev_repl, ev_split1, px_bind, px_safe, px_ok, px_exc, px_bad, px_iteB, px_ite, List.getElem?_cons_zero, List.getElem?_cons_succ, List.set_cons_zero, List.set_cons_succ, List.map_cons, List.map_nil, List.cons_append, List.nil_append, List.length_cons, List.length_nil, Nat.reduceAdd, Nat.reduceSub, List.replicate_succ, List.replicate_zero, if_true, if_false, Bool.false_eq_true, Bool.not_true, Bool.not_false, nTup, nCons, nName, nNil, Option.bind_some]
      unfold T5_law_line C5_law_line
      cases ed : rdWord ts[i] with
      | none =>
        simp only [ev_var, ev_C, ev_bin, ev_and, ev_or, ev_not, ev_neg, ev_opNeg, ev_tru, ev_truB, ev_B, ev_tAnd, ev_tOr, ev_tNot, ev_if, ev_nil, ev_cons, ev_tup, ev_lst, ev_P0, ev_P1, ev_sl, ev_CB, ev_call, ev_skip, ev_seq, ev_break, ev_cont, ev_drop, ev_ret, ev_retN, ev_ifS, ev_set, ev_asgN, ev_setIx, ev_iter, ev_rng1, ev_for, ev_yes, ev_def, ev_meth0, ev_meth, ev_isI, ev_raise, ev_repl, ev_split1, px_bind, px_safe, px_ok, px_exc, px_bad, px_iteB, px_ite, List.getElem?_cons_zero, List.getElem?_cons_succ, List.set_cons_zero, List.set_cons_succ, List.map_cons, List.map_nil, List.cons_append, List.nil_append, List.length_cons, List.length_nil, Nat.reduceAdd, Nat.reduceSub, List.replicate_succ, List.replicate_zero, if_true, if_false, Bool.false_eq_true, Bool.not_true, Bool.not_false, Option.isSome_none]
        refine ⟨hR (eno ?_), trivial, p.trans p2⟩
        unfold step
        dsimp only
        rw [if_neg c1, if_neg c2, ed]
        rfl
      | some d =>
        have em := hm d ed
        subst em
        have es : step (top :: rest) ts[i] = some ((top ++ [m]) :: rest) := by
          unfold step
          dsimp only
          rw [if_neg c1, if_neg c2, ed]
          rfl
        simp only [ev_var, ev_C, ev_bin, ev_and, ev_or, ev_not, ev_neg, ev_opNeg, ev_tru, ev_truB, ev_B, ev_tAnd, ev_tOr, ev_tNot, ev_if, ev_nil, ev_cons, ev_tup, ev_lst, ev_P0, ev_P1, ev_sl, ev_CB, ev_call, ev_skip, ev_seq, ev_break, ev_cont, ev_drop, ev_ret, ev_retN, ev_ifS, ev_set, ev_asgN, ev_setIx, ev_iter, ev_rng1, ev_for, ev_yes, ev_def, ev_meth0, ev_meth, ev_isI, ev_raise, ev_repl, ev_split1, px_bind, px_safe, px_ok, px_exc, px_bad, px_iteB, px_ite, List.getElem?_cons_zero, List.getElem?_cons_succ, List.set_cons_zero, List.set_cons_succ, List.map_cons, List.map_nil, List.cons_append, List.nil_append, List.length_cons, List.length_nil, Nat.reduceAdd, Nat.reduceSub, List.replicate_succ, List.replicate_zero, if_true, if_false, Bool.false_eq_true, Bool.not_true, Bool.not_false, Option.isSome_some]
        unfold T4_law_line
        simp only [ev_var, ev_C, ev_bin, ev_and, ev_or, ev_not, ev_neg, ev_opNeg, ev_tru, ev_truB, ev_B, ev_tAnd, ev_tOr, ev_tNot, ev_if, ev_nil, ev_cons, ev_tup, ev_lst, ev_P0, ev_P1, ev_sl, ev_CB, ev_call, ev_skip, ev_seq, ev_break, ev_cont, ev_drop, ev_ret, ev_retN, ev_ifS, ev_set, ev_asgN, ev_setIx, ev_iter, ev_rng1, ev_for, ev_yes, ev_def, ev_meth0, ev_meth, ev_isI, ev_raise, ev_repl, ev_split1, px_bind, px_safe, px_ok, px_exc, px_bad, px_iteB, px_ite, List.getElem?_cons_zero, List.getElem?_cons_succ, List.set_cons_zero, List.set_cons_succ, List.map_cons, List.map_nil, List.cons_append, List.nil_append, List.length_cons, List.length_nil, Nat.reduceAdd, Nat.reduceSub, List.replicate_succ, List.replicate_zero, if_true, if_false, Bool.false_eq_true, Bool.not_true, Bool.not_false, s2.ixLast, ty_list (lsAt_lst s2.rows.1), app_ok' s2.rows.1 (show top.length < SL by omega)]
        refine ⟨a :: as, (top ++ [m]) :: rest, _, y4, _, _, y7, y8, rfl, pre_set (p.trans p2) (s2.los a (List.mem_cons_self ..)) _, s2.top, by rw [est, es], ?_, ?_, n1, n2⟩
        · intro r hrm
          rcases List.mem_cons.mp hrm with e | e
          · rw [e, List.length_append]; simp only [List.length_cons, List.length_nil]; omega
          · exact Nat.le_succ_of_le (hr r (by simp [e]))
        · rw [List.getElem?_set_ne (Ne.symm nka)]
          exact pre_some p2 hkt
end K66

set_option Elab.async false
set_option linter.all false
set_option maxRecDepth 100000
set_option maxHeartbeats 4000000
/-! K66Q: _law_line, _law_read. -/
namespace K66
open PySem PySem.NumText PyProof.Rows L2 Mi
theorem toStrs_filter (ws : List Cs) : (toStrs ws).filter (fun d => match d with | .str z => !(z == S []) | _ => false) = toStrs (ws.filter fun x => x ≠ []) := by
  unfold toStrs
  rw [List.filter_map]
  congr 1
  refine List.filter_congr fun x _ => ?_
  show (!(S x == S [])) = decide (x ≠ [])
  rw [S_beq]
  simp
theorem srcL_pre {mh h : MH} {k i : Nat} {ds : List D} (e : lsAt mh k = some ds) (p : mh <+: h) : srcL k i h = some ds[i]? := srcL_at (pre_ls p e)
theorem s_mid {z : Cs} {mh : MH} (hl : z.length + 2 ≤ SL) : opSl (.str (S (40 :: (z ++ [41])))) (some 1) (some (-1)) mh = .ok (.str (S z)) mh := by
  have hlen : (40 :: (z ++ [41]) : Cs).length = z.length + 2 := by simp
  unfold opSl
  dsimp only
  rw [S_len, if_pos (by rw [hlen]; exact hl)]
  have e : cutS (S (40 :: (z ++ [41]))) (some 1) (some (-1)) = S z := by
    unfold cutS
    rw [S_cps, S_len, hlen]
    have e1 : HT.sIx (z.length + 2) 0 (some 1) = 1 := by
      show HT.sIx (z.length + 2) 0 (some ((1 : Nat) : Int)) = 1
      rw [HT.sIx_nat]; omega
    have e2 : HT.sIx (z.length + 2) (z.length + 2) (some (-1)) = z.length + 1 := by
      show (if (-1 : Int) < 0 then ((-1 : Int) + ((z.length + 2 : Nat) : Int)).toNat else min (-1 : Int).toNat (z.length + 2)) = _
      rw [if_pos (by omega)]
      omega
    rw [e1, e2]
    show S (((40 :: (z ++ [41]) : Cs).drop 1).take (z.length + 1 - 1)) = S z
    congr 1
    simp
  rw [e]
theorem law_line_px {l : Cs} (hl : l.length ≤ 400000) (hc : okC l) (mh : MH) :
    PX (F_law_line [.str (S l)] mh) (fun d h => mh <+: h ∧ d = match readLine l with | some row => .tup row | none => .non) nX := by
  have hSL : SL = 16777216 := rfl
  have b0 : (0 : Nat) ≤ SL := by omega
  have b1' : (1 : Nat) ≤ SL := by omega
  unfold F_law_line B_law_line
  simp only [ev_var, ev_C, ev_bin, ev_and, ev_or, ev_not, ev_neg, ev_opNeg, ev_tru, ev_truB, ev_B, ev_tAnd, ev_tOr, ev_tNot, ev_if, ev_nil, ev_cons, ev_tup, ev_lst, ev_P0, ev_P1, ev_sl, ev_CB, ev_call, ev_skip, ev_seq, ev_break, ev_cont, ev_drop, ev_ret, ev_retN, ev_ifS, ev_set, ev_asgN, ev_setIx, ev_iter, ev_rng1, ev_for, ev_yes, ev_def, ev_meth0, ev_meth, ev_isI, ev_raise, ev_repl, ev_split1, px_bind, px_safe, px_ok, px_exc, px_bad, px_iteB, px_ite, List.getElem?_cons_zero, List.getElem?_cons_succ, List.set_cons_zero, List.set_cons_succ, List.map_cons, List.map_nil, List.cons_append, List.nil_append, List.length_cons, List.length_nil, Nat.reduceAdd, Nat.reduceSub, List.replicate_succ, List.replicate_zero, if_true, if_false, Bool.false_eq_true, Bool.not_true, Bool.not_false, b0, b1']
  unfold T10_law_line
  have hs1 := sub_len 40 [32, 40, 32] l
  have hs2 := sub_len 41 [32, 41, 32] (sub 40 [32, 40, 32] l)
  simp only [List.length_cons, List.length_nil] at hs1 hs2
  have hspl : (spread l).length ≤ 16 * l.length := by unfold spread; omega
  have hwl : lsAt ((mh ++ [MO.lst []] ++ [MO.lst [D.ref mh.length]]) ++ [MO.lst (toStrs (sp 32 (spread l)))]) (mh ++ [MO.lst []] ++ [MO.lst [D.ref mh.length]]).length = some (toStrs (sp 32 (spread l))) := lsAt_lst get_new
  have isS : ∀ x : Str, isStrD (.str x) = true := fun _ => rfl
  simp only [ev_var, ev_C, ev_bin, ev_and, ev_or, ev_not, ev_neg, ev_opNeg, ev_tru, ev_truB, ev_B, ev_tAnd, ev_tOr, ev_tNot, ev_if, ev_nil, ev_cons, ev_tup, ev_lst, ev_P0, ev_P1, ev_sl, ev_CB, ev_call, ev_skip, ev_seq, ev_break, ev_cont, ev_drop, ev_ret, ev_retN, ev_ifS, ev_set, ev_asgN, ev_setIx, ev_iter, ev_rng1, ev_for, ev_yes, ev_def, ev_meth0, ev_meth, ev_isI, ev_raise, ev_repl, ev_split1, px_bind, px_safe, px_ok, px_exc, px_bad, px_iteB, px_ite, List.getElem?_cons_zero, List.getElem?_cons_succ, List.set_cons_zero, List.set_cons_succ, List.map_cons, List.map_nil, List.cons_append, List.nil_append, List.length_cons, List.length_nil, Nat.reduceAdd, Nat.reduceSub, List.replicate_succ, List.replicate_zero, if_true, if_false, Bool.false_eq_true, Bool.not_true, Bool.not_false, k_op, k_o3, repl_ok (l := l) (c := 40) (z := [32, 40, 32]) (by simp only [List.length_cons, List.length_nil]; omega), k_cl, k_c3, repl_ok (l := sub 40 [32, 40, 32] l) (c := 41) (z := [32, 41, 32]) (by simp only [List.length_cons, List.length_nil]; omega), isS, k_sp]
  rw [show sub 41 [32, 41, 32] (sub 40 [32, 40, 32] l) = spread l from rfl]
  rw [split_ok (show (spread l).length + 2 ≤ SL by omega)]
  simp only [ev_var, ev_C, ev_bin, ev_and, ev_or, ev_not, ev_neg, ev_opNeg, ev_tru, ev_truB, ev_B, ev_tAnd, ev_tOr, ev_tNot, ev_if, ev_nil, ev_cons, ev_tup, ev_lst, ev_P0, ev_P1, ev_sl, ev_CB, ev_call, ev_skip, ev_seq, ev_break, ev_cont, ev_drop, ev_ret, ev_retN, ev_ifS, ev_set, ev_asgN, ev_setIx, ev_iter, ev_rng1, ev_for, ev_yes, ev_def, ev_meth0, ev_meth, ev_isI, ev_raise, ev_repl, ev_split1, px_bind, px_safe, px_ok, px_exc, px_bad, px_iteB, px_ite, List.getElem?_cons_zero, List.getElem?_cons_succ, List.set_cons_zero, List.set_cons_succ, List.map_cons, List.map_nil, List.cons_append, List.nil_append, List.length_cons, List.length_nil, Nat.reduceAdd, Nat.reduceSub, List.replicate_succ, List.replicate_zero, if_true, if_false, Bool.false_eq_true, Bool.not_true, Bool.not_false]
  unfold T9_law_line
  rw [ev_seq, px_bind, ev_for, px_bind, ev_iter, px_bind]
  have hfil := toStrs_filter (sp 32 (spread l))
  rw [law_tokens] at hfil
  have hspn := sp_len 32 (spread l)
  generalize hh1 : (mh ++ [MO.lst []] ++ [MO.lst [D.ref mh.length]]) = h1 at hwl
  generalize hh2 : h1 ++ [MO.lst (toStrs (sp 32 (spread l)))] = h2 at hwl
  have p12 : h1 <+: h2 := by rw [← hh2]; exact pre_app _ _
  have p01 : mh <+: h1 := by rw [← hh1]; exact (pre_app _ _).trans (pre_app _ _)
  have hsub := sp_sub 32 (spread l)
  have hspc : okC (spread l) := by
    have : ∀ (c : Nat) (z l : Cs), okC z → okC l → okC (sub c z l) := fun c z l hz hl x hx => by
      unfold sub at hx
      obtain ⟨k, hk, hx⟩ := List.mem_flatMap.mp hx
      split at hx
      · exact hz x hx
      · rw [List.mem_singleton.mp hx]; exact hl k hk
    exact this _ _ _ (okC_of rfl) (this _ _ _ (okC_of rfl) hc)
  have hwt := wt_tk l []
  have hok := okC_tk l [] okC_nil hc
  have hne := tk_ne l []
  have hcnt := wt_count (tk [] l)
  simp only [List.length_nil, Nat.zero_add] at hwt
  refine comp_pure (src := srcL h1.length) (ds := toStrs (sp 32 (spread l))) (q := fun d => match d with | .str z => !(z == S []) | _ => false) (f := fun d => d) ?_ (by rw [toStrs_len]; omega) (fun i h p => srcL_pre hwl p) ?_ ?_
  · rw [ev_iter]
    show (match lsAt h2 h1.length with | some ds => Res.ok (ds.length, srcL h1.length) h2 | none => Res.bad) = _
    rw [hwl]
  · intro d hd h p
    obtain ⟨w, hw, rfl⟩ := List.mem_map.mp hd
    refine ⟨_, rfl, ?_, fun _ => rfl⟩
    show (opNe (.str (S w)) (.str (Str.ofString "")) h).bind (fun d mh1 => match d with | .bl k => Res.ok k mh1 | _ => Res.bad) = _
    rw [k_e, Mi.ne_str (okC_S (fun x hx => hspc x ((hsub w hw).2 x hx))) (okC_S okC_nil)]
    rfl
  · intro h3 p23 hk3
    rw [hfil, List.map_id'] at hk3
    generalize hts : tk [] l = ts at hk3 hwt hok hne hcnt
    have hls3 : lsAt h3 h2.length = some (toStrs ts) := lsAt_lst hk3
    simp only [ev_var, ev_C, ev_bin, ev_and, ev_or, ev_not, ev_neg, ev_opNeg, ev_tru, ev_truB, ev_B, ev_tAnd, ev_tOr, ev_tNot, ev_if, ev_nil, ev_cons, ev_tup, ev_lst, ev_P0, ev_P1, ev_sl, ev_CB, ev_call, ev_skip, ev_seq, ev_break, ev_cont, ev_drop, ev_ret, ev_retN, ev_ifS, ev_set, ev_asgN, ev_setIx, ev_iter, ev_rng1, ev_for, ev_yes, ev_def, ev_meth0, ev_meth, ev_isI, ev_raise, ev_repl, ev_split1, px_bind, px_safe, px_ok, px_exc, px_bad, px_iteB, px_ite, List.getElem?_cons_zero, List.getElem?_cons_succ, List.set_cons_zero, List.set_cons_succ, List.map_cons, List.map_nil, List.cons_append, List.nil_append, List.length_cons, List.length_nil, Nat.reduceAdd, Nat.reduceSub, List.replicate_succ, List.replicate_zero, if_true, if_false, Bool.false_eq_true, Bool.not_true, Bool.not_false, hls3, toStrs_len]
    have p13 := p12.trans p23
    have inv0 : InvW l h1.length h2.length (mh.length + 1) mh ts 0 [some (.str (S l)), some (.ref (mh.length + 1)), some (.ref h1.length), none, none, none, none, none, none] h3 := by
      refine ⟨[mh.length], [[]], none, none, none, none, none, none, rfl, p01.trans p13, ⟨?_, by omega, by simp, by simp, ?_, ?_, trivial⟩, rfl, ?_, hk3, ?_, ?_⟩
      · refine pre_some p13 ?_
        rw [← hh1, List.getElem?_append_right (by simp)]
        simp
      · intro a ha; rw [List.mem_singleton.mp ha]; exact Nat.le_refl _
      · refine pre_some p13 ?_
        rw [← hh1, List.append_assoc, List.getElem?_append_right (Nat.le_refl _)]
        simp
      · intro r hr; rw [List.mem_singleton.mp hr]; exact Nat.le_refl _
      · have := pre_len p12
        rw [← hh1] at this
        simp at this
        omega
      · intro m
        have := pre_len p12
        rw [← hh1] at this
        simp at this m
        omega
    have eK : (mh ++ [MO.lst []]).length = mh.length + 1 := by simp
    rw [eK]
    refine loop_px (InvW l h1.length h2.length (mh.length + 1) mh ts) _ _ _ _ inv0 ?_ ?_
    · intro j env h _ hj inv
      have hj' : j < ts.length := by omega
      obtain ⟨as, st, y3, y4, y5, y6, y7, y8, rfl, p, s, eg, hr, hkt, n1, n2⟩ := id inv
      refine ⟨.str (S ts[j]), _, ?_, rfl, ?_⟩
      · rw [srcL_at (lsAt_lst hkt), toStrs_at hj']
      · refine (law_line_step (R := readLine l = none) (fun t ht => ⟨hne t ht, by have := wt_mem ht; omega, hok t ht⟩) (by omega) (fun e => by rw [read_law]; unfold lawLine; rw [hts, e]) hj' inv).mono (fun f h4 z => ?_) (fun _ _ _ z => z)
        cases f with
        | nx e => exact z
        | rt d =>
          obtain ⟨z1, rfl, z3⟩ := z
          show PX (Res.ok _ _) _ _
          exact ⟨z3, by rw [z1]⟩
        | _ => exact z.elim
    · rintro env h ⟨as, st, y3, y4, y5, y6, y7, y8, rfl, p, s, eg, hr, hkt, n1, n2⟩
      rw [Nat.zero_add] at *
      rw [List.take_length] at eg
      refine ⟨by rw [srcL_at (lsAt_lst hkt), List.getElem?_eq_none (by rw [toStrs_len]; exact Nat.le_refl _)], ?_⟩
      have hlas := rowsAt_len s.rows
      have hl1 : (as.reverse.map D.ref).length = st.length := by simp [hlas]
      have hst : st ≠ [] := fun e => by rw [e] at eg; exact go_ne _ [[]] (by simp) eg
      have er : readLine l = lawLine l := read_law l
      unfold lawLine at er
      rw [hts, eg] at er
      unfold T8_law_line C6_law_line
      have e1 : opGt (.int (st.length : Nat)) (.int 1) h = .ok (.bl (decide (1 < st.length))) h := gt_nat (b := 1)
      simp only [ev_var, ev_C, ev_bin, ev_and, ev_or, ev_not, ev_neg, ev_opNeg, ev_tru, ev_truB, ev_B, ev_tAnd, ev_tOr, ev_tNot, ev_if, ev_nil, ev_cons, ev_tup, ev_lst, ev_P0, ev_P1, ev_sl, ev_CB, ev_call, ev_skip, ev_seq, ev_break, ev_cont, ev_drop, ev_ret, ev_retN, ev_ifS, ev_set, ev_asgN, ev_setIx, ev_iter, ev_rng1, ev_for, ev_yes, ev_def, ev_meth0, ev_meth, ev_isI, ev_raise, ev_repl, ev_split1, px_bind, px_safe, px_ok, px_exc, px_bad, px_iteB, px_ite, List.getElem?_cons_zero, List.getElem?_cons_succ, List.set_cons_zero, List.set_cons_succ, List.map_cons, List.map_nil, List.cons_append, List.nil_append, List.length_cons, List.length_nil, Nat.reduceAdd, Nat.reduceSub, List.replicate_succ, List.replicate_zero, if_true, if_false, Bool.false_eq_true, Bool.not_true, Bool.not_false, len_ls s.ls, hl1, e1]
      by_cases c2 : 1 < st.length
      · simp only [decide_eq_true c2, ev_var, ev_C, ev_bin, ev_and, ev_or, ev_not, ev_neg, ev_opNeg, ev_tru, ev_truB, ev_B, ev_tAnd, ev_tOr, ev_tNot, ev_if, ev_nil, ev_cons, ev_tup, ev_lst, ev_P0, ev_P1, ev_sl, ev_CB, ev_call, ev_skip, ev_seq, ev_break, ev_cont, ev_drop, ev_ret, ev_retN, ev_ifS, ev_set, ev_asgN, ev_setIx, ev_iter, ev_rng1, ev_for, ev_yes, ev_def, ev_meth0, ev_meth, ev_isI, ev_raise, ev_repl, ev_split1, px_bind, px_safe, px_ok, px_exc, px_bad, px_iteB, px_ite, List.getElem?_cons_zero, List.getElem?_cons_succ, List.set_cons_zero, List.set_cons_succ, List.map_cons, List.map_nil, List.cons_append, List.nil_append, List.length_cons, List.length_nil, Nat.reduceAdd, Nat.reduceSub, List.replicate_succ, List.replicate_zero, if_true, if_false, Bool.false_eq_true, Bool.not_true, Bool.not_false]
        refine ⟨p, ?_⟩
        match st, c2, er with
        | [], c2, _ => simp at c2
        | [_], c2, _ => simp at c2
        | _ :: _ :: _, _, er => rw [er]
      · obtain ⟨row, rfl⟩ : ∃ row, st = [row] := by
          match st, c2, hst with
          | [], _, hst => exact absurd rfl hst
          | [r], _, _ => exact ⟨r, rfl⟩
          | _ :: _ :: _, c2, _ => exact absurd (by simp) c2
        obtain ⟨a, rfl⟩ : ∃ a, as = [a] := by
          match as, hlas with
          | [a], _ => exact ⟨a, rfl⟩
        dsimp only at er
        obtain ⟨o1, o2, _⟩ := go_ok _ eg okSt0
        have hpl : plns row := okM_pln (.tup row) o1
        have o2' : deps row ≤ 11 := by simpa using o2
        have ex : opIx (.ref (mh.length + 1)) (.int 0) h = .ok (.ref a) h := ix_ls (n := 0) s.ls rfl
        have hla : lsAt (h ++ [MO.lst []]) a = some row := lsAt_lst (pre_some (pre_app _ _) s.rows.1)
        have hlb : lsAt (h ++ [MO.lst []]) h.length = some [] := lsAt_lst get_new
        simp only [decide_eq_false c2, ev_var, ev_C, ev_bin, ev_and, ev_or, ev_not, ev_neg, ev_opNeg, ev_tru, ev_truB, ev_B, ev_tAnd, ev_tOr, ev_tNot, ev_if, ev_nil, ev_cons, ev_tup, ev_lst, ev_P0, ev_P1, ev_sl, ev_CB, ev_call, ev_skip, ev_seq, ev_break, ev_cont, ev_drop, ev_ret, ev_retN, ev_ifS, ev_set, ev_asgN, ev_setIx, ev_iter, ev_rng1, ev_for, ev_yes, ev_def, ev_meth0, ev_meth, ev_isI, ev_raise, ev_repl, ev_split1, px_bind, px_safe, px_ok, px_exc, px_bad, px_iteB, px_ite, List.getElem?_cons_zero, List.getElem?_cons_succ, List.set_cons_zero, List.set_cons_succ, List.map_cons, List.map_nil, List.cons_append, List.nil_append, List.length_cons, List.length_nil, Nat.reduceAdd, Nat.reduceSub, List.replicate_succ, List.replicate_zero, if_true, if_false, Bool.false_eq_true, Bool.not_true, Bool.not_false, ex, b0, eq_empty hla hlb hpl (by omega)]
        have pp : mh <+: h ++ [MO.lst []] := p.trans (pre_app _ _)
        cases c3 : row.isEmpty with
        | true =>
          simp only [ev_var, ev_C, ev_bin, ev_and, ev_or, ev_not, ev_neg, ev_opNeg, ev_tru, ev_truB, ev_B, ev_tAnd, ev_tOr, ev_tNot, ev_if, ev_nil, ev_cons, ev_tup, ev_lst, ev_P0, ev_P1, ev_sl, ev_CB, ev_call, ev_skip, ev_seq, ev_break, ev_cont, ev_drop, ev_ret, ev_retN, ev_ifS, ev_set, ev_asgN, ev_setIx, ev_iter, ev_rng1, ev_for, ev_yes, ev_def, ev_meth0, ev_meth, ev_isI, ev_raise, ev_repl, ev_split1, px_bind, px_safe, px_ok, px_exc, px_bad, px_iteB, px_ite, List.getElem?_cons_zero, List.getElem?_cons_succ, List.set_cons_zero, List.set_cons_succ, List.map_cons, List.map_nil, List.cons_append, List.nil_append, List.length_cons, List.length_nil, Nat.reduceAdd, Nat.reduceSub, List.replicate_succ, List.replicate_zero, if_true, if_false, Bool.false_eq_true, Bool.not_true, Bool.not_false]
          rw [c3, if_pos rfl] at er
          exact ⟨pp, by rw [er]⟩
        | false =>
          rw [c3, if_neg Bool.false_ne_true] at er
          simp only [ev_var, ev_C, ev_bin, ev_and, ev_or, ev_not, ev_neg, ev_opNeg, ev_tru, ev_truB, ev_B, ev_tAnd, ev_tOr, ev_tNot, ev_if, ev_nil, ev_cons, ev_tup, ev_lst, ev_P0, ev_P1, ev_sl, ev_CB, ev_call, ev_skip, ev_seq, ev_break, ev_cont, ev_drop, ev_ret, ev_retN, ev_ifS, ev_set, ev_asgN, ev_setIx, ev_iter, ev_rng1, ev_for, ev_yes, ev_def, ev_meth0, ev_meth, ev_isI, ev_raise, ev_repl, ev_split1, px_bind, px_safe, px_ok, px_exc, px_bad, px_iteB, px_ite, List.getElem?_cons_zero, List.getElem?_cons_succ, List.set_cons_zero, List.set_cons_succ, List.map_cons, List.map_nil, List.cons_append, List.nil_append, List.length_cons, List.length_nil, Nat.reduceAdd, Nat.reduceSub, List.replicate_succ, List.replicate_zero, if_true, if_false, Bool.false_eq_true, Bool.not_true, Bool.not_false]
          unfold T7_law_line
          have hls' : lsAt (h ++ [MO.lst []]) (mh.length + 1) = some [.ref a] := pre_ls (pre_app _ _) s.ls
          have ex' : opIx (.ref (mh.length + 1)) (.int 0) (h ++ [MO.lst []]) = .ok (.ref a) (h ++ [MO.lst []]) := ix_ls (n := 0) hls' rfl
          simp only [ev_var, ev_C, ev_bin, ev_and, ev_or, ev_not, ev_neg, ev_opNeg, ev_tru, ev_truB, ev_B, ev_tAnd, ev_tOr, ev_tNot, ev_if, ev_nil, ev_cons, ev_tup, ev_lst, ev_P0, ev_P1, ev_sl, ev_CB, ev_call, ev_skip, ev_seq, ev_break, ev_cont, ev_drop, ev_ret, ev_retN, ev_ifS, ev_set, ev_asgN, ev_setIx, ev_iter, ev_rng1, ev_for, ev_yes, ev_def, ev_meth0, ev_meth, ev_isI, ev_raise, ev_repl, ev_split1, px_bind, px_safe, px_ok, px_exc, px_bad, px_iteB, px_ite, List.getElem?_cons_zero, List.getElem?_cons_succ, List.set_cons_zero, List.set_cons_succ, List.map_cons, List.map_nil, List.cons_append, List.nil_append, List.length_cons, List.length_nil, Nat.reduceAdd, Nat.reduceSub, List.replicate_succ, List.replicate_zero, if_true, if_false, Bool.false_eq_true, Bool.not_true, Bool.not_false, ex', tupOf hla]
          unfold T6_law_line
          simp only [ev_var, ev_C, ev_bin, ev_and, ev_or, ev_not, ev_neg, ev_opNeg, ev_tru, ev_truB, ev_B, ev_tAnd, ev_tOr, ev_tNot, ev_if, ev_nil, ev_cons, ev_tup, ev_lst, ev_P0, ev_P1, ev_sl, ev_CB, ev_call, ev_skip, ev_seq, ev_break, ev_cont, ev_drop, ev_ret, ev_retN, ev_ifS, ev_set, ev_asgN, ev_setIx, ev_iter, ev_rng1, ev_for, ev_yes, ev_def, ev_meth0, ev_meth, ev_isI, ev_raise, ev_repl, ev_split1, px_bind, px_safe, px_ok, px_exc, px_bad, px_iteB, px_ite, List.getElem?_cons_zero, List.getElem?_cons_succ, List.set_cons_zero, List.set_cons_succ, List.map_cons, List.map_nil, List.cons_append, List.nil_append, List.length_cons, List.length_nil, Nat.reduceAdd, Nat.reduceSub, List.replicate_succ, List.replicate_zero, if_true, if_false, Bool.false_eq_true, Bool.not_true, Bool.not_false]
          have hwr : wr (.tup row) = 40 :: (wrs row ++ [41]) := rfl
          have hwl2 : (wrs row).length ≤ 800000 := by
            have h1 := go_toks eg
            have h2 := lineOf_row row o1
            rw [← h2, ← h1]
            have := lineOf_len ts
            omega
          refine (law_written_px 20 (.tup row) _ o1 (by show deps row + 1 < 20; omega) (by rw [hwr]; simp; omega)).mono (fun d h4 z => ?_) (fun _ _ _ z => z)
          obtain ⟨rfl, p4⟩ := z
          have okw : okC (wrs row) := by
            have h1 := go_toks eg
            rw [← lineOf_row row o1, ← h1]
            exact okC_lineOf hok
          simp only [hwr, s_mid (show (wrs row).length + 2 ≤ SL by omega), ev_var, ev_C, ev_bin, ev_and, ev_or, ev_not, ev_neg, ev_opNeg, ev_tru, ev_truB, ev_B, ev_tAnd, ev_tOr, ev_tNot, ev_if, ev_nil, ev_cons, ev_tup, ev_lst, ev_P0, ev_P1, ev_sl, ev_CB, ev_call, ev_skip, ev_seq, ev_break, ev_cont, ev_drop, ev_ret, ev_retN, ev_ifS, ev_set, ev_asgN, ev_setIx, ev_iter, ev_rng1, ev_for, ev_yes, ev_def, ev_meth0, ev_meth, ev_isI, ev_raise, ev_repl, ev_split1, px_bind, px_safe, px_ok, px_exc, px_bad, px_iteB, px_ite, List.getElem?_cons_zero, List.getElem?_cons_succ, List.set_cons_zero, List.set_cons_succ, List.map_cons, List.map_nil, List.cons_append, List.nil_append, List.length_cons, List.length_nil, Nat.reduceAdd, Nat.reduceSub, List.replicate_succ, List.replicate_zero, if_true, if_false, Bool.false_eq_true, Bool.not_true, Bool.not_false, s_eq okw hc]
          by_cases c4 : wrs row = l
          · rw [if_pos c4] at er
            simp only [decide_eq_true c4, ev_var, ev_C, ev_bin, ev_and, ev_or, ev_not, ev_neg, ev_opNeg, ev_tru, ev_truB, ev_B, ev_tAnd, ev_tOr, ev_tNot, ev_if, ev_nil, ev_cons, ev_tup, ev_lst, ev_P0, ev_P1, ev_sl, ev_CB, ev_call, ev_skip, ev_seq, ev_break, ev_cont, ev_drop, ev_ret, ev_retN, ev_ifS, ev_set, ev_asgN, ev_setIx, ev_iter, ev_rng1, ev_for, ev_yes, ev_def, ev_meth0, ev_meth, ev_isI, ev_raise, ev_repl, ev_split1, px_bind, px_safe, px_ok, px_exc, px_bad, px_iteB, px_ite, List.getElem?_cons_zero, List.getElem?_cons_succ, List.set_cons_zero, List.set_cons_succ, List.map_cons, List.map_nil, List.cons_append, List.nil_append, List.length_cons, List.length_nil, Nat.reduceAdd, Nat.reduceSub, List.replicate_succ, List.replicate_zero, if_true, if_false, Bool.false_eq_true, Bool.not_true, Bool.not_false]
            exact ⟨pp.trans p4, by rw [er]⟩
          · rw [if_neg c4] at er
            simp only [decide_eq_false c4, ev_var, ev_C, ev_bin, ev_and, ev_or, ev_not, ev_neg, ev_opNeg, ev_tru, ev_truB, ev_B, ev_tAnd, ev_tOr, ev_tNot, ev_if, ev_nil, ev_cons, ev_tup, ev_lst, ev_P0, ev_P1, ev_sl, ev_CB, ev_call, ev_skip, ev_seq, ev_break, ev_cont, ev_drop, ev_ret, ev_retN, ev_ifS, ev_set, ev_asgN, ev_setIx, ev_iter, ev_rng1, ev_for, ev_yes, ev_def, ev_meth0, ev_meth, ev_isI, ev_raise, ev_repl, ev_split1, px_bind, px_safe, px_ok, px_exc, px_bad, px_iteB, px_ite, List.getElem?_cons_zero, List.getElem?_cons_succ, List.set_cons_zero, List.set_cons_succ, List.map_cons, List.map_nil, List.cons_append, List.nil_append, List.length_cons, List.length_nil, Nat.reduceAdd, Nat.reduceSub, List.replicate_succ, List.replicate_zero, if_true, if_false, Bool.false_eq_true, Bool.not_true, Bool.not_false]
            exact ⟨pp.trans p4, by rw [er]⟩
/-! ### _law_read -/
theorem cl_grow {t : D → Mi.Env → Option Mi.Env} {elt : ME} {env : Mi.Env} {mh : MH} {src : Src} {ds : List D} {f : D → D} {P : D → MH → Prop} {X : Nat → List (Str × D) → MH → Prop} (hl : ds.length ≤ SL)
    (hsrc : ∀ i h, mh <+: h → src i h = some ds[i]?) (hel : ∀ d ∈ ds, ∀ h, mh <+: h → ∃ env1, t d env = some env1 ∧ PX (elt env1 h) (fun y h2 => y = f d ∧ h <+: h2) nX)
    (hP : ∀ h, mh <+: h → h[mh.length]? = some (.lst (ds.map f)) → P (.ref mh.length) h) : PX (mCLoop src mh.length t mYes elt env ds.length 0 (mh ++ [.lst []])) P X := by
  refine cloop_px (fun i acc h => mh <+: h ∧ acc = (ds.take i).map f) ds.length 0 [] _ ⟨pre_app _ _, by simp⟩ (by simp) ?_ ?_
  · rintro j acc h h1 h2 ⟨p, ea⟩ hk
    have hj : j < ds.length := by omega
    obtain ⟨env1, e1, e2⟩ := hel ds[j] (List.getElem_mem hj) h p
    have et : ds.take (j + 1) = ds.take j ++ [ds[j]] := by rw [List.take_add_one, List.getElem?_eq_getElem hj]; rfl
    refine ⟨ds[j], env1, by rw [hsrc j h p, List.getElem?_eq_getElem hj], e1, ?_⟩
    rw [ev_yes, px_ok, if_pos rfl]
    refine e2.imp fun y h2 z => ?_
    obtain ⟨rfl, p2⟩ := z
    refine ⟨pre_some p2 hk, ?_, pre_set (p.trans p2) (Nat.le_refl _) _, ?_⟩
    · rw [ea, List.length_map, List.length_take]; omega
    · rw [et, List.map_append, ea]; rfl
  · rintro acc h ⟨p, ea⟩ hk
    rw [Nat.zero_add, List.take_length] at ea
    refine ⟨by rw [hsrc _ h p]; simp, hP h p (by rw [hk, ea])⟩
def rowD (l : Cs) : D := match readLine l with
  | some row => .tup row
  | none => .non
theorem law_read_px {t : Cs} (ht : t.length ≤ 400000) (hc : okC t) (mh : MH) : PX (F_law_read [.str (S t)] mh) (fun d h => d = readP t ∧ mh <+: h) nX := by
  have hSL : SL = 16777216 := rfl
  have b0 : (0 : Nat) ≤ SL := by omega
  have b2 : (2 : Nat) ≤ SL := by omega
  unfold F_law_read B_law_read C1_law_read
  simp only [ev_var, ev_C, ev_bin, ev_and, ev_or, ev_not, ev_neg, ev_opNeg, ev_tru, ev_truB, ev_B, ev_tAnd, ev_tOr, ev_tNot, ev_if, ev_nil, ev_cons, ev_tup, ev_lst, ev_P0, ev_P1, ev_sl, ev_CB, ev_call, ev_skip, ev_seq, ev_break, ev_cont, ev_drop, ev_ret, ev_retN, ev_ifS, ev_set, ev_asgN, ev_setIx, ev_iter, ev_rng1, ev_for, ev_yes, ev_def, ev_meth0, ev_meth, ev_isI, ev_raise, ev_repl, ev_split1, px_bind, px_safe, px_ok, px_exc, px_bad, px_iteB, px_ite, List.getElem?_cons_zero, List.getElem?_cons_succ, List.set_cons_zero, List.set_cons_succ, List.map_cons, List.map_nil, List.cons_append, List.nil_append, List.length_cons, List.length_nil, Nat.reduceAdd, Nat.reduceSub, List.replicate_succ, List.replicate_zero, if_true, if_false, Bool.false_eq_true, Bool.not_true, Bool.not_false, k_e, s_eq hc okC_nil]
  by_cases c0 : t = []
  · simp only [decide_eq_true c0, ev_var, ev_C, ev_bin, ev_and, ev_or, ev_not, ev_neg, ev_opNeg, ev_tru, ev_truB, ev_B, ev_tAnd, ev_tOr, ev_tNot, ev_if, ev_nil, ev_cons, ev_tup, ev_lst, ev_P0, ev_P1, ev_sl, ev_CB, ev_call, ev_skip, ev_seq, ev_break, ev_cont, ev_drop, ev_ret, ev_retN, ev_ifS, ev_set, ev_asgN, ev_setIx, ev_iter, ev_rng1, ev_for, ev_yes, ev_def, ev_meth0, ev_meth, ev_isI, ev_raise, ev_repl, ev_split1, px_bind, px_safe, px_ok, px_exc, px_bad, px_iteB, px_ite, List.getElem?_cons_zero, List.getElem?_cons_succ, List.set_cons_zero, List.set_cons_succ, List.map_cons, List.map_nil, List.cons_append, List.nil_append, List.length_cons, List.length_nil, Nat.reduceAdd, Nat.reduceSub, List.replicate_succ, List.replicate_zero, if_true, if_false, Bool.false_eq_true, Bool.not_true, Bool.not_false, b0, b2]
    exact ⟨by rw [c0]; rfl, List.prefix_refl _⟩
  · simp only [decide_eq_false c0, ev_var, ev_C, ev_bin, ev_and, ev_or, ev_not, ev_neg, ev_opNeg, ev_tru, ev_truB, ev_B, ev_tAnd, ev_tOr, ev_tNot, ev_if, ev_nil, ev_cons, ev_tup, ev_lst, ev_P0, ev_P1, ev_sl, ev_CB, ev_call, ev_skip, ev_seq, ev_break, ev_cont, ev_drop, ev_ret, ev_retN, ev_ifS, ev_set, ev_asgN, ev_setIx, ev_iter, ev_rng1, ev_for, ev_yes, ev_def, ev_meth0, ev_meth, ev_isI, ev_raise, ev_repl, ev_split1, px_bind, px_safe, px_ok, px_exc, px_bad, px_iteB, px_ite, List.getElem?_cons_zero, List.getElem?_cons_succ, List.set_cons_zero, List.set_cons_succ, List.map_cons, List.map_nil, List.cons_append, List.nil_append, List.length_cons, List.length_nil, Nat.reduceAdd, Nat.reduceSub, List.replicate_succ, List.replicate_zero, if_true, if_false, Bool.false_eq_true, Bool.not_true, Bool.not_false]
    unfold T3_law_read
    have hlen := sp_len 10 t
    have hsub := sp_sub 10 t
    have er : readP t = toldD (rowsP 1 (sp 10 t)) := by unfold readP; rw [if_neg c0]
    simp only [ev_var, ev_C, ev_bin, ev_and, ev_or, ev_not, ev_neg, ev_opNeg, ev_tru, ev_truB, ev_B, ev_tAnd, ev_tOr, ev_tNot, ev_if, ev_nil, ev_cons, ev_tup, ev_lst, ev_P0, ev_P1, ev_sl, ev_CB, ev_call, ev_skip, ev_seq, ev_break, ev_cont, ev_drop, ev_ret, ev_retN, ev_ifS, ev_set, ev_asgN, ev_setIx, ev_iter, ev_rng1, ev_for, ev_yes, ev_def, ev_meth0, ev_meth, ev_isI, ev_raise, ev_repl, ev_split1, px_bind, px_safe, px_ok, px_exc, px_bad, px_iteB, px_ite, List.getElem?_cons_zero, List.getElem?_cons_succ, List.set_cons_zero, List.set_cons_succ, List.map_cons, List.map_nil, List.cons_append, List.nil_append, List.length_cons, List.length_nil, Nat.reduceAdd, Nat.reduceSub, List.replicate_succ, List.replicate_zero, if_true, if_false, Bool.false_eq_true, Bool.not_true, Bool.not_false, ev_comp, ty_str, k_nl, split_ok (show t.length + 2 ≤ SL by omega)]
    have hls : lsAt (mh ++ [MO.lst (toStrs (sp 10 t))]) mh.length = some (toStrs (sp 10 t)) := lsAt_lst get_new
    generalize hls' : sp 10 t = ls at hlen hls er hsub
    generalize hh1 : mh ++ [MO.lst (toStrs ls)] = h1 at hls
    have p01 : mh <+: h1 := by rw [← hh1]; exact pre_app _ _
    simp only [ev_var, ev_C, ev_bin, ev_and, ev_or, ev_not, ev_neg, ev_opNeg, ev_tru, ev_truB, ev_B, ev_tAnd, ev_tOr, ev_tNot, ev_if, ev_nil, ev_cons, ev_tup, ev_lst, ev_P0, ev_P1, ev_sl, ev_CB, ev_call, ev_skip, ev_seq, ev_break, ev_cont, ev_drop, ev_ret, ev_retN, ev_ifS, ev_set, ev_asgN, ev_setIx, ev_iter, ev_rng1, ev_for, ev_yes, ev_def, ev_meth0, ev_meth, ev_isI, ev_raise, ev_repl, ev_split1, px_bind, px_safe, px_ok, px_exc, px_bad, px_iteB, px_ite, List.getElem?_cons_zero, List.getElem?_cons_succ, List.set_cons_zero, List.set_cons_succ, List.map_cons, List.map_nil, List.cons_append, List.nil_append, List.length_cons, List.length_nil, Nat.reduceAdd, Nat.reduceSub, List.replicate_succ, List.replicate_zero, if_true, if_false, Bool.false_eq_true, Bool.not_true, Bool.not_false, hls]
    refine cl_grow (ds := toStrs ls) (f := fun d => match d with | .str z => rowD z.cps.toList | _ => .non) (by rw [toStrs_len]; omega) (fun i h p => srcL_pre hls p) ?_ ?_
    · intro d hd h p
      obtain ⟨w, hw, rfl⟩ := List.mem_map.mp hd
      obtain ⟨w1, w2⟩ := hsub w hw
      refine ⟨_, rfl, ?_⟩
      simp only [wipeE, nName, ev_var, ev_C, ev_bin, ev_and, ev_or, ev_not, ev_neg, ev_opNeg, ev_tru, ev_truB, ev_B, ev_tAnd, ev_tOr, ev_tNot, ev_if, ev_nil, ev_cons, ev_tup, ev_lst, ev_P0, ev_P1, ev_sl, ev_CB, ev_call, ev_skip, ev_seq, ev_break, ev_cont, ev_drop, ev_ret, ev_retN, ev_ifS, ev_set, ev_asgN, ev_setIx, ev_iter, ev_rng1, ev_for, ev_yes, ev_def, ev_meth0, ev_meth, ev_isI, ev_raise, ev_repl, ev_split1, px_bind, px_safe, px_ok, px_exc, px_bad, px_iteB, px_ite, List.getElem?_cons_zero, List.getElem?_cons_succ, List.set_cons_zero, List.set_cons_succ, List.map_cons, List.map_nil, List.cons_append, List.nil_append, List.length_cons, List.length_nil, Nat.reduceAdd, Nat.reduceSub, List.replicate_succ, List.replicate_zero, if_true, if_false, Bool.false_eq_true, Bool.not_true, Bool.not_false]
      refine (law_line_px (by omega) (fun x hx => hc x (w2 x hx)) h).mono (fun d h2 z => ?_) (fun _ _ _ z => z)
      obtain ⟨p2, rfl⟩ := z
      refine ⟨?_, p2⟩
      show _ = rowD (S w).cps.toList
      rw [S_cps]; rfl
    · intro h p hk
      have hk' : h[h1.length]? = some (.lst (ls.map rowD)) := by
        rw [hk]
        unfold toStrs
        rw [List.map_map]
        have em : ls.map ((fun d => match d with | D.str z => rowD z.cps.toList | _ => D.non) ∘ fun t => D.str (S t)) = ls.map rowD := List.map_congr_left fun x _ => by
          show rowD (S x).cps.toList = rowD x
          rw [S_cps]
        rw [em]
      have hl2 := lsAt_lst hk'
      have hml : (ls.map rowD).length = ls.length := List.length_map ..
      unfold T2_law_read
      simp only [ev_var, ev_C, ev_bin, ev_and, ev_or, ev_not, ev_neg, ev_opNeg, ev_tru, ev_truB, ev_B, ev_tAnd, ev_tOr, ev_tNot, ev_if, ev_nil, ev_cons, ev_tup, ev_lst, ev_P0, ev_P1, ev_sl, ev_CB, ev_call, ev_skip, ev_seq, ev_break, ev_cont, ev_drop, ev_ret, ev_retN, ev_ifS, ev_set, ev_asgN, ev_setIx, ev_iter, ev_rng1, ev_for, ev_yes, ev_def, ev_meth0, ev_meth, ev_isI, ev_raise, ev_repl, ev_split1, px_bind, px_safe, px_ok, px_exc, px_bad, px_iteB, px_ite, List.getElem?_cons_zero, List.getElem?_cons_succ, List.set_cons_zero, List.set_cons_succ, List.map_cons, List.map_nil, List.cons_append, List.nil_append, List.length_cons, List.length_nil, Nat.reduceAdd, Nat.reduceSub, List.replicate_succ, List.replicate_zero, if_true, if_false, Bool.false_eq_true, Bool.not_true, Bool.not_false, len_ls hl2, hml, inR_nat (n := ls.length) (by omega), Int.toNat_natCast]
      refine loop_px (fun i env h' => h' = h ∧ ∃ y2 y3, env = [some (.str (S t)), some (.ref h1.length), y2, y3] ∧ rowsP 1 (ls.take i) = .inr ((ls.take i).map rowD)) _ _ _ _ ⟨rfl, none, none, rfl, rfl⟩ ?_ ?_
      · rintro j env h' _ hj ⟨rfl, y2, y3, rfl, ea⟩
        have hj' : j < ls.length := by omega
        refine ⟨_, _, srcR_at hj', rfl, ?_⟩
        have e1 : (ls.map rowD)[j]? = some (rowD ls[j]) := by rw [List.getElem?_map, List.getElem?_eq_getElem hj']; rfl
        have et : ls.take (j + 1) = ls.take j ++ [ls[j]] := by rw [List.take_add_one, List.getElem?_eq_getElem hj']; rfl
        have ej : ls = ls.take j ++ (ls[j] :: ls.drop (j + 1)) := by rw [← List.drop_eq_getElem_cons hj', List.take_append_drop]
        have htl : (ls.take j).length = j := by rw [List.length_take]; omega
        have ea1 : opAdd (.int (j : Int)) (.int 1) h' = .ok (.int ((j + 1 : Nat) : Int)) h' := add_nat (n := 1)
        unfold L1_law_read C2_law_read
        simp only [ev_var, ev_C, ev_bin, ev_and, ev_or, ev_not, ev_neg, ev_opNeg, ev_tru, ev_truB, ev_B, ev_tAnd, ev_tOr, ev_tNot, ev_if, ev_nil, ev_cons, ev_tup, ev_lst, ev_P0, ev_P1, ev_sl, ev_CB, ev_call, ev_skip, ev_seq, ev_break, ev_cont, ev_drop, ev_ret, ev_retN, ev_ifS, ev_set, ev_asgN, ev_setIx, ev_iter, ev_rng1, ev_for, ev_yes, ev_def, ev_meth0, ev_meth, ev_isI, ev_raise, ev_repl, ev_split1, px_bind, px_safe, px_ok, px_exc, px_bad, px_iteB, px_ite, List.getElem?_cons_zero, List.getElem?_cons_succ, List.set_cons_zero, List.set_cons_succ, List.map_cons, List.map_nil, List.cons_append, List.nil_append, List.length_cons, List.length_nil, Nat.reduceAdd, Nat.reduceSub, List.replicate_succ, List.replicate_zero, if_true, if_false, Bool.false_eq_true, Bool.not_true, Bool.not_false, ix_ls hl2 e1]
        cases hr : readLine ls[j] with
        | none =>
          have ed : rowD ls[j] = .non := by unfold rowD; rw [hr]
          have ei : opIs .non .non h' = .ok (.bl true) h' := rfl
          simp only [ed, ei, ev_var, ev_C, ev_bin, ev_and, ev_or, ev_not, ev_neg, ev_opNeg, ev_tru, ev_truB, ev_B, ev_tAnd, ev_tOr, ev_tNot, ev_if, ev_nil, ev_cons, ev_tup, ev_lst, ev_P0, ev_P1, ev_sl, ev_CB, ev_call, ev_skip, ev_seq, ev_break, ev_cont, ev_drop, ev_ret, ev_retN, ev_ifS, ev_set, ev_asgN, ev_setIx, ev_iter, ev_rng1, ev_for, ev_yes, ev_def, ev_meth0, ev_meth, ev_isI, ev_raise, ev_repl, ev_split1, px_bind, px_safe, px_ok, px_exc, px_bad, px_iteB, px_ite, List.getElem?_cons_zero, List.getElem?_cons_succ, List.set_cons_zero, List.set_cons_succ, List.map_cons, List.map_nil, List.cons_append, List.nil_append, List.length_cons, List.length_nil, Nat.reduceAdd, Nat.reduceSub, List.replicate_succ, List.replicate_zero, if_true, if_false, Bool.false_eq_true, Bool.not_true, Bool.not_false, ea1, b2]
          refine ⟨?_, p01.trans p⟩
          rw [er, ej, rowsP_app _ _ ea, htl, rowsP_cons, hr]
          show _ = D.tup [.str "raised", .int ((1 + j : Nat) : Int)]
          rw [Nat.add_comm]
        | some row =>
          have ed : rowD ls[j] = .tup row := by unfold rowD; rw [hr]
          have ei : opIs (.tup row) .non h' = .ok (.bl false) h' := rfl
          simp only [ed, ei, ev_var, ev_C, ev_bin, ev_and, ev_or, ev_not, ev_neg, ev_opNeg, ev_tru, ev_truB, ev_B, ev_tAnd, ev_tOr, ev_tNot, ev_if, ev_nil, ev_cons, ev_tup, ev_lst, ev_P0, ev_P1, ev_sl, ev_CB, ev_call, ev_skip, ev_seq, ev_break, ev_cont, ev_drop, ev_ret, ev_retN, ev_ifS, ev_set, ev_asgN, ev_setIx, ev_iter, ev_rng1, ev_for, ev_yes, ev_def, ev_meth0, ev_meth, ev_isI, ev_raise, ev_repl, ev_split1, px_bind, px_safe, px_ok, px_exc, px_bad, px_iteB, px_ite, List.getElem?_cons_zero, List.getElem?_cons_succ, List.set_cons_zero, List.set_cons_succ, List.map_cons, List.map_nil, List.cons_append, List.nil_append, List.length_cons, List.length_nil, Nat.reduceAdd, Nat.reduceSub, List.replicate_succ, List.replicate_zero, if_true, if_false, Bool.false_eq_true, Bool.not_true, Bool.not_false]
          refine ⟨trivial, _, y3, rfl, ?_⟩
          rw [et, rowsP_app _ _ ea, htl, rowsP_cons, hr]
          show Sum.inr ((ls.take j).map rowD ++ [D.tup row]) = _
          rw [List.map_append, ← ed]; rfl
      · rintro env h' ⟨rfl, y2, y3, rfl, ea⟩
        rw [Nat.zero_add] at *
        rw [List.take_length] at ea
        refine ⟨srcR_end, ?_⟩
        unfold T1_law_read
        simp only [ev_var, ev_C, ev_bin, ev_and, ev_or, ev_not, ev_neg, ev_opNeg, ev_tru, ev_truB, ev_B, ev_tAnd, ev_tOr, ev_tNot, ev_if, ev_nil, ev_cons, ev_tup, ev_lst, ev_P0, ev_P1, ev_sl, ev_CB, ev_call, ev_skip, ev_seq, ev_break, ev_cont, ev_drop, ev_ret, ev_retN, ev_ifS, ev_set, ev_asgN, ev_setIx, ev_iter, ev_rng1, ev_for, ev_yes, ev_def, ev_meth0, ev_meth, ev_isI, ev_raise, ev_repl, ev_split1, px_bind, px_safe, px_ok, px_exc, px_bad, px_iteB, px_ite, List.getElem?_cons_zero, List.getElem?_cons_succ, List.set_cons_zero, List.set_cons_succ, List.map_cons, List.map_nil, List.cons_append, List.nil_append, List.length_cons, List.length_nil, Nat.reduceAdd, Nat.reduceSub, List.replicate_succ, List.replicate_zero, if_true, if_false, Bool.false_eq_true, Bool.not_true, Bool.not_false, tupOf hl2, b2]
        exact ⟨by rw [er, ea]; rfl, p01.trans p⟩
end K66

set_option Elab.async false
set_option linter.all false
set_option maxRecDepth 100000
set_option maxHeartbeats 4000000
/-! K66R: the law's source of numbers: picks. -/
namespace K66
open PySem PySem.NumText PyProof.Rows L2 Mi
/-- a source stands at k; it has been asked at most m times -/
def Src3 (m : Nat) (h : MH) (k : Nat) : Prop := ∃ a b c : Int, h[k]? = some (.lst [.int a, .int b, .int c]) ∧ 0 ≤ b ∧ b < 2147483648 ∧ 0 ≤ c ∧ c ≤ (m : Int)
structure Sd (k m : Nat) (mh h : MH) : Prop where
  kt : Kt k mh h
  src : Src3 m h k
theorem Src3.mono {m m' k : Nat} {h : MH} (s : Src3 m h k) (e : m ≤ m') : Src3 m' h k := by
  obtain ⟨a, b, c, h1, h2, h3, h4, h5⟩ := s
  exact ⟨a, b, c, h1, h2, h3, h4, by omega⟩
theorem Sd.trans {k m m' : Nat} {a b c : MH} (x : Sd k m a b) (y : Sd k m' b c) : Sd k m' a c := ⟨x.kt.trans y.kt, y.src⟩
theorem Sd.mono {k m m' : Nat} {a b : MH} (x : Sd k m a b) (e : m ≤ m') : Sd k m' a b := ⟨x.kt, x.src.mono e⟩
theorem Sd.refl {k m : Nat} {a : MH} (s : Src3 m a k) : Sd k m a a := ⟨Kt.refl, s⟩
theorem Src3.pre {m k : Nat} {h h' : MH} (s : Src3 m h k) (p : h <+: h') : Src3 m h' k := by
  obtain ⟨a, b, c, h1, r⟩ := s
  exact ⟨a, b, c, pre_some p h1, r⟩
theorem Sd.pre {k m : Nat} {a b c : MH} (x : Sd k m a b) (p : b <+: c) : Sd k m a c := ⟨x.kt.trans (Kt.of p), x.src.pre p⟩
theorem Src3.lt {m k : Nat} {h : MH} (s : Src3 m h k) : k < h.length := by
  obtain ⟨a, b, c, h1, _⟩ := s
  exact (List.getElem?_eq_some_iff.mp h1).1
theorem log2_le {n k : Nat} (hk : 0 < k) (h : n < 2 ^ k) : n.log2 < k := by
  by_cases h0 : n = 0
  · subst h0
    show Nat.log2 0 < k
    rw [Nat.log2_zero]; exact hk
  · exact (Nat.log2_lt h0).mpr h
theorem mul_ok {i j : Int} {mh : MH} (hi : i.natAbs.log2 < 400000) (hj : j.natAbs.log2 < 400000) : opMul (.int i) (.int j) mh = .ok (.int (i * j)) mh := if_pos (show CMulW i j by show i.natAbs.log2 + j.natAbs.log2 < 1000000; omega)
theorem mod_ok {i j : Int} {mh : MH} (hj : 0 < j) : opMod (.int i) (.int j) mh = .ok (.int (i % j)) mh := if_pos hj
theorem div_ok {i j : Int} {mh : MH} (hj : 0 < j) (hl : j.natAbs.log2 < 9000) : opFdiv (.int i) (.int j) mh = .ok (.int (i / j)) mh := if_pos (show CDivW i j from ⟨hj, hl⟩)
theorem add_int {i j : Int} {mh : MH} : opAdd (.int i) (.int j) mh = .ok (.int (i + j)) mh := rfl
theorem sub_int {i j : Int} {mh : MH} : opSub (.int i) (.int j) mh = .ok (.int (i - j)) mh := rfl
theorem gt_int {i j : Int} {mh : MH} : opGt (.int i) (.int j) mh = .ok (.bl (decide (j < i))) mh := rfl
theorem small_log {i : Int} {k : Nat} (hk : 0 < k) (h0 : 0 ≤ i) (h : i < 2 ^ k) : i.natAbs.log2 < k := by
  refine log2_le hk ?_
  have e : ((i.natAbs : Nat) : Int) = i := Int.natAbs_of_nonneg h0
  have : ((i.natAbs : Nat) : Int) < ((2 ^ k : Nat) : Int) := by rw [e]; exact_mod_cast h
  exact_mod_cast this
theorem log_c {i : Int} (h0 : 0 ≤ i) (h : i < 4294967296) : i.natAbs.log2 < 400000 := Nat.lt_of_lt_of_le (small_log (k := 32) (by decide) h0 (by omega)) (by decide)
section
variable {h : MH} {k : Nat} {a b c : D}
theorem ix3_0 (e : h[k]? = some (.lst [a, b, c])) : opIx (.ref k) (.int 0) h = .ok a h := ix_ls (n := 0) (lsAt_lst e) rfl
theorem ix3_1 (e : h[k]? = some (.lst [a, b, c])) : opIx (.ref k) (.int 1) h = .ok b h := ix_ls (n := 1) (lsAt_lst e) rfl
theorem ix3_2 (e : h[k]? = some (.lst [a, b, c])) : opIx (.ref k) (.int 2) h = .ok c h := ix_ls (n := 2) (lsAt_lst e) rfl
theorem set3_0 (e : h[k]? = some (.lst [a, b, c])) (v : D) : opSetL (.ref k) (.int 0) v h = .ok () (h.set k (.lst [v, b, c])) := by
  unfold opSetL; dsimp only; rw [e]; rfl
theorem set3_1 (e : h[k]? = some (.lst [a, b, c])) (v : D) : opSetL (.ref k) (.int 1) v h = .ok () (h.set k (.lst [a, v, c])) := by
  unfold opSetL; dsimp only; rw [e]; rfl
theorem set3_2 (e : h[k]? = some (.lst [a, b, c])) (v : D) : opSetL (.ref k) (.int 2) v h = .ok () (h.set k (.lst [a, b, v])) := by
  unfold opSetL; dsimp only; rw [e]; rfl
end
theorem pick_px {m k : Nat} {n : Int} {mh : MH} (s : Src3 m mh k) (hm : m ≤ 1000000000) (hn : 0 < n) (hl : n.natAbs.log2 < 9000) :
    PX (F_law_pick [.ref k, .int n] mh) (fun d h => ∃ j : Int, d = .int j ∧ 0 ≤ j ∧ j < n ∧ Sd k (m + 1) mh h) nX := by
  obtain ⟨a, b, c, e, b0, b1, c0, c1⟩ := s
  unfold F_law_pick B_law_pick C1_law_pick
  simp only [ev_var, ev_C, ev_bin, ev_and, ev_or, ev_not, ev_neg, ev_opNeg, ev_tru, ev_truB, ev_B, ev_tAnd, ev_tOr, ev_tNot, ev_if, ev_nil, ev_cons, ev_tup, ev_lst, ev_P0, ev_P1, ev_sl, ev_CB, ev_call, ev_skip, ev_seq, ev_break, ev_cont, ev_drop, ev_ret, ev_retN, ev_ifS, ev_set, ev_asgN, ev_setIx, ev_iter, ev_rng1, ev_for, ev_yes, ev_def, ev_meth0, ev_meth, ev_isI, ev_raise, ev_repl, ev_split1, px_bind, px_safe, px_ok, px_exc, px_bad, px_iteB, px_ite, List.getElem?_cons_zero, List.getElem?_cons_succ, List.set_cons_zero, List.set_cons_succ, List.map_cons, List.map_nil, List.cons_append, List.nil_append, List.length_cons, List.length_nil, Nat.reduceAdd, Nat.reduceSub, List.replicate_succ, List.replicate_zero, if_true, if_false, Bool.false_eq_true, Bool.not_true, Bool.not_false, ix3_0 e, gt_int]
  by_cases ha : 0 < a
  · simp only [decide_eq_true ha, ev_var, ev_C, ev_bin, ev_and, ev_or, ev_not, ev_neg, ev_opNeg, ev_tru, ev_truB, ev_B, ev_tAnd, ev_tOr, ev_tNot, ev_if, ev_nil, ev_cons, ev_tup, ev_lst, ev_P0, ev_P1, ev_sl, ev_CB, ev_call, ev_skip, ev_seq, ev_break, ev_cont, ev_drop, ev_ret, ev_retN, ev_ifS, ev_set, ev_asgN, ev_setIx, ev_iter, ev_rng1, ev_for, ev_yes, ev_def, ev_meth0, ev_meth, ev_isI, ev_raise, ev_repl, ev_split1, px_bind, px_safe, px_ok, px_exc, px_bad, px_iteB, px_ite, List.getElem?_cons_zero, List.getElem?_cons_succ, List.set_cons_zero, List.set_cons_succ, List.map_cons, List.map_nil, List.cons_append, List.nil_append, List.length_cons, List.length_nil, Nat.reduceAdd, Nat.reduceSub, List.replicate_succ, List.replicate_zero, if_true, if_false, Bool.false_eq_true, Bool.not_true, Bool.not_false, ix3_0 e, mod_ok hn]
    unfold T2_law_pick
    simp only [ev_var, ev_C, ev_bin, ev_and, ev_or, ev_not, ev_neg, ev_opNeg, ev_tru, ev_truB, ev_B, ev_tAnd, ev_tOr, ev_tNot, ev_if, ev_nil, ev_cons, ev_tup, ev_lst, ev_P0, ev_P1, ev_sl, ev_CB, ev_call, ev_skip, ev_seq, ev_break, ev_cont, ev_drop, ev_ret, ev_retN, ev_ifS, ev_set, ev_asgN, ev_setIx, ev_iter, ev_rng1, ev_for, ev_yes, ev_def, ev_meth0, ev_meth, ev_isI, ev_raise, ev_repl, ev_split1, px_bind, px_safe, px_ok, px_exc, px_bad, px_iteB, px_ite, List.getElem?_cons_zero, List.getElem?_cons_succ, List.set_cons_zero, List.set_cons_succ, List.map_cons, List.map_nil, List.cons_append, List.nil_append, List.length_cons, List.length_nil, Nat.reduceAdd, Nat.reduceSub, List.replicate_succ, List.replicate_zero, if_true, if_false, Bool.false_eq_true, Bool.not_true, Bool.not_false, ix3_0 e, div_ok hn hl, set3_0 e]
    unfold T1_law_pick
    simp only [ev_var, ev_C, ev_bin, ev_and, ev_or, ev_not, ev_neg, ev_opNeg, ev_tru, ev_truB, ev_B, ev_tAnd, ev_tOr, ev_tNot, ev_if, ev_nil, ev_cons, ev_tup, ev_lst, ev_P0, ev_P1, ev_sl, ev_CB, ev_call, ev_skip, ev_seq, ev_break, ev_cont, ev_drop, ev_ret, ev_retN, ev_ifS, ev_set, ev_asgN, ev_setIx, ev_iter, ev_rng1, ev_for, ev_yes, ev_def, ev_meth0, ev_meth, ev_isI, ev_raise, ev_repl, ev_split1, px_bind, px_safe, px_ok, px_exc, px_bad, px_iteB, px_ite, List.getElem?_cons_zero, List.getElem?_cons_succ, List.set_cons_zero, List.set_cons_succ, List.map_cons, List.map_nil, List.cons_append, List.nil_append, List.length_cons, List.length_nil, Nat.reduceAdd, Nat.reduceSub, List.replicate_succ, List.replicate_zero, if_true, if_false, Bool.false_eq_true, Bool.not_true, Bool.not_false]
    exact ⟨a % n, rfl, Int.emod_nonneg _ (by omega), Int.emod_lt_of_pos _ hn, Kt.set Kt.refl _, a / n, b, c, set_get e, b0, b1, c0, by omega⟩
  · simp only [decide_eq_false ha, ev_var, ev_C, ev_bin, ev_and, ev_or, ev_not, ev_neg, ev_opNeg, ev_tru, ev_truB, ev_B, ev_tAnd, ev_tOr, ev_tNot, ev_if, ev_nil, ev_cons, ev_tup, ev_lst, ev_P0, ev_P1, ev_sl, ev_CB, ev_call, ev_skip, ev_seq, ev_break, ev_cont, ev_drop, ev_ret, ev_retN, ev_ifS, ev_set, ev_asgN, ev_setIx, ev_iter, ev_rng1, ev_for, ev_yes, ev_def, ev_meth0, ev_meth, ev_isI, ev_raise, ev_repl, ev_split1, px_bind, px_safe, px_ok, px_exc, px_bad, px_iteB, px_ite, List.getElem?_cons_zero, List.getElem?_cons_succ, List.set_cons_zero, List.set_cons_succ, List.map_cons, List.map_nil, List.cons_append, List.nil_append, List.length_cons, List.length_nil, Nat.reduceAdd, Nat.reduceSub, List.replicate_succ, List.replicate_zero, if_true, if_false, Bool.false_eq_true, Bool.not_true, Bool.not_false]
    unfold T7_law_pick
    have e2 : (mh.set k (.lst [.int a, .int b, .int (c + 1)]))[k]? = some (.lst [.int a, .int b, .int (c + 1)]) := set_get e
    simp only [ev_var, ev_C, ev_bin, ev_and, ev_or, ev_not, ev_neg, ev_opNeg, ev_tru, ev_truB, ev_B, ev_tAnd, ev_tOr, ev_tNot, ev_if, ev_nil, ev_cons, ev_tup, ev_lst, ev_P0, ev_P1, ev_sl, ev_CB, ev_call, ev_skip, ev_seq, ev_break, ev_cont, ev_drop, ev_ret, ev_retN, ev_ifS, ev_set, ev_asgN, ev_setIx, ev_iter, ev_rng1, ev_for, ev_yes, ev_def, ev_meth0, ev_meth, ev_isI, ev_raise, ev_repl, ev_split1, px_bind, px_safe, px_ok, px_exc, px_bad, px_iteB, px_ite, List.getElem?_cons_zero, List.getElem?_cons_succ, List.set_cons_zero, List.set_cons_succ, List.map_cons, List.map_nil, List.cons_append, List.nil_append, List.length_cons, List.length_nil, Nat.reduceAdd, Nat.reduceSub, List.replicate_succ, List.replicate_zero, if_true, if_false, Bool.false_eq_true, Bool.not_true, Bool.not_false, ix3_2 e, add_int, set3_2 e]
    unfold T6_law_pick
    have p1 : ∀ i : Int, 0 ≤ i % 2147483647 ∧ i % 2147483647 < 2147483647 := fun i => ⟨Int.emod_nonneg _ (by omega), Int.emod_lt_of_pos _ (by omega)⟩
    have p2 : ∀ i : Int, 0 ≤ i % 2147483399 ∧ i % 2147483399 < 2147483399 := fun i => ⟨Int.emod_nonneg _ (by omega), Int.emod_lt_of_pos _ (by omega)⟩
    have lb := log_c b0 (by omega)
    have lc := log_c (show 0 ≤ c + 1 by omega) (by omega)
    have k1 : (48271 : Int).natAbs.log2 < 400000 := log_c (by omega) (by omega)
    have k2 : (69621 : Int).natAbs.log2 < 400000 := log_c (by omega) (by omega)
    have k3 : (16807 : Int).natAbs.log2 < 400000 := log_c (by omega) (by omega)
    have k4 : (40692 : Int).natAbs.log2 < 400000 := log_c (by omega) (by omega)
    have m1 : ∀ i : Int, opMod (.int i) (.int 2147483647) (mh.set k (.lst [.int a, .int b, .int (c + 1)])) = .ok (.int (i % 2147483647)) (mh.set k (.lst [.int a, .int b, .int (c + 1)])) := fun i => mod_ok (by omega)
    have m2 : ∀ i : Int, opMod (.int i) (.int 2147483399) (mh.set k (.lst [.int a, .int b, .int (c + 1)])) = .ok (.int (i % 2147483399)) (mh.set k (.lst [.int a, .int b, .int (c + 1)])) := fun i => mod_ok (by omega)
    simp only [ev_var, ev_C, ev_bin, ev_and, ev_or, ev_not, ev_neg, ev_opNeg, ev_tru, ev_truB, ev_B, ev_tAnd, ev_tOr, ev_tNot, ev_if, ev_nil, ev_cons, ev_tup, ev_lst, ev_P0, ev_P1, ev_sl, ev_CB, ev_call, ev_skip, ev_seq, ev_break, ev_cont, ev_drop, ev_ret, ev_retN, ev_ifS, ev_set, ev_asgN, ev_setIx, ev_iter, ev_rng1, ev_for, ev_yes, ev_def, ev_meth0, ev_meth, ev_isI, ev_raise, ev_repl, ev_split1, px_bind, px_safe, px_ok, px_exc, px_bad, px_iteB, px_ite, List.getElem?_cons_zero, List.getElem?_cons_succ, List.set_cons_zero, List.set_cons_succ, List.map_cons, List.map_nil, List.cons_append, List.nil_append, List.length_cons, List.length_nil, Nat.reduceAdd, Nat.reduceSub, List.replicate_succ, List.replicate_zero, if_true, if_false, Bool.false_eq_true, Bool.not_true, Bool.not_false, ix3_1 e2, ix3_2 e2, mul_ok lb k1, mul_ok lc k2, add_int, m1]
    unfold T5_law_pick
    obtain ⟨q0, q1⟩ := p1 (b * 48271 + (c + 1) * 69621 + 11)
    generalize (b * 48271 + (c + 1) * 69621 + 11) % 2147483647 = x at q0 q1
    have lx := log_c q0 (by omega)
    simp only [ev_var, ev_C, ev_bin, ev_and, ev_or, ev_not, ev_neg, ev_opNeg, ev_tru, ev_truB, ev_B, ev_tAnd, ev_tOr, ev_tNot, ev_if, ev_nil, ev_cons, ev_tup, ev_lst, ev_P0, ev_P1, ev_sl, ev_CB, ev_call, ev_skip, ev_seq, ev_break, ev_cont, ev_drop, ev_ret, ev_retN, ev_ifS, ev_set, ev_asgN, ev_setIx, ev_iter, ev_rng1, ev_for, ev_yes, ev_def, ev_meth0, ev_meth, ev_isI, ev_raise, ev_repl, ev_split1, px_bind, px_safe, px_ok, px_exc, px_bad, px_iteB, px_ite, List.getElem?_cons_zero, List.getElem?_cons_succ, List.set_cons_zero, List.set_cons_succ, List.map_cons, List.map_nil, List.cons_append, List.nil_append, List.length_cons, List.length_nil, Nat.reduceAdd, Nat.reduceSub, List.replicate_succ, List.replicate_zero, if_true, if_false, Bool.false_eq_true, Bool.not_true, Bool.not_false, ix3_2 e2, mul_ok lx k3, mul_ok lc k4, add_int, m2]
    unfold T4_law_pick
    obtain ⟨r0, r1⟩ := p2 (x * 16807 + (c + 1) * 40692 + 7)
    generalize (x * 16807 + (c + 1) * 40692 + 7) % 2147483399 = y at r0 r1
    have d7 : ∀ h : MH, opFdiv (.int y) (.int 7) h = .ok (.int (y / 7)) h := fun h => div_ok (by omega) (Nat.lt_trans (small_log (k := 3) (by decide) (by omega) (by omega)) (by decide))
    simp only [ev_var, ev_C, ev_bin, ev_and, ev_or, ev_not, ev_neg, ev_opNeg, ev_tru, ev_truB, ev_B, ev_tAnd, ev_tOr, ev_tNot, ev_if, ev_nil, ev_cons, ev_tup, ev_lst, ev_P0, ev_P1, ev_sl, ev_CB, ev_call, ev_skip, ev_seq, ev_break, ev_cont, ev_drop, ev_ret, ev_retN, ev_ifS, ev_set, ev_asgN, ev_setIx, ev_iter, ev_rng1, ev_for, ev_yes, ev_def, ev_meth0, ev_meth, ev_isI, ev_raise, ev_repl, ev_split1, px_bind, px_safe, px_ok, px_exc, px_bad, px_iteB, px_ite, List.getElem?_cons_zero, List.getElem?_cons_succ, List.set_cons_zero, List.set_cons_succ, List.map_cons, List.map_nil, List.cons_append, List.nil_append, List.length_cons, List.length_nil, Nat.reduceAdd, Nat.reduceSub, List.replicate_succ, List.replicate_zero, if_true, if_false, Bool.false_eq_true, Bool.not_true, Bool.not_false, set3_1 e2]
    unfold T3_law_pick
    simp only [ev_var, ev_C, ev_bin, ev_and, ev_or, ev_not, ev_neg, ev_opNeg, ev_tru, ev_truB, ev_B, ev_tAnd, ev_tOr, ev_tNot, ev_if, ev_nil, ev_cons, ev_tup, ev_lst, ev_P0, ev_P1, ev_sl, ev_CB, ev_call, ev_skip, ev_seq, ev_break, ev_cont, ev_drop, ev_ret, ev_retN, ev_ifS, ev_set, ev_asgN, ev_setIx, ev_iter, ev_rng1, ev_for, ev_yes, ev_def, ev_meth0, ev_meth, ev_isI, ev_raise, ev_repl, ev_split1, px_bind, px_safe, px_ok, px_exc, px_bad, px_iteB, px_ite, List.getElem?_cons_zero, List.getElem?_cons_succ, List.set_cons_zero, List.set_cons_succ, List.map_cons, List.map_nil, List.cons_append, List.nil_append, List.length_cons, List.length_nil, Nat.reduceAdd, Nat.reduceSub, List.replicate_succ, List.replicate_zero, if_true, if_false, Bool.false_eq_true, Bool.not_true, Bool.not_false, d7, mod_ok hn]
    exact ⟨y / 7 % n, rfl, Int.emod_nonneg _ (by omega), Int.emod_lt_of_pos _ hn, (Kt.set Kt.refl _).set _, a, y, c + 1, set_get e2, r0, by omega, by omega, by omega⟩
theorem pickN {m k N : Nat} {mh : MH} (s : Src3 m mh k) (hm : m ≤ 1000000000) (hN : 0 < N) (hl : N < 2 ^ 8000) : PX (F_law_pick [.ref k, .int (N : Int)] mh) (fun d h => ∃ j : Nat, d = .int (j : Int) ∧ j < N ∧ Sd k (m + 1) mh h) nX := by
  refine (pick_px s hm (show (0 : Int) < (N : Int) by omega) (Nat.lt_trans (log2_le (k := 8000) (by decide) (by rw [Int.natAbs_natCast]; exact hl)) (by decide))).imp fun d h z => ?_
  obtain ⟨j, rfl, j0, j1, z⟩ := z
  obtain ⟨i, rfl⟩ := Int.eq_ofNat_of_zero_le j0
  exact ⟨i, rfl, by exact_mod_cast j1, z⟩
theorem number_px {m k : Nat} {n : Int} {mh : MH} (s : Src3 m mh k) (hm : m ≤ 900000000) (hn : 5 < n) (hl : n.natAbs.log2 < 9000) :
    PX (F_law_number [.ref k, .int n] mh) (fun d h => ∃ j : Int, d = .int j ∧ 0 ≤ j ∧ j < n ∧ Sd k (m + 7) mh h) nX := by
  unfold F_law_number B_law_number C1_law_number
  simp only [ev_var, ev_C, ev_bin, ev_and, ev_or, ev_not, ev_neg, ev_opNeg, ev_tru, ev_truB, ev_B, ev_tAnd, ev_tOr, ev_tNot, ev_if, ev_nil, ev_cons, ev_tup, ev_lst, ev_P0, ev_P1, ev_sl, ev_CB, ev_call, ev_skip, ev_seq, ev_break, ev_cont, ev_drop, ev_ret, ev_retN, ev_ifS, ev_set, ev_asgN, ev_setIx, ev_iter, ev_rng1, ev_for, ev_yes, ev_def, ev_meth0, ev_meth, ev_isI, ev_raise, ev_repl, ev_split1, px_bind, px_safe, px_ok, px_exc, px_bad, px_iteB, px_ite, List.getElem?_cons_zero, List.getElem?_cons_succ, List.set_cons_zero, List.set_cons_succ, List.map_cons, List.map_nil, List.cons_append, List.nil_append, List.length_cons, List.length_nil, Nat.reduceAdd, Nat.reduceSub, List.replicate_succ, List.replicate_zero, if_true, if_false, Bool.false_eq_true, Bool.not_true, Bool.not_false]
  refine (pickN (N := 3) s (by omega) (by decide) (Nat.lt_of_lt_of_le (by decide : 3 < 2 ^ 2) (Nat.pow_le_pow_right (by decide) (by decide)))).mono (fun d h z => ?_) (fun _ _ _ z => z)
  obtain ⟨j, rfl, hj, sd⟩ := z
  have e0 : opEq (.int (j : Int)) (.int 0) h = .ok (.bl (decide (j = 0))) h := eq_nat (n := 0)
  simp only [ev_var, ev_C, ev_bin, ev_and, ev_or, ev_not, ev_neg, ev_opNeg, ev_tru, ev_truB, ev_B, ev_tAnd, ev_tOr, ev_tNot, ev_if, ev_nil, ev_cons, ev_tup, ev_lst, ev_P0, ev_P1, ev_sl, ev_CB, ev_call, ev_skip, ev_seq, ev_break, ev_cont, ev_drop, ev_ret, ev_retN, ev_ifS, ev_set, ev_asgN, ev_setIx, ev_iter, ev_rng1, ev_for, ev_yes, ev_def, ev_meth0, ev_meth, ev_isI, ev_raise, ev_repl, ev_split1, px_bind, px_safe, px_ok, px_exc, px_bad, px_iteB, px_ite, List.getElem?_cons_zero, List.getElem?_cons_succ, List.set_cons_zero, List.set_cons_succ, List.map_cons, List.map_nil, List.cons_append, List.nil_append, List.length_cons, List.length_nil, Nat.reduceAdd, Nat.reduceSub, List.replicate_succ, List.replicate_zero, if_true, if_false, Bool.false_eq_true, Bool.not_true, Bool.not_false, e0]
  by_cases c0 : j = 0
  · have em : cMin2 [.int n, .int 5] h = .ok (.int 5) h := by
      unfold cMin2
      dsimp only
      rw [if_pos hn]
    simp only [decide_eq_true c0, ev_var, ev_C, ev_bin, ev_and, ev_or, ev_not, ev_neg, ev_opNeg, ev_tru, ev_truB, ev_B, ev_tAnd, ev_tOr, ev_tNot, ev_if, ev_nil, ev_cons, ev_tup, ev_lst, ev_P0, ev_P1, ev_sl, ev_CB, ev_call, ev_skip, ev_seq, ev_break, ev_cont, ev_drop, ev_ret, ev_retN, ev_ifS, ev_set, ev_asgN, ev_setIx, ev_iter, ev_rng1, ev_for, ev_yes, ev_def, ev_meth0, ev_meth, ev_isI, ev_raise, ev_repl, ev_split1, px_bind, px_safe, px_ok, px_exc, px_bad, px_iteB, px_ite, List.getElem?_cons_zero, List.getElem?_cons_succ, List.set_cons_zero, List.set_cons_succ, List.map_cons, List.map_nil, List.cons_append, List.nil_append, List.length_cons, List.length_nil, Nat.reduceAdd, Nat.reduceSub, List.replicate_succ, List.replicate_zero, if_true, if_false, Bool.false_eq_true, Bool.not_true, Bool.not_false, em]
    refine (pick_px sd.src (by omega) (by omega) (Nat.lt_trans (small_log (k := 3) (by decide) (by omega) (by omega)) (by decide))).mono (fun d h2 z => ?_) (fun _ _ _ z => z)
    obtain ⟨i, rfl, i0, i1, sd2⟩ := z
    exact ⟨i, rfl, i0, by omega, (sd.trans sd2).mono (by omega)⟩
  · simp only [decide_eq_false c0, ev_var, ev_C, ev_bin, ev_and, ev_or, ev_not, ev_neg, ev_opNeg, ev_tru, ev_truB, ev_B, ev_tAnd, ev_tOr, ev_tNot, ev_if, ev_nil, ev_cons, ev_tup, ev_lst, ev_P0, ev_P1, ev_sl, ev_CB, ev_call, ev_skip, ev_seq, ev_break, ev_cont, ev_drop, ev_ret, ev_retN, ev_ifS, ev_set, ev_asgN, ev_setIx, ev_iter, ev_rng1, ev_for, ev_yes, ev_def, ev_meth0, ev_meth, ev_isI, ev_raise, ev_repl, ev_split1, px_bind, px_safe, px_ok, px_exc, px_bad, px_iteB, px_ite, List.getElem?_cons_zero, List.getElem?_cons_succ, List.set_cons_zero, List.set_cons_succ, List.map_cons, List.map_nil, List.cons_append, List.nil_append, List.length_cons, List.length_nil, Nat.reduceAdd, Nat.reduceSub, List.replicate_succ, List.replicate_zero, if_true, if_false, Bool.false_eq_true, Bool.not_true, Bool.not_false]
    unfold T3_law_number T2_law_number
    have e6 : Mi.inR 6 = true := inR_nat (n := 6) (by decide)
    have e6' : (6 : Int).toNat = 6 := rfl
    simp only [ev_var, ev_C, ev_bin, ev_and, ev_or, ev_not, ev_neg, ev_opNeg, ev_tru, ev_truB, ev_B, ev_tAnd, ev_tOr, ev_tNot, ev_if, ev_nil, ev_cons, ev_tup, ev_lst, ev_P0, ev_P1, ev_sl, ev_CB, ev_call, ev_skip, ev_seq, ev_break, ev_cont, ev_drop, ev_ret, ev_retN, ev_ifS, ev_set, ev_asgN, ev_setIx, ev_iter, ev_rng1, ev_for, ev_yes, ev_def, ev_meth0, ev_meth, ev_isI, ev_raise, ev_repl, ev_split1, px_bind, px_safe, px_ok, px_exc, px_bad, px_iteB, px_ite, List.getElem?_cons_zero, List.getElem?_cons_succ, List.set_cons_zero, List.set_cons_succ, List.map_cons, List.map_nil, List.cons_append, List.nil_append, List.length_cons, List.length_nil, Nat.reduceAdd, Nat.reduceSub, List.replicate_succ, List.replicate_zero, if_true, if_false, Bool.false_eq_true, Bool.not_true, Bool.not_false, e6, e6']
    have big : ∀ i : Nat, i ≤ 6 → (2 : Int) ^ (20 * i) ≤ 2 ^ 120 := fun i hi => by
      have : (2 : Nat) ^ (20 * i) ≤ 2 ^ 120 := Nat.pow_le_pow_right (by decide) (by omega)
      exact_mod_cast this
    refine loop_px (fun i env h' => i ≤ 6 ∧ Sd k (m + 1 + i) mh h' ∧ ∃ (f : Int) (y : Option D), env = [some (.ref k), some (.int n), some (.int f), y] ∧ 0 ≤ f ∧ f < 2 ^ (20 * i)) _ _ _ _ ⟨Nat.zero_le _, sd, 0, none, rfl, Int.le_refl _, (by decide : (0 : Int) < 2 ^ (20 * 0))⟩ ?_ ?_
    · rintro i env h' _ hi ⟨hi6, sd', f, y, rfl, f0, f1⟩
      refine ⟨_, _, srcR_at (by omega), rfl, ?_⟩
      unfold L1_law_number
      have lf : f.natAbs.log2 < 400000 := Nat.lt_trans (small_log (k := 120) (by decide) f0 (Int.lt_of_lt_of_le f1 (big i hi6))) (by decide)
      have k1 : (1000003 : Int).natAbs.log2 < 400000 := log_c (by omega) (by omega)
      simp only [ev_var, ev_C, ev_bin, ev_and, ev_or, ev_not, ev_neg, ev_opNeg, ev_tru, ev_truB, ev_B, ev_tAnd, ev_tOr, ev_tNot, ev_if, ev_nil, ev_cons, ev_tup, ev_lst, ev_P0, ev_P1, ev_sl, ev_CB, ev_call, ev_skip, ev_seq, ev_break, ev_cont, ev_drop, ev_ret, ev_retN, ev_ifS, ev_set, ev_asgN, ev_setIx, ev_iter, ev_rng1, ev_for, ev_yes, ev_def, ev_meth0, ev_meth, ev_isI, ev_raise, ev_repl, ev_split1, px_bind, px_safe, px_ok, px_exc, px_bad, px_iteB, px_ite, List.getElem?_cons_zero, List.getElem?_cons_succ, List.set_cons_zero, List.set_cons_succ, List.map_cons, List.map_nil, List.cons_append, List.nil_append, List.length_cons, List.length_nil, Nat.reduceAdd, Nat.reduceSub, List.replicate_succ, List.replicate_zero, if_true, if_false, Bool.false_eq_true, Bool.not_true, Bool.not_false, mul_ok lf k1]
      refine (pick_px sd'.src (by omega) (by omega) (Nat.lt_trans (small_log (k := 20) (by decide) (by omega) (by omega)) (by decide))).mono (fun d h2 z => ?_) (fun _ _ _ z => z)
      obtain ⟨p, rfl, p0, p1, sd2⟩ := z
      simp only [ev_var, ev_C, ev_bin, ev_and, ev_or, ev_not, ev_neg, ev_opNeg, ev_tru, ev_truB, ev_B, ev_tAnd, ev_tOr, ev_tNot, ev_if, ev_nil, ev_cons, ev_tup, ev_lst, ev_P0, ev_P1, ev_sl, ev_CB, ev_call, ev_skip, ev_seq, ev_break, ev_cont, ev_drop, ev_ret, ev_retN, ev_ifS, ev_set, ev_asgN, ev_setIx, ev_iter, ev_rng1, ev_for, ev_yes, ev_def, ev_meth0, ev_meth, ev_isI, ev_raise, ev_repl, ev_split1, px_bind, px_safe, px_ok, px_exc, px_bad, px_iteB, px_ite, List.getElem?_cons_zero, List.getElem?_cons_succ, List.set_cons_zero, List.set_cons_succ, List.map_cons, List.map_nil, List.cons_append, List.nil_append, List.length_cons, List.length_nil, Nat.reduceAdd, Nat.reduceSub, List.replicate_succ, List.replicate_zero, if_true, if_false, Bool.false_eq_true, Bool.not_true, Bool.not_false, add_int]
      refine ⟨by omega, sd'.trans sd2, _, _, rfl, by omega, ?_⟩
      have ee : (2 : Int) ^ (20 * (i + 1)) = 2 ^ (20 * i) * 1048576 := by
        rw [Nat.mul_succ, Int.pow_add]; rfl
      rw [ee]
      omega
    · rintro env h' ⟨_, sd', f, y, rfl, f0, f1⟩
      refine ⟨srcR_end, ?_⟩
      unfold T1_law_number
      simp only [ev_var, ev_C, ev_bin, ev_and, ev_or, ev_not, ev_neg, ev_opNeg, ev_tru, ev_truB, ev_B, ev_tAnd, ev_tOr, ev_tNot, ev_if, ev_nil, ev_cons, ev_tup, ev_lst, ev_P0, ev_P1, ev_sl, ev_CB, ev_call, ev_skip, ev_seq, ev_break, ev_cont, ev_drop, ev_ret, ev_retN, ev_ifS, ev_set, ev_asgN, ev_setIx, ev_iter, ev_rng1, ev_for, ev_yes, ev_def, ev_meth0, ev_meth, ev_isI, ev_raise, ev_repl, ev_split1, px_bind, px_safe, px_ok, px_exc, px_bad, px_iteB, px_ite, List.getElem?_cons_zero, List.getElem?_cons_succ, List.set_cons_zero, List.set_cons_succ, List.map_cons, List.map_nil, List.cons_append, List.nil_append, List.length_cons, List.length_nil, Nat.reduceAdd, Nat.reduceSub, List.replicate_succ, List.replicate_zero, if_true, if_false, Bool.false_eq_true, Bool.not_true, Bool.not_false, mod_ok (show 0 < n by omega)]
      exact ⟨f % n, rfl, Int.emod_nonneg _ (by omega), Int.emod_lt_of_pos _ (by omega), sd'.mono (by omega)⟩
end K66

set_option Elab.async false
set_option linter.all false
set_option maxRecDepth 100000
set_option maxHeartbeats 4000000
/-! K66S: _law_shuffled, _law_words. -/
namespace K66
open PySem PySem.NumText PyProof.Rows L2 Mi
theorem while_px {c : MT} {b : MS} {P : Fl → MH → Prop} (I : Nat → Mi.Env → MH → Prop)
    (go : ∀ m env h, I m env h → PX (c env h) (fun k h1 => if k = true then ∃ m', m = m' + 1 ∧ PX (b env h1) (fun f h2 => match f with | .nx e => I m' e h2 | _ => False) nX else P (.nx env) h1) nX) :
    ∀ (fuel m : Nat) (env : Mi.Env) (h : MH), m < fuel → I m env h → PX (mWhile c b fuel env h) P nX
  | 0, m, env, h, hm, _ => absurd hm (Nat.not_lt_zero _)
  | fuel + 1, m, env, h, hm, hi => by
    unfold mWhile
    rw [px_bind]
    refine (go m env h hi).mono (fun k h1 z => ?_) (fun _ _ _ z => z)
    cases k with
    | false => exact z
    | true =>
      rw [if_pos rfl] at z ⊢
      obtain ⟨m', rfl, z⟩ := z
      rw [px_bind]
      refine z.mono (fun f h2 z => ?_) (fun _ _ _ z => z)
      cases f with
      | nx e => exact while_px I go fuel m' e h2 (by omega) z
      | _ => exact z.elim
theorem pop_ok {h : MH} {L j : Nat} {xs : List D} {y : D} (e : h[L]? = some (.lst xs)) (ey : xs[j]? = some y) (hj : j < 1000000) : mdPop (.ref L) [.int (j : Int)] h = .ok y (h.set L (.lst (xs.eraseIdx j))) := by
  have hl := (List.getElem?_eq_some_iff.mp ey).1
  unfold mdPop
  dsimp only
  rw [e]
  dsimp only
  have ei : inP (j : Int) = true := inP_iff.mpr (by omega)
  have es : seqIndex? (j : Int) xs.length = some j := by
    unfold seqIndex?
    simp
    omega
  rw [if_pos ei, es]
  dsimp only
  rw [ey]
theorem shuffled_px {m k kt : Nat} {mh : MH} {ds : List D} (s : Src3 m mh k) (hm : m ≤ 900000000) (hd : ds.length ≤ 26) (hk : lsAt mh kt = some ds) :
    PX (F_law_shuffled [.ref k, .ref kt] mh) (fun d h => ∃ (R : Nat) (ys : List D), d = .ref R ∧ mh.length ≤ R ∧ h[R]? = some (.lst ys) ∧ ys.length = ds.length ∧ (∀ y ∈ ys, y ∈ ds) ∧ Sd k (m + 26) mh h) nX := by
  have hSL : SL = 16777216 := rfl
  have b0 : (0 : Nat) ≤ SL := by omega
  have hkl := s.lt
  have ec : cList [.ref kt] mh = .ok (.ref mh.length) (mh ++ [.lst ds]) := by
    unfold cList
    dsimp only
    rw [hk]
  unfold F_law_shuffled B_law_shuffled
  simp only [ev_var, ev_C, ev_bin, ev_and, ev_or, ev_not, ev_neg, ev_opNeg, ev_tru, ev_truB, ev_B, ev_tAnd, ev_tOr, ev_tNot, ev_if, ev_nil, ev_cons, ev_tup, ev_lst, ev_P0, ev_P1, ev_sl, ev_CB, ev_call, ev_skip, ev_seq, ev_break, ev_cont, ev_drop, ev_ret, ev_retN, ev_ifS, ev_set, ev_asgN, ev_setIx, ev_iter, ev_rng1, ev_for, ev_yes, ev_def, ev_meth0, ev_meth, ev_isI, ev_raise, ev_repl, ev_split1, px_bind, px_safe, px_ok, px_exc, px_bad, px_iteB, px_ite, List.getElem?_cons_zero, List.getElem?_cons_succ, List.set_cons_zero, List.set_cons_succ, List.map_cons, List.map_nil, List.cons_append, List.nil_append, List.length_cons, List.length_nil, Nat.reduceAdd, Nat.reduceSub, List.replicate_succ, List.replicate_zero, if_true, if_false, Bool.false_eq_true, Bool.not_true, Bool.not_false, ec]
  unfold T3_law_shuffled
  simp only [ev_var, ev_C, ev_bin, ev_and, ev_or, ev_not, ev_neg, ev_opNeg, ev_tru, ev_truB, ev_B, ev_tAnd, ev_tOr, ev_tNot, ev_if, ev_nil, ev_cons, ev_tup, ev_lst, ev_P0, ev_P1, ev_sl, ev_CB, ev_call, ev_skip, ev_seq, ev_break, ev_cont, ev_drop, ev_ret, ev_retN, ev_ifS, ev_set, ev_asgN, ev_setIx, ev_iter, ev_rng1, ev_for, ev_yes, ev_def, ev_meth0, ev_meth, ev_isI, ev_raise, ev_repl, ev_split1, px_bind, px_safe, px_ok, px_exc, px_bad, px_iteB, px_ite, List.getElem?_cons_zero, List.getElem?_cons_succ, List.set_cons_zero, List.set_cons_succ, List.map_cons, List.map_nil, List.cons_append, List.nil_append, List.length_cons, List.length_nil, Nat.reduceAdd, Nat.reduceSub, List.replicate_succ, List.replicate_zero, if_true, if_false, Bool.false_eq_true, Bool.not_true, Bool.not_false, b0]
  unfold T2_law_shuffled
  rw [ev_seq, px_bind]
  have eR : (mh ++ [MO.lst ds]).length = mh.length + 1 := by simp
  rw [eR]
  refine while_px (fun i env h => env = [some (.ref k), some (.ref kt), some (.ref mh.length), some (.ref (mh.length + 1))] ∧ i ≤ ds.length ∧ ∃ xs ys, Sd k (m + (ds.length - i)) mh h ∧ h[mh.length]? = some (.lst xs) ∧ h[mh.length + 1]? = some (.lst ys) ∧ xs.length = i ∧ ys.length + i = ds.length ∧ (∀ x ∈ xs, x ∈ ds) ∧ ∀ y ∈ ys, y ∈ ds) ?_ 30 ds.length _ _ (by omega) ⟨rfl, Nat.le_refl _, ds, [], ?_, ?_, ?_, rfl, by simp, fun _ z => z, fun _ z => by cases z⟩
  · rintro i env h ⟨rfl, hi, xs, ys, sd, hL, hR, hx, hy, mx, my⟩
    have e0 : ∀ h : MH, opGt (.int (xs.length : Nat)) (.int 0) h = .ok (.bl (decide (0 < xs.length))) h := fun h => gt_nat0
    simp only [ev_var, ev_C, ev_bin, ev_and, ev_or, ev_not, ev_neg, ev_opNeg, ev_tru, ev_truB, ev_B, ev_tAnd, ev_tOr, ev_tNot, ev_if, ev_nil, ev_cons, ev_tup, ev_lst, ev_P0, ev_P1, ev_sl, ev_CB, ev_call, ev_skip, ev_seq, ev_break, ev_cont, ev_drop, ev_ret, ev_retN, ev_ifS, ev_set, ev_asgN, ev_setIx, ev_iter, ev_rng1, ev_for, ev_yes, ev_def, ev_meth0, ev_meth, ev_isI, ev_raise, ev_repl, ev_split1, px_bind, px_safe, px_ok, px_exc, px_bad, px_iteB, px_ite, List.getElem?_cons_zero, List.getElem?_cons_succ, List.set_cons_zero, List.set_cons_succ, List.map_cons, List.map_nil, List.cons_append, List.nil_append, List.length_cons, List.length_nil, Nat.reduceAdd, Nat.reduceSub, List.replicate_succ, List.replicate_zero, if_true, if_false, Bool.false_eq_true, Bool.not_true, Bool.not_false, len_ls (lsAt_lst hL), e0]
    by_cases c0 : 0 < xs.length
    · obtain ⟨i', rfl⟩ : ∃ i', i = i' + 1 := ⟨i - 1, by omega⟩
      simp only [decide_eq_true c0, ev_var, ev_C, ev_bin, ev_and, ev_or, ev_not, ev_neg, ev_opNeg, ev_tru, ev_truB, ev_B, ev_tAnd, ev_tOr, ev_tNot, ev_if, ev_nil, ev_cons, ev_tup, ev_lst, ev_P0, ev_P1, ev_sl, ev_CB, ev_call, ev_skip, ev_seq, ev_break, ev_cont, ev_drop, ev_ret, ev_retN, ev_ifS, ev_set, ev_asgN, ev_setIx, ev_iter, ev_rng1, ev_for, ev_yes, ev_def, ev_meth0, ev_meth, ev_isI, ev_raise, ev_repl, ev_split1, px_bind, px_safe, px_ok, px_exc, px_bad, px_iteB, px_ite, List.getElem?_cons_zero, List.getElem?_cons_succ, List.set_cons_zero, List.set_cons_succ, List.map_cons, List.map_nil, List.cons_append, List.nil_append, List.length_cons, List.length_nil, Nat.reduceAdd, Nat.reduceSub, List.replicate_succ, List.replicate_zero, if_true, if_false, Bool.false_eq_true, Bool.not_true, Bool.not_false]
      refine ⟨i', rfl, ?_⟩
      unfold L1_law_shuffled
      simp only [ev_var, ev_C, ev_bin, ev_and, ev_or, ev_not, ev_neg, ev_opNeg, ev_tru, ev_truB, ev_B, ev_tAnd, ev_tOr, ev_tNot, ev_if, ev_nil, ev_cons, ev_tup, ev_lst, ev_P0, ev_P1, ev_sl, ev_CB, ev_call, ev_skip, ev_seq, ev_break, ev_cont, ev_drop, ev_ret, ev_retN, ev_ifS, ev_set, ev_asgN, ev_setIx, ev_iter, ev_rng1, ev_for, ev_yes, ev_def, ev_meth0, ev_meth, ev_isI, ev_raise, ev_repl, ev_split1, px_bind, px_safe, px_ok, px_exc, px_bad, px_iteB, px_ite, List.getElem?_cons_zero, List.getElem?_cons_succ, List.set_cons_zero, List.set_cons_succ, List.map_cons, List.map_nil, List.cons_append, List.nil_append, List.length_cons, List.length_nil, Nat.reduceAdd, Nat.reduceSub, List.replicate_succ, List.replicate_zero, if_true, if_false, Bool.false_eq_true, Bool.not_true, Bool.not_false, ty_list (lsAt_lst hR), ty_list (lsAt_lst hL), len_ls (lsAt_lst hL)]
      refine (pickN (N := xs.length) sd.src (by omega) c0 (Nat.lt_of_lt_of_le (show xs.length < 2 ^ 5 by omega) (Nat.pow_le_pow_right (by decide) (by decide)))).mono (fun d h2 z => ?_) (fun _ _ _ z => z)
      obtain ⟨j, rfl, hj, sd2⟩ := z
      have hL2 := sd2.kt.some hL (by omega)
      have hR2 := sd2.kt.some hR (by omega)
      have ey : xs[j]? = some xs[j] := List.getElem?_eq_getElem hj
      have hR3 : (h2.set mh.length (.lst (xs.eraseIdx j)))[mh.length + 1]? = some (.lst ys) := by rw [List.getElem?_set_ne (by omega)]; exact hR2
      simp only [ev_var, ev_C, ev_bin, ev_and, ev_or, ev_not, ev_neg, ev_opNeg, ev_tru, ev_truB, ev_B, ev_tAnd, ev_tOr, ev_tNot, ev_if, ev_nil, ev_cons, ev_tup, ev_lst, ev_P0, ev_P1, ev_sl, ev_CB, ev_call, ev_skip, ev_seq, ev_break, ev_cont, ev_drop, ev_ret, ev_retN, ev_ifS, ev_set, ev_asgN, ev_setIx, ev_iter, ev_rng1, ev_for, ev_yes, ev_def, ev_meth0, ev_meth, ev_isI, ev_raise, ev_repl, ev_split1, px_bind, px_safe, px_ok, px_exc, px_bad, px_iteB, px_ite, List.getElem?_cons_zero, List.getElem?_cons_succ, List.set_cons_zero, List.set_cons_succ, List.map_cons, List.map_nil, List.cons_append, List.nil_append, List.length_cons, List.length_nil, Nat.reduceAdd, Nat.reduceSub, List.replicate_succ, List.replicate_zero, if_true, if_false, Bool.false_eq_true, Bool.not_true, Bool.not_false, pop_ok hL2 ey (by omega), app_ok' hR3 (show ys.length < SL by omega)]
      refine ⟨trivial, by omega, xs.eraseIdx j, ys ++ [xs[j]], ?_, ?_, ?_, ?_, ?_, ?_, ?_⟩
      · have q : Sd k (m + (ds.length - (i' + 1)) + 1) mh h2 := sd.trans sd2
        refine ⟨(q.kt.setNew (by omega) _).setNew (by omega) _, ?_⟩
        obtain ⟨a, b, c, e1, e2⟩ := q.src
        exact ⟨a, b, c, by rw [List.getElem?_set_ne (by omega), List.getElem?_set_ne (by omega)]; exact e1, e2.1, e2.2.1, e2.2.2.1, by have := e2.2.2.2; omega⟩
      · rw [List.getElem?_set_ne (by omega)]
        exact set_get hL2
      · exact set_get hR3
      · rw [List.length_eraseIdx, if_pos hj]; omega
      · rw [List.length_append]; simp only [List.length_cons, List.length_nil]; omega
      · exact fun x hx => mx x (List.mem_of_mem_eraseIdx hx)
      · intro y hy
        rcases List.mem_append.mp hy with hy | hy
        · exact my y hy
        · rw [List.mem_singleton.mp hy]; exact mx _ (List.getElem_mem hj)
    · simp only [decide_eq_false c0, ev_var, ev_C, ev_bin, ev_and, ev_or, ev_not, ev_neg, ev_opNeg, ev_tru, ev_truB, ev_B, ev_tAnd, ev_tOr, ev_tNot, ev_if, ev_nil, ev_cons, ev_tup, ev_lst, ev_P0, ev_P1, ev_sl, ev_CB, ev_call, ev_skip, ev_seq, ev_break, ev_cont, ev_drop, ev_ret, ev_retN, ev_ifS, ev_set, ev_asgN, ev_setIx, ev_iter, ev_rng1, ev_for, ev_yes, ev_def, ev_meth0, ev_meth, ev_isI, ev_raise, ev_repl, ev_split1, px_bind, px_safe, px_ok, px_exc, px_bad, px_iteB, px_ite, List.getElem?_cons_zero, List.getElem?_cons_succ, List.set_cons_zero, List.set_cons_succ, List.map_cons, List.map_nil, List.cons_append, List.nil_append, List.length_cons, List.length_nil, Nat.reduceAdd, Nat.reduceSub, List.replicate_succ, List.replicate_zero, if_true, if_false, Bool.false_eq_true, Bool.not_true, Bool.not_false]
      unfold T1_law_shuffled
      simp only [ev_var, ev_C, ev_bin, ev_and, ev_or, ev_not, ev_neg, ev_opNeg, ev_tru, ev_truB, ev_B, ev_tAnd, ev_tOr, ev_tNot, ev_if, ev_nil, ev_cons, ev_tup, ev_lst, ev_P0, ev_P1, ev_sl, ev_CB, ev_call, ev_skip, ev_seq, ev_break, ev_cont, ev_drop, ev_ret, ev_retN, ev_ifS, ev_set, ev_asgN, ev_setIx, ev_iter, ev_rng1, ev_for, ev_yes, ev_def, ev_meth0, ev_meth, ev_isI, ev_raise, ev_repl, ev_split1, px_bind, px_safe, px_ok, px_exc, px_bad, px_iteB, px_ite, List.getElem?_cons_zero, List.getElem?_cons_succ, List.set_cons_zero, List.set_cons_succ, List.map_cons, List.map_nil, List.cons_append, List.nil_append, List.length_cons, List.length_nil, Nat.reduceAdd, Nat.reduceSub, List.replicate_succ, List.replicate_zero, if_true, if_false, Bool.false_eq_true, Bool.not_true, Bool.not_false]
      exact ⟨_, ys, rfl, by omega, hR, by omega, my, sd.mono (by omega)⟩
  · exact (Sd.refl (s.mono (by omega))).pre ((pre_app _ _).trans (pre_app _ _))
  · rw [List.getElem?_append_left (by simp)]; simp
  · rw [← eR]; exact get_new
def gramS : List Str := ["kind", "given", "op", "mark", "gate", "need", "fun", "cell", "call", "say", "look", "ask", "room", "tell", "on", "loop", "as", "leave", "return", "end", "cost", "toll", "awake"]
theorem grammar_px (mh : MH) : F_law_grammar [] mh = .ok (.ref mh.length) (mh ++ [.lst (gramS.map D.str)]) := by
  unfold F_law_grammar B_law_grammar
  simp only [ev_def, ev_ret, ev_lst, ev_cons, ev_nil, ev_C, Res.bind, List.length_cons, List.length_nil]
  rw [if_pos (show 0 + 1 + 1 + 1 + 1 + 1 + 1 + 1 + 1 + 1 + 1 + 1 + 1 + 1 + 1 + 1 + 1 + 1 + 1 + 1 + 1 + 1 + 1 + 1 ≤ SL by decide)]
  rfl
theorem gram_in {h : MH} {kt : Nat} {x : Str} (hk : lsAt h kt = some (gramS.map D.str)) (hx : okS x) : opIn false (.str x) (.ref kt) h = .ok (.bl (inD (.str x) (gramS.map PyData.str))) h := by
  have e2 : pyD h 40 (.ref kt) = some (.list (gramS.map PyData.str)) := by
    show (match lsAt h kt with | some ds => (optAll (pyD h 39) ds).map PyData.list | none => none) = _
    rw [hk]; rfl
  unfold opIn
  dsimp only
  show (match some (PyData.str x), pyD h 40 (.ref kt) with | some a, some b => (match listD b with | some bs => if both a b = true then Res.ok (D.bl (false ^^ inD a bs)) h else Res.bad | none => Res.bad) | _, _ => Res.bad) = _
  rw [e2]
  dsimp only [listD]
  have hb : both (.str x) (.list (gramS.map PyData.str)) = true := by
    have e3 : SeqAt.shaped (.list (gramS.map PyData.str)) = true := by decide +kernel
    unfold both
    rw [e3]
    unfold SeqAt.shaped
    rw [PyData.canLay0, strOk_of hx, PyData.depth]; rfl
  rw [if_pos hb, Bool.false_xor]
end K66

set_option Elab.async false
set_option linter.all false
set_option maxRecDepth 100000
set_option maxHeartbeats 4000000
/-! K66T: _law_words. -/
namespace K66
open PySem PySem.NumText PyProof.Rows L2 Mi
def lws : Cs := [97,98,99,100,101,102,103,104,105,106,107,108,109,110,111,112,113,114,115,116,117,118,119,120,121,122]
theorem letter_ix {j : Nat} {h : MH} (hj : j < 26) : ∃ c, isLw c = true ∧ opIx (.str (S lws)) (.int (j : Int)) h = .ok (.str (S [c])) h := by
  have hl : j < lws.length := hj
  refine ⟨lws[j], ?_, s_ix (by decide) (List.getElem?_eq_getElem hl)⟩
  have : ∀ c ∈ lws, isLw c = true := by decide
  exact this _ (List.getElem_mem hl)
theorem s_takeN {l : Cs} {n : Nat} {mh : MH} (hl : l.length ≤ SL) : opSl (.str (S l)) none (some (n : Int)) mh = .ok (.str (S (l.take n))) mh := by
  unfold opSl
  dsimp only
  rw [S_len, if_pos hl]
  have e : cutS (S l) none (some (n : Int)) = S (l.take n) := by
    unfold cutS
    rw [S_cps, S_len, HT.sIx_nat]
    show S ((l.drop 0).take (min n l.length - 0)) = S (l.take n)
    rw [List.drop_zero, Nat.sub_zero, List.take_eq_take_min, List.take_eq_take_min (i := n)]
    congr 2
    omega
  rw [e]
theorem s_dropN {l : Cs} {n : Nat} {mh : MH} (hl : l.length ≤ SL) : opSl (.str (S l)) (some (n : Int)) none mh = .ok (.str (S (l.drop n))) mh := by
  unfold opSl
  dsimp only
  rw [S_len, if_pos hl]
  have e : cutS (S l) (some (n : Int)) none = S (l.drop n) := by
    unfold cutS
    rw [S_cps, S_len, HT.sIx_nat]
    show S ((l.drop (min n l.length)).take (l.length - min n l.length)) = S (l.drop n)
    congr 1
    by_cases h : n ≤ l.length
    · rw [Nat.min_eq_left h]
      exact List.take_of_length_le (by rw [List.length_drop]; exact Nat.le_refl _)
    · rw [Nat.min_eq_right (by omega), List.drop_length, List.drop_of_length_le (by omega), List.take_nil]
  rw [e]
/-- letters and figures, a letter ahead -/
def wordL (w : Cs) (n : Nat) : Prop := isWd w = true ∧ w.length ≤ n
theorem isWd_of {c : Nat} {r : Cs} (h1 : isLw c = true) (h2 : ∀ x ∈ r, isLw x = true ∨ isDg x = true) : isWd (c :: r) = true := by
  unfold isWd
  rw [Bool.and_eq_true]
  refine ⟨h1, List.all_eq_true.mpr fun x hx => ?_⟩
  rcases List.mem_cons.mp hx with e | e
  · rw [e, h1]; rfl
  · rcases h2 x e with q | q
    · rw [q]; rfl
    · rw [q, Bool.or_true]
theorem isWd_lets {w : Cs} (hne : w ≠ []) (h : ∀ x ∈ w, isLw x = true) : isWd w = true := by
  cases w with
  | nil => exact absurd rfl hne
  | cons c r => exact isWd_of (h c (List.mem_cons_self ..)) fun x hx => .inl (h x (List.mem_cons_of_mem _ hx))
theorem isWd_app {w r : Cs} (h : isWd w = true) (h2 : ∀ x ∈ r, isLw x = true ∨ isDg x = true) : isWd (w ++ r) = true := by
  cases w with
  | nil => cases h
  | cons c w =>
    unfold isWd at h
    rw [Bool.and_eq_true] at h
    refine isWd_of (r := w ++ r) h.1 fun x hx => ?_
    rcases List.mem_append.mp hx with hx | hx
    · have := List.all_eq_true.mp h.2 x (List.mem_cons_of_mem _ hx)
      exact Bool.or_eq_true_iff.mp this
    · exact h2 x hx
theorem isWd_okC {w : Cs} (h : isWd w = true) : okC w := fun c hc => by
  unfold isWd at h
  rw [Bool.and_eq_true] at h
  have := List.all_eq_true.mp h.2 c hc
  simp only [isLw, isDg, Bool.or_eq_true, Bool.and_eq_true, decide_eq_true_eq] at this
  omega
theorem set_src {m k i : Nat} {h : MH} {o : MO} (s : Src3 m h k) (n : i ≠ k) : Src3 m (h.set i o) k := by
  obtain ⟨a, b, c, e1, e2⟩ := s
  exact ⟨a, b, c, by rw [List.getElem?_set_ne n]; exact e1, e2⟩
theorem Sd.setNew {k m i : Nat} {a b : MH} (x : Sd k m a b) (hi : a.length ≤ i) (hk : k < a.length) (o : MO) : Sd k m a (b.set i o) := ⟨x.kt.setNew hi o, set_src x.src (by omega)⟩
theorem small2 {n : Nat} (h : n < 256) : n < 2 ^ 8000 := Nat.lt_of_lt_of_le (show n < 2 ^ 8 by omega) (Nat.pow_le_pow_right (by decide) (by decide))
theorem cStr_nat {n : Nat} {mh : MH} (h : n < 100) : ∃ w : Cs, cStrL [.int (n : Int)] mh = .ok (.str (S w)) mh ∧ w.length ≤ 2 ∧ ∀ x ∈ w, isDg x = true := by
  refine ⟨numeral (n : Int), cStr_int (by rw [Int.natAbs_natCast]; exact Nat.lt_of_lt_of_le (show n < 10 ^ 2 by omega) (Nat.pow_le_pow_right (by decide) (by decide))), ?_, ?_⟩
  · rw [numeral_nat]; exact digits_len (by decide) (by omega)
  · rw [numeral_nat]; exact fun x hx => List.all_eq_true.mp (dg_digits n) x hx
theorem words_px {m k : Nat} {mh : MH} (s : Src3 m mh k) (hm : m ≤ 800000000) :
    PX (F_law_words [.ref k, .int 2] mh) (fun d h => ∃ (R : Nat) (ws : List Cs), d = .ref R ∧ mh.length ≤ R ∧ h[R]? = some (.lst (toStrs ws)) ∧ ws.length = 2 ∧ (∀ w ∈ ws, wordL w 8) ∧ Sd k (m + 40) mh h) nX := by
  have hSL : SL = 16777216 := rfl
  have b0 : (0 : Nat) ≤ SL := by omega
  have hkl := s.lt
  unfold F_law_words B_law_words
  simp only [ev_var, ev_C, ev_bin, ev_and, ev_or, ev_not, ev_neg, ev_opNeg, ev_tru, ev_truB, ev_B, ev_tAnd, ev_tOr, ev_tNot, ev_if, ev_nil, ev_cons, ev_tup, ev_lst, ev_P0, ev_P1, ev_sl, ev_CB, ev_call, ev_skip, ev_seq, ev_break, ev_cont, ev_drop, ev_ret, ev_retN, ev_ifS, ev_set, ev_asgN, ev_setIx, ev_iter, ev_rng1, ev_for, ev_yes, ev_def, ev_meth0, ev_meth, ev_isI, ev_raise, ev_repl, ev_split1, px_bind, px_safe, px_ok, px_exc, px_bad, px_iteB, px_ite, List.getElem?_cons_zero, List.getElem?_cons_succ, List.set_cons_zero, List.set_cons_succ, List.map_cons, List.map_nil, List.cons_append, List.nil_append, List.length_cons, List.length_nil, Nat.reduceAdd, Nat.reduceSub, List.replicate_succ, List.replicate_zero, if_true, if_false, Bool.false_eq_true, Bool.not_true, Bool.not_false, k_lw]
  unfold T8_law_words
  simp only [ev_var, ev_C, ev_bin, ev_and, ev_or, ev_not, ev_neg, ev_opNeg, ev_tru, ev_truB, ev_B, ev_tAnd, ev_tOr, ev_tNot, ev_if, ev_nil, ev_cons, ev_tup, ev_lst, ev_P0, ev_P1, ev_sl, ev_CB, ev_call, ev_skip, ev_seq, ev_break, ev_cont, ev_drop, ev_ret, ev_retN, ev_ifS, ev_set, ev_asgN, ev_setIx, ev_iter, ev_rng1, ev_for, ev_yes, ev_def, ev_meth0, ev_meth, ev_isI, ev_raise, ev_repl, ev_split1, px_bind, px_safe, px_ok, px_exc, px_bad, px_iteB, px_ite, List.getElem?_cons_zero, List.getElem?_cons_succ, List.set_cons_zero, List.set_cons_succ, List.map_cons, List.map_nil, List.cons_append, List.nil_append, List.length_cons, List.length_nil, Nat.reduceAdd, Nat.reduceSub, List.replicate_succ, List.replicate_zero, if_true, if_false, Bool.false_eq_true, Bool.not_true, Bool.not_false, k_e]
  unfold T7_law_words
  simp only [ev_var, ev_C, ev_bin, ev_and, ev_or, ev_not, ev_neg, ev_opNeg, ev_tru, ev_truB, ev_B, ev_tAnd, ev_tOr, ev_tNot, ev_if, ev_nil, ev_cons, ev_tup, ev_lst, ev_P0, ev_P1, ev_sl, ev_CB, ev_call, ev_skip, ev_seq, ev_break, ev_cont, ev_drop, ev_ret, ev_retN, ev_ifS, ev_set, ev_asgN, ev_setIx, ev_iter, ev_rng1, ev_for, ev_yes, ev_def, ev_meth0, ev_meth, ev_isI, ev_raise, ev_repl, ev_split1, px_bind, px_safe, px_ok, px_exc, px_bad, px_iteB, px_ite, List.getElem?_cons_zero, List.getElem?_cons_succ, List.set_cons_zero, List.set_cons_succ, List.map_cons, List.map_nil, List.cons_append, List.nil_append, List.length_cons, List.length_nil, Nat.reduceAdd, Nat.reduceSub, List.replicate_succ, List.replicate_zero, if_true, if_false, Bool.false_eq_true, Bool.not_true, Bool.not_false]
  refine (pickN (N := 3) s (by omega) (by decide) (small2 (by decide))).mono (fun d h z => ?_) (fun _ _ _ z => z)
  obtain ⟨j, rfl, hj, sd⟩ := z
  simp only [ev_var, ev_C, ev_bin, ev_and, ev_or, ev_not, ev_neg, ev_opNeg, ev_tru, ev_truB, ev_B, ev_tAnd, ev_tOr, ev_tNot, ev_if, ev_nil, ev_cons, ev_tup, ev_lst, ev_P0, ev_P1, ev_sl, ev_CB, ev_call, ev_skip, ev_seq, ev_break, ev_cont, ev_drop, ev_ret, ev_retN, ev_ifS, ev_set, ev_asgN, ev_setIx, ev_iter, ev_rng1, ev_for, ev_yes, ev_def, ev_meth0, ev_meth, ev_isI, ev_raise, ev_repl, ev_split1, px_bind, px_safe, px_ok, px_exc, px_bad, px_iteB, px_ite, List.getElem?_cons_zero, List.getElem?_cons_succ, List.set_cons_zero, List.set_cons_succ, List.map_cons, List.map_nil, List.cons_append, List.nil_append, List.length_cons, List.length_nil, Nat.reduceAdd, Nat.reduceSub, List.replicate_succ, List.replicate_zero, if_true, if_false, Bool.false_eq_true, Bool.not_true, Bool.not_false, inR_nat (n := j) (by omega), Int.toNat_natCast]
  rw [show S [97,98,99,100,101,102,103,104,105,106,107,108,109,110,111,112,113,114,115,116,117,118,119,120,121,122] = S lws from rfl]
  refine loop_px (fun i env h' => Sd k (m + 1 + i) mh h' ∧ ∃ (b : Cs) (y : Option D), env = [some (.ref k), some (.int 2), some (.str (S lws)), some (.str (S b)), y, none, none, none, none, none, none, none] ∧ b.length ≤ i ∧ ∀ x ∈ b, isLw x = true) _ _ _ _ ⟨sd, [], none, rfl, Nat.le_refl _, fun _ z => by cases z⟩ ?_ ?_
  · rintro i env h' _ hi ⟨sd', b, y, rfl, hb, mb⟩
    refine ⟨_, _, srcR_at (by omega), rfl, ?_⟩
    unfold L1_law_words
    simp only [ev_var, ev_C, ev_bin, ev_and, ev_or, ev_not, ev_neg, ev_opNeg, ev_tru, ev_truB, ev_B, ev_tAnd, ev_tOr, ev_tNot, ev_if, ev_nil, ev_cons, ev_tup, ev_lst, ev_P0, ev_P1, ev_sl, ev_CB, ev_call, ev_skip, ev_seq, ev_break, ev_cont, ev_drop, ev_ret, ev_retN, ev_ifS, ev_set, ev_asgN, ev_setIx, ev_iter, ev_rng1, ev_for, ev_yes, ev_def, ev_meth0, ev_meth, ev_isI, ev_raise, ev_repl, ev_split1, px_bind, px_safe, px_ok, px_exc, px_bad, px_iteB, px_ite, List.getElem?_cons_zero, List.getElem?_cons_succ, List.set_cons_zero, List.set_cons_succ, List.map_cons, List.map_nil, List.cons_append, List.nil_append, List.length_cons, List.length_nil, Nat.reduceAdd, Nat.reduceSub, List.replicate_succ, List.replicate_zero, if_true, if_false, Bool.false_eq_true, Bool.not_true, Bool.not_false]
    refine (pickN (N := 26) sd'.src (by omega) (by decide) (small2 (by decide))).mono (fun d h2 z => ?_) (fun _ _ _ z => z)
    obtain ⟨j2, rfl, hj2, sd2⟩ := z
    obtain ⟨c, hc, ec⟩ := letter_ix (h := h2) hj2
    have bb : b.length + (0 + 1) ≤ SL := by omega
    have bb' : b.length + 1 ≤ SL := by omega
    simp only [ev_var, ev_C, ev_bin, ev_and, ev_or, ev_not, ev_neg, ev_opNeg, ev_tru, ev_truB, ev_B, ev_tAnd, ev_tOr, ev_tNot, ev_if, ev_nil, ev_cons, ev_tup, ev_lst, ev_P0, ev_P1, ev_sl, ev_CB, ev_call, ev_skip, ev_seq, ev_break, ev_cont, ev_drop, ev_ret, ev_retN, ev_ifS, ev_set, ev_asgN, ev_setIx, ev_iter, ev_rng1, ev_for, ev_yes, ev_def, ev_meth0, ev_meth, ev_isI, ev_raise, ev_repl, ev_split1, px_bind, px_safe, px_ok, px_exc, px_bad, px_iteB, px_ite, List.getElem?_cons_zero, List.getElem?_cons_succ, List.set_cons_zero, List.set_cons_succ, List.map_cons, List.map_nil, List.cons_append, List.nil_append, List.length_cons, List.length_nil, Nat.reduceAdd, Nat.reduceSub, List.replicate_succ, List.replicate_zero, if_true, if_false, Bool.false_eq_true, Bool.not_true, Bool.not_false, ec, s_add, bb']
    refine ⟨sd'.trans sd2, b ++ [c], _, rfl, ?_, ?_⟩
    · rw [List.length_append]; simp only [List.length_cons, List.length_nil]; omega
    · intro x hx
      rcases List.mem_append.mp hx with hx | hx
      · exact mb x hx
      · rw [List.mem_singleton.mp hx]; exact hc
  · rintro env h' ⟨sd', b, y, rfl, hb, mb⟩
    rw [Nat.zero_add] at *
    refine ⟨srcR_end, ?_⟩
    unfold T6_law_words
    simp only [ev_var, ev_C, ev_bin, ev_and, ev_or, ev_not, ev_neg, ev_opNeg, ev_tru, ev_truB, ev_B, ev_tAnd, ev_tOr, ev_tNot, ev_if, ev_nil, ev_cons, ev_tup, ev_lst, ev_P0, ev_P1, ev_sl, ev_CB, ev_call, ev_skip, ev_seq, ev_break, ev_cont, ev_drop, ev_ret, ev_retN, ev_ifS, ev_set, ev_asgN, ev_setIx, ev_iter, ev_rng1, ev_for, ev_yes, ev_def, ev_meth0, ev_meth, ev_isI, ev_raise, ev_repl, ev_split1, px_bind, px_safe, px_ok, px_exc, px_bad, px_iteB, px_ite, List.getElem?_cons_zero, List.getElem?_cons_succ, List.set_cons_zero, List.set_cons_succ, List.map_cons, List.map_nil, List.cons_append, List.nil_append, List.length_cons, List.length_nil, Nat.reduceAdd, Nat.reduceSub, List.replicate_succ, List.replicate_zero, if_true, if_false, Bool.false_eq_true, Bool.not_true, Bool.not_false, b0]
    have sd3 : Sd k (m + 1 + j) mh (h' ++ [MO.lst []]) := sd'.pre (pre_app _ _)
    have hle := sd'.kt.1
    -- behind the two roads
    have fin : ∀ (h4 : MH) (ws : List Cs) (y6 y7 y8 y9 : Option D), Sd k (m + 38) mh h4 → h4[h'.length]? = some (.lst (toStrs ws)) → ws.length = 2 → (∀ w ∈ ws, wordL w 6) →
        PX (T4_law_words [some (.ref k), some (.int 2), some (.str (S lws)), some (.str (S b)), y, some (.ref h'.length), y6, y7, y8, y9, none, none] h4) (fun f h => ∃ d, f = .rt d ∧ ∃ (R : Nat) (ws : List Cs), d = .ref R ∧ mh.length ≤ R ∧ h[R]? = some (.lst (toStrs ws)) ∧ ws.length = 2 ∧ (∀ w ∈ ws, wordL w 8) ∧ Sd k (m + 40) mh h) nX := by
      intro h4 ws y6 y7 y8 y9 sd4 hF hlen hw
      unfold T4_law_words
      simp only [ev_var, ev_C, ev_bin, ev_and, ev_or, ev_not, ev_neg, ev_opNeg, ev_tru, ev_truB, ev_B, ev_tAnd, ev_tOr, ev_tNot, ev_if, ev_nil, ev_cons, ev_tup, ev_lst, ev_P0, ev_P1, ev_sl, ev_CB, ev_call, ev_skip, ev_seq, ev_break, ev_cont, ev_drop, ev_ret, ev_retN, ev_ifS, ev_set, ev_asgN, ev_setIx, ev_iter, ev_rng1, ev_for, ev_yes, ev_def, ev_meth0, ev_meth, ev_isI, ev_raise, ev_repl, ev_split1, px_bind, px_safe, px_ok, px_exc, px_bad, px_iteB, px_ite, List.getElem?_cons_zero, List.getElem?_cons_succ, List.set_cons_zero, List.set_cons_succ, List.map_cons, List.map_nil, List.cons_append, List.nil_append, List.length_cons, List.length_nil, Nat.reduceAdd, Nat.reduceSub, List.replicate_succ, List.replicate_zero, if_true, if_false, Bool.false_eq_true, Bool.not_true, Bool.not_false, grammar_px]
      unfold T3_law_words
      simp only [ev_ret, px_bind]
      have hF5 : lsAt (h4 ++ [MO.lst (gramS.map D.str)]) h'.length = some (toStrs ws) := lsAt_lst (pre_some (pre_app _ _) hF)
      have hG5 : lsAt (h4 ++ [MO.lst (gramS.map D.str)]) h4.length = some (gramS.map D.str) := lsAt_lst get_new
      refine comp_grow (src := srcL h'.length) (ds := toStrs ws) (f := fun d => match d with | .str z => if inD (.str z) (gramS.map PyData.str) = true then .str (z ++ S [120]) else .str z | _ => .non) ?_ (by rw [toStrs_len]; omega) (fun i h p => srcL_pre hF5 p) ?_ ?_
      · rw [ev_iter]
        show (match lsAt (h4 ++ [MO.lst (gramS.map D.str)]) h'.length with | some ds => Res.ok (ds.length, srcL h'.length) (h4 ++ [MO.lst (gramS.map D.str)]) | none => Res.bad) = _
        rw [hF5]
      · intro d hd h5 p5
        obtain ⟨w, hw', rfl⟩ := List.mem_map.mp hd
        obtain ⟨w1, w2⟩ := hw w hw'
        refine ⟨_, rfl, ?_⟩
        have kx : (Str.ofString "x") = S [120] := by decide +kernel
        simp only [wipeE, nName, ev_var, ev_C, ev_bin, ev_and, ev_or, ev_not, ev_neg, ev_opNeg, ev_tru, ev_truB, ev_B, ev_tAnd, ev_tOr, ev_tNot, ev_if, ev_nil, ev_cons, ev_tup, ev_lst, ev_P0, ev_P1, ev_sl, ev_CB, ev_call, ev_skip, ev_seq, ev_break, ev_cont, ev_drop, ev_ret, ev_retN, ev_ifS, ev_set, ev_asgN, ev_setIx, ev_iter, ev_rng1, ev_for, ev_yes, ev_def, ev_meth0, ev_meth, ev_isI, ev_raise, ev_repl, ev_split1, px_bind, px_safe, px_ok, px_exc, px_bad, px_iteB, px_ite, List.getElem?_cons_zero, List.getElem?_cons_succ, List.set_cons_zero, List.set_cons_succ, List.map_cons, List.map_nil, List.cons_append, List.nil_append, List.length_cons, List.length_nil, Nat.reduceAdd, Nat.reduceSub, List.replicate_succ, List.replicate_zero, if_true, if_false, Bool.false_eq_true, Bool.not_true, Bool.not_false, gram_in (pre_ls p5 hG5) (okC_S (isWd_okC w1)), kx, s_add]
        cases hb : inD (.str (S w)) (gramS.map PyData.str) with
        | true =>
          have bb : w.length + 1 ≤ SL := by omega
          simp only [ev_var, ev_C, ev_bin, ev_and, ev_or, ev_not, ev_neg, ev_opNeg, ev_tru, ev_truB, ev_B, ev_tAnd, ev_tOr, ev_tNot, ev_if, ev_nil, ev_cons, ev_tup, ev_lst, ev_P0, ev_P1, ev_sl, ev_CB, ev_call, ev_skip, ev_seq, ev_break, ev_cont, ev_drop, ev_ret, ev_retN, ev_ifS, ev_set, ev_asgN, ev_setIx, ev_iter, ev_rng1, ev_for, ev_yes, ev_def, ev_meth0, ev_meth, ev_isI, ev_raise, ev_repl, ev_split1, px_bind, px_safe, px_ok, px_exc, px_bad, px_iteB, px_ite, List.getElem?_cons_zero, List.getElem?_cons_succ, List.set_cons_zero, List.set_cons_succ, List.map_cons, List.map_nil, List.cons_append, List.nil_append, List.length_cons, List.length_nil, Nat.reduceAdd, Nat.reduceSub, List.replicate_succ, List.replicate_zero, if_true, if_false, Bool.false_eq_true, Bool.not_true, Bool.not_false, bb]
          exact ⟨by rw [S_app], List.prefix_refl _⟩
        | false =>
          simp only [ev_var, ev_C, ev_bin, ev_and, ev_or, ev_not, ev_neg, ev_opNeg, ev_tru, ev_truB, ev_B, ev_tAnd, ev_tOr, ev_tNot, ev_if, ev_nil, ev_cons, ev_tup, ev_lst, ev_P0, ev_P1, ev_sl, ev_CB, ev_call, ev_skip, ev_seq, ev_break, ev_cont, ev_drop, ev_ret, ev_retN, ev_ifS, ev_set, ev_asgN, ev_setIx, ev_iter, ev_rng1, ev_for, ev_yes, ev_def, ev_meth0, ev_meth, ev_isI, ev_raise, ev_repl, ev_split1, px_bind, px_safe, px_ok, px_exc, px_bad, px_iteB, px_ite, List.getElem?_cons_zero, List.getElem?_cons_succ, List.set_cons_zero, List.set_cons_succ, List.map_cons, List.map_nil, List.cons_append, List.nil_append, List.length_cons, List.length_nil, Nat.reduceAdd, Nat.reduceSub, List.replicate_succ, List.replicate_zero, if_true, if_false, Bool.false_eq_true, Bool.not_true, Bool.not_false]
          exact ⟨trivial, List.prefix_refl _⟩
      · intro h6 p6 hk6
        simp only [ev_var, ev_C, ev_bin, ev_and, ev_or, ev_not, ev_neg, ev_opNeg, ev_tru, ev_truB, ev_B, ev_tAnd, ev_tOr, ev_tNot, ev_if, ev_nil, ev_cons, ev_tup, ev_lst, ev_P0, ev_P1, ev_sl, ev_CB, ev_call, ev_skip, ev_seq, ev_break, ev_cont, ev_drop, ev_ret, ev_retN, ev_ifS, ev_set, ev_asgN, ev_setIx, ev_iter, ev_rng1, ev_for, ev_yes, ev_def, ev_meth0, ev_meth, ev_isI, ev_raise, ev_repl, ev_split1, px_bind, px_safe, px_ok, px_exc, px_bad, px_iteB, px_ite, List.getElem?_cons_zero, List.getElem?_cons_succ, List.set_cons_zero, List.set_cons_succ, List.map_cons, List.map_nil, List.cons_append, List.nil_append, List.length_cons, List.length_nil, Nat.reduceAdd, Nat.reduceSub, List.replicate_succ, List.replicate_zero, if_true, if_false, Bool.false_eq_true, Bool.not_true, Bool.not_false]
        refine ⟨_, rfl, (h4 ++ [MO.lst (gramS.map D.str)]).length, ws.map (fun w => if inD (.str (S w)) (gramS.map PyData.str) = true then w ++ [120] else w), rfl, ?_, ?_, by rw [List.length_map]; exact hlen, ?_, ((sd4.pre (pre_app _ _)).pre p6).mono (by omega)⟩
        · have := sd4.kt.1; simp; omega
        · rw [hk6]
          unfold toStrs
          rw [List.map_map, List.map_map]
          congr 2
          refine List.map_congr_left fun w _ => ?_
          show (if inD (.str (S w)) (gramS.map PyData.str) = true then D.str (S w ++ S [120]) else D.str (S w)) = D.str (S (if inD (.str (S w)) (gramS.map PyData.str) = true then w ++ [120] else w))
          split
          · rw [S_app]
          · rfl
        · intro v hv
          obtain ⟨w, hw', rfl⟩ := List.mem_map.mp hv
          obtain ⟨w1, w2⟩ := hw w hw'
          split
          · refine ⟨isWd_app w1 fun x hx => .inl (by rw [List.mem_singleton.mp hx]; decide), ?_⟩
            rw [List.length_append]; simp only [List.length_cons, List.length_nil]; omega
          · exact ⟨w1, by omega⟩
    unfold T5_law_words C1_law_words
    have e26 : opLe (.int 2) (.int 26) (h' ++ [MO.lst []]) = .ok (.bl true) (h' ++ [MO.lst []]) := rfl
    simp only [ev_var, ev_C, ev_bin, ev_and, ev_or, ev_not, ev_neg, ev_opNeg, ev_tru, ev_truB, ev_B, ev_tAnd, ev_tOr, ev_tNot, ev_if, ev_nil, ev_cons, ev_tup, ev_lst, ev_P0, ev_P1, ev_sl, ev_CB, ev_call, ev_skip, ev_seq, ev_break, ev_cont, ev_drop, ev_ret, ev_retN, ev_ifS, ev_set, ev_asgN, ev_setIx, ev_iter, ev_rng1, ev_for, ev_yes, ev_def, ev_meth0, ev_meth, ev_isI, ev_raise, ev_repl, ev_split1, px_bind, px_safe, px_ok, px_exc, px_bad, px_iteB, px_ite, List.getElem?_cons_zero, List.getElem?_cons_succ, List.set_cons_zero, List.set_cons_succ, List.map_cons, List.map_nil, List.cons_append, List.nil_append, List.length_cons, List.length_nil, Nat.reduceAdd, Nat.reduceSub, List.replicate_succ, List.replicate_zero, if_true, if_false, Bool.false_eq_true, Bool.not_true, Bool.not_false, e26]
    refine (pickN (N := 3) sd3.src (by omega) (by decide) (small2 (by decide))).mono (fun d h4 z => ?_) (fun _ _ _ z => z)
    obtain ⟨j4, rfl, hj4, sd4⟩ := z
    have sd4' := sd3.trans sd4
    have hF4 : h4[h'.length]? = some (.lst (toStrs [])) := by
      refine sd4.kt.some (o := .lst []) ?_ (by omega)
      simp
    have eg : opGt (.int (j4 : Int)) (.int 0) h4 = .ok (.bl (decide (0 < j4))) h4 := gt_nat0
    simp only [ev_var, ev_C, ev_bin, ev_and, ev_or, ev_not, ev_neg, ev_opNeg, ev_tru, ev_truB, ev_B, ev_tAnd, ev_tOr, ev_tNot, ev_if, ev_nil, ev_cons, ev_tup, ev_lst, ev_P0, ev_P1, ev_sl, ev_CB, ev_call, ev_skip, ev_seq, ev_break, ev_cont, ev_drop, ev_ret, ev_retN, ev_ifS, ev_set, ev_asgN, ev_setIx, ev_iter, ev_rng1, ev_for, ev_yes, ev_def, ev_meth0, ev_meth, ev_isI, ev_raise, ev_repl, ev_split1, px_bind, px_safe, px_ok, px_exc, px_bad, px_iteB, px_ite, List.getElem?_cons_zero, List.getElem?_cons_succ, List.set_cons_zero, List.set_cons_succ, List.map_cons, List.map_nil, List.cons_append, List.nil_append, List.length_cons, List.length_nil, Nat.reduceAdd, Nat.reduceSub, List.replicate_succ, List.replicate_zero, if_true, if_false, Bool.false_eq_true, Bool.not_true, Bool.not_false, eg]
    by_cases c4 : 0 < j4
    · have eb1 : opAdd (.int (b.length : Nat)) (.int 1) h4 = .ok (.int ((b.length + 1 : Nat) : Int)) h4 := add_nat (n := 1)
      simp only [decide_eq_true c4, ev_var, ev_C, ev_bin, ev_and, ev_or, ev_not, ev_neg, ev_opNeg, ev_tru, ev_truB, ev_B, ev_tAnd, ev_tOr, ev_tNot, ev_if, ev_nil, ev_cons, ev_tup, ev_lst, ev_P0, ev_P1, ev_sl, ev_CB, ev_call, ev_skip, ev_seq, ev_break, ev_cont, ev_drop, ev_ret, ev_retN, ev_ifS, ev_set, ev_asgN, ev_setIx, ev_iter, ev_rng1, ev_for, ev_yes, ev_def, ev_meth0, ev_meth, ev_isI, ev_raise, ev_repl, ev_split1, px_bind, px_safe, px_ok, px_exc, px_bad, px_iteB, px_ite, List.getElem?_cons_zero, List.getElem?_cons_succ, List.set_cons_zero, List.set_cons_succ, List.map_cons, List.map_nil, List.cons_append, List.nil_append, List.length_cons, List.length_nil, Nat.reduceAdd, Nat.reduceSub, List.replicate_succ, List.replicate_zero, if_true, if_false, Bool.false_eq_true, Bool.not_true, Bool.not_false, s_len (show b.length ≤ SL by omega), eb1]
      refine (pickN (N := b.length + 1) sd4'.src (by omega) (by omega) (small2 (by omega))).mono (fun d h5 z => ?_) (fun _ _ _ z => z)
      obtain ⟨pl, rfl, hpl, sd5⟩ := z
      have sd5' := sd4'.trans sd5
      have hF5 := sd5.kt.some hF4 (by omega)
      unfold T1_law_words
      simp only [ev_var, ev_C, ev_bin, ev_and, ev_or, ev_not, ev_neg, ev_opNeg, ev_tru, ev_truB, ev_B, ev_tAnd, ev_tOr, ev_tNot, ev_if, ev_nil, ev_cons, ev_tup, ev_lst, ev_P0, ev_P1, ev_sl, ev_CB, ev_call, ev_skip, ev_seq, ev_break, ev_cont, ev_drop, ev_ret, ev_retN, ev_ifS, ev_set, ev_asgN, ev_setIx, ev_iter, ev_rng1, ev_for, ev_yes, ev_def, ev_meth0, ev_meth, ev_isI, ev_raise, ev_repl, ev_split1, px_bind, px_safe, px_ok, px_exc, px_bad, px_iteB, px_ite, List.getElem?_cons_zero, List.getElem?_cons_succ, List.set_cons_zero, List.set_cons_succ, List.map_cons, List.map_nil, List.cons_append, List.nil_append, List.length_cons, List.length_nil, Nat.reduceAdd, Nat.reduceSub, List.replicate_succ, List.replicate_zero, if_true, if_false, Bool.false_eq_true, Bool.not_true, Bool.not_false, ev_comp]
      have e26' : Mi.inR 26 = true := inR_nat (n := 26) (by decide)
      have e26n : (26 : Int).toNat = 26 := rfl
      simp only [e26', ev_var, ev_C, ev_bin, ev_and, ev_or, ev_not, ev_neg, ev_opNeg, ev_tru, ev_truB, ev_B, ev_tAnd, ev_tOr, ev_tNot, ev_if, ev_nil, ev_cons, ev_tup, ev_lst, ev_P0, ev_P1, ev_sl, ev_CB, ev_call, ev_skip, ev_seq, ev_break, ev_cont, ev_drop, ev_ret, ev_retN, ev_ifS, ev_set, ev_asgN, ev_setIx, ev_iter, ev_rng1, ev_for, ev_yes, ev_def, ev_meth0, ev_meth, ev_isI, ev_raise, ev_repl, ev_split1, px_bind, px_safe, px_ok, px_exc, px_bad, px_iteB, px_ite, List.getElem?_cons_zero, List.getElem?_cons_succ, List.set_cons_zero, List.set_cons_succ, List.map_cons, List.map_nil, List.cons_append, List.nil_append, List.length_cons, List.length_nil, Nat.reduceAdd, Nat.reduceSub, List.replicate_succ, List.replicate_zero, if_true, if_false, Bool.false_eq_true, Bool.not_true, Bool.not_false, e26n]
      -- the letters, one by one
      refine cl_grow (ds := (List.range 26).map fun i => D.int (i : Nat)) (f := fun d => match d with | .int i => .str (S [lws.getD i.toNat 97]) | _ => .non) (by decide) (fun i h p => ?_) ?_ ?_
      · unfold srcR
        by_cases hi : i < 26
        · rw [if_pos hi, List.getElem?_map, List.getElem?_range hi, Int.zero_add]; rfl
        · rw [if_neg hi, List.getElem?_eq_none (by simp; omega)]
      · intro d hd h6 p6
        obtain ⟨i, hi, rfl⟩ := List.mem_map.mp hd
        have hi26 : i < 26 := List.mem_range.mp hi
        refine ⟨_, rfl, ?_⟩
        have hl : i < lws.length := hi26
        simp only [wipeE, nName, ev_var, ev_C, ev_bin, ev_and, ev_or, ev_not, ev_neg, ev_opNeg, ev_tru, ev_truB, ev_B, ev_tAnd, ev_tOr, ev_tNot, ev_if, ev_nil, ev_cons, ev_tup, ev_lst, ev_P0, ev_P1, ev_sl, ev_CB, ev_call, ev_skip, ev_seq, ev_break, ev_cont, ev_drop, ev_ret, ev_retN, ev_ifS, ev_set, ev_asgN, ev_setIx, ev_iter, ev_rng1, ev_for, ev_yes, ev_def, ev_meth0, ev_meth, ev_isI, ev_raise, ev_repl, ev_split1, px_bind, px_safe, px_ok, px_exc, px_bad, px_iteB, px_ite, List.getElem?_cons_zero, List.getElem?_cons_succ, List.set_cons_zero, List.set_cons_succ, List.map_cons, List.map_nil, List.cons_append, List.nil_append, List.length_cons, List.length_nil, Nat.reduceAdd, Nat.reduceSub, List.replicate_succ, List.replicate_zero, if_true, if_false, Bool.false_eq_true, Bool.not_true, Bool.not_false, s_ix (l := lws) (n := i) (c := lws[i]) (by decide) (List.getElem?_eq_getElem hl)]
        refine ⟨?_, List.prefix_refl _⟩
        show _ = D.str (S [lws.getD (i : Int).toNat 97])
        rw [Int.toNat_natCast, List.getD_eq_getElem?_getD, List.getElem?_eq_getElem hl]; rfl
      · intro h6 p6 hk6
        have sd6 := sd5'.pre p6
        have hls6 := lsAt_lst hk6
        refine (shuffled_px sd6.src (by omega) (by simp) hls6).mono (fun d h7 z => ?_) (fun _ _ _ z => z)
        obtain ⟨R, ys, rfl, hR, hR7, hyl, hym, sd7⟩ := z
        have sd7' := sd6.trans sd7
        have hF7 : h7[h'.length]? = some (.lst (toStrs [])) := sd7.kt.some (pre_some p6 hF5) (by omega)
        have hyl' : ys.length = 26 := by rw [hyl]; simp
        have ecut : Mi.cutD ys none (some 2) = ys.take 2 := by
          unfold Mi.cutD
          show (ys.drop 0).take (HT.sIx ys.length ys.length (some ((2 : Nat) : Int)) - 0) = _
          rw [HT.sIx_nat, hyl']
          rfl
        have es7 : opSl (.ref R) none (some 2) h7 = .ok (.ref h7.length) (h7 ++ [.lst (ys.take 2)]) := by
          unfold opSl
          dsimp only
          rw [lsAt_lst hR7]
          dsimp only
          rw [ecut]
        have hN : lsAt (h7 ++ [MO.lst (ys.take 2)]) h7.length = some (ys.take 2) := lsAt_lst get_new
        have h2l : (ys.take 2).length = 2 := by rw [List.length_take]; omega
        have hle7 := sd7'.kt.1
        have hlt7 : h'.length < h7.length := (List.getElem?_eq_some_iff.mp hF7).1
        simp only [ev_var, ev_C, ev_bin, ev_and, ev_or, ev_not, ev_neg, ev_opNeg, ev_tru, ev_truB, ev_B, ev_tAnd, ev_tOr, ev_tNot, ev_if, ev_nil, ev_cons, ev_tup, ev_lst, ev_P0, ev_P1, ev_sl, ev_CB, ev_call, ev_skip, ev_seq, ev_break, ev_cont, ev_drop, ev_ret, ev_retN, ev_ifS, ev_set, ev_asgN, ev_setIx, ev_iter, ev_rng1, ev_for, ev_yes, ev_def, ev_meth0, ev_meth, ev_isI, ev_raise, ev_repl, ev_split1, px_bind, px_safe, px_ok, px_exc, px_bad, px_iteB, px_ite, List.getElem?_cons_zero, List.getElem?_cons_succ, List.set_cons_zero, List.set_cons_succ, List.map_cons, List.map_nil, List.cons_append, List.nil_append, List.length_cons, List.length_nil, Nat.reduceAdd, Nat.reduceSub, List.replicate_succ, List.replicate_zero, if_true, if_false, Bool.false_eq_true, Bool.not_true, Bool.not_false, es7, hN, h2l]
        have hys : ∀ y ∈ ys, ∃ c, isLw c = true ∧ y = .str (S [c]) := by
          intro y hy
          obtain ⟨d, hd, rfl⟩ := List.mem_map.mp (hym y hy)
          obtain ⟨i, hi, rfl⟩ := List.mem_map.mp hd
          have hl : i < lws.length := List.mem_range.mp hi
          refine ⟨lws.getD (i : Int).toNat 97, ?_, rfl⟩
          rw [Int.toNat_natCast, List.getD_eq_getElem?_getD, List.getElem?_eq_getElem hl]
          have : ∀ c ∈ lws, isLw c = true := by decide
          exact this _ (List.getElem_mem hl)
        refine loop_px (fun i env h8 => Sd k (m + 36) mh h8 ∧ ∃ (ws : List Cs) (y7 : Option D), env = [some (.ref k), some (.int 2), some (.str (S lws)), some (.str (S b)), y, some (.ref h'.length), some (.int (pl : Int)), y7, none, none, none, none] ∧ h8[h'.length]? = some (.lst (toStrs ws)) ∧ ws.length = i ∧ (∀ w ∈ ws, wordL w 6) ∧ lsAt h8 h7.length = some (ys.take 2)) _ _ _ _ ⟨(sd7'.pre (pre_app _ _)).mono (by omega), [], none, rfl, pre_some (pre_app _ _) hF7, rfl, (fun _ z => by cases z), hN⟩ ?_ ?_
        · rintro i env h8 _ hi ⟨sd8, ws, y7, rfl, hF8, hwl, hww, hN8⟩
          have hi2 : i < (ys.take 2).length := by omega
          obtain ⟨c, hc, ec⟩ := hys _ (List.mem_of_mem_take (List.getElem_mem hi2))
          refine ⟨(ys.take 2)[i], _, by rw [srcL_at hN8, List.getElem?_eq_getElem hi2], rfl, ?_⟩
          rw [ec]
          unfold L2_law_words
          have t1 : (b.take pl).length + (0 + 1) ≤ SL := by rw [List.length_take]; omega
          have t1' : (b.take pl).length + 1 ≤ SL := by rw [List.length_take]; omega
          have t2 : (b.take pl ++ [c]).length + (b.drop pl).length ≤ SL := by simp only [List.length_append, List.length_take, List.length_drop, List.length_cons, List.length_nil]; omega
          have ln : (toStrs ws).length < SL := by rw [toStrs_len]; omega
          simp only [ev_var, ev_C, ev_bin, ev_and, ev_or, ev_not, ev_neg, ev_opNeg, ev_tru, ev_truB, ev_B, ev_tAnd, ev_tOr, ev_tNot, ev_if, ev_nil, ev_cons, ev_tup, ev_lst, ev_P0, ev_P1, ev_sl, ev_CB, ev_call, ev_skip, ev_seq, ev_break, ev_cont, ev_drop, ev_ret, ev_retN, ev_ifS, ev_set, ev_asgN, ev_setIx, ev_iter, ev_rng1, ev_for, ev_yes, ev_def, ev_meth0, ev_meth, ev_isI, ev_raise, ev_repl, ev_split1, px_bind, px_safe, px_ok, px_exc, px_bad, px_iteB, px_ite, List.getElem?_cons_zero, List.getElem?_cons_succ, List.set_cons_zero, List.set_cons_succ, List.map_cons, List.map_nil, List.cons_append, List.nil_append, List.length_cons, List.length_nil, Nat.reduceAdd, Nat.reduceSub, List.replicate_succ, List.replicate_zero, if_true, if_false, Bool.false_eq_true, Bool.not_true, Bool.not_false, ty_list (lsAt_lst hF8), s_takeN (show b.length ≤ SL by omega), s_dropN (show b.length ≤ SL by omega), s_add, t1', t2, app_ok' hF8 ln]
          refine ⟨sd8.setNew (by omega) hkl _, ws ++ [b.take pl ++ [c] ++ b.drop pl], _, rfl, ?_, ?_, ?_, ?_⟩
          · rw [set_get hF8, toStrs_snoc]
          · rw [List.length_append]; simp only [List.length_cons, List.length_nil]; omega
          · intro w hw
            rcases List.mem_append.mp hw with hw | hw
            · exact hww w hw
            · rw [List.mem_singleton.mp hw]
              refine ⟨isWd_lets (by simp) fun x hx => ?_, ?_⟩
              · rcases List.mem_append.mp hx with hx | hx
                · rcases List.mem_append.mp hx with hx | hx
                  · exact mb x (List.mem_of_mem_take hx)
                  · rw [List.mem_singleton.mp hx]; exact hc
                · exact mb x (List.mem_of_mem_drop hx)
              · simp only [List.length_append, List.length_take, List.length_drop, List.length_cons, List.length_nil]; omega
          · unfold lsAt at hN8 ⊢
            rw [List.getElem?_set_ne (by omega)]
            exact hN8
        · rintro env h8 ⟨sd8, ws, y7, rfl, hF8, hwl, hww, hN8⟩
          rw [Nat.zero_add] at *
          refine ⟨by rw [srcL_at hN8, List.getElem?_eq_none (by omega)], ?_⟩
          refine (fin h8 ws _ y7 none none (sd8.mono (by omega)) hF8 hwl hww).mono (fun f h9 z => ?_) (fun _ _ _ z => z)
          obtain ⟨d, rfl, z⟩ := z
          exact z
    · simp only [decide_eq_false c4, ev_var, ev_C, ev_bin, ev_and, ev_or, ev_not, ev_neg, ev_opNeg, ev_tru, ev_truB, ev_B, ev_tAnd, ev_tOr, ev_tNot, ev_if, ev_nil, ev_cons, ev_tup, ev_lst, ev_P0, ev_P1, ev_sl, ev_CB, ev_call, ev_skip, ev_seq, ev_break, ev_cont, ev_drop, ev_ret, ev_retN, ev_ifS, ev_set, ev_asgN, ev_setIx, ev_iter, ev_rng1, ev_for, ev_yes, ev_def, ev_meth0, ev_meth, ev_isI, ev_raise, ev_repl, ev_split1, px_bind, px_safe, px_ok, px_exc, px_bad, px_iteB, px_ite, List.getElem?_cons_zero, List.getElem?_cons_succ, List.set_cons_zero, List.set_cons_succ, List.map_cons, List.map_nil, List.cons_append, List.nil_append, List.length_cons, List.length_nil, Nat.reduceAdd, Nat.reduceSub, List.replicate_succ, List.replicate_zero, if_true, if_false, Bool.false_eq_true, Bool.not_true, Bool.not_false]
      refine (pickN (N := 30) sd4'.src (by omega) (by decide) (small2 (by decide))).mono (fun d h5 z => ?_) (fun _ _ _ z => z)
      obtain ⟨st, rfl, hst, sd5⟩ := z
      have sd5' := sd4'.trans sd5
      have hF5 := sd5.kt.some hF4 (by omega)
      unfold T2_law_words
      have e2 : Mi.inR 2 = true := inR_nat (n := 2) (by decide)
      have e2n : (2 : Int).toNat = 2 := rfl
      simp only [ev_var, ev_C, ev_bin, ev_and, ev_or, ev_not, ev_neg, ev_opNeg, ev_tru, ev_truB, ev_B, ev_tAnd, ev_tOr, ev_tNot, ev_if, ev_nil, ev_cons, ev_tup, ev_lst, ev_P0, ev_P1, ev_sl, ev_CB, ev_call, ev_skip, ev_seq, ev_break, ev_cont, ev_drop, ev_ret, ev_retN, ev_ifS, ev_set, ev_asgN, ev_setIx, ev_iter, ev_rng1, ev_for, ev_yes, ev_def, ev_meth0, ev_meth, ev_isI, ev_raise, ev_repl, ev_split1, px_bind, px_safe, px_ok, px_exc, px_bad, px_iteB, px_ite, List.getElem?_cons_zero, List.getElem?_cons_succ, List.set_cons_zero, List.set_cons_succ, List.map_cons, List.map_nil, List.cons_append, List.nil_append, List.length_cons, List.length_nil, Nat.reduceAdd, Nat.reduceSub, List.replicate_succ, List.replicate_zero, if_true, if_false, Bool.false_eq_true, Bool.not_true, Bool.not_false, e2, e2n]
      refine loop_px (fun i env h8 => Sd k (m + 1 + j + 1 + 1 + i) mh h8 ∧ ∃ (ws : List Cs) (y9 : Option D), env = [some (.ref k), some (.int 2), some (.str (S lws)), some (.str (S b)), y, some (.ref h'.length), none, none, some (.int (st : Int)), y9, none, none] ∧ h8[h'.length]? = some (.lst (toStrs ws)) ∧ ws.length = i ∧ (∀ w ∈ ws, wordL w 6)) _ _ _ _ ⟨sd5', [], none, rfl, hF5, rfl, (fun _ z => by cases z)⟩ ?_ ?_
      · rintro i env h8 _ hi ⟨sd8, ws, y9, rfl, hF8, hwl, hww⟩
        refine ⟨_, _, srcR_at (by omega), rfl, ?_⟩
        unfold L3_law_words
        simp only [ev_var, ev_C, ev_bin, ev_and, ev_or, ev_not, ev_neg, ev_opNeg, ev_tru, ev_truB, ev_B, ev_tAnd, ev_tOr, ev_tNot, ev_if, ev_nil, ev_cons, ev_tup, ev_lst, ev_P0, ev_P1, ev_sl, ev_CB, ev_call, ev_skip, ev_seq, ev_break, ev_cont, ev_drop, ev_ret, ev_retN, ev_ifS, ev_set, ev_asgN, ev_setIx, ev_iter, ev_rng1, ev_for, ev_yes, ev_def, ev_meth0, ev_meth, ev_isI, ev_raise, ev_repl, ev_split1, px_bind, px_safe, px_ok, px_exc, px_bad, px_iteB, px_ite, List.getElem?_cons_zero, List.getElem?_cons_succ, List.set_cons_zero, List.set_cons_succ, List.map_cons, List.map_nil, List.cons_append, List.nil_append, List.length_cons, List.length_nil, Nat.reduceAdd, Nat.reduceSub, List.replicate_succ, List.replicate_zero, if_true, if_false, Bool.false_eq_true, Bool.not_true, Bool.not_false, ty_list (lsAt_lst hF8)]
        refine (pickN (N := 26) sd8.src (by omega) (by decide) (small2 (by decide))).mono (fun d h9 z => ?_) (fun _ _ _ z => z)
        obtain ⟨j9, rfl, hj9, sd9⟩ := z
        obtain ⟨c, hc, ec⟩ := letter_ix (h := h9) hj9
        have ea : opAdd (.int (st : Int)) (.int (i : Int)) h9 = .ok (.int ((st + i : Nat) : Int)) h9 := add_nat
        obtain ⟨w, ew, hw1, hw2⟩ := cStr_nat (mh := h9) (show st + i < 100 by omega)
        have hF9 := sd9.kt.some hF8 (by omega)
        have t1 : 0 + 1 + b.length ≤ SL := by omega
        have t1' : 1 + b.length ≤ SL := by omega
        have t2 : ([c] ++ b).length + w.length ≤ SL := by simp only [List.length_append, List.length_cons, List.length_nil]; omega
        have t2' : (c :: b).length + w.length ≤ SL := by simp only [List.length_cons]; omega
        have t2'' : b.length + 1 + w.length ≤ SL := by omega
        have ln : (toStrs ws).length < SL := by rw [toStrs_len]; omega
        simp only [ev_var, ev_C, ev_bin, ev_and, ev_or, ev_not, ev_neg, ev_opNeg, ev_tru, ev_truB, ev_B, ev_tAnd, ev_tOr, ev_tNot, ev_if, ev_nil, ev_cons, ev_tup, ev_lst, ev_P0, ev_P1, ev_sl, ev_CB, ev_call, ev_skip, ev_seq, ev_break, ev_cont, ev_drop, ev_ret, ev_retN, ev_ifS, ev_set, ev_asgN, ev_setIx, ev_iter, ev_rng1, ev_for, ev_yes, ev_def, ev_meth0, ev_meth, ev_isI, ev_raise, ev_repl, ev_split1, px_bind, px_safe, px_ok, px_exc, px_bad, px_iteB, px_ite, List.getElem?_cons_zero, List.getElem?_cons_succ, List.set_cons_zero, List.set_cons_succ, List.map_cons, List.map_nil, List.cons_append, List.nil_append, List.length_cons, List.length_nil, Nat.reduceAdd, Nat.reduceSub, List.replicate_succ, List.replicate_zero, if_true, if_false, Bool.false_eq_true, Bool.not_true, Bool.not_false, ec, s_add, t1', ea, ew, t2'', app_ok' hF9 ln]
        refine ⟨(sd8.trans sd9).setNew (by omega) hkl _, ws ++ [c :: (b ++ w)], _, rfl, ?_, ?_, ?_⟩
        · rw [set_get hF9, ← toStrs_snoc]
        · rw [List.length_append]; simp only [List.length_cons, List.length_nil]; omega
        · intro v hv
          rcases List.mem_append.mp hv with hv | hv
          · exact hww v hv
          · rw [List.mem_singleton.mp hv]
            refine ⟨isWd_of hc fun x hx => ?_, ?_⟩
            · rcases List.mem_append.mp hx with hx | hx
              · exact .inl (mb x hx)
              · exact .inr (hw2 x hx)
            · simp only [List.length_append, List.length_cons]; omega
      · rintro env h8 ⟨sd8, ws, y9, rfl, hF8, hwl, hww⟩
        rw [Nat.zero_add] at *
        refine ⟨srcR_end, ?_⟩
        refine (fin h8 ws none none _ y9 (sd8.mono (by omega)) hF8 hwl hww).mono (fun f h9 z => ?_) (fun _ _ _ z => z)
        obtain ⟨d, rfl, z⟩ := z
        exact z
end K66

set_option Elab.async false
set_option linter.all false
set_option maxRecDepth 100000
set_option maxHeartbeats 4000000
/-! K66U: _law_member, _law_nest, _law_spoilt. -/
namespace K66
open PySem PySem.NumText PyProof.Rows L2 Mi
def cstM : Nat → Nat
  | 0 => 60
  | r + 1 => 60 + 4 * cstM r
def lenM : Nat → Nat
  | 0 => 40
  | r + 1 => 4 * (lenM r + 1) + 2
/-- a member with room r -/
def memOk (r : Nat) (d : D) : Prop := okM d = true ∧ dep d ≤ r ∧ (wr d).length ≤ lenM r
theorem lenM_ge : ∀ r, 40 ≤ lenM r
  | 0 => Nat.le_refl _
  | r + 1 => by have := lenM_ge r; show 40 ≤ 4 * (lenM r + 1) + 2; omega
theorem cstM_ge : ∀ r, 60 ≤ cstM r
  | 0 => Nat.le_refl _
  | r + 1 => by show 60 ≤ 60 + 4 * cstM r; omega
theorem wrt_len {L : Nat} : ∀ {ds : List D}, (∀ d ∈ ds, (wr d).length ≤ L) → (wrt ds).length ≤ ds.length * (L + 1)
  | [], _ => by simp [wrt]
  | d :: ds, h => by
    have h1 := h d (List.mem_cons_self ..)
    have ih := wrt_len (L := L) (fun x hx => h x (List.mem_cons_of_mem _ hx))
    show (32 :: (wr d ++ wrt ds)).length ≤ (ds.length + 1) * (L + 1)
    rw [Nat.succ_mul]
    simp only [List.length_cons, List.length_append]
    omega
theorem wrs_len {L : Nat} {ds : List D} (h : ∀ d ∈ ds, (wr d).length ≤ L) : (wrs ds).length ≤ ds.length * (L + 1) := by
  cases ds with
  | nil => simp [wrs]
  | cons d ds =>
    have h1 := h d (List.mem_cons_self ..)
    have ih := wrt_len (L := L) (ds := ds) (fun x hx => h x (List.mem_cons_of_mem _ hx))
    show (wr d ++ wrt ds).length ≤ (ds.length + 1) * (L + 1)
    rw [Nat.succ_mul]
    simp only [List.length_append]
    omega
theorem okMs_of {ds : List D} (h : ∀ d ∈ ds, okM d = true) : okMs ds = true := by
  induction ds with
  | nil => rfl
  | cons d ds ih =>
    show (okM d && okMs ds) = true
    rw [h d (List.mem_cons_self ..), ih (fun x hx => h x (List.mem_cons_of_mem _ hx))]; rfl
theorem deps_of {n : Nat} {ds : List D} (h : ∀ d ∈ ds, dep d ≤ n) : deps ds ≤ n := by
  induction ds with
  | nil => exact Nat.zero_le _
  | cons d ds ih =>
    have h1 := h d (List.mem_cons_self ..)
    have h2 := ih (fun x hx => h x (List.mem_cons_of_mem _ hx))
    show max (dep d) (deps ds) ≤ n
    omega
theorem pow_ok {n : Nat} {mh : MH} (h : n ≤ 1000) : opPow (.int 10) (.int (n : Int)) mh = .ok (.int ((10 : Int) ^ n)) mh := by
  have e : opPow (.int 10) (.int (n : Int)) mh = .ok (.int ((10 : Int) ^ (n : Int).toNat)) mh := if_pos (show CPow 10 (n : Int) from ⟨by omega, by omega, by decide⟩)
  rw [e, Int.toNat_natCast]
theorem numeral_len {i : Int} {k : Nat} (hk : 0 < k) (h : i.natAbs < 10 ^ k) : (numeral i).length ≤ k + 1 := by
  rcases Int.natAbs_eq i with e | e
  · rw [e, numeral_nat]
    exact Nat.le_succ_of_le (digits_len hk h)
  · by_cases h0 : i.natAbs = 0
    · rw [e, h0]
      show 1 ≤ k + 1
      omega
    · obtain ⟨m, hm⟩ : ∃ m, i.natAbs = m + 1 := ⟨i.natAbs - 1, by omega⟩
      rw [e, hm, numeral_neg]
      have := digits_len hk (show m + 1 < 10 ^ k by omega)
      simp only [List.length_cons]
      omega
theorem P30 : (5 : Int) < 10 ^ 30 := by decide
theorem L30 : ((10 : Int) ^ 30).natAbs.log2 < 9000 := Nat.lt_trans (small_log (k := 100) (by decide) (by decide) (by decide)) (by decide)
theorem num_ok {i : Int} (h0 : 0 ≤ i) (h : i < 10 ^ 30) : memOk 0 (.int i) ∧ memOk 0 (.int (-1 - i)) := by
  have h1 : i.natAbs < 10 ^ 31 := by
    have : (10 : Int) ^ 30 < 10 ^ 31 := by decide
    have e : ((i.natAbs : Nat) : Int) = i := Int.natAbs_of_nonneg h0
    have q : ((i.natAbs : Nat) : Int) < ((10 ^ 31 : Nat) : Int) := by rw [e]; exact_mod_cast Int.lt_trans h this
    exact_mod_cast q
  have h2 : (-1 - i).natAbs < 10 ^ 31 := by
    have e : (((-1 - i).natAbs : Nat) : Int) = i + 1 := by omega
    have q : (((-1 - i).natAbs : Nat) : Int) < ((10 ^ 31 : Nat) : Int) := by
      rw [e]
      have : (10 : Int) ^ 30 + 1 ≤ 10 ^ 31 := by decide
      have : i + 1 < (10 : Int) ^ 31 := by omega
      exact_mod_cast this
    exact_mod_cast q
  have big : (10 : Nat) ^ 31 ≤ 10 ^ 1000 := Nat.pow_le_pow_right (by decide) (by decide)
  refine ⟨⟨decide_eq_true (Nat.lt_of_lt_of_le h1 big), Nat.le_refl _, ?_⟩, ⟨decide_eq_true (Nat.lt_of_lt_of_le h2 big), Nat.le_refl _, ?_⟩⟩
  · have := numeral_len (k := 31) (by decide) h1
    show (numeral i).length ≤ 40
    omega
  · have := numeral_len (k := 31) (by decide) h2
    show (numeral (-1 - i)).length ≤ 40
    omega
theorem mem_up {r : Nat} {d : D} (h : memOk 0 d) : memOk r d := ⟨h.1, by have := h.2.1; omega, by have h1 := h.2.2; have h2 := lenM_ge r; have : lenM 0 = 40 := rfl; omega⟩
theorem member_px : ∀ (n r m k : Nat) (mh : MH), r < n → r ≤ 4 → Src3 m mh k → m + cstM r ≤ 800000000 →
    PX (F_law_member n [.ref k, .int (r : Int)] mh) (fun d h => memOk r d ∧ Sd k (m + cstM r) mh h) nX
  | 0, r, m, k, mh, h, _, _, _ => absurd h (Nat.not_lt_zero _)
  | n + 1, r, m, k, mh, hrn, hr4, s, hm => by
    have hSL : SL = 16777216 := rfl
    have hkl := s.lt
    have hcr := cstM_ge r
    show PX (mDef 5 (B_law_member (F_law_member n)) [.ref k, .int (r : Int)] mh) _ _
    unfold B_law_member
    simp only [ev_var, ev_C, ev_bin, ev_and, ev_or, ev_not, ev_neg, ev_opNeg, ev_tru, ev_truB, ev_B, ev_tAnd, ev_tOr, ev_tNot, ev_if, ev_nil, ev_cons, ev_tup, ev_lst, ev_P0, ev_P1, ev_sl, ev_CB, ev_call, ev_skip, ev_seq, ev_break, ev_cont, ev_drop, ev_ret, ev_retN, ev_ifS, ev_set, ev_asgN, ev_setIx, ev_iter, ev_rng1, ev_for, ev_yes, ev_def, ev_meth0, ev_meth, ev_isI, ev_raise, ev_repl, ev_split1, px_bind, px_safe, px_ok, px_exc, px_bad, px_iteB, px_ite, List.getElem?_cons_zero, List.getElem?_cons_succ, List.set_cons_zero, List.set_cons_succ, List.map_cons, List.map_nil, List.cons_append, List.nil_append, List.length_cons, List.length_nil, Nat.reduceAdd, Nat.reduceSub, List.replicate_succ, List.replicate_zero, if_true, if_false, Bool.false_eq_true, Bool.not_true, Bool.not_false]
    refine (pickN (N := 6) s (by omega) (by decide) (small2 (by decide))).mono (fun d h z => ?_) (fun _ _ _ z => z)
    obtain ⟨j, rfl, hj, sd⟩ := z
    unfold T5_law_member C1_law_member
    have e0 : opEq (.int (j : Int)) (.int 0) h = .ok (.bl (decide (j = 0))) h := eq_nat (n := 0)
    have e1 : opEq (.int (j : Int)) (.int 1) h = .ok (.bl (decide (j = 1))) h := eq_nat (n := 1)
    have e3 : opGt (.int (j : Int)) (.int 3) h = .ok (.bl (decide (3 < j))) h := gt_nat (b := 3)
    have er : opGt (.int (r : Int)) (.int 0) h = .ok (.bl (decide (0 < r))) h := gt_nat0
    have er2 : opGt (.int (r : Int)) (.int 2) h = .ok (.bl (decide (2 < r))) h := gt_nat (b := 2)
    simp only [ev_var, ev_C, ev_bin, ev_and, ev_or, ev_not, ev_neg, ev_opNeg, ev_tru, ev_truB, ev_B, ev_tAnd, ev_tOr, ev_tNot, ev_if, ev_nil, ev_cons, ev_tup, ev_lst, ev_P0, ev_P1, ev_sl, ev_CB, ev_call, ev_skip, ev_seq, ev_break, ev_cont, ev_drop, ev_ret, ev_retN, ev_ifS, ev_set, ev_asgN, ev_setIx, ev_iter, ev_rng1, ev_for, ev_yes, ev_def, ev_meth0, ev_meth, ev_isI, ev_raise, ev_repl, ev_split1, px_bind, px_safe, px_ok, px_exc, px_bad, px_iteB, px_ite, List.getElem?_cons_zero, List.getElem?_cons_succ, List.set_cons_zero, List.set_cons_succ, List.map_cons, List.map_nil, List.cons_append, List.nil_append, List.length_cons, List.length_nil, Nat.reduceAdd, Nat.reduceSub, List.replicate_succ, List.replicate_zero, if_true, if_false, Bool.false_eq_true, Bool.not_true, Bool.not_false, e0]
    by_cases c0 : j = 0
    · simp only [decide_eq_true c0, ev_var, ev_C, ev_bin, ev_and, ev_or, ev_not, ev_neg, ev_opNeg, ev_tru, ev_truB, ev_B, ev_tAnd, ev_tOr, ev_tNot, ev_if, ev_nil, ev_cons, ev_tup, ev_lst, ev_P0, ev_P1, ev_sl, ev_CB, ev_call, ev_skip, ev_seq, ev_break, ev_cont, ev_drop, ev_ret, ev_retN, ev_ifS, ev_set, ev_asgN, ev_setIx, ev_iter, ev_rng1, ev_for, ev_yes, ev_def, ev_meth0, ev_meth, ev_isI, ev_raise, ev_repl, ev_split1, px_bind, px_safe, px_ok, px_exc, px_bad, px_iteB, px_ite, List.getElem?_cons_zero, List.getElem?_cons_succ, List.set_cons_zero, List.set_cons_succ, List.map_cons, List.map_nil, List.cons_append, List.nil_append, List.length_cons, List.length_nil, Nat.reduceAdd, Nat.reduceSub, List.replicate_succ, List.replicate_zero, if_true, if_false, Bool.false_eq_true, Bool.not_true, Bool.not_false]
      exact ⟨⟨rfl, Nat.zero_le _, by have := lenM_ge r; show ([45] : Cs).length ≤ _; simp only [List.length_cons, List.length_nil]; omega⟩, sd.mono (by omega)⟩
    · simp only [decide_eq_false c0, ev_var, ev_C, ev_bin, ev_and, ev_or, ev_not, ev_neg, ev_opNeg, ev_tru, ev_truB, ev_B, ev_tAnd, ev_tOr, ev_tNot, ev_if, ev_nil, ev_cons, ev_tup, ev_lst, ev_P0, ev_P1, ev_sl, ev_CB, ev_call, ev_skip, ev_seq, ev_break, ev_cont, ev_drop, ev_ret, ev_retN, ev_ifS, ev_set, ev_asgN, ev_setIx, ev_iter, ev_rng1, ev_for, ev_yes, ev_def, ev_meth0, ev_meth, ev_isI, ev_raise, ev_repl, ev_split1, px_bind, px_safe, px_ok, px_exc, px_bad, px_iteB, px_ite, List.getElem?_cons_zero, List.getElem?_cons_succ, List.set_cons_zero, List.set_cons_succ, List.map_cons, List.map_nil, List.cons_append, List.nil_append, List.length_cons, List.length_nil, Nat.reduceAdd, Nat.reduceSub, List.replicate_succ, List.replicate_zero, if_true, if_false, Bool.false_eq_true, Bool.not_true, Bool.not_false]
      unfold T4_law_member C2_law_member
      simp only [ev_var, ev_C, ev_bin, ev_and, ev_or, ev_not, ev_neg, ev_opNeg, ev_tru, ev_truB, ev_B, ev_tAnd, ev_tOr, ev_tNot, ev_if, ev_nil, ev_cons, ev_tup, ev_lst, ev_P0, ev_P1, ev_sl, ev_CB, ev_call, ev_skip, ev_seq, ev_break, ev_cont, ev_drop, ev_ret, ev_retN, ev_ifS, ev_set, ev_asgN, ev_setIx, ev_iter, ev_rng1, ev_for, ev_yes, ev_def, ev_meth0, ev_meth, ev_isI, ev_raise, ev_repl, ev_split1, px_bind, px_safe, px_ok, px_exc, px_bad, px_iteB, px_ite, List.getElem?_cons_zero, List.getElem?_cons_succ, List.set_cons_zero, List.set_cons_succ, List.map_cons, List.map_nil, List.cons_append, List.nil_append, List.length_cons, List.length_nil, Nat.reduceAdd, Nat.reduceSub, List.replicate_succ, List.replicate_zero, if_true, if_false, Bool.false_eq_true, Bool.not_true, Bool.not_false, e1]
      by_cases c1 : j = 1
      · simp only [decide_eq_true c1, ev_var, ev_C, ev_bin, ev_and, ev_or, ev_not, ev_neg, ev_opNeg, ev_tru, ev_truB, ev_B, ev_tAnd, ev_tOr, ev_tNot, ev_if, ev_nil, ev_cons, ev_tup, ev_lst, ev_P0, ev_P1, ev_sl, ev_CB, ev_call, ev_skip, ev_seq, ev_break, ev_cont, ev_drop, ev_ret, ev_retN, ev_ifS, ev_set, ev_asgN, ev_setIx, ev_iter, ev_rng1, ev_for, ev_yes, ev_def, ev_meth0, ev_meth, ev_isI, ev_raise, ev_repl, ev_split1, px_bind, px_safe, px_ok, px_exc, px_bad, px_iteB, px_ite, List.getElem?_cons_zero, List.getElem?_cons_succ, List.set_cons_zero, List.set_cons_succ, List.map_cons, List.map_nil, List.cons_append, List.nil_append, List.length_cons, List.length_nil, Nat.reduceAdd, Nat.reduceSub, List.replicate_succ, List.replicate_zero, if_true, if_false, Bool.false_eq_true, Bool.not_true, Bool.not_false]
        refine (words_px sd.src (by omega)).mono (fun d h2 z => ?_) (fun _ _ _ z => z)
        obtain ⟨R, ws, rfl, _, hR, hl, hw, sd2⟩ := z
        have hl1 : 1 < ws.length := by omega
        obtain ⟨w1, w2⟩ := hw _ (List.getElem_mem hl1)
        have ex : opIx (.ref R) (.int 1) h2 = .ok (.str (S ws[1])) h2 := ix_ls (n := 1) (lsAt_lst hR) (toStrs_at hl1)
        simp only [ev_var, ev_C, ev_bin, ev_and, ev_or, ev_not, ev_neg, ev_opNeg, ev_tru, ev_truB, ev_B, ev_tAnd, ev_tOr, ev_tNot, ev_if, ev_nil, ev_cons, ev_tup, ev_lst, ev_P0, ev_P1, ev_sl, ev_CB, ev_call, ev_skip, ev_seq, ev_break, ev_cont, ev_drop, ev_ret, ev_retN, ev_ifS, ev_set, ev_asgN, ev_setIx, ev_iter, ev_rng1, ev_for, ev_yes, ev_def, ev_meth0, ev_meth, ev_isI, ev_raise, ev_repl, ev_split1, px_bind, px_safe, px_ok, px_exc, px_bad, px_iteB, px_ite, List.getElem?_cons_zero, List.getElem?_cons_succ, List.set_cons_zero, List.set_cons_succ, List.map_cons, List.map_nil, List.cons_append, List.nil_append, List.length_cons, List.length_nil, Nat.reduceAdd, Nat.reduceSub, List.replicate_succ, List.replicate_zero, if_true, if_false, Bool.false_eq_true, Bool.not_true, Bool.not_false, ex]
        refine ⟨⟨?_, Nat.zero_le _, ?_⟩, (sd.trans sd2).mono (by omega)⟩
        · show isWd (S ws[1]).cps.toList = true
          rw [S_cps]; exact w1
        · show (S ws[1]).cps.toList.length ≤ _
          rw [S_cps]
          have := lenM_ge r
          omega
      · simp only [decide_eq_false c1, ev_var, ev_C, ev_bin, ev_and, ev_or, ev_not, ev_neg, ev_opNeg, ev_tru, ev_truB, ev_B, ev_tAnd, ev_tOr, ev_tNot, ev_if, ev_nil, ev_cons, ev_tup, ev_lst, ev_P0, ev_P1, ev_sl, ev_CB, ev_call, ev_skip, ev_seq, ev_break, ev_cont, ev_drop, ev_ret, ev_retN, ev_ifS, ev_set, ev_asgN, ev_setIx, ev_iter, ev_rng1, ev_for, ev_yes, ev_def, ev_meth0, ev_meth, ev_isI, ev_raise, ev_repl, ev_split1, px_bind, px_safe, px_ok, px_exc, px_bad, px_iteB, px_ite, List.getElem?_cons_zero, List.getElem?_cons_succ, List.set_cons_zero, List.set_cons_succ, List.map_cons, List.map_nil, List.cons_append, List.nil_append, List.length_cons, List.length_nil, Nat.reduceAdd, Nat.reduceSub, List.replicate_succ, List.replicate_zero, if_true, if_false, Bool.false_eq_true, Bool.not_true, Bool.not_false]
        unfold T3_law_member C3_law_member
        -- the last road: a number
        have last : PX (T2_law_member [some (.ref k), some (.int (r : Int)), some (.int (j : Int)), none, none] h) (fun f h => ∃ d, f = .rt d ∧ memOk r d ∧ Sd k (m + cstM r) mh h) nX := by
          unfold T2_law_member
          have e30 : opPow (.int 10) (.int 30) h = .ok (.int ((10 : Int) ^ 30)) h := pow_ok (n := 30) (by decide)
          simp only [ev_var, ev_C, ev_bin, ev_and, ev_or, ev_not, ev_neg, ev_opNeg, ev_tru, ev_truB, ev_B, ev_tAnd, ev_tOr, ev_tNot, ev_if, ev_nil, ev_cons, ev_tup, ev_lst, ev_P0, ev_P1, ev_sl, ev_CB, ev_call, ev_skip, ev_seq, ev_break, ev_cont, ev_drop, ev_ret, ev_retN, ev_ifS, ev_set, ev_asgN, ev_setIx, ev_iter, ev_rng1, ev_for, ev_yes, ev_def, ev_meth0, ev_meth, ev_isI, ev_raise, ev_repl, ev_split1, px_bind, px_safe, px_ok, px_exc, px_bad, px_iteB, px_ite, List.getElem?_cons_zero, List.getElem?_cons_succ, List.set_cons_zero, List.set_cons_succ, List.map_cons, List.map_nil, List.cons_append, List.nil_append, List.length_cons, List.length_nil, Nat.reduceAdd, Nat.reduceSub, List.replicate_succ, List.replicate_zero, if_true, if_false, Bool.false_eq_true, Bool.not_true, Bool.not_false, e30]
          refine (number_px sd.src (by omega) P30 L30).mono (fun d h2 z => ?_) (fun _ _ _ z => z)
          obtain ⟨i, rfl, i0, i1, sd2⟩ := z
          obtain ⟨o1, o2⟩ := num_ok i0 i1
          unfold T1_law_member
          simp only [ev_var, ev_C, ev_bin, ev_and, ev_or, ev_not, ev_neg, ev_opNeg, ev_tru, ev_truB, ev_B, ev_tAnd, ev_tOr, ev_tNot, ev_if, ev_nil, ev_cons, ev_tup, ev_lst, ev_P0, ev_P1, ev_sl, ev_CB, ev_call, ev_skip, ev_seq, ev_break, ev_cont, ev_drop, ev_ret, ev_retN, ev_ifS, ev_set, ev_asgN, ev_setIx, ev_iter, ev_rng1, ev_for, ev_yes, ev_def, ev_meth0, ev_meth, ev_isI, ev_raise, ev_repl, ev_split1, px_bind, px_safe, px_ok, px_exc, px_bad, px_iteB, px_ite, List.getElem?_cons_zero, List.getElem?_cons_succ, List.set_cons_zero, List.set_cons_succ, List.map_cons, List.map_nil, List.cons_append, List.nil_append, List.length_cons, List.length_nil, Nat.reduceAdd, Nat.reduceSub, List.replicate_succ, List.replicate_zero, if_true, if_false, Bool.false_eq_true, Bool.not_true, Bool.not_false]
          refine (pickN (N := 3) sd2.src (by omega) (by decide) (small2 (by decide))).mono (fun d h3 z => ?_) (fun _ _ _ z => z)
          obtain ⟨q, rfl, hq, sd3⟩ := z
          have eq0 : opGt (.int (q : Int)) (.int 0) h3 = .ok (.bl (decide (0 < q))) h3 := gt_nat0
          have sdd := ((sd.trans sd2).trans sd3).mono (show m + 1 + 7 + 1 ≤ m + cstM r by omega)
          simp only [ev_var, ev_C, ev_bin, ev_and, ev_or, ev_not, ev_neg, ev_opNeg, ev_tru, ev_truB, ev_B, ev_tAnd, ev_tOr, ev_tNot, ev_if, ev_nil, ev_cons, ev_tup, ev_lst, ev_P0, ev_P1, ev_sl, ev_CB, ev_call, ev_skip, ev_seq, ev_break, ev_cont, ev_drop, ev_ret, ev_retN, ev_ifS, ev_set, ev_asgN, ev_setIx, ev_iter, ev_rng1, ev_for, ev_yes, ev_def, ev_meth0, ev_meth, ev_isI, ev_raise, ev_repl, ev_split1, px_bind, px_safe, px_ok, px_exc, px_bad, px_iteB, px_ite, List.getElem?_cons_zero, List.getElem?_cons_succ, List.set_cons_zero, List.set_cons_succ, List.map_cons, List.map_nil, List.cons_append, List.nil_append, List.length_cons, List.length_nil, Nat.reduceAdd, Nat.reduceSub, List.replicate_succ, List.replicate_zero, if_true, if_false, Bool.false_eq_true, Bool.not_true, Bool.not_false, eq0]
          by_cases c2 : 0 < q
          · simp only [decide_eq_true c2, ev_var, ev_C, ev_bin, ev_and, ev_or, ev_not, ev_neg, ev_opNeg, ev_tru, ev_truB, ev_B, ev_tAnd, ev_tOr, ev_tNot, ev_if, ev_nil, ev_cons, ev_tup, ev_lst, ev_P0, ev_P1, ev_sl, ev_CB, ev_call, ev_skip, ev_seq, ev_break, ev_cont, ev_drop, ev_ret, ev_retN, ev_ifS, ev_set, ev_asgN, ev_setIx, ev_iter, ev_rng1, ev_for, ev_yes, ev_def, ev_meth0, ev_meth, ev_isI, ev_raise, ev_repl, ev_split1, px_bind, px_safe, px_ok, px_exc, px_bad, px_iteB, px_ite, List.getElem?_cons_zero, List.getElem?_cons_succ, List.set_cons_zero, List.set_cons_succ, List.map_cons, List.map_nil, List.cons_append, List.nil_append, List.length_cons, List.length_nil, Nat.reduceAdd, Nat.reduceSub, List.replicate_succ, List.replicate_zero, if_true, if_false, Bool.false_eq_true, Bool.not_true, Bool.not_false]
            exact ⟨_, rfl, mem_up o1, sdd⟩
          · simp only [decide_eq_false c2, ev_var, ev_C, ev_bin, ev_and, ev_or, ev_not, ev_neg, ev_opNeg, ev_tru, ev_truB, ev_B, ev_tAnd, ev_tOr, ev_tNot, ev_if, ev_nil, ev_cons, ev_tup, ev_lst, ev_P0, ev_P1, ev_sl, ev_CB, ev_call, ev_skip, ev_seq, ev_break, ev_cont, ev_drop, ev_ret, ev_retN, ev_ifS, ev_set, ev_asgN, ev_setIx, ev_iter, ev_rng1, ev_for, ev_yes, ev_def, ev_meth0, ev_meth, ev_isI, ev_raise, ev_repl, ev_split1, px_bind, px_safe, px_ok, px_exc, px_bad, px_iteB, px_ite, List.getElem?_cons_zero, List.getElem?_cons_succ, List.set_cons_zero, List.set_cons_succ, List.map_cons, List.map_nil, List.cons_append, List.nil_append, List.length_cons, List.length_nil, Nat.reduceAdd, Nat.reduceSub, List.replicate_succ, List.replicate_zero, if_true, if_false, Bool.false_eq_true, Bool.not_true, Bool.not_false, sub_int]
            exact ⟨_, rfl, mem_up o2, sdd⟩
        have last' : PX (T2_law_member [some (.ref k), some (.int (r : Int)), some (.int (j : Int)), none, none] h) (fun f h => PX (match f with | .nx _ => Res.ok D.non h | .rt d => Res.ok d h | _ => Res.bad) (fun d h => memOk r d ∧ Sd k (m + cstM r) mh h) nX) nX :=
          last.mono (fun f h z => by obtain ⟨d, rfl, z⟩ := z; exact z) (fun _ _ _ z => z)
        simp only [ev_var, ev_C, ev_bin, ev_and, ev_or, ev_not, ev_neg, ev_opNeg, ev_tru, ev_truB, ev_B, ev_tAnd, ev_tOr, ev_tNot, ev_if, ev_nil, ev_cons, ev_tup, ev_lst, ev_P0, ev_P1, ev_sl, ev_CB, ev_call, ev_skip, ev_seq, ev_break, ev_cont, ev_drop, ev_ret, ev_retN, ev_ifS, ev_set, ev_asgN, ev_setIx, ev_iter, ev_rng1, ev_for, ev_yes, ev_def, ev_meth0, ev_meth, ev_isI, ev_raise, ev_repl, ev_split1, px_bind, px_safe, px_ok, px_exc, px_bad, px_iteB, px_ite, List.getElem?_cons_zero, List.getElem?_cons_succ, List.set_cons_zero, List.set_cons_succ, List.map_cons, List.map_nil, List.cons_append, List.nil_append, List.length_cons, List.length_nil, Nat.reduceAdd, Nat.reduceSub, List.replicate_succ, List.replicate_zero, if_true, if_false, Bool.false_eq_true, Bool.not_true, Bool.not_false, e3]
        by_cases c3 : 3 < j
        · simp only [decide_eq_true c3, ev_var, ev_C, ev_bin, ev_and, ev_or, ev_not, ev_neg, ev_opNeg, ev_tru, ev_truB, ev_B, ev_tAnd, ev_tOr, ev_tNot, ev_if, ev_nil, ev_cons, ev_tup, ev_lst, ev_P0, ev_P1, ev_sl, ev_CB, ev_call, ev_skip, ev_seq, ev_break, ev_cont, ev_drop, ev_ret, ev_retN, ev_ifS, ev_set, ev_asgN, ev_setIx, ev_iter, ev_rng1, ev_for, ev_yes, ev_def, ev_meth0, ev_meth, ev_isI, ev_raise, ev_repl, ev_split1, px_bind, px_safe, px_ok, px_exc, px_bad, px_iteB, px_ite, List.getElem?_cons_zero, List.getElem?_cons_succ, List.set_cons_zero, List.set_cons_succ, List.map_cons, List.map_nil, List.cons_append, List.nil_append, List.length_cons, List.length_nil, Nat.reduceAdd, Nat.reduceSub, List.replicate_succ, List.replicate_zero, if_true, if_false, Bool.false_eq_true, Bool.not_true, Bool.not_false, er]
          by_cases c4 : 0 < r
          · obtain ⟨r', rfl⟩ : ∃ r', r = r' + 1 := ⟨r - 1, by omega⟩
            obtain ⟨n', rfl⟩ : ∃ n', n = n' + 1 := ⟨n - 1, by omega⟩
            simp only [decide_eq_true c4, ev_var, ev_C, ev_bin, ev_and, ev_or, ev_not, ev_neg, ev_opNeg, ev_tru, ev_truB, ev_B, ev_tAnd, ev_tOr, ev_tNot, ev_if, ev_nil, ev_cons, ev_tup, ev_lst, ev_P0, ev_P1, ev_sl, ev_CB, ev_call, ev_skip, ev_seq, ev_break, ev_cont, ev_drop, ev_ret, ev_retN, ev_ifS, ev_set, ev_asgN, ev_setIx, ev_iter, ev_rng1, ev_for, ev_yes, ev_def, ev_meth0, ev_meth, ev_isI, ev_raise, ev_repl, ev_split1, px_bind, px_safe, px_ok, px_exc, px_bad, px_iteB, px_ite, List.getElem?_cons_zero, List.getElem?_cons_succ, List.set_cons_zero, List.set_cons_succ, List.map_cons, List.map_nil, List.cons_append, List.nil_append, List.length_cons, List.length_nil, Nat.reduceAdd, Nat.reduceSub, List.replicate_succ, List.replicate_zero, if_true, if_false, Bool.false_eq_true, Bool.not_true, Bool.not_false, er2]
            have main : ∀ (N : Nat), 0 < N → N ≤ 4 → PX (F_law_pick [.ref k, .int (N : Int)] h) (fun a h2 => PX (match [a] with | [.int j] => if Mi.inR j = true then Res.ok (j.toNat, srcR 0 j.toNat) h2 else Res.bad | _ => Res.bad) (fun p h3 => PX (mCLoop p.2 h3.length (nName 4) mYes (mCall (F_law_member (n' + 1)) (mCons (mVar 0) (mCons (mBin opSub (mVar 1) (mC (.int 1))) mNil))) (wipeE [some (.ref k), some (.int ((r' + 1 : Nat) : Int)), some (.int (j : Int)), none, none] [4]) p.1 0 (h3 ++ [.lst []])) (fun a h4 => PX (cTuple [a] h4) (fun d h => memOk (r' + 1) d ∧ Sd k (m + cstM (r' + 1)) mh h) nX) nX) nX) nX := by
              intro N hN hN4
              refine (pickN (N := N) sd.src (by omega) hN (small2 (by omega))).mono (fun d h2 z => ?_) (fun _ _ _ z => z)
              obtain ⟨q, rfl, hq, sd2⟩ := z
              have sd2' := sd.trans sd2
              have hcr' := cstM_ge r'
              have ecs : cstM (r' + 1) = 60 + 4 * cstM r' := rfl
              have eln : lenM (r' + 1) = 4 * (lenM r' + 1) + 2 := rfl
              have hc4 : cstM r' ≤ 30000 := by
                have h1 : ∀ r, r ≤ 4 → cstM r ≤ 30000 := by decide
                exact h1 r' (by omega)
              show PX (if Mi.inR (q : Int) = true then Res.ok ((q : Int).toNat, srcR 0 (q : Int).toNat) h2 else Res.bad) _ _
              rw [if_pos (inR_nat (n := q) (by omega)), px_ok, Int.toNat_natCast]
              have hle2 := sd2'.kt.1
              refine cloop_px (fun i acc h3 => Sd k (m + 1 + 1 + i * cstM r') mh h3 ∧ acc.length = i ∧ ∀ d ∈ acc, memOk r' d) q 0 [] _ ⟨?_, rfl, fun _ z => by cases z⟩ get_new ?_ ?_
              · rw [Nat.zero_mul]; exact sd2'.pre (pre_app _ _)
              · rintro i acc h3 _ hi ⟨sd3, hal, ham⟩ hk3
                refine ⟨_, _, srcR_at (mh := h3) (by omega), rfl, ?_⟩
                have es : opSub (.int ((r' + 1 : Nat) : Int)) (.int 1) h3 = .ok (.int (r' : Int)) h3 := sub_1 (Nat.zero_lt_succ r')
                have hi3 : i * cstM r' ≤ 2 * cstM r' := Nat.mul_le_mul_right _ (by omega)
                simp only [wipeE, nName, ev_var, ev_C, ev_bin, ev_and, ev_or, ev_not, ev_neg, ev_opNeg, ev_tru, ev_truB, ev_B, ev_tAnd, ev_tOr, ev_tNot, ev_if, ev_nil, ev_cons, ev_tup, ev_lst, ev_P0, ev_P1, ev_sl, ev_CB, ev_call, ev_skip, ev_seq, ev_break, ev_cont, ev_drop, ev_ret, ev_retN, ev_ifS, ev_set, ev_asgN, ev_setIx, ev_iter, ev_rng1, ev_for, ev_yes, ev_def, ev_meth0, ev_meth, ev_isI, ev_raise, ev_repl, ev_split1, px_bind, px_safe, px_ok, px_exc, px_bad, px_iteB, px_ite, List.getElem?_cons_zero, List.getElem?_cons_succ, List.set_cons_zero, List.set_cons_succ, List.map_cons, List.map_nil, List.cons_append, List.nil_append, List.length_cons, List.length_nil, Nat.reduceAdd, Nat.reduceSub, List.replicate_succ, List.replicate_zero, if_true, if_false, Bool.false_eq_true, Bool.not_true, Bool.not_false, es]
                refine (member_px (n' + 1) r' _ k h3 (by omega) (by omega) sd3.src (by omega)).mono (fun d h4 z => ?_) (fun _ _ _ z => z)
                obtain ⟨md, sd4⟩ := z
                have hk4 := sd4.kt.some hk3 (by omega)
                refine ⟨hk4, by omega, ?_, by rw [List.length_append]; simp [hal], ?_⟩
                · have := (sd3.trans sd4).setNew (i := h2.length) (by omega) hkl (.lst (acc ++ [d]))
                  rw [Nat.succ_mul]
                  exact this.mono (by omega)
                · intro x hx
                  rcases List.mem_append.mp hx with hx | hx
                  · exact ham x hx
                  · rw [List.mem_singleton.mp hx]; exact md
              · rintro acc h3 ⟨sd3, hal, ham⟩ hk3
                rw [Nat.zero_add] at *
                refine ⟨srcR_end (mh := h3), ?_⟩
                rw [tupOf (lsAt_lst hk3), px_ok]
                have hq4 : q ≤ 3 := by omega
                refine ⟨⟨okMs_of fun d hd => (ham d hd).1, ?_, ?_⟩, sd3.mono ?_⟩
                · have := deps_of (n := r') fun d hd => (ham d hd).2.1
                  show deps acc + 1 ≤ r' + 1
                  omega
                · have h1 := wrs_len (L := lenM r') fun d hd => (ham d hd).2.2
                  have h2 : acc.length * (lenM r' + 1) ≤ 3 * (lenM r' + 1) := Nat.mul_le_mul_right _ (by omega)
                  show (40 :: (wrs acc ++ [41]) : Cs).length ≤ _
                  simp only [List.length_cons, List.length_append, List.length_nil]
                  omega
                · have : q * cstM r' ≤ 3 * cstM r' := Nat.mul_le_mul_right _ hq4
                  omega
            simp only [ev_comp, ev_var, ev_C, ev_bin, ev_and, ev_or, ev_not, ev_neg, ev_opNeg, ev_tru, ev_truB, ev_B, ev_tAnd, ev_tOr, ev_tNot, ev_if, ev_nil, ev_cons, ev_tup, ev_lst, ev_P0, ev_P1, ev_sl, ev_CB, ev_call, ev_skip, ev_seq, ev_break, ev_cont, ev_drop, ev_ret, ev_retN, ev_ifS, ev_set, ev_asgN, ev_setIx, ev_iter, ev_rng1, ev_for, ev_yes, ev_def, ev_meth0, ev_meth, ev_isI, ev_raise, ev_repl, ev_split1, px_bind, px_safe, px_ok, px_exc, px_bad, px_iteB, px_ite, List.getElem?_cons_zero, List.getElem?_cons_succ, List.set_cons_zero, List.set_cons_succ, List.map_cons, List.map_nil, List.cons_append, List.nil_append, List.length_cons, List.length_nil, Nat.reduceAdd, Nat.reduceSub, List.replicate_succ, List.replicate_zero, if_true, if_false, Bool.false_eq_true, Bool.not_true, Bool.not_false, er2]
            by_cases c5 : 2 < r' + 1
            · simp only [decide_eq_true c5, ev_var, ev_C, ev_bin, ev_and, ev_or, ev_not, ev_neg, ev_opNeg, ev_tru, ev_truB, ev_B, ev_tAnd, ev_tOr, ev_tNot, ev_if, ev_nil, ev_cons, ev_tup, ev_lst, ev_P0, ev_P1, ev_sl, ev_CB, ev_call, ev_skip, ev_seq, ev_break, ev_cont, ev_drop, ev_ret, ev_retN, ev_ifS, ev_set, ev_asgN, ev_setIx, ev_iter, ev_rng1, ev_for, ev_yes, ev_def, ev_meth0, ev_meth, ev_isI, ev_raise, ev_repl, ev_split1, px_bind, px_safe, px_ok, px_exc, px_bad, px_iteB, px_ite, List.getElem?_cons_zero, List.getElem?_cons_succ, List.set_cons_zero, List.set_cons_succ, List.map_cons, List.map_nil, List.cons_append, List.nil_append, List.length_cons, List.length_nil, Nat.reduceAdd, Nat.reduceSub, List.replicate_succ, List.replicate_zero, if_true, if_false, Bool.false_eq_true, Bool.not_true, Bool.not_false]
              exact main 3 (by decide) (by decide)
            · simp only [decide_eq_false c5, ev_var, ev_C, ev_bin, ev_and, ev_or, ev_not, ev_neg, ev_opNeg, ev_tru, ev_truB, ev_B, ev_tAnd, ev_tOr, ev_tNot, ev_if, ev_nil, ev_cons, ev_tup, ev_lst, ev_P0, ev_P1, ev_sl, ev_CB, ev_call, ev_skip, ev_seq, ev_break, ev_cont, ev_drop, ev_ret, ev_retN, ev_ifS, ev_set, ev_asgN, ev_setIx, ev_iter, ev_rng1, ev_for, ev_yes, ev_def, ev_meth0, ev_meth, ev_isI, ev_raise, ev_repl, ev_split1, px_bind, px_safe, px_ok, px_exc, px_bad, px_iteB, px_ite, List.getElem?_cons_zero, List.getElem?_cons_succ, List.set_cons_zero, List.set_cons_succ, List.map_cons, List.map_nil, List.cons_append, List.nil_append, List.length_cons, List.length_nil, Nat.reduceAdd, Nat.reduceSub, List.replicate_succ, List.replicate_zero, if_true, if_false, Bool.false_eq_true, Bool.not_true, Bool.not_false]
              exact main 4 (by decide) (by decide)
          · simp only [decide_eq_false c4, ev_var, ev_C, ev_bin, ev_and, ev_or, ev_not, ev_neg, ev_opNeg, ev_tru, ev_truB, ev_B, ev_tAnd, ev_tOr, ev_tNot, ev_if, ev_nil, ev_cons, ev_tup, ev_lst, ev_P0, ev_P1, ev_sl, ev_CB, ev_call, ev_skip, ev_seq, ev_break, ev_cont, ev_drop, ev_ret, ev_retN, ev_ifS, ev_set, ev_asgN, ev_setIx, ev_iter, ev_rng1, ev_for, ev_yes, ev_def, ev_meth0, ev_meth, ev_isI, ev_raise, ev_repl, ev_split1, px_bind, px_safe, px_ok, px_exc, px_bad, px_iteB, px_ite, List.getElem?_cons_zero, List.getElem?_cons_succ, List.set_cons_zero, List.set_cons_succ, List.map_cons, List.map_nil, List.cons_append, List.nil_append, List.length_cons, List.length_nil, Nat.reduceAdd, Nat.reduceSub, List.replicate_succ, List.replicate_zero, if_true, if_false, Bool.false_eq_true, Bool.not_true, Bool.not_false]
            exact last'
        · simp only [decide_eq_false c3, ev_var, ev_C, ev_bin, ev_and, ev_or, ev_not, ev_neg, ev_opNeg, ev_tru, ev_truB, ev_B, ev_tAnd, ev_tOr, ev_tNot, ev_if, ev_nil, ev_cons, ev_tup, ev_lst, ev_P0, ev_P1, ev_sl, ev_CB, ev_call, ev_skip, ev_seq, ev_break, ev_cont, ev_drop, ev_ret, ev_retN, ev_ifS, ev_set, ev_asgN, ev_setIx, ev_iter, ev_rng1, ev_for, ev_yes, ev_def, ev_meth0, ev_meth, ev_isI, ev_raise, ev_repl, ev_split1, px_bind, px_safe, px_ok, px_exc, px_bad, px_iteB, px_ite, List.getElem?_cons_zero, List.getElem?_cons_succ, List.set_cons_zero, List.set_cons_succ, List.map_cons, List.map_nil, List.cons_append, List.nil_append, List.length_cons, List.length_nil, Nat.reduceAdd, Nat.reduceSub, List.replicate_succ, List.replicate_zero, if_true, if_false, Bool.false_eq_true, Bool.not_true, Bool.not_false]
          exact last'
/-! ### _law_nest -/
def nestD : Nat → D → D
  | 0, d => d
  | n + 1, d => .tup [nestD n d]
theorem nest_px {n : Nat} {d : D} {mh : MH} (hn : n ≤ 1000) : PX (F_law_nest [d, .int (n : Int)] mh) (fun r h => r = nestD n d ∧ h = mh) nX := by
  have hSL : SL = 16777216 := rfl
  have b1 : (1 : Nat) ≤ SL := by omega
  unfold F_law_nest B_law_nest
  simp only [ev_var, ev_C, ev_bin, ev_and, ev_or, ev_not, ev_neg, ev_opNeg, ev_tru, ev_truB, ev_B, ev_tAnd, ev_tOr, ev_tNot, ev_if, ev_nil, ev_cons, ev_tup, ev_lst, ev_P0, ev_P1, ev_sl, ev_CB, ev_call, ev_skip, ev_seq, ev_break, ev_cont, ev_drop, ev_ret, ev_retN, ev_ifS, ev_set, ev_asgN, ev_setIx, ev_iter, ev_rng1, ev_for, ev_yes, ev_def, ev_meth0, ev_meth, ev_isI, ev_raise, ev_repl, ev_split1, px_bind, px_safe, px_ok, px_exc, px_bad, px_iteB, px_ite, List.getElem?_cons_zero, List.getElem?_cons_succ, List.set_cons_zero, List.set_cons_succ, List.map_cons, List.map_nil, List.cons_append, List.nil_append, List.length_cons, List.length_nil, Nat.reduceAdd, Nat.reduceSub, List.replicate_succ, List.replicate_zero, if_true, if_false, Bool.false_eq_true, Bool.not_true, Bool.not_false, inR_nat (n := n) (by omega), Int.toNat_natCast]
  refine loop_px (fun i env h => h = mh ∧ ∃ y, env = [some (nestD i d), some (.int (n : Int)), y]) _ _ _ _ ⟨rfl, none, rfl⟩ ?_ ?_
  · rintro i env h _ hi ⟨rfl, y, rfl⟩
    refine ⟨_, _, srcR_at (by omega), rfl, ?_⟩
    unfold L1_law_nest
    simp only [ev_var, ev_C, ev_bin, ev_and, ev_or, ev_not, ev_neg, ev_opNeg, ev_tru, ev_truB, ev_B, ev_tAnd, ev_tOr, ev_tNot, ev_if, ev_nil, ev_cons, ev_tup, ev_lst, ev_P0, ev_P1, ev_sl, ev_CB, ev_call, ev_skip, ev_seq, ev_break, ev_cont, ev_drop, ev_ret, ev_retN, ev_ifS, ev_set, ev_asgN, ev_setIx, ev_iter, ev_rng1, ev_for, ev_yes, ev_def, ev_meth0, ev_meth, ev_isI, ev_raise, ev_repl, ev_split1, px_bind, px_safe, px_ok, px_exc, px_bad, px_iteB, px_ite, List.getElem?_cons_zero, List.getElem?_cons_succ, List.set_cons_zero, List.set_cons_succ, List.map_cons, List.map_nil, List.cons_append, List.nil_append, List.length_cons, List.length_nil, Nat.reduceAdd, Nat.reduceSub, List.replicate_succ, List.replicate_zero, if_true, if_false, Bool.false_eq_true, Bool.not_true, Bool.not_false, b1]
    exact ⟨trivial, _, rfl⟩
  · rintro env h ⟨rfl, y, rfl⟩
    rw [Nat.zero_add] at *
    refine ⟨srcR_end, ?_⟩
    unfold T1_law_nest
    simp only [ev_var, ev_C, ev_bin, ev_and, ev_or, ev_not, ev_neg, ev_opNeg, ev_tru, ev_truB, ev_B, ev_tAnd, ev_tOr, ev_tNot, ev_if, ev_nil, ev_cons, ev_tup, ev_lst, ev_P0, ev_P1, ev_sl, ev_CB, ev_call, ev_skip, ev_seq, ev_break, ev_cont, ev_drop, ev_ret, ev_retN, ev_ifS, ev_set, ev_asgN, ev_setIx, ev_iter, ev_rng1, ev_for, ev_yes, ev_def, ev_meth0, ev_meth, ev_isI, ev_raise, ev_repl, ev_split1, px_bind, px_safe, px_ok, px_exc, px_bad, px_iteB, px_ite, List.getElem?_cons_zero, List.getElem?_cons_succ, List.set_cons_zero, List.set_cons_succ, List.map_cons, List.map_nil, List.cons_append, List.nil_append, List.length_cons, List.length_nil, Nat.reduceAdd, Nat.reduceSub, List.replicate_succ, List.replicate_zero, if_true, if_false, Bool.false_eq_true, Bool.not_true, Bool.not_false]
    exact ⟨trivial, trivial⟩
theorem nest_ok {d : D} (h : okM d = true) : ∀ n, okM (nestD n d) = true
  | 0 => h
  | n + 1 => by show (okM (nestD n d) && true) = true; rw [nest_ok h n]; rfl
theorem nest_dep {d : D} : ∀ n, dep (nestD n d) = dep d + n
  | 0 => rfl
  | n + 1 => by
    show max (dep (nestD n d)) 0 + 1 = dep d + (n + 1)
    rw [nest_dep n]; omega
theorem nest_len {d : D} : ∀ n, (wr (nestD n d)).length = (wr d).length + 2 * n
  | 0 => rfl
  | n + 1 => by
    show (40 :: ((wr (nestD n d) ++ []) ++ [41]) : Cs).length = _
    simp only [List.length_cons, List.length_append, List.length_nil]
    rw [nest_len n]; omega
/-! ### _law_spoilt -/
def sgs : Cs := [40, 41, 32, 45, 48, 10, 97, 65, 95, 44, 9, 55]
theorem okC_take {l : Cs} {n : Nat} (h : okC l) : okC (l.take n) := fun c hc => h c (List.mem_of_mem_take hc)
theorem okC_drop {l : Cs} {n : Nat} (h : okC l) : okC (l.drop n) := fun c hc => h c (List.mem_of_mem_drop hc)
theorem spoilt_px {m k : Nat} {t : Cs} {mh : MH} (s : Src3 m mh k) (hm : m ≤ 900000000) (hc : okC t) (hl : t.length ≤ 1000000) :
    PX (F_law_spoilt [.ref k, .str (S t)] mh) (fun d h => ∃ u : Cs, d = .str (S u) ∧ okC u ∧ u.length ≤ t.length + 1 ∧ Sd k (m + 4) mh h) nX := by
  have hSL : SL = 16777216 := rfl
  have hsl : t.length ≤ SL := by omega
  have ea : ∀ h : MH, opAdd (.int (t.length : Nat)) (.int 1) h = .ok (.int ((t.length + 1 : Nat) : Int)) h := fun h => add_nat (n := 1)
  have ka : (Str.ofString "a") = S [97] := by decide +kernel
  have kA : (Str.ofString "A") = S [65] := by decide +kernel
  have ku : (Str.ofString "_") = S [95] := by decide +kernel
  have kc : (Str.ofString ",") = S [44] := by decide +kernel
  have kt : (Str.ofString "\t") = S [9] := by decide +kernel
  have k7 : (Str.ofString "7") = S [55] := by decide +kernel
  unfold F_law_spoilt B_law_spoilt
  simp only [ev_var, ev_C, ev_bin, ev_and, ev_or, ev_not, ev_neg, ev_opNeg, ev_tru, ev_truB, ev_B, ev_tAnd, ev_tOr, ev_tNot, ev_if, ev_nil, ev_cons, ev_tup, ev_lst, ev_P0, ev_P1, ev_sl, ev_CB, ev_call, ev_skip, ev_seq, ev_break, ev_cont, ev_drop, ev_ret, ev_retN, ev_ifS, ev_set, ev_asgN, ev_setIx, ev_iter, ev_rng1, ev_for, ev_yes, ev_def, ev_meth0, ev_meth, ev_isI, ev_raise, ev_repl, ev_split1, px_bind, px_safe, px_ok, px_exc, px_bad, px_iteB, px_ite, List.getElem?_cons_zero, List.getElem?_cons_succ, List.set_cons_zero, List.set_cons_succ, List.map_cons, List.map_nil, List.cons_append, List.nil_append, List.length_cons, List.length_nil, Nat.reduceAdd, Nat.reduceSub, List.replicate_succ, List.replicate_zero, if_true, if_false, Bool.false_eq_true, Bool.not_true, Bool.not_false, s_len hsl, ea]
  refine (pickN (N := t.length + 1) s (by omega) (by omega) (Nat.lt_of_lt_of_le (show t.length + 1 < 2 ^ 30 by omega) (Nat.pow_le_pow_right (by decide) (by decide)))).mono (fun d h z => ?_) (fun _ _ _ z => z)
  obtain ⟨at_, rfl, hat, sd⟩ := z
  unfold T3_law_spoilt
  have b12 : (12 : Nat) ≤ SL := by omega
  simp only [ev_var, ev_C, ev_bin, ev_and, ev_or, ev_not, ev_neg, ev_opNeg, ev_tru, ev_truB, ev_B, ev_tAnd, ev_tOr, ev_tNot, ev_if, ev_nil, ev_cons, ev_tup, ev_lst, ev_P0, ev_P1, ev_sl, ev_CB, ev_call, ev_skip, ev_seq, ev_break, ev_cont, ev_drop, ev_ret, ev_retN, ev_ifS, ev_set, ev_asgN, ev_setIx, ev_iter, ev_rng1, ev_for, ev_yes, ev_def, ev_meth0, ev_meth, ev_isI, ev_raise, ev_repl, ev_split1, px_bind, px_safe, px_ok, px_exc, px_bad, px_iteB, px_ite, List.getElem?_cons_zero, List.getElem?_cons_succ, List.set_cons_zero, List.set_cons_succ, List.map_cons, List.map_nil, List.cons_append, List.nil_append, List.length_cons, List.length_nil, Nat.reduceAdd, Nat.reduceSub, List.replicate_succ, List.replicate_zero, if_true, if_false, Bool.false_eq_true, Bool.not_true, Bool.not_false, b12]
  have sd1 := sd.pre (pre_app h (MO.lst [D.str "(", D.str ")", D.str " ", D.str "-", D.str "0", D.str "\n", D.str "a", D.str "A", D.str "_", D.str ",", D.str "\t", D.str "7"]))
  refine (pickN (N := 12) sd1.src (by omega) (by decide) (small2 (by decide))).mono (fun d h2 z => ?_) (fun _ _ _ z => z)
  obtain ⟨j, rfl, hj, sd2⟩ := z
  have hL := sd2.kt.some (j := h.length) get_new (by have := sd.src.lt; omega)
  have hs : ([D.str "(", D.str ")", D.str " ", D.str "-", D.str "0", D.str "\n", D.str "a", D.str "A", D.str "_", D.str ",", D.str "\t", D.str "7"] : List D) = sgs.map fun c => D.str (S [c]) := by
    rw [k_op, k_cl, k_sp, k_dash, k_0, k_nl, ka, kA, ku, kc, kt, k7]; rfl
  rw [hs] at hL
  have hjl : j < sgs.length := hj
  have ex : opIx (.ref h.length) (.int (j : Int)) h2 = .ok (.str (S [sgs[j]])) h2 := ix_ls (lsAt_lst hL) (by rw [List.getElem?_map, List.getElem?_eq_getElem hjl]; rfl)
  have okg : okC [sgs[j]] := fun x hx => by
    rw [List.mem_singleton.mp hx]
    have : ∀ c ∈ sgs, c < 1114112 := by decide
    exact this _ (List.getElem_mem hjl)
  simp only [ev_var, ev_C, ev_bin, ev_and, ev_or, ev_not, ev_neg, ev_opNeg, ev_tru, ev_truB, ev_B, ev_tAnd, ev_tOr, ev_tNot, ev_if, ev_nil, ev_cons, ev_tup, ev_lst, ev_P0, ev_P1, ev_sl, ev_CB, ev_call, ev_skip, ev_seq, ev_break, ev_cont, ev_drop, ev_ret, ev_retN, ev_ifS, ev_set, ev_asgN, ev_setIx, ev_iter, ev_rng1, ev_for, ev_yes, ev_def, ev_meth0, ev_meth, ev_isI, ev_raise, ev_repl, ev_split1, px_bind, px_safe, px_ok, px_exc, px_bad, px_iteB, px_ite, List.getElem?_cons_zero, List.getElem?_cons_succ, List.set_cons_zero, List.set_cons_succ, List.map_cons, List.map_nil, List.cons_append, List.nil_append, List.length_cons, List.length_nil, Nat.reduceAdd, Nat.reduceSub, List.replicate_succ, List.replicate_zero, if_true, if_false, Bool.false_eq_true, Bool.not_true, Bool.not_false, ex]
  unfold T2_law_spoilt C1_law_spoilt
  simp only [ev_var, ev_C, ev_bin, ev_and, ev_or, ev_not, ev_neg, ev_opNeg, ev_tru, ev_truB, ev_B, ev_tAnd, ev_tOr, ev_tNot, ev_if, ev_nil, ev_cons, ev_tup, ev_lst, ev_P0, ev_P1, ev_sl, ev_CB, ev_call, ev_skip, ev_seq, ev_break, ev_cont, ev_drop, ev_ret, ev_retN, ev_ifS, ev_set, ev_asgN, ev_setIx, ev_iter, ev_rng1, ev_for, ev_yes, ev_def, ev_meth0, ev_meth, ev_isI, ev_raise, ev_repl, ev_split1, px_bind, px_safe, px_ok, px_exc, px_bad, px_iteB, px_ite, List.getElem?_cons_zero, List.getElem?_cons_succ, List.set_cons_zero, List.set_cons_succ, List.map_cons, List.map_nil, List.cons_append, List.nil_append, List.length_cons, List.length_nil, Nat.reduceAdd, Nat.reduceSub, List.replicate_succ, List.replicate_zero, if_true, if_false, Bool.false_eq_true, Bool.not_true, Bool.not_false]
  refine (pickN (N := 3) sd2.src (by omega) (by decide) (small2 (by decide))).mono (fun d h3 z => ?_) (fun _ _ _ z => z)
  obtain ⟨q, rfl, hq, sd3⟩ := z
  have e0 : opEq (.int (q : Int)) (.int 0) h3 = .ok (.bl (decide (q = 0))) h3 := eq_nat (n := 0)
  have e1 : opAdd (.int (at_ : Int)) (.int 1) h3 = .ok (.int ((at_ + 1 : Nat) : Int)) h3 := add_nat (n := 1)
  have sdd := (sd1.trans sd2).trans sd3
  simp only [ev_var, ev_C, ev_bin, ev_and, ev_or, ev_not, ev_neg, ev_opNeg, ev_tru, ev_truB, ev_B, ev_tAnd, ev_tOr, ev_tNot, ev_if, ev_nil, ev_cons, ev_tup, ev_lst, ev_P0, ev_P1, ev_sl, ev_CB, ev_call, ev_skip, ev_seq, ev_break, ev_cont, ev_drop, ev_ret, ev_retN, ev_ifS, ev_set, ev_asgN, ev_setIx, ev_iter, ev_rng1, ev_for, ev_yes, ev_def, ev_meth0, ev_meth, ev_isI, ev_raise, ev_repl, ev_split1, px_bind, px_safe, px_ok, px_exc, px_bad, px_iteB, px_ite, List.getElem?_cons_zero, List.getElem?_cons_succ, List.set_cons_zero, List.set_cons_succ, List.map_cons, List.map_nil, List.cons_append, List.nil_append, List.length_cons, List.length_nil, Nat.reduceAdd, Nat.reduceSub, List.replicate_succ, List.replicate_zero, if_true, if_false, Bool.false_eq_true, Bool.not_true, Bool.not_false, e0]
  by_cases c0 : q = 0
  · have t1 : (t.take at_).length + (t.drop (at_ + 1)).length ≤ SL := by rw [List.length_take, List.length_drop]; omega
    simp only [decide_eq_true c0, ev_var, ev_C, ev_bin, ev_and, ev_or, ev_not, ev_neg, ev_opNeg, ev_tru, ev_truB, ev_B, ev_tAnd, ev_tOr, ev_tNot, ev_if, ev_nil, ev_cons, ev_tup, ev_lst, ev_P0, ev_P1, ev_sl, ev_CB, ev_call, ev_skip, ev_seq, ev_break, ev_cont, ev_drop, ev_ret, ev_retN, ev_ifS, ev_set, ev_asgN, ev_setIx, ev_iter, ev_rng1, ev_for, ev_yes, ev_def, ev_meth0, ev_meth, ev_isI, ev_raise, ev_repl, ev_split1, px_bind, px_safe, px_ok, px_exc, px_bad, px_iteB, px_ite, List.getElem?_cons_zero, List.getElem?_cons_succ, List.set_cons_zero, List.set_cons_succ, List.map_cons, List.map_nil, List.cons_append, List.nil_append, List.length_cons, List.length_nil, Nat.reduceAdd, Nat.reduceSub, List.replicate_succ, List.replicate_zero, if_true, if_false, Bool.false_eq_true, Bool.not_true, Bool.not_false, s_takeN hsl, e1, s_dropN hsl, s_add, t1]
    refine ⟨_, rfl, okC_app (okC_take hc) (okC_drop hc), ?_, sdd.mono (by omega)⟩
    rw [List.length_append, List.length_take, List.length_drop]; omega
  · simp only [decide_eq_false c0, ev_var, ev_C, ev_bin, ev_and, ev_or, ev_not, ev_neg, ev_opNeg, ev_tru, ev_truB, ev_B, ev_tAnd, ev_tOr, ev_tNot, ev_if, ev_nil, ev_cons, ev_tup, ev_lst, ev_P0, ev_P1, ev_sl, ev_CB, ev_call, ev_skip, ev_seq, ev_break, ev_cont, ev_drop, ev_ret, ev_retN, ev_ifS, ev_set, ev_asgN, ev_setIx, ev_iter, ev_rng1, ev_for, ev_yes, ev_def, ev_meth0, ev_meth, ev_isI, ev_raise, ev_repl, ev_split1, px_bind, px_safe, px_ok, px_exc, px_bad, px_iteB, px_ite, List.getElem?_cons_zero, List.getElem?_cons_succ, List.set_cons_zero, List.set_cons_succ, List.map_cons, List.map_nil, List.cons_append, List.nil_append, List.length_cons, List.length_nil, Nat.reduceAdd, Nat.reduceSub, List.replicate_succ, List.replicate_zero, if_true, if_false, Bool.false_eq_true, Bool.not_true, Bool.not_false]
    unfold T1_law_spoilt
    have t1 : (t.take at_).length + 1 ≤ SL := by rw [List.length_take]; omega
    simp only [ev_var, ev_C, ev_bin, ev_and, ev_or, ev_not, ev_neg, ev_opNeg, ev_tru, ev_truB, ev_B, ev_tAnd, ev_tOr, ev_tNot, ev_if, ev_nil, ev_cons, ev_tup, ev_lst, ev_P0, ev_P1, ev_sl, ev_CB, ev_call, ev_skip, ev_seq, ev_break, ev_cont, ev_drop, ev_ret, ev_retN, ev_ifS, ev_set, ev_asgN, ev_setIx, ev_iter, ev_rng1, ev_for, ev_yes, ev_def, ev_meth0, ev_meth, ev_isI, ev_raise, ev_repl, ev_split1, px_bind, px_safe, px_ok, px_exc, px_bad, px_iteB, px_ite, List.getElem?_cons_zero, List.getElem?_cons_succ, List.set_cons_zero, List.set_cons_succ, List.map_cons, List.map_nil, List.cons_append, List.nil_append, List.length_cons, List.length_nil, Nat.reduceAdd, Nat.reduceSub, List.replicate_succ, List.replicate_zero, if_true, if_false, Bool.false_eq_true, Bool.not_true, Bool.not_false, s_takeN hsl, s_add, t1]
    refine (pickN (N := 2) sd3.src (by omega) (by decide) (small2 (by decide))).mono (fun d h4 z => ?_) (fun _ _ _ z => z)
    obtain ⟨p, rfl, hp, sd4⟩ := z
    have e2 : opAdd (.int (at_ : Int)) (.int (p : Int)) h4 = .ok (.int ((at_ + p : Nat) : Int)) h4 := add_nat
    have t2 : (t.take at_ ++ [sgs[j]]).length + (t.drop (at_ + p)).length ≤ SL := by rw [List.length_append, List.length_take, List.length_drop]; simp only [List.length_cons, List.length_nil]; omega
    simp only [ev_var, ev_C, ev_bin, ev_and, ev_or, ev_not, ev_neg, ev_opNeg, ev_tru, ev_truB, ev_B, ev_tAnd, ev_tOr, ev_tNot, ev_if, ev_nil, ev_cons, ev_tup, ev_lst, ev_P0, ev_P1, ev_sl, ev_CB, ev_call, ev_skip, ev_seq, ev_break, ev_cont, ev_drop, ev_ret, ev_retN, ev_ifS, ev_set, ev_asgN, ev_setIx, ev_iter, ev_rng1, ev_for, ev_yes, ev_def, ev_meth0, ev_meth, ev_isI, ev_raise, ev_repl, ev_split1, px_bind, px_safe, px_ok, px_exc, px_bad, px_iteB, px_ite, List.getElem?_cons_zero, List.getElem?_cons_succ, List.set_cons_zero, List.set_cons_succ, List.map_cons, List.map_nil, List.cons_append, List.nil_append, List.length_cons, List.length_nil, Nat.reduceAdd, Nat.reduceSub, List.replicate_succ, List.replicate_zero, if_true, if_false, Bool.false_eq_true, Bool.not_true, Bool.not_false, e2, s_dropN hsl, s_add, t2]
    refine ⟨_, rfl, okC_app (okC_app (okC_take hc) okg) (okC_drop hc), ?_, (sdd.trans sd4).mono (by omega)⟩
    rw [List.length_append, List.length_append, List.length_take, List.length_drop]; simp only [List.length_cons, List.length_nil]; omega
end K66

set_option Elab.async false
set_option linter.all false
set_option maxRecDepth 100000
set_option maxHeartbeats 4000000
/-! K66V: _law_source; rows of members; what is told is plain. -/
namespace K66
open PySem PySem.NumText PyProof.Rows L2 Mi
theorem prod_ok {p q : Nat} {i j : Int} {mh : MH} (hp : 0 < p) (hq : 0 < q) (hpq : p + q < 400000) (i0 : 0 < i) (i1 : i < 2 ^ p) (j0 : 0 < j) (j1 : j < 2 ^ q) : opMul (.int i) (.int j) mh = .ok (.int (i * j)) mh ∧ 0 < i * j ∧ i * j < 2 ^ (p + q) := by
  refine ⟨mul_ok (Nat.lt_trans (small_log hp (by omega) i1) (by omega)) (Nat.lt_trans (small_log hq (by omega) j1) (by omega)), Int.mul_pos i0 j0, ?_⟩
  rw [Int.pow_add]
  exact Int.mul_lt_mul i1 (by omega) j0 (by omega)
theorem source_px {ns : List Int} (hn : ns.length ≤ 63) : PX (F_law_source [.ref 0, .int 0] [.fro (ns.map D.int)]) (fun d h => ∃ k, d = .ref k ∧ k < h.length ∧ Src3 0 h k) nX := by
  have hSL : SL = 16777216 := rfl
  unfold F_law_source B_law_source
  have e64 : ∀ h : MH, opPow (.int 10) (.int 64) h = .ok (.int ((10 : Int) ^ 64)) h := fun h => pow_ok (n := 64) (by decide)
  simp only [ev_var, ev_C, ev_bin, ev_and, ev_or, ev_not, ev_neg, ev_opNeg, ev_tru, ev_truB, ev_B, ev_tAnd, ev_tOr, ev_tNot, ev_if, ev_nil, ev_cons, ev_tup, ev_lst, ev_P0, ev_P1, ev_sl, ev_CB, ev_call, ev_skip, ev_seq, ev_break, ev_cont, ev_drop, ev_ret, ev_retN, ev_ifS, ev_set, ev_asgN, ev_setIx, ev_iter, ev_rng1, ev_for, ev_yes, ev_def, ev_meth0, ev_meth, ev_isI, ev_raise, ev_repl, ev_split1, px_bind, px_safe, px_ok, px_exc, px_bad, px_iteB, px_ite, List.getElem?_cons_zero, List.getElem?_cons_succ, List.set_cons_zero, List.set_cons_succ, List.map_cons, List.map_nil, List.cons_append, List.nil_append, List.length_cons, List.length_nil, Nat.reduceAdd, Nat.reduceSub, List.replicate_succ, List.replicate_zero, if_true, if_false, Bool.false_eq_true, Bool.not_true, Bool.not_false, e64]
  have x0 : (0 : Int) < (10 : Int) ^ 64 := by decide
  have x1 : (10 : Int) ^ 64 < 2 ^ 213 := by decide
  generalize (10 : Int) ^ 64 = x at x0 x1
  obtain ⟨m2, a2, b2⟩ := prod_ok (mh := [.fro (ns.map D.int)]) (p := 213) (q := 213) (by decide) (by decide) (by decide) x0 x1 x0 x1
  obtain ⟨m3, a3, b3⟩ := prod_ok (mh := [.fro (ns.map D.int)]) (p := 213 + 213) (q := 213) (by decide) (by decide) (by decide) a2 b2 x0 x1
  obtain ⟨m4, a4, b4⟩ := prod_ok (mh := [.fro (ns.map D.int)]) (p := 213 + 213 + 213) (q := 213) (by decide) (by decide) (by decide) a3 b3 x0 x1
  obtain ⟨m5, a5, b5⟩ := prod_ok (mh := [.fro (ns.map D.int)]) (p := 213 + 213 + 213 + 213) (q := 213) (by decide) (by decide) (by decide) a4 b4 x0 x1
  obtain ⟨m6, a6, b6⟩ := prod_ok (mh := [.fro (ns.map D.int)]) (p := 213 + 213 + 213 + 213 + 213) (q := 213) (by decide) (by decide) (by decide) a5 b5 x0 x1
  simp only [ev_var, ev_C, ev_bin, ev_and, ev_or, ev_not, ev_neg, ev_opNeg, ev_tru, ev_truB, ev_B, ev_tAnd, ev_tOr, ev_tNot, ev_if, ev_nil, ev_cons, ev_tup, ev_lst, ev_P0, ev_P1, ev_sl, ev_CB, ev_call, ev_skip, ev_seq, ev_break, ev_cont, ev_drop, ev_ret, ev_retN, ev_ifS, ev_set, ev_asgN, ev_setIx, ev_iter, ev_rng1, ev_for, ev_yes, ev_def, ev_meth0, ev_meth, ev_isI, ev_raise, ev_repl, ev_split1, px_bind, px_safe, px_ok, px_exc, px_bad, px_iteB, px_ite, List.getElem?_cons_zero, List.getElem?_cons_succ, List.set_cons_zero, List.set_cons_succ, List.map_cons, List.map_nil, List.cons_append, List.nil_append, List.length_cons, List.length_nil, Nat.reduceAdd, Nat.reduceSub, List.replicate_succ, List.replicate_zero, if_true, if_false, Bool.false_eq_true, Bool.not_true, Bool.not_false, m2, m3, m4, m5, m6]
  generalize x * x * x * x * x * x = L at a6
  unfold T5_law_source
  have hl0 : lsAt [MO.fro (ns.map D.int)] 0 = some (ns.map D.int) := lsAt_fro rfl
  have ecut : Mi.cutD (ns.map D.int) none (some 63) = ns.map D.int := by
    unfold Mi.cutD
    show ((ns.map D.int).drop 0).take (HT.sIx (ns.map D.int).length (ns.map D.int).length (some ((63 : Nat) : Int)) - 0) = _
    rw [HT.sIx_nat, List.drop_zero]
    exact List.take_of_length_le (by rw [List.length_map]; omega)
  have es : opSl (.ref 0) none (some 63) [MO.fro (ns.map D.int)] = .ok (.ref 1) ([MO.fro (ns.map D.int)] ++ [.lst (ns.map D.int)]) := by
    unfold opSl
    dsimp only
    rw [hl0]
    dsimp only
    rw [ecut]; rfl
  have hl1 : lsAt ([MO.fro (ns.map D.int)] ++ [.lst (ns.map D.int)]) 1 = some (ns.map D.int) := rfl
  have hlen : (ns.map D.int).length = ns.length := List.length_map ..
  simp only [ev_var, ev_C, ev_bin, ev_and, ev_or, ev_not, ev_neg, ev_opNeg, ev_tru, ev_truB, ev_B, ev_tAnd, ev_tOr, ev_tNot, ev_if, ev_nil, ev_cons, ev_tup, ev_lst, ev_P0, ev_P1, ev_sl, ev_CB, ev_call, ev_skip, ev_seq, ev_break, ev_cont, ev_drop, ev_ret, ev_retN, ev_ifS, ev_set, ev_asgN, ev_setIx, ev_iter, ev_rng1, ev_for, ev_yes, ev_def, ev_meth0, ev_meth, ev_isI, ev_raise, ev_repl, ev_split1, px_bind, px_safe, px_ok, px_exc, px_bad, px_iteB, px_ite, List.getElem?_cons_zero, List.getElem?_cons_succ, List.set_cons_zero, List.set_cons_succ, List.map_cons, List.map_nil, List.cons_append, List.nil_append, List.length_cons, List.length_nil, Nat.reduceAdd, Nat.reduceSub, List.replicate_succ, List.replicate_zero, if_true, if_false, Bool.false_eq_true, Bool.not_true, Bool.not_false, ev_comp, es, hl1]
  refine cl_grow (ds := ns.map D.int) (f := fun d => match d with | .int i => .int (i % L) | _ => .non) (by rw [hlen]; omega) (fun i h p => srcL_pre hl1 p) ?_ ?_
  · intro d hd h p
    obtain ⟨n, hn', rfl⟩ := List.mem_map.mp hd
    refine ⟨_, rfl, ?_⟩
    have ei : cInt [.int n] h = .ok (.int n) h := rfl
    simp only [wipeE, nName, ev_var, ev_C, ev_bin, ev_and, ev_or, ev_not, ev_neg, ev_opNeg, ev_tru, ev_truB, ev_B, ev_tAnd, ev_tOr, ev_tNot, ev_if, ev_nil, ev_cons, ev_tup, ev_lst, ev_P0, ev_P1, ev_sl, ev_CB, ev_call, ev_skip, ev_seq, ev_break, ev_cont, ev_drop, ev_ret, ev_retN, ev_ifS, ev_set, ev_asgN, ev_setIx, ev_iter, ev_rng1, ev_for, ev_yes, ev_def, ev_meth0, ev_meth, ev_isI, ev_raise, ev_repl, ev_split1, px_bind, px_safe, px_ok, px_exc, px_bad, px_iteB, px_ite, List.getElem?_cons_zero, List.getElem?_cons_succ, List.set_cons_zero, List.set_cons_succ, List.map_cons, List.map_nil, List.cons_append, List.nil_append, List.length_cons, List.length_nil, Nat.reduceAdd, Nat.reduceSub, List.replicate_succ, List.replicate_zero, if_true, if_false, Bool.false_eq_true, Bool.not_true, Bool.not_false, ei, mod_ok a6]
    exact ⟨trivial, List.prefix_refl _⟩
  · intro h p hk
    have hkk : h[2]? = some (.lst ((ns.map (· % L)).map D.int)) := by
      refine (show h[2]? = _ from hk).trans ?_
      rw [List.map_map, List.map_map]; rfl
    generalize hcs : ns.map (· % L) = cs at hkk
    have hcl : cs.length ≤ 63 := by rw [← hcs, List.length_map]; exact hn
    have hls := lsAt_lst hkk
    have hcm : (cs.map D.int).length = cs.length := List.length_map ..
    unfold T4_law_source
    have k0 : opMul (.int 0) (.int 104729) h = .ok (.int (0 * 104729)) h := mul_ok (log_c (by omega) (by omega)) (log_c (by omega) (by omega))
    simp only [ev_var, ev_C, ev_bin, ev_and, ev_or, ev_not, ev_neg, ev_opNeg, ev_tru, ev_truB, ev_B, ev_tAnd, ev_tOr, ev_tNot, ev_if, ev_nil, ev_cons, ev_tup, ev_lst, ev_P0, ev_P1, ev_sl, ev_CB, ev_call, ev_skip, ev_seq, ev_break, ev_cont, ev_drop, ev_ret, ev_retN, ev_ifS, ev_set, ev_asgN, ev_setIx, ev_iter, ev_rng1, ev_for, ev_yes, ev_def, ev_meth0, ev_meth, ev_isI, ev_raise, ev_repl, ev_split1, px_bind, px_safe, px_ok, px_exc, px_bad, px_iteB, px_ite, List.getElem?_cons_zero, List.getElem?_cons_succ, List.set_cons_zero, List.set_cons_succ, List.map_cons, List.map_nil, List.cons_append, List.nil_append, List.length_cons, List.length_nil, Nat.reduceAdd, Nat.reduceSub, List.replicate_succ, List.replicate_zero, if_true, if_false, Bool.false_eq_true, Bool.not_true, Bool.not_false, k0, add_int]
    unfold T3_law_source
    simp only [ev_var, ev_C, ev_bin, ev_and, ev_or, ev_not, ev_neg, ev_opNeg, ev_tru, ev_truB, ev_B, ev_tAnd, ev_tOr, ev_tNot, ev_if, ev_nil, ev_cons, ev_tup, ev_lst, ev_P0, ev_P1, ev_sl, ev_CB, ev_call, ev_skip, ev_seq, ev_break, ev_cont, ev_drop, ev_ret, ev_retN, ev_ifS, ev_set, ev_asgN, ev_setIx, ev_iter, ev_rng1, ev_for, ev_yes, ev_def, ev_meth0, ev_meth, ev_isI, ev_raise, ev_repl, ev_split1, px_bind, px_safe, px_ok, px_exc, px_bad, px_iteB, px_ite, List.getElem?_cons_zero, List.getElem?_cons_succ, List.set_cons_zero, List.set_cons_succ, List.map_cons, List.map_nil, List.cons_append, List.nil_append, List.length_cons, List.length_nil, Nat.reduceAdd, Nat.reduceSub, List.replicate_succ, List.replicate_zero, if_true, if_false, Bool.false_eq_true, Bool.not_true, Bool.not_false, hls, hcm]
    refine loop_px (fun i env h' => h' = h ∧ ∃ (y : Int) (z : Option D), env = [some (.ref 0), some (.int 0), some (.int L), some (.ref 2), some (.int y), z, none] ∧ 0 ≤ y ∧ y < 2147483647) _ _ _ _ ⟨rfl, 7919 + 0 * 104729, none, rfl, by omega, by omega⟩ ?_ ?_
    · rintro i env h' _ hi ⟨rfl, y, z, rfl, y0, y1⟩
      have hi' : i < cs.length := by omega
      refine ⟨.int cs[i], _, by rw [srcL_at hls, List.getElem?_map, List.getElem?_eq_getElem hi']; rfl, rfl, ?_⟩
      unfold L1_law_source
      have k1 : (48271 : Int).natAbs.log2 < 400000 := log_c (by omega) (by omega)
      have ly := log_c y0 (by omega)
      have d1 : ∀ i : Int, opMod (.int i) (.int 1000000007) h' = .ok (.int (i % 1000000007)) h' := fun i => mod_ok (by omega)
      have d2 : ∀ i : Int, opMod (.int i) (.int 2147483647) h' = .ok (.int (i % 2147483647)) h' := fun i => mod_ok (by omega)
      simp only [ev_var, ev_C, ev_bin, ev_and, ev_or, ev_not, ev_neg, ev_opNeg, ev_tru, ev_truB, ev_B, ev_tAnd, ev_tOr, ev_tNot, ev_if, ev_nil, ev_cons, ev_tup, ev_lst, ev_P0, ev_P1, ev_sl, ev_CB, ev_call, ev_skip, ev_seq, ev_break, ev_cont, ev_drop, ev_ret, ev_retN, ev_ifS, ev_set, ev_asgN, ev_setIx, ev_iter, ev_rng1, ev_for, ev_yes, ev_def, ev_meth0, ev_meth, ev_isI, ev_raise, ev_repl, ev_split1, px_bind, px_safe, px_ok, px_exc, px_bad, px_iteB, px_ite, List.getElem?_cons_zero, List.getElem?_cons_succ, List.set_cons_zero, List.set_cons_succ, List.map_cons, List.map_nil, List.cons_append, List.nil_append, List.length_cons, List.length_nil, Nat.reduceAdd, Nat.reduceSub, List.replicate_succ, List.replicate_zero, if_true, if_false, Bool.false_eq_true, Bool.not_true, Bool.not_false, mul_ok ly k1, d1, add_int, d2]
      exact ⟨trivial, _, _, rfl, Int.emod_nonneg _ (by omega), Int.emod_lt_of_pos _ (by omega)⟩
    · rintro env h' ⟨rfl, y, z, rfl, y0, y1⟩
      rw [Nat.zero_add] at *
      refine ⟨by rw [srcL_at hls, List.getElem?_eq_none (by rw [hcm]; exact Nat.le_refl _)], ?_⟩
      have fin : ∀ g : Int, PX (T1_law_source [some (.ref 0), some (.int 0), some (.int L), some (.ref 2), some (.int y), z, some (.int g)] h') (fun f h => ∃ k, f = .rt (.ref k) ∧ k < h.length ∧ Src3 0 h k) nX := by
        intro g
        unfold T1_law_source
        have e18 : opPow (.int 10) (.int 18) h' = .ok (.int ((10 : Int) ^ 18)) h' := pow_ok (n := 18) (by decide)
        have eg : opGe (.int g) (.int ((10 : Int) ^ 18)) h' = .ok (.bl (decide ((10 : Int) ^ 18 ≤ g))) h' := rfl
        have m9 : opMod (.int 0) (.int 1009) h' = .ok (.int 0) h' := mod_ok (by omega)
        have b3 : (3 : Nat) ≤ SL := by omega
        simp only [ev_var, ev_C, ev_bin, ev_and, ev_or, ev_not, ev_neg, ev_opNeg, ev_tru, ev_truB, ev_B, ev_tAnd, ev_tOr, ev_tNot, ev_if, ev_nil, ev_cons, ev_tup, ev_lst, ev_P0, ev_P1, ev_sl, ev_CB, ev_call, ev_skip, ev_seq, ev_break, ev_cont, ev_drop, ev_ret, ev_retN, ev_ifS, ev_set, ev_asgN, ev_setIx, ev_iter, ev_rng1, ev_for, ev_yes, ev_def, ev_meth0, ev_meth, ev_isI, ev_raise, ev_repl, ev_split1, px_bind, px_safe, px_ok, px_exc, px_bad, px_iteB, px_ite, List.getElem?_cons_zero, List.getElem?_cons_succ, List.set_cons_zero, List.set_cons_succ, List.map_cons, List.map_nil, List.cons_append, List.nil_append, List.length_cons, List.length_nil, Nat.reduceAdd, Nat.reduceSub, List.replicate_succ, List.replicate_zero, if_true, if_false, Bool.false_eq_true, Bool.not_true, Bool.not_false, e18, eg]
        by_cases c0 : (10 : Int) ^ 18 ≤ g
        · simp only [decide_eq_true c0, ev_var, ev_C, ev_bin, ev_and, ev_or, ev_not, ev_neg, ev_opNeg, ev_tru, ev_truB, ev_B, ev_tAnd, ev_tOr, ev_tNot, ev_if, ev_nil, ev_cons, ev_tup, ev_lst, ev_P0, ev_P1, ev_sl, ev_CB, ev_call, ev_skip, ev_seq, ev_break, ev_cont, ev_drop, ev_ret, ev_retN, ev_ifS, ev_set, ev_asgN, ev_setIx, ev_iter, ev_rng1, ev_for, ev_yes, ev_def, ev_meth0, ev_meth, ev_isI, ev_raise, ev_repl, ev_split1, px_bind, px_safe, px_ok, px_exc, px_bad, px_iteB, px_ite, List.getElem?_cons_zero, List.getElem?_cons_succ, List.set_cons_zero, List.set_cons_succ, List.map_cons, List.map_nil, List.cons_append, List.nil_append, List.length_cons, List.length_nil, Nat.reduceAdd, Nat.reduceSub, List.replicate_succ, List.replicate_zero, if_true, if_false, Bool.false_eq_true, Bool.not_true, Bool.not_false, m9, b3]
          exact ⟨_, rfl, by simp, g, y, 0, get_new, y0, by omega, by omega, by omega⟩
        · simp only [decide_eq_false c0, ev_var, ev_C, ev_bin, ev_and, ev_or, ev_not, ev_neg, ev_opNeg, ev_tru, ev_truB, ev_B, ev_tAnd, ev_tOr, ev_tNot, ev_if, ev_nil, ev_cons, ev_tup, ev_lst, ev_P0, ev_P1, ev_sl, ev_CB, ev_call, ev_skip, ev_seq, ev_break, ev_cont, ev_drop, ev_ret, ev_retN, ev_ifS, ev_set, ev_asgN, ev_setIx, ev_iter, ev_rng1, ev_for, ev_yes, ev_def, ev_meth0, ev_meth, ev_isI, ev_raise, ev_repl, ev_split1, px_bind, px_safe, px_ok, px_exc, px_bad, px_iteB, px_ite, List.getElem?_cons_zero, List.getElem?_cons_succ, List.set_cons_zero, List.set_cons_succ, List.map_cons, List.map_nil, List.cons_append, List.nil_append, List.length_cons, List.length_nil, Nat.reduceAdd, Nat.reduceSub, List.replicate_succ, List.replicate_zero, if_true, if_false, Bool.false_eq_true, Bool.not_true, Bool.not_false, m9, b3]
          exact ⟨_, rfl, by simp, 0, y, 0, get_new, y0, by omega, by omega, by omega⟩
      unfold T2_law_source
      have eg0 : opGt (.int (cs.length : Nat)) (.int 0) h' = .ok (.bl (decide (0 < cs.length))) h' := gt_nat0
      simp only [ev_var, ev_C, ev_bin, ev_and, ev_or, ev_not, ev_neg, ev_opNeg, ev_tru, ev_truB, ev_B, ev_tAnd, ev_tOr, ev_tNot, ev_if, ev_nil, ev_cons, ev_tup, ev_lst, ev_P0, ev_P1, ev_sl, ev_CB, ev_call, ev_skip, ev_seq, ev_break, ev_cont, ev_drop, ev_ret, ev_retN, ev_ifS, ev_set, ev_asgN, ev_setIx, ev_iter, ev_rng1, ev_for, ev_yes, ev_def, ev_meth0, ev_meth, ev_isI, ev_raise, ev_repl, ev_split1, px_bind, px_safe, px_ok, px_exc, px_bad, px_iteB, px_ite, List.getElem?_cons_zero, List.getElem?_cons_succ, List.set_cons_zero, List.set_cons_succ, List.map_cons, List.map_nil, List.cons_append, List.nil_append, List.length_cons, List.length_nil, Nat.reduceAdd, Nat.reduceSub, List.replicate_succ, List.replicate_zero, if_true, if_false, Bool.false_eq_true, Bool.not_true, Bool.not_false, len_ls hls, hcm, eg0]
      by_cases c1 : 0 < cs.length
      · have em : opMod (.int 0) (.int (cs.length : Nat)) h' = .ok (.int ((0 : Nat) : Int)) h' := by
          rw [mod_ok (by omega)]
          simp
        have ex : opIx (.ref 2) (.int ((0 : Nat) : Int)) h' = .ok (.int cs[0]) h' := ix_ls hls (by rw [List.getElem?_map, List.getElem?_eq_getElem c1]; rfl)
        simp only [decide_eq_true c1, ev_var, ev_C, ev_bin, ev_and, ev_or, ev_not, ev_neg, ev_opNeg, ev_tru, ev_truB, ev_B, ev_tAnd, ev_tOr, ev_tNot, ev_if, ev_nil, ev_cons, ev_tup, ev_lst, ev_P0, ev_P1, ev_sl, ev_CB, ev_call, ev_skip, ev_seq, ev_break, ev_cont, ev_drop, ev_ret, ev_retN, ev_ifS, ev_set, ev_asgN, ev_setIx, ev_iter, ev_rng1, ev_for, ev_yes, ev_def, ev_meth0, ev_meth, ev_isI, ev_raise, ev_repl, ev_split1, px_bind, px_safe, px_ok, px_exc, px_bad, px_iteB, px_ite, List.getElem?_cons_zero, List.getElem?_cons_succ, List.set_cons_zero, List.set_cons_succ, List.map_cons, List.map_nil, List.cons_append, List.nil_append, List.length_cons, List.length_nil, Nat.reduceAdd, Nat.reduceSub, List.replicate_succ, List.replicate_zero, if_true, if_false, Bool.false_eq_true, Bool.not_true, Bool.not_false, em, ex]
        refine (fin cs[0]).mono (fun f h2 z => ?_) (fun _ _ _ z => z)
        obtain ⟨k, rfl, z⟩ := z
        exact ⟨k, rfl, z⟩
      · simp only [decide_eq_false c1, ev_var, ev_C, ev_bin, ev_and, ev_or, ev_not, ev_neg, ev_opNeg, ev_tru, ev_truB, ev_B, ev_tAnd, ev_tOr, ev_tNot, ev_if, ev_nil, ev_cons, ev_tup, ev_lst, ev_P0, ev_P1, ev_sl, ev_CB, ev_call, ev_skip, ev_seq, ev_break, ev_cont, ev_drop, ev_ret, ev_retN, ev_ifS, ev_set, ev_asgN, ev_setIx, ev_iter, ev_rng1, ev_for, ev_yes, ev_def, ev_meth0, ev_meth, ev_isI, ev_raise, ev_repl, ev_split1, px_bind, px_safe, px_ok, px_exc, px_bad, px_iteB, px_ite, List.getElem?_cons_zero, List.getElem?_cons_succ, List.set_cons_zero, List.set_cons_succ, List.map_cons, List.map_nil, List.cons_append, List.nil_append, List.length_cons, List.length_nil, Nat.reduceAdd, Nat.reduceSub, List.replicate_succ, List.replicate_zero, if_true, if_false, Bool.false_eq_true, Bool.not_true, Bool.not_false]
        refine (fin 0).mono (fun f h2 z => ?_) (fun _ _ _ z => z)
        obtain ⟨k, rfl, z⟩ := z
        exact ⟨k, rfl, z⟩
theorem mems_px {k m r q c : Nat} {mh h2 : MH} {t : D → Mi.Env → Option Mi.Env} {elt : ME} {env : Mi.Env} {P : D → MH → Prop} (hq : q ≤ 100) (hkl : k < mh.length) (sd : Sd k m mh h2) (hb : m + q * c ≤ 800000000)
    (hel : ∀ (i : Nat) (h3 : MH) (m' : Nat), Src3 m' h3 k → m' + c ≤ 800000000 → ∃ env1, t (.int (i : Int)) env = some env1 ∧ PX (elt env1 h3) (fun d h4 => memOk r d ∧ Sd k (m' + c) h3 h4) nX)
    (hP : ∀ (acc : List D) (h3 : MH), Sd k (m + q * c) mh h3 → acc.length = q → (∀ d ∈ acc, memOk r d) → lsAt h3 h2.length = some acc → P (.ref h2.length) h3) :
    PX (mCLoop (srcR 0 q) h2.length t mYes elt env q 0 (h2 ++ [.lst []])) P nX := by
  have hSL : SL = 16777216 := rfl
  have hle2 := sd.kt.1
  refine cloop_px (fun i acc h3 => Sd k (m + i * c) mh h3 ∧ acc.length = i ∧ ∀ d ∈ acc, memOk r d) q 0 [] _ ⟨?_, rfl, fun _ z => by cases z⟩ get_new ?_ ?_
  · rw [Nat.zero_mul]; exact sd.pre (pre_app _ _)
  · rintro i acc h3 _ hi ⟨sd3, hal, ham⟩ hk3
    have hi3 : i * c + c ≤ q * c := by
      rw [← Nat.succ_mul]; exact Nat.mul_le_mul_right _ (by omega)
    obtain ⟨env1, e1, e2⟩ := hel i h3 _ sd3.src (by omega)
    refine ⟨_, env1, srcR_at (mh := h3) (by omega), e1, ?_⟩
    rw [ev_yes, px_ok, if_pos rfl]
    refine e2.mono (fun d h4 z => ?_) (fun _ _ _ z => z)
    obtain ⟨md, sd4⟩ := z
    have hk4 := sd4.kt.some hk3 (by omega)
    refine ⟨hk4, by omega, ?_, by rw [List.length_append]; simp [hal], ?_⟩
    · have := (sd3.trans sd4).setNew (i := h2.length) (by omega) hkl (.lst (acc ++ [d]))
      rw [Nat.succ_mul]
      exact this.mono (by omega)
    · intro x hx
      rcases List.mem_append.mp hx with hx | hx
      · exact ham x hx
      · rw [List.mem_singleton.mp hx]; exact md
  · rintro acc h3 ⟨sd3, hal, ham⟩ hk3
    rw [Nat.zero_add] at *
    exact ⟨srcR_end (mh := h3), hP acc h3 sd3 hal ham (lsAt_lst hk3)⟩
theorem rowsP_ok : ∀ (ls : List Cs) (n : Nat) (rs : List D), rowsP n ls = .inr rs → okMs rs = true ∧ deps rs ≤ 12
  | [], n, rs, h => by cases h; exact ⟨rfl, Nat.zero_le _⟩
  | l :: ls, n, rs, h => by
    rw [rowsP_cons] at h
    cases hr : readLine l with
    | none => rw [hr] at h; cases h
    | some row =>
      rw [hr] at h
      dsimp only at h
      cases h2 : rowsP (n + 1) ls with
      | inl k => rw [h2] at h; cases h
      | inr rs' =>
        rw [h2] at h
        cases h
        obtain ⟨i1, i2⟩ := rowsP_ok ls (n + 1) rs' h2
        obtain ⟨o1, o2, _⟩ := readLine_ok hr
        refine ⟨by show (okMs row && okMs rs') = true; rw [o1, i1]; rfl, ?_⟩
        show max (deps row + 1) (deps rs') ≤ 12
        omega
theorem okS_let : okS (Str.ofString "let") := by
  have : ∀ c ∈ (Str.ofString "let").cps.toList, c < 1114112 := by decide +kernel
  exact this
theorem okS_raised : okS (Str.ofString "raised") := by
  have : ∀ c ∈ (Str.ofString "raised").cps.toList, c < 1114112 := by decide +kernel
  exact this
theorem told_pln {x : Sum Nat (List D)} (h : ∀ rs, x = .inr rs → okMs rs = true ∧ deps rs ≤ 12) : pln (toldD x) ∧ dep (toldD x) ≤ 14 := by
  cases x with
  | inl n => exact ⟨⟨okS_raised, trivial, trivial⟩, by show (max 0 (max 0 0)) + 1 ≤ 14; decide⟩
  | inr rs =>
    obtain ⟨h1, h2⟩ := h rs rfl
    refine ⟨⟨okS_let, okM_pln (.tup rs) h1, trivial⟩, ?_⟩
    show max 0 (max (deps rs + 1) 0) + 1 ≤ 14
    omega
theorem readP_pln (t : Cs) : pln (readP t) ∧ dep (readP t) ≤ 14 := by
  rw [readP_res]
  refine told_pln fun rs e => ?_
  unfold resP at e
  split at e
  · cases e; exact ⟨rfl, Nat.zero_le _⟩
  · exact rowsP_ok _ _ _ e
end K66

set_option Elab.async false
set_option linter.all false
set_option maxRecDepth 100000
set_option maxHeartbeats 4000000
/-! K66P: the law itself. -/
namespace K66
open PySem PySem.NumText PyProof.Rows L2 Mi
def tups (rows : List (List D)) : List D := rows.map D.tup
def wsum : List (List D) → Nat
  | [] => 0
  | r :: rs => (wrs r).length + 1 + wsum rs
theorem wsum_app (a b : List (List D)) : wsum (a ++ b) = wsum a + wsum b := by
  induction a with
  | nil => simp [wsum]
  | cons r a ih => show (wrs r).length + 1 + wsum (a ++ b) = (wrs r).length + 1 + wsum a + wsum b; rw [ih]; omega
theorem textP_len : ∀ rows : List (List D), (textP rows).length ≤ wsum rows
  | [] => Nat.le_refl _
  | [r] => by show (wrs r).length ≤ (wrs r).length + 1 + 0; omega
  | r :: q :: rs => by
    have ih := textP_len (q :: rs)
    show (wrs r ++ [10] ++ jn [10] ((q :: rs).map wrs)).length ≤ (wrs r).length + 1 + wsum (q :: rs)
    have e : (jn [10] ((q :: rs).map wrs)).length ≤ wsum (q :: rs) := ih
    simp only [List.length_append, List.length_cons, List.length_nil]
    omega
theorem okC_wrs {r : List D} (h : okMs r = true) : okC (wrs r) := by
  have key : ∀ d : D, okM d = true → okC (wr d) := by
    intro d
    induction d using D.rec (motive_2 := fun ds => okMs ds = true → okC (wrs ds) ∧ okC (wrt ds)) with
    | non => exact fun _ => okC_of rfl
    | bl b =>
      intro h
      cases h
    | int i =>
      intro _ c hc
      rcases numeral_signs i c hc with e | e
      · omega
      · simp only [isDg, Bool.and_eq_true, decide_eq_true_eq] at e
        omega
    | str x => exact fun h => isWd_okC h
    | tup ds ih =>
      intro h
      have := (ih h).1
      exact okC_app okC40 (okC_app this okC41)
    | ref k =>
      intro h
      cases h
    | nil => exact ⟨okC_nil, okC_nil⟩
    | cons d ds ih1 ih2 =>
      rename_i h
      have h' := Bool.and_eq_true_iff.mp (show (okM d && okMs ds) = true from h)
      exact ⟨okC_app (ih1 h'.1) (ih2 h'.2).2, okC_app okC32 (okC_app (ih1 h'.1) (ih2 h'.2).2)⟩
  have := key (.tup r) h
  intro c hc
  exact this c (List.mem_cons_of_mem _ (List.mem_append_left _ hc))
theorem okC_jn {z : Cs} (hz : okC z) : ∀ {ws : List Cs}, (∀ w ∈ ws, okC w) → okC (jn z ws)
  | [], _ => okC_nil
  | [w], h => h w (List.mem_singleton.mpr rfl)
  | w :: v :: r, h => okC_app (okC_app (h w (List.mem_cons_self ..)) hz) (okC_jn hz fun x hx => h x (List.mem_cons_of_mem _ hx))
theorem okC_text {rows : List (List D)} (h : ∀ r ∈ rows, rowOk r) : okC (textP rows) := okC_jn (okC_of rfl) fun w hw => by
  obtain ⟨r, hr, rfl⟩ := List.mem_map.mp hw
  exact okC_wrs (h r hr).2.1
theorem cst4 : cstM 4 = 20460 := by decide
theorem len4 : lenM 4 = 10750 := by decide
def qR : D → MH → Prop := fun d _ => d = .bl true
theorem wsum_mem {rows : List (List D)} {r : List D} (h : r ∈ rows) : (wrs r).length ≤ wsum rows := by
  induction rows with
  | nil => cases h
  | cons q rs ih =>
    show (wrs r).length ≤ (wrs q).length + 1 + wsum rs
    rcases List.mem_cons.mp h with e | e
    · rw [e]; omega
    · have := ih e; omega
theorem same_px {d : D} {h : MH} (hp : pln d) (hd : dep d < 40) : PX (F_law_same 40 [d, d] h) (fun r h2 => r = .bl true ∧ h <+: h2) nX := law_same_px 40 d h hp hd
theorem written_mid {row : List D} {h : MH} {P : D → MH → Prop} (hr : rowOk row) (hl : (wrs row).length ≤ 400000) (hP : ∀ h2, h <+: h2 → P (.str (S (wrs row))) h2) :
    PX ((F_law_written 20 [.tup row] h).bind fun d h1 => opSl d (some 1) (some (-1)) h1) P nX := by
  have hSL : SL = 16777216 := rfl
  obtain ⟨r1, r2, r3⟩ := hr
  have hwr : wr (.tup row) = 40 :: (wrs row ++ [41]) := rfl
  rw [px_bind]
  refine (law_written_px 20 (.tup row) h r2 (by show deps row + 1 < 20; omega) (by rw [hwr]; simp; omega)).mono (fun d h4 z => ?_) (fun _ _ _ z => z)
  obtain ⟨rfl, p4⟩ := z
  rw [hwr, s_mid (show (wrs row).length + 2 ≤ SL by omega), px_ok]
  exact hP h4 p4
def Rt (f : Fl) (_ : MH) : Prop := f = .rt (.bl true)
theorem law_paper {k m : Nat} {rows : List (List D)} {h : MH} {y3 : Option D} (hr : ∀ r ∈ rows, rowOk r) (hl : wsum rows ≤ 390000) (hrl : rows.length ≤ 100) (s : Src3 m h k)
    (tail : ∀ (h2 : MH), Src3 m h2 k → PX (T9_law [some (.ref 0), some (.ref k), some (.tup (tups rows)), y3, some (.str (S (textP rows))), some (readP (textP rows)), none, none, none, none, none, none] h2) Rt nX) :
    PX (T12_law [some (.ref 0), some (.ref k), some (.tup (tups rows)), y3, none, none, none, none, none, none, none, none] h) Rt nX := by
  have hSL : SL = 16777216 := rfl
  have b2 : (2 : Nat) ≤ SL := by omega
  have htl := textP_len rows
  have hok := okC_text hr
  have hrd := readP_back hr
  obtain ⟨pl1, pl2⟩ := readP_pln (textP rows)
  have etl : (tups rows).length = rows.length := List.length_map ..
  unfold T12_law
  rw [ev_seq, px_bind, ev_set, px_bind, ev_meth, px_bind, ev_C, px_ok, ty_str, if_pos rfl, px_bind, ev_cons, px_bind]
  refine comp_grow (src := srcT (tups rows)) (ds := tups rows) (f := fun d => match d with | .tup r => .str (S (wrs r)) | _ => .non) rfl (by rw [etl]; omega) (fun _ _ _ => rfl) (fun x hx h1 p => ⟨_, rfl, ?_⟩) (fun h1 p hk => ?_)
  · obtain ⟨r, hr', rfl⟩ := List.mem_map.mp hx
    have h1l := wsum_mem hr'
    have en : ∀ h : MH, (mNeg (mC (.int 1)) : ME) (wipeE [some (.ref 0), some (.ref k), some (.tup (tups rows)), y3, none, none, none, none, none, none, none, none] [10]) h = .ok (.int (-1)) h := fun _ => rfl
    rw [ev_sl, ev_call, ev_cons]
    show PX (((F_law_written 20) [.tup r] h1).bind fun d mh1 => opSl d (some 1) (some (-1)) mh1) _ _
    exact written_mid (hr r hr') (by omega) (fun h2 p2 => ⟨rfl, p2⟩)
  · have hls : lsAt h1 h.length = some (toStrs (rows.map wrs)) := by
      rw [lsAt_lst hk]
      unfold toStrs tups
      rw [List.map_map, List.map_map]; rfl
    have hsum := sum_jn10 (rows.map wrs)
    have etx : jn [10] (rows.map wrs) = textP rows := rfl
    rw [etx] at hsum
    rw [ev_nil]
    simp only [px_bind, px_ok, k_nl]
    rw [join_ok hls (by simp only [List.length_map, List.length_cons, List.length_nil] at hsum ⊢; omega), px_ok, etx]
    have s1 := s.pre p
    unfold T11_law
    simp only [ev_var, ev_C, ev_bin, ev_and, ev_or, ev_not, ev_neg, ev_opNeg, ev_tru, ev_truB, ev_B, ev_tAnd, ev_tOr, ev_tNot, ev_if, ev_nil, ev_cons, ev_tup, ev_lst, ev_P0, ev_P1, ev_sl, ev_CB, ev_call, ev_skip, ev_seq, ev_break, ev_cont, ev_drop, ev_ret, ev_retN, ev_ifS, ev_set, ev_asgN, ev_setIx, ev_iter, ev_rng1, ev_for, ev_yes, ev_def, ev_meth0, ev_meth, ev_isI, ev_raise, ev_repl, ev_split1, px_bind, px_safe, px_ok, px_exc, px_bad, px_iteB, px_ite, List.getElem?_cons_zero, List.getElem?_cons_succ, List.set_cons_zero, List.set_cons_succ, List.map_cons, List.map_nil, List.cons_append, List.nil_append, List.length_cons, List.length_nil, Nat.reduceAdd, Nat.reduceSub, List.replicate_succ, List.replicate_zero, if_true, if_false, Bool.false_eq_true, Bool.not_true, Bool.not_false, b2]
    rw [show D.tup [.str (Str.ofString "let"), .tup (tups rows)] = readP (textP rows) from hrd.symm]
    unfold T10_law C3_law
    simp only [ev_var, ev_C, ev_bin, ev_and, ev_or, ev_not, ev_neg, ev_opNeg, ev_tru, ev_truB, ev_B, ev_tAnd, ev_tOr, ev_tNot, ev_if, ev_nil, ev_cons, ev_tup, ev_lst, ev_P0, ev_P1, ev_sl, ev_CB, ev_call, ev_skip, ev_seq, ev_break, ev_cont, ev_drop, ev_ret, ev_retN, ev_ifS, ev_set, ev_asgN, ev_setIx, ev_iter, ev_rng1, ev_for, ev_yes, ev_def, ev_meth0, ev_meth, ev_isI, ev_raise, ev_repl, ev_split1, px_bind, px_safe, px_ok, px_exc, px_bad, px_iteB, px_ite, List.getElem?_cons_zero, List.getElem?_cons_succ, List.set_cons_zero, List.set_cons_succ, List.map_cons, List.map_nil, List.cons_append, List.nil_append, List.length_cons, List.length_nil, Nat.reduceAdd, Nat.reduceSub, List.replicate_succ, List.replicate_zero, if_true, if_false, Bool.false_eq_true, Bool.not_true, Bool.not_false]
    refine (law_told_px (by omega) hok h1).mono (fun d h2 z => ?_) (fun _ _ _ z => z)
    obtain ⟨rfl, p2⟩ := z
    refine (same_px pl1 (by omega)).mono (fun d h3 z => ?_) (fun _ _ _ z => z)
    obtain ⟨rfl, p3⟩ := z
    simp only [ev_var, ev_C, ev_bin, ev_and, ev_or, ev_not, ev_neg, ev_opNeg, ev_tru, ev_truB, ev_B, ev_tAnd, ev_tOr, ev_tNot, ev_if, ev_nil, ev_cons, ev_tup, ev_lst, ev_P0, ev_P1, ev_sl, ev_CB, ev_call, ev_skip, ev_seq, ev_break, ev_cont, ev_drop, ev_ret, ev_retN, ev_ifS, ev_set, ev_asgN, ev_setIx, ev_iter, ev_rng1, ev_for, ev_yes, ev_def, ev_meth0, ev_meth, ev_isI, ev_raise, ev_repl, ev_split1, px_bind, px_safe, px_ok, px_exc, px_bad, px_iteB, px_ite, List.getElem?_cons_zero, List.getElem?_cons_succ, List.set_cons_zero, List.set_cons_succ, List.map_cons, List.map_nil, List.cons_append, List.nil_append, List.length_cons, List.length_nil, Nat.reduceAdd, Nat.reduceSub, List.replicate_succ, List.replicate_zero, if_true, if_false, Bool.false_eq_true, Bool.not_true, Bool.not_false]
    refine (paper_text_px hr (by omega) h3).mono (fun d h4 z => ?_) (fun _ _ _ z => z)
    obtain ⟨rfl, p4⟩ := z
    refine (same_px (d := .str (S (textP rows))) (okC_S hok) (by show 0 < 40; decide)).mono (fun d h5 z => ?_) (fun _ _ _ z => z)
    obtain ⟨rfl, p5⟩ := z
    simp only [ev_var, ev_C, ev_bin, ev_and, ev_or, ev_not, ev_neg, ev_opNeg, ev_tru, ev_truB, ev_B, ev_tAnd, ev_tOr, ev_tNot, ev_if, ev_nil, ev_cons, ev_tup, ev_lst, ev_P0, ev_P1, ev_sl, ev_CB, ev_call, ev_skip, ev_seq, ev_break, ev_cont, ev_drop, ev_ret, ev_retN, ev_ifS, ev_set, ev_asgN, ev_setIx, ev_iter, ev_rng1, ev_for, ev_yes, ev_def, ev_meth0, ev_meth, ev_isI, ev_raise, ev_repl, ev_split1, px_bind, px_safe, px_ok, px_exc, px_bad, px_iteB, px_ite, List.getElem?_cons_zero, List.getElem?_cons_succ, List.set_cons_zero, List.set_cons_succ, List.map_cons, List.map_nil, List.cons_append, List.nil_append, List.length_cons, List.length_nil, Nat.reduceAdd, Nat.reduceSub, List.replicate_succ, List.replicate_zero, if_true, if_false, Bool.false_eq_true, Bool.not_true, Bool.not_false]
    refine (law_told_px (by omega) hok h5).mono (fun d h6 z => ?_) (fun _ _ _ z => z)
    obtain ⟨rfl, p6⟩ := z
    refine (same_px pl1 (by omega)).mono (fun d h7 z => ?_) (fun _ _ _ z => z)
    obtain ⟨rfl, p7⟩ := z
    simp only [ev_var, ev_C, ev_bin, ev_and, ev_or, ev_not, ev_neg, ev_opNeg, ev_tru, ev_truB, ev_B, ev_tAnd, ev_tOr, ev_tNot, ev_if, ev_nil, ev_cons, ev_tup, ev_lst, ev_P0, ev_P1, ev_sl, ev_CB, ev_call, ev_skip, ev_seq, ev_break, ev_cont, ev_drop, ev_ret, ev_retN, ev_ifS, ev_set, ev_asgN, ev_setIx, ev_iter, ev_rng1, ev_for, ev_yes, ev_def, ev_meth0, ev_meth, ev_isI, ev_raise, ev_repl, ev_split1, px_bind, px_safe, px_ok, px_exc, px_bad, px_iteB, px_ite, List.getElem?_cons_zero, List.getElem?_cons_succ, List.set_cons_zero, List.set_cons_succ, List.map_cons, List.map_nil, List.cons_append, List.nil_append, List.length_cons, List.length_nil, Nat.reduceAdd, Nat.reduceSub, List.replicate_succ, List.replicate_zero, if_true, if_false, Bool.false_eq_true, Bool.not_true, Bool.not_false]
    exact tail h7 (s1.pre (p2.trans (p3.trans (p4.trans (p5.trans (p6.trans p7))))))
theorem law_turns {k m : Nat} {t : Cs} {h : MH} {p d : D} {y3 : Option D} (hc : okC t) (hl : t.length ≤ 390000) (s : Src3 m h k) (hm : m ≤ 800000000)
    (tail : ∀ (h2 : MH) (y3 y4 y6 : Option D), Src3 (m + 100) h2 k → PX (T8_law [some (.ref 0), some (.ref k), some p, y3, y4, some d, y6, none, none, none, none, none] h2) Rt nX) :
    PX (T9_law [some (.ref 0), some (.ref k), some p, y3, some (.str (S t)), some d, none, none, none, none, none, none] h) Rt nX := by
  unfold T9_law
  have e6 : Mi.inR 6 = true := inR_nat (n := 6) (by decide)
  have e6' : (6 : Int).toNat = 6 := rfl
  simp only [ev_var, ev_C, ev_bin, ev_and, ev_or, ev_not, ev_neg, ev_opNeg, ev_tru, ev_truB, ev_B, ev_tAnd, ev_tOr, ev_tNot, ev_if, ev_nil, ev_cons, ev_tup, ev_lst, ev_P0, ev_P1, ev_sl, ev_CB, ev_call, ev_skip, ev_seq, ev_break, ev_cont, ev_drop, ev_ret, ev_retN, ev_ifS, ev_set, ev_asgN, ev_setIx, ev_iter, ev_rng1, ev_for, ev_yes, ev_def, ev_meth0, ev_meth, ev_isI, ev_raise, ev_repl, ev_split1, px_bind, px_safe, px_ok, px_exc, px_bad, px_iteB, px_ite, List.getElem?_cons_zero, List.getElem?_cons_succ, List.set_cons_zero, List.set_cons_succ, List.map_cons, List.map_nil, List.cons_append, List.nil_append, List.length_cons, List.length_nil, Nat.reduceAdd, Nat.reduceSub, List.replicate_succ, List.replicate_zero, if_true, if_false, Bool.false_eq_true, Bool.not_true, Bool.not_false, e6, e6']
  refine loop_px (fun i env h' => Src3 (m + i * 5) h' k ∧ ∃ (u : Cs) (y3 y6 : Option D), env = [some (.ref 0), some (.ref k), some p, y3, some (.str (S u)), some d, y6, none, none, none, none, none] ∧ okC u ∧ u.length ≤ 390000 + i) _ _ _ _ ⟨s, t, y3, none, rfl, hc, hl⟩ ?_ ?_
  · rintro i env h' _ hi ⟨s', u, y3, y6, rfl, hu, hul⟩
    refine ⟨_, _, srcR_at (by omega), rfl, ?_⟩
    unfold L2_law
    simp only [ev_var, ev_C, ev_bin, ev_and, ev_or, ev_not, ev_neg, ev_opNeg, ev_tru, ev_truB, ev_B, ev_tAnd, ev_tOr, ev_tNot, ev_if, ev_nil, ev_cons, ev_tup, ev_lst, ev_P0, ev_P1, ev_sl, ev_CB, ev_call, ev_skip, ev_seq, ev_break, ev_cont, ev_drop, ev_ret, ev_retN, ev_ifS, ev_set, ev_asgN, ev_setIx, ev_iter, ev_rng1, ev_for, ev_yes, ev_def, ev_meth0, ev_meth, ev_isI, ev_raise, ev_repl, ev_split1, px_bind, px_safe, px_ok, px_exc, px_bad, px_iteB, px_ite, List.getElem?_cons_zero, List.getElem?_cons_succ, List.set_cons_zero, List.set_cons_succ, List.map_cons, List.map_nil, List.cons_append, List.nil_append, List.length_cons, List.length_nil, Nat.reduceAdd, Nat.reduceSub, List.replicate_succ, List.replicate_zero, if_true, if_false, Bool.false_eq_true, Bool.not_true, Bool.not_false]
    refine (spoilt_px s' (by omega) hu (by omega)).mono (fun d2 h2 z => ?_) (fun _ _ _ z => z)
    obtain ⟨v, rfl, hv, hvl, sd⟩ := z
    unfold T2_law C4_law
    obtain ⟨pl1, pl2⟩ := readP_pln v
    simp only [ev_var, ev_C, ev_bin, ev_and, ev_or, ev_not, ev_neg, ev_opNeg, ev_tru, ev_truB, ev_B, ev_tAnd, ev_tOr, ev_tNot, ev_if, ev_nil, ev_cons, ev_tup, ev_lst, ev_P0, ev_P1, ev_sl, ev_CB, ev_call, ev_skip, ev_seq, ev_break, ev_cont, ev_drop, ev_ret, ev_retN, ev_ifS, ev_set, ev_asgN, ev_setIx, ev_iter, ev_rng1, ev_for, ev_yes, ev_def, ev_meth0, ev_meth, ev_isI, ev_raise, ev_repl, ev_split1, px_bind, px_safe, px_ok, px_exc, px_bad, px_iteB, px_ite, List.getElem?_cons_zero, List.getElem?_cons_succ, List.set_cons_zero, List.set_cons_succ, List.map_cons, List.map_nil, List.cons_append, List.nil_append, List.length_cons, List.length_nil, Nat.reduceAdd, Nat.reduceSub, List.replicate_succ, List.replicate_zero, if_true, if_false, Bool.false_eq_true, Bool.not_true, Bool.not_false]
    refine (law_told_px (by omega) hv h2).mono (fun d3 h3 z => ?_) (fun _ _ _ z => z)
    obtain ⟨rfl, p3⟩ := z
    refine (law_read_px (by omega) hv h3).mono (fun d3 h4 z => ?_) (fun _ _ _ z => z)
    obtain ⟨rfl, p4⟩ := z
    refine (same_px pl1 (by omega)).mono (fun d3 h5 z => ?_) (fun _ _ _ z => z)
    obtain ⟨rfl, p5⟩ := z
    simp only [ev_var, ev_C, ev_bin, ev_and, ev_or, ev_not, ev_neg, ev_opNeg, ev_tru, ev_truB, ev_B, ev_tAnd, ev_tOr, ev_tNot, ev_if, ev_nil, ev_cons, ev_tup, ev_lst, ev_P0, ev_P1, ev_sl, ev_CB, ev_call, ev_skip, ev_seq, ev_break, ev_cont, ev_drop, ev_ret, ev_retN, ev_ifS, ev_set, ev_asgN, ev_setIx, ev_iter, ev_rng1, ev_for, ev_yes, ev_def, ev_meth0, ev_meth, ev_isI, ev_raise, ev_repl, ev_split1, px_bind, px_safe, px_ok, px_exc, px_bad, px_iteB, px_ite, List.getElem?_cons_zero, List.getElem?_cons_succ, List.set_cons_zero, List.set_cons_succ, List.map_cons, List.map_nil, List.cons_append, List.nil_append, List.length_cons, List.length_nil, Nat.reduceAdd, Nat.reduceSub, List.replicate_succ, List.replicate_zero, if_true, if_false, Bool.false_eq_true, Bool.not_true, Bool.not_false]
    unfold T1_law C5_law
    simp only [ev_var, ev_C, ev_bin, ev_and, ev_or, ev_not, ev_neg, ev_opNeg, ev_tru, ev_truB, ev_B, ev_tAnd, ev_tOr, ev_tNot, ev_if, ev_nil, ev_cons, ev_tup, ev_lst, ev_P0, ev_P1, ev_sl, ev_CB, ev_call, ev_skip, ev_seq, ev_break, ev_cont, ev_drop, ev_ret, ev_retN, ev_ifS, ev_set, ev_asgN, ev_setIx, ev_iter, ev_rng1, ev_for, ev_yes, ev_def, ev_meth0, ev_meth, ev_isI, ev_raise, ev_repl, ev_split1, px_bind, px_safe, px_ok, px_exc, px_bad, px_iteB, px_ite, List.getElem?_cons_zero, List.getElem?_cons_succ, List.set_cons_zero, List.set_cons_succ, List.map_cons, List.map_nil, List.cons_append, List.nil_append, List.length_cons, List.length_nil, Nat.reduceAdd, Nat.reduceSub, List.replicate_succ, List.replicate_zero, if_true, if_false, Bool.false_eq_true, Bool.not_true, Bool.not_false]
    have s5 := sd.src.pre (p3.trans (p4.trans p5))
    refine (pickN (N := 2) s5 (by omega) (by decide) (small2 (by decide))).mono (fun d3 h6 z => ?_) (fun _ _ _ z => z)
    obtain ⟨q, rfl, hq, sd6⟩ := z
    have e0 : opEq (.int (q : Int)) (.int 0) h6 = .ok (.bl (decide (q = 0))) h6 := eq_nat (n := 0)
    have s6 : Src3 (m + (i + 1) * 5) h6 k := sd6.src.mono (by omega)
    simp only [ev_var, ev_C, ev_bin, ev_and, ev_or, ev_not, ev_neg, ev_opNeg, ev_tru, ev_truB, ev_B, ev_tAnd, ev_tOr, ev_tNot, ev_if, ev_nil, ev_cons, ev_tup, ev_lst, ev_P0, ev_P1, ev_sl, ev_CB, ev_call, ev_skip, ev_seq, ev_break, ev_cont, ev_drop, ev_ret, ev_retN, ev_ifS, ev_set, ev_asgN, ev_setIx, ev_iter, ev_rng1, ev_for, ev_yes, ev_def, ev_meth0, ev_meth, ev_isI, ev_raise, ev_repl, ev_split1, px_bind, px_safe, px_ok, px_exc, px_bad, px_iteB, px_ite, List.getElem?_cons_zero, List.getElem?_cons_succ, List.set_cons_zero, List.set_cons_succ, List.map_cons, List.map_nil, List.cons_append, List.nil_append, List.length_cons, List.length_nil, Nat.reduceAdd, Nat.reduceSub, List.replicate_succ, List.replicate_zero, if_true, if_false, Bool.false_eq_true, Bool.not_true, Bool.not_false, e0]
    by_cases c0 : q = 0
    · simp only [decide_eq_true c0, ev_var, ev_C, ev_bin, ev_and, ev_or, ev_not, ev_neg, ev_opNeg, ev_tru, ev_truB, ev_B, ev_tAnd, ev_tOr, ev_tNot, ev_if, ev_nil, ev_cons, ev_tup, ev_lst, ev_P0, ev_P1, ev_sl, ev_CB, ev_call, ev_skip, ev_seq, ev_break, ev_cont, ev_drop, ev_ret, ev_retN, ev_ifS, ev_set, ev_asgN, ev_setIx, ev_iter, ev_rng1, ev_for, ev_yes, ev_def, ev_meth0, ev_meth, ev_isI, ev_raise, ev_repl, ev_split1, px_bind, px_safe, px_ok, px_exc, px_bad, px_iteB, px_ite, List.getElem?_cons_zero, List.getElem?_cons_succ, List.set_cons_zero, List.set_cons_succ, List.map_cons, List.map_nil, List.cons_append, List.nil_append, List.length_cons, List.length_nil, Nat.reduceAdd, Nat.reduceSub, List.replicate_succ, List.replicate_zero, if_true, if_false, Bool.false_eq_true, Bool.not_true, Bool.not_false]
      exact ⟨s6, v, _, _, rfl, hv, by omega⟩
    · simp only [decide_eq_false c0, ev_var, ev_C, ev_bin, ev_and, ev_or, ev_not, ev_neg, ev_opNeg, ev_tru, ev_truB, ev_B, ev_tAnd, ev_tOr, ev_tNot, ev_if, ev_nil, ev_cons, ev_tup, ev_lst, ev_P0, ev_P1, ev_sl, ev_CB, ev_call, ev_skip, ev_seq, ev_break, ev_cont, ev_drop, ev_ret, ev_retN, ev_ifS, ev_set, ev_asgN, ev_setIx, ev_iter, ev_rng1, ev_for, ev_yes, ev_def, ev_meth0, ev_meth, ev_isI, ev_raise, ev_repl, ev_split1, px_bind, px_safe, px_ok, px_exc, px_bad, px_iteB, px_ite, List.getElem?_cons_zero, List.getElem?_cons_succ, List.set_cons_zero, List.set_cons_succ, List.map_cons, List.map_nil, List.cons_append, List.nil_append, List.length_cons, List.length_nil, Nat.reduceAdd, Nat.reduceSub, List.replicate_succ, List.replicate_zero, if_true, if_false, Bool.false_eq_true, Bool.not_true, Bool.not_false]
      exact ⟨s6, u, _, _, rfl, hu, by omega⟩
  · rintro env h' ⟨s', u, y3, y6, rfl, hu, hul⟩
    exact ⟨srcR_end, tail h' y3 _ y6 (s'.mono (by omega))⟩
/-! ### the last looks -/
theorem mul_one {c n : Nat} {h : MH} (hn : n ≤ 5000) : opMul (.str (S [c])) (.int (n : Int)) h = .ok (.str (S (List.replicate n c))) h := by
  unfold opMul
  dsimp only
  have e : mulC (S [c]) (n : Int) = true := mulC_iff.mpr ⟨by omega, by omega, by rw [S_len, Int.toNat_natCast]; simp only [List.length_cons, List.length_nil]; omega⟩
  rw [if_pos e]
  have e2 := mul_one_list c (n : Int)
  rw [Int.toNat_natCast] at e2
  have e3 : Txt.mul (S [c]) (n : Int) = S (List.replicate n c) := by
    rw [← S_toList (Txt.mul (S [c]) (n : Int))]
    exact congrArg S e2
  rw [e3]
def isL : Sum Nat (List D) → Option Nat
  | .inl n => some n
  | .inr _ => none
theorem isL_inl {x : Sum Nat (List D)} {n : Nat} (h : isL x = some n) : x = .inl n := by
  cases x with
  | inl k => cases h; rfl
  | inr rs => cases h
theorem isL_inr {x : Sum Nat (List D)} (h : isL x = none) : ∃ rs, x = .inr rs := by
  cases x with
  | inl k => cases h
  | inr rs => exact ⟨rs, rfl⟩
def parens (n : Nat) : Cs := List.replicate n 40 ++ [120] ++ List.replicate n 41
def longW (n : Nat) : Cs := 49 :: List.replicate n 48
theorem t_par1 : isL (resP (parens 12)) = some 1 := by decide +kernel
theorem t_par0 : parens 11 = textP [[nestD 11 (.str (S [120]))]] := by decide +kernel
theorem t_a0 : isL (resP ([97, 10] ++ longW 999)) = none := by decide +kernel
theorem t_a1 : (isL (resP ([97, 10] ++ longW 1000))).isSome = true := by decide +kernel
theorem t_m0 : isL (resP ([45] ++ longW 999 ++ [32, 48])) = none := by decide +kernel
theorem t_m1 : (isL (resP ([45] ++ longW 1000 ++ [32, 48]))).isSome = true := by decide +kernel
theorem t_e1 : isL (resP [97, 32, 49, 10]) = some 2 := by decide +kernel
theorem t_e2 : isL (resP [97, 10, 10, 48, 48]) = some 2 := by decide +kernel
end K66

set_option Elab.async false
set_option linter.all false
set_option maxRecDepth 100000
set_option maxHeartbeats 4000000
/-! K66W: the law's end, the law's paper. -/
namespace K66
open PySem PySem.NumText PyProof.Rows L2 Mi
theorem readP_l {t : Cs} {n : Nat} (h : isL (resP t) = some n) : readP t = .tup [.str (Str.ofString "raised"), .int (n : Int)] := by rw [readP_res, isL_inl h]; rfl
theorem readP_r {t : Cs} (h : isL (resP t) = none) : ∃ d, readP t = .tup [.str (Str.ofString "let"), d] := by
  obtain ⟨rs, e⟩ := isL_inr h
  exact ⟨.tup rs, by rw [readP_res, e]; rfl⟩
theorem readP_l' {t : Cs} (h : (isL (resP t)).isSome = true) : ∃ d, readP t = .tup [.str (Str.ofString "raised"), d] := by
  obtain ⟨n, e⟩ := Option.isSome_iff_exists.mp h
  exact ⟨.int (n : Int), readP_l e⟩
theorem ix_tup0 {a b : D} {h : MH} : opIx (.tup [a, b]) (.int 0) h = .ok a h := rfl
theorem law_end {k m : Nat} {h : MH} {y0 y2 y3 y4 y5 y6 y7 y8 y9 y10 y11 : Option D} (s : Src3 m h k) (hm : m ≤ 900000000) :
    PX (T8_law [y0, some (.ref k), y2, y3, y4, y5, y6, y7, y8, y9, y10, y11] h) Rt nX := by
  have hSL : SL = 16777216 := rfl
  have b0 : (0 : Nat) ≤ SL := by omega
  have b1 : (1 : Nat) ≤ SL := by omega
  have b2 : (2 : Nat) ≤ SL := by omega
  have kx : (Str.ofString "x") = S [120] := by decide +kernel
  have k1 : (Str.ofString "1") = S [49] := by decide +kernel
  have kan : (Str.ofString "a\n") = S [97, 10] := by decide +kernel
  have ks0 : (Str.ofString " 0") = S [32, 48] := by decide +kernel
  have ka1 : (Str.ofString "a 1\n") = S [97, 32, 49, 10] := by decide +kernel
  have ka2 : (Str.ofString "a\n\n00") = S [97, 10, 10, 48, 48] := by decide +kernel
  -- the last three
  have last : ∀ (h : MH) (y7 y8 y9 : Option D), PX (T3_law [y0, some (.ref k), y2, y3, y4, y5, y6, y7, y8, y9, y10, y11] h) Rt nX := by
    intro h y7 y8 y9
    unfold T3_law
    simp only [ev_var, ev_C, ev_bin, ev_and, ev_or, ev_not, ev_neg, ev_opNeg, ev_tru, ev_truB, ev_B, ev_tAnd, ev_tOr, ev_tNot, ev_if, ev_nil, ev_cons, ev_tup, ev_lst, ev_P0, ev_P1, ev_sl, ev_CB, ev_call, ev_skip, ev_seq, ev_break, ev_cont, ev_drop, ev_ret, ev_retN, ev_ifS, ev_set, ev_asgN, ev_setIx, ev_iter, ev_rng1, ev_for, ev_yes, ev_def, ev_meth0, ev_meth, ev_isI, ev_raise, ev_repl, ev_split1, px_bind, px_safe, px_ok, px_exc, px_bad, px_iteB, px_ite, List.getElem?_cons_zero, List.getElem?_cons_succ, List.set_cons_zero, List.set_cons_succ, List.map_cons, List.map_nil, List.cons_append, List.nil_append, List.length_cons, List.length_nil, Nat.reduceAdd, Nat.reduceSub, List.replicate_succ, List.replicate_zero, if_true, if_false, Bool.false_eq_true, Bool.not_true, Bool.not_false, k_e]
    refine (law_told_px (t := []) (by simp) okC_nil h).mono (fun d h2 z => ?_) (fun _ _ _ z => z)
    obtain ⟨rfl, p2⟩ := z
    obtain ⟨q1, q2⟩ := readP_pln []
    have e1 : ∀ h : MH, opEq (readP []) (.tup [.str (Str.ofString "let"), .tup []]) h = .ok (.bl true) h := fun h => eq_same q1 (by omega)
    simp only [ev_var, ev_C, ev_bin, ev_and, ev_or, ev_not, ev_neg, ev_opNeg, ev_tru, ev_truB, ev_B, ev_tAnd, ev_tOr, ev_tNot, ev_if, ev_nil, ev_cons, ev_tup, ev_lst, ev_P0, ev_P1, ev_sl, ev_CB, ev_call, ev_skip, ev_seq, ev_break, ev_cont, ev_drop, ev_ret, ev_retN, ev_ifS, ev_set, ev_asgN, ev_setIx, ev_iter, ev_rng1, ev_for, ev_yes, ev_def, ev_meth0, ev_meth, ev_isI, ev_raise, ev_repl, ev_split1, px_bind, px_safe, px_ok, px_exc, px_bad, px_iteB, px_ite, List.getElem?_cons_zero, List.getElem?_cons_succ, List.set_cons_zero, List.set_cons_succ, List.map_cons, List.map_nil, List.cons_append, List.nil_append, List.length_cons, List.length_nil, Nat.reduceAdd, Nat.reduceSub, List.replicate_succ, List.replicate_zero, if_true, if_false, Bool.false_eq_true, Bool.not_true, Bool.not_false, b0, b2, e1, ka1]
    refine (law_told_px (t := [97, 32, 49, 10]) (by simp) (okC_of rfl) h2).mono (fun d h3 z => ?_) (fun _ _ _ z => z)
    obtain ⟨rfl, p3⟩ := z
    obtain ⟨q3, q4⟩ := readP_pln [97, 32, 49, 10]
    have e2 : ∀ h : MH, opEq (readP [97, 32, 49, 10]) (.tup [.str (Str.ofString "raised"), .int 2]) h = .ok (.bl true) h := fun h => by
      have := eq_same (h := h) q3 (by omega)
      rw [show D.tup [.str (Str.ofString "raised"), .int 2] = readP [97, 32, 49, 10] from (readP_l t_e1).symm]
      exact this
    simp only [ev_var, ev_C, ev_bin, ev_and, ev_or, ev_not, ev_neg, ev_opNeg, ev_tru, ev_truB, ev_B, ev_tAnd, ev_tOr, ev_tNot, ev_if, ev_nil, ev_cons, ev_tup, ev_lst, ev_P0, ev_P1, ev_sl, ev_CB, ev_call, ev_skip, ev_seq, ev_break, ev_cont, ev_drop, ev_ret, ev_retN, ev_ifS, ev_set, ev_asgN, ev_setIx, ev_iter, ev_rng1, ev_for, ev_yes, ev_def, ev_meth0, ev_meth, ev_isI, ev_raise, ev_repl, ev_split1, px_bind, px_safe, px_ok, px_exc, px_bad, px_iteB, px_ite, List.getElem?_cons_zero, List.getElem?_cons_succ, List.set_cons_zero, List.set_cons_succ, List.map_cons, List.map_nil, List.cons_append, List.nil_append, List.length_cons, List.length_nil, Nat.reduceAdd, Nat.reduceSub, List.replicate_succ, List.replicate_zero, if_true, if_false, Bool.false_eq_true, Bool.not_true, Bool.not_false, b2, e2, ka2]
    refine (law_told_px (t := [97, 10, 10, 48, 48]) (by simp) (okC_of rfl) h3).mono (fun d h4 z => ?_) (fun _ _ _ z => z)
    obtain ⟨rfl, p4⟩ := z
    obtain ⟨q5, q6⟩ := readP_pln [97, 10, 10, 48, 48]
    have e3 : ∀ h : MH, opEq (readP [97, 10, 10, 48, 48]) (.tup [.str (Str.ofString "raised"), .int 2]) h = .ok (.bl true) h := fun h => by
      have := eq_same (h := h) q5 (by omega)
      rw [show D.tup [.str (Str.ofString "raised"), .int 2] = readP [97, 10, 10, 48, 48] from (readP_l t_e2).symm]
      exact this
    simp only [ev_var, ev_C, ev_bin, ev_and, ev_or, ev_not, ev_neg, ev_opNeg, ev_tru, ev_truB, ev_B, ev_tAnd, ev_tOr, ev_tNot, ev_if, ev_nil, ev_cons, ev_tup, ev_lst, ev_P0, ev_P1, ev_sl, ev_CB, ev_call, ev_skip, ev_seq, ev_break, ev_cont, ev_drop, ev_ret, ev_retN, ev_ifS, ev_set, ev_asgN, ev_setIx, ev_iter, ev_rng1, ev_for, ev_yes, ev_def, ev_meth0, ev_meth, ev_isI, ev_raise, ev_repl, ev_split1, px_bind, px_safe, px_ok, px_exc, px_bad, px_iteB, px_ite, List.getElem?_cons_zero, List.getElem?_cons_succ, List.set_cons_zero, List.set_cons_succ, List.map_cons, List.map_nil, List.cons_append, List.nil_append, List.length_cons, List.length_nil, Nat.reduceAdd, Nat.reduceSub, List.replicate_succ, List.replicate_zero, if_true, if_false, Bool.false_eq_true, Bool.not_true, Bool.not_false, b2, e3]
    rfl
  have okl : ∀ n, okC (longW n) := fun n c hc => by
    rcases List.mem_cons.mp hc with e | e
    · omega
    · have := List.eq_of_mem_replicate e; omega
  have lenl : ∀ n, (longW n).length = n + 1 := fun n => by simp [longW]
  -- the long words
  have long : ∀ (h : MH) (n : Nat) (w : Str) (y8 : Option D), n ≤ 1 → okS w → (∃ d, readP ([97, 10] ++ longW (999 + n)) = .tup [.str w, d]) → (∃ d, readP ([45] ++ longW (999 + n) ++ [32, 48]) = .tup [.str w, d]) →
      (∀ h : MH, lsAt h 0 = lsAt h 0) → ([Str.ofString "let", Str.ofString "raised"][n]? = some w) → PX (T5_law [y0, some (.ref k), y2, y3, y4, y5, y6, some (.int (n : Int)), y8, y9, y10, y11] h) Rt nX := by
    intro h n w y8 hn hw hr1 hr2 _ hix
    obtain ⟨d1, e1⟩ := hr1
    obtain ⟨d2, e2⟩ := hr2
    replace e1 : readP (97 :: 10 :: longW (999 + n)) = .tup [.str w, d1] := e1
    replace e2 : readP (45 :: (longW (999 + n) ++ [32, 48])) = .tup [.str w, d2] := e2
    have ok1 : okC (97 :: 10 :: longW (999 + n)) := okC_app (a := [97, 10]) (okC_of rfl) (okl _)
    have ok2 : okC (45 :: (longW (999 + n) ++ [32, 48])) := okC_app (a := [45]) (okC_of rfl) (okC_app (okl _) (okC_of rfl))
    have le1 : (97 :: 10 :: longW (999 + n)).length ≤ 400000 := by simp only [List.length_cons, lenl]; omega
    have le2 : (45 :: (longW (999 + n) ++ [32, 48])).length ≤ 400000 := by simp only [List.length_cons, List.length_append, List.length_nil, lenl]; omega
    unfold T5_law
    have ea : opAdd (.int 999) (.int (n : Int)) h = .ok (.int ((999 + n : Nat) : Int)) h := add_nat (m := 999)
    have l1 : 0 + 1 + (999 + n) ≤ SL := by omega
    have l1' : 1 + (999 + n) ≤ SL := by omega
    simp only [ev_var, ev_C, ev_bin, ev_and, ev_or, ev_not, ev_neg, ev_opNeg, ev_tru, ev_truB, ev_B, ev_tAnd, ev_tOr, ev_tNot, ev_if, ev_nil, ev_cons, ev_tup, ev_lst, ev_P0, ev_P1, ev_sl, ev_CB, ev_call, ev_skip, ev_seq, ev_break, ev_cont, ev_drop, ev_ret, ev_retN, ev_ifS, ev_set, ev_asgN, ev_setIx, ev_iter, ev_rng1, ev_for, ev_yes, ev_def, ev_meth0, ev_meth, ev_isI, ev_raise, ev_repl, ev_split1, px_bind, px_safe, px_ok, px_exc, px_bad, px_iteB, px_ite, List.getElem?_cons_zero, List.getElem?_cons_succ, List.set_cons_zero, List.set_cons_succ, List.map_cons, List.map_nil, List.cons_append, List.nil_append, List.length_cons, List.length_nil, Nat.reduceAdd, Nat.reduceSub, List.replicate_succ, List.replicate_zero, if_true, if_false, Bool.false_eq_true, Bool.not_true, Bool.not_false, k1, k_0, ea, mul_one (c := 48) (n := 999 + n) (h := h) (by omega), s_add, List.length_replicate, l1']
    rw [show (49 :: List.replicate (999 + n) 48 : Cs) = longW (999 + n) from rfl]
    unfold T4_law C7_law
    have l2 : 2 + (longW (999 + n)).length ≤ SL := by rw [lenl]; omega
    have l3 : 1 + (longW (999 + n)).length ≤ SL := by rw [lenl]; omega
    have l4 : (45 :: longW (999 + n)).length + 2 ≤ SL := by rw [List.length_cons, lenl]; omega
    have l4' : (longW (999 + n)).length + 1 + 2 ≤ SL := by rw [lenl]; omega
    have en : ∀ h : MH, opNe (.str w) (.str w) h = .ok (.bl false) h := fun h => by rw [Mi.ne_str hw hw, beq_self_eq_true]; rfl
    have ei : ∀ h : MH, opIx (.ref h.length) (.int (n : Int)) (h ++ [MO.lst [D.str (Str.ofString "let"), D.str (Str.ofString "raised")]]) = .ok (.str w) (h ++ [MO.lst [D.str (Str.ofString "let"), D.str (Str.ofString "raised")]]) := fun h => by
      refine ix_ls (lsAt_lst get_new) ?_
      match n, hn, hix with
      | 0, _, hix => cases hix; rfl
      | 1, _, hix => cases hix; rfl
    simp only [ev_var, ev_C, ev_bin, ev_and, ev_or, ev_not, ev_neg, ev_opNeg, ev_tru, ev_truB, ev_B, ev_tAnd, ev_tOr, ev_tNot, ev_if, ev_nil, ev_cons, ev_tup, ev_lst, ev_P0, ev_P1, ev_sl, ev_CB, ev_call, ev_skip, ev_seq, ev_break, ev_cont, ev_drop, ev_ret, ev_retN, ev_ifS, ev_set, ev_asgN, ev_setIx, ev_iter, ev_rng1, ev_for, ev_yes, ev_def, ev_meth0, ev_meth, ev_isI, ev_raise, ev_repl, ev_split1, px_bind, px_safe, px_ok, px_exc, px_bad, px_iteB, px_ite, List.getElem?_cons_zero, List.getElem?_cons_succ, List.set_cons_zero, List.set_cons_succ, List.map_cons, List.map_nil, List.cons_append, List.nil_append, List.length_cons, List.length_nil, Nat.reduceAdd, Nat.reduceSub, List.replicate_succ, List.replicate_zero, if_true, if_false, Bool.false_eq_true, Bool.not_true, Bool.not_false, kan, s_add, l2]
    refine (law_told_px le1 ok1 h).mono (fun d h2 z => ?_) (fun _ _ _ z => z)
    obtain ⟨rfl, p2⟩ := z
    simp only [e1, ix_tup0, ev_var, ev_C, ev_bin, ev_and, ev_or, ev_not, ev_neg, ev_opNeg, ev_tru, ev_truB, ev_B, ev_tAnd, ev_tOr, ev_tNot, ev_if, ev_nil, ev_cons, ev_tup, ev_lst, ev_P0, ev_P1, ev_sl, ev_CB, ev_call, ev_skip, ev_seq, ev_break, ev_cont, ev_drop, ev_ret, ev_retN, ev_ifS, ev_set, ev_asgN, ev_setIx, ev_iter, ev_rng1, ev_for, ev_yes, ev_def, ev_meth0, ev_meth, ev_isI, ev_raise, ev_repl, ev_split1, px_bind, px_safe, px_ok, px_exc, px_bad, px_iteB, px_ite, List.getElem?_cons_zero, List.getElem?_cons_succ, List.set_cons_zero, List.set_cons_succ, List.map_cons, List.map_nil, List.cons_append, List.nil_append, List.length_cons, List.length_nil, Nat.reduceAdd, Nat.reduceSub, List.replicate_succ, List.replicate_zero, if_true, if_false, Bool.false_eq_true, Bool.not_true, Bool.not_false, b2, ei, en, k_dash, s_add, l3, ks0, l4']
    refine (law_told_px le2 ok2 _).mono (fun d h3 z => ?_) (fun _ _ _ z => z)
    obtain ⟨rfl, p3⟩ := z
    simp only [e2, ix_tup0, ev_var, ev_C, ev_bin, ev_and, ev_or, ev_not, ev_neg, ev_opNeg, ev_tru, ev_truB, ev_B, ev_tAnd, ev_tOr, ev_tNot, ev_if, ev_nil, ev_cons, ev_tup, ev_lst, ev_P0, ev_P1, ev_sl, ev_CB, ev_call, ev_skip, ev_seq, ev_break, ev_cont, ev_drop, ev_ret, ev_retN, ev_ifS, ev_set, ev_asgN, ev_setIx, ev_iter, ev_rng1, ev_for, ev_yes, ev_def, ev_meth0, ev_meth, ev_isI, ev_raise, ev_repl, ev_split1, px_bind, px_safe, px_ok, px_exc, px_bad, px_iteB, px_ite, List.getElem?_cons_zero, List.getElem?_cons_succ, List.set_cons_zero, List.set_cons_succ, List.map_cons, List.map_nil, List.cons_append, List.nil_append, List.length_cons, List.length_nil, Nat.reduceAdd, Nat.reduceSub, List.replicate_succ, List.replicate_zero, if_true, if_false, Bool.false_eq_true, Bool.not_true, Bool.not_false, b2, ei, en]
    exact last _ _ _ _
  unfold T8_law
  simp only [ev_var, ev_C, ev_bin, ev_and, ev_or, ev_not, ev_neg, ev_opNeg, ev_tru, ev_truB, ev_B, ev_tAnd, ev_tOr, ev_tNot, ev_if, ev_nil, ev_cons, ev_tup, ev_lst, ev_P0, ev_P1, ev_sl, ev_CB, ev_call, ev_skip, ev_seq, ev_break, ev_cont, ev_drop, ev_ret, ev_retN, ev_ifS, ev_set, ev_asgN, ev_setIx, ev_iter, ev_rng1, ev_for, ev_yes, ev_def, ev_meth0, ev_meth, ev_isI, ev_raise, ev_repl, ev_split1, px_bind, px_safe, px_ok, px_exc, px_bad, px_iteB, px_ite, List.getElem?_cons_zero, List.getElem?_cons_succ, List.set_cons_zero, List.set_cons_succ, List.map_cons, List.map_nil, List.cons_append, List.nil_append, List.length_cons, List.length_nil, Nat.reduceAdd, Nat.reduceSub, List.replicate_succ, List.replicate_zero, if_true, if_false, Bool.false_eq_true, Bool.not_true, Bool.not_false]
  refine (pickN (N := 2) s (by omega) (by decide) (small2 (by decide))).mono (fun d h2 z => ?_) (fun _ _ _ z => z)
  obtain ⟨n, rfl, hn, sd⟩ := z
  unfold T7_law
  have ea : opAdd (.int 11) (.int (n : Int)) h2 = .ok (.int ((11 + n : Nat) : Int)) h2 := add_nat (m := 11)
  have l1 : 11 + n + 1 ≤ SL := by omega
  have l2 : (List.replicate (11 + n) 40 ++ [120]).length + (11 + n) ≤ SL := by simp only [List.length_append, List.length_replicate, List.length_cons, List.length_nil]; omega
  have l2' : 11 + n + (0 + 1) + (11 + n) ≤ SL := by omega
  simp only [ev_var, ev_C, ev_bin, ev_and, ev_or, ev_not, ev_neg, ev_opNeg, ev_tru, ev_truB, ev_B, ev_tAnd, ev_tOr, ev_tNot, ev_if, ev_nil, ev_cons, ev_tup, ev_lst, ev_P0, ev_P1, ev_sl, ev_CB, ev_call, ev_skip, ev_seq, ev_break, ev_cont, ev_drop, ev_ret, ev_retN, ev_ifS, ev_set, ev_asgN, ev_setIx, ev_iter, ev_rng1, ev_for, ev_yes, ev_def, ev_meth0, ev_meth, ev_isI, ev_raise, ev_repl, ev_split1, px_bind, px_safe, px_ok, px_exc, px_bad, px_iteB, px_ite, List.getElem?_cons_zero, List.getElem?_cons_succ, List.set_cons_zero, List.set_cons_succ, List.map_cons, List.map_nil, List.cons_append, List.nil_append, List.length_cons, List.length_nil, Nat.reduceAdd, Nat.reduceSub, List.replicate_succ, List.replicate_zero, if_true, if_false, Bool.false_eq_true, Bool.not_true, Bool.not_false, k_op, k_cl, kx, ea, mul_one (c := 40) (n := 11 + n) (h := h2) (by omega), mul_one (c := 41) (n := 11 + n) (h := h2) (by omega), s_add, List.length_replicate, l1, l2]
  rw [show List.replicate (11 + n) 40 ++ [120] ++ List.replicate (11 + n) 41 = parens (11 + n) from rfl]
  have okp : okC (parens (11 + n)) := fun c hc => by
    unfold parens at hc
    rcases List.mem_append.mp hc with e | e
    · rcases List.mem_append.mp e with e | e
      · have := List.eq_of_mem_replicate e; omega
      · rw [List.mem_singleton.mp e]; omega
    · have := List.eq_of_mem_replicate e; omega
  have lenp : (parens (11 + n)).length ≤ 400000 := by unfold parens; simp; omega
  unfold T6_law C6_law
  simp only [ev_var, ev_C, ev_bin, ev_and, ev_or, ev_not, ev_neg, ev_opNeg, ev_tru, ev_truB, ev_B, ev_tAnd, ev_tOr, ev_tNot, ev_if, ev_nil, ev_cons, ev_tup, ev_lst, ev_P0, ev_P1, ev_sl, ev_CB, ev_call, ev_skip, ev_seq, ev_break, ev_cont, ev_drop, ev_ret, ev_retN, ev_ifS, ev_set, ev_asgN, ev_setIx, ev_iter, ev_rng1, ev_for, ev_yes, ev_def, ev_meth0, ev_meth, ev_isI, ev_raise, ev_repl, ev_split1, px_bind, px_safe, px_ok, px_exc, px_bad, px_iteB, px_ite, List.getElem?_cons_zero, List.getElem?_cons_succ, List.set_cons_zero, List.set_cons_succ, List.map_cons, List.map_nil, List.cons_append, List.nil_append, List.length_cons, List.length_nil, Nat.reduceAdd, Nat.reduceSub, List.replicate_succ, List.replicate_zero, if_true, if_false, Bool.false_eq_true, Bool.not_true, Bool.not_false]
  refine (law_told_px lenp okp h2).mono (fun d h3 z => ?_) (fun _ _ _ z => z)
  obtain ⟨rfl, p3⟩ := z
  obtain ⟨q1, q2⟩ := readP_pln (parens (11 + n))
  have e1 : opEq (.int (n : Int)) (.int 1) h3 = .ok (.bl (decide (n = 1))) h3 := eq_nat (n := 1)
  simp only [ev_var, ev_C, ev_bin, ev_and, ev_or, ev_not, ev_neg, ev_opNeg, ev_tru, ev_truB, ev_B, ev_tAnd, ev_tOr, ev_tNot, ev_if, ev_nil, ev_cons, ev_tup, ev_lst, ev_P0, ev_P1, ev_sl, ev_CB, ev_call, ev_skip, ev_seq, ev_break, ev_cont, ev_drop, ev_ret, ev_retN, ev_ifS, ev_set, ev_asgN, ev_setIx, ev_iter, ev_rng1, ev_for, ev_yes, ev_def, ev_meth0, ev_meth, ev_isI, ev_raise, ev_repl, ev_split1, px_bind, px_safe, px_ok, px_exc, px_bad, px_iteB, px_ite, List.getElem?_cons_zero, List.getElem?_cons_succ, List.set_cons_zero, List.set_cons_succ, List.map_cons, List.map_nil, List.cons_append, List.nil_append, List.length_cons, List.length_nil, Nat.reduceAdd, Nat.reduceSub, List.replicate_succ, List.replicate_zero, if_true, if_false, Bool.false_eq_true, Bool.not_true, Bool.not_false, e1]
  by_cases c0 : n = 1
  · subst c0
    simp only [decide_true, ev_var, ev_C, ev_bin, ev_and, ev_or, ev_not, ev_neg, ev_opNeg, ev_tru, ev_truB, ev_B, ev_tAnd, ev_tOr, ev_tNot, ev_if, ev_nil, ev_cons, ev_tup, ev_lst, ev_P0, ev_P1, ev_sl, ev_CB, ev_call, ev_skip, ev_seq, ev_break, ev_cont, ev_drop, ev_ret, ev_retN, ev_ifS, ev_set, ev_asgN, ev_setIx, ev_iter, ev_rng1, ev_for, ev_yes, ev_def, ev_meth0, ev_meth, ev_isI, ev_raise, ev_repl, ev_split1, px_bind, px_safe, px_ok, px_exc, px_bad, px_iteB, px_ite, List.getElem?_cons_zero, List.getElem?_cons_succ, List.set_cons_zero, List.set_cons_succ, List.map_cons, List.map_nil, List.cons_append, List.nil_append, List.length_cons, List.length_nil, Nat.reduceAdd, Nat.reduceSub, List.replicate_succ, List.replicate_zero, if_true, if_false, Bool.false_eq_true, Bool.not_true, Bool.not_false, b2]
    rw [show D.tup [.str (Str.ofString "raised"), .int 1] = readP (parens (11 + 1)) from (readP_l (t := parens (11 + 1)) t_par1).symm]
    refine (same_px q1 (by omega)).mono (fun d h4 z => ?_) (fun _ _ _ z => z)
    obtain ⟨rfl, p4⟩ := z
    simp only [ev_var, ev_C, ev_bin, ev_and, ev_or, ev_not, ev_neg, ev_opNeg, ev_tru, ev_truB, ev_B, ev_tAnd, ev_tOr, ev_tNot, ev_if, ev_nil, ev_cons, ev_tup, ev_lst, ev_P0, ev_P1, ev_sl, ev_CB, ev_call, ev_skip, ev_seq, ev_break, ev_cont, ev_drop, ev_ret, ev_retN, ev_ifS, ev_set, ev_asgN, ev_setIx, ev_iter, ev_rng1, ev_for, ev_yes, ev_def, ev_meth0, ev_meth, ev_isI, ev_raise, ev_repl, ev_split1, px_bind, px_safe, px_ok, px_exc, px_bad, px_iteB, px_ite, List.getElem?_cons_zero, List.getElem?_cons_succ, List.set_cons_zero, List.set_cons_succ, List.map_cons, List.map_nil, List.cons_append, List.nil_append, List.length_cons, List.length_nil, Nat.reduceAdd, Nat.reduceSub, List.replicate_succ, List.replicate_zero, if_true, if_false, Bool.false_eq_true, Bool.not_true, Bool.not_false]
    exact long h4 1 (Str.ofString "raised") _ (Nat.le_refl _) okS_raised (readP_l' t_a1) (readP_l' t_m1) (fun _ => rfl) rfl
  · have n0 : n = 0 := by omega
    subst n0
    have enst : ∀ h : MH, PX (F_law_nest [.str (S [120]), .int 11] h) (fun r h2 => r = nestD 11 (.str (S [120])) ∧ h2 = h) nX := fun h => nest_px (n := 11) (by decide)
    simp only [decide_eq_false c0, ev_var, ev_C, ev_bin, ev_and, ev_or, ev_not, ev_neg, ev_opNeg, ev_tru, ev_truB, ev_B, ev_tAnd, ev_tOr, ev_tNot, ev_if, ev_nil, ev_cons, ev_tup, ev_lst, ev_P0, ev_P1, ev_sl, ev_CB, ev_call, ev_skip, ev_seq, ev_break, ev_cont, ev_drop, ev_ret, ev_retN, ev_ifS, ev_set, ev_asgN, ev_setIx, ev_iter, ev_rng1, ev_for, ev_yes, ev_def, ev_meth0, ev_meth, ev_isI, ev_raise, ev_repl, ev_split1, px_bind, px_safe, px_ok, px_exc, px_bad, px_iteB, px_ite, List.getElem?_cons_zero, List.getElem?_cons_succ, List.set_cons_zero, List.set_cons_succ, List.map_cons, List.map_nil, List.cons_append, List.nil_append, List.length_cons, List.length_nil, Nat.reduceAdd, Nat.reduceSub, List.replicate_succ, List.replicate_zero, if_true, if_false, Bool.false_eq_true, Bool.not_true, Bool.not_false, kx]
    refine (enst h3).mono (fun d h4 z => ?_) (fun _ _ _ z => z)
    obtain ⟨rfl, rfl⟩ := z
    simp only [ev_var, ev_C, ev_bin, ev_and, ev_or, ev_not, ev_neg, ev_opNeg, ev_tru, ev_truB, ev_B, ev_tAnd, ev_tOr, ev_tNot, ev_if, ev_nil, ev_cons, ev_tup, ev_lst, ev_P0, ev_P1, ev_sl, ev_CB, ev_call, ev_skip, ev_seq, ev_break, ev_cont, ev_drop, ev_ret, ev_retN, ev_ifS, ev_set, ev_asgN, ev_setIx, ev_iter, ev_rng1, ev_for, ev_yes, ev_def, ev_meth0, ev_meth, ev_isI, ev_raise, ev_repl, ev_split1, px_bind, px_safe, px_ok, px_exc, px_bad, px_iteB, px_ite, List.getElem?_cons_zero, List.getElem?_cons_succ, List.set_cons_zero, List.set_cons_succ, List.map_cons, List.map_nil, List.cons_append, List.nil_append, List.length_cons, List.length_nil, Nat.reduceAdd, Nat.reduceSub, List.replicate_succ, List.replicate_zero, if_true, if_false, Bool.false_eq_true, Bool.not_true, Bool.not_false, b1, b2]
    have hrow : rowOk [nestD 11 (.str (S [120]))] := ⟨by simp, by show (okM (nestD 11 (.str (S [120]))) && true) = true; rw [nest_ok (by decide) 11]; rfl, by show max (dep (nestD 11 (.str (S [120])))) 0 ≤ 11; rw [nest_dep]; decide⟩
    have er : readP (parens (11 + 0)) = .tup [.str (Str.ofString "let"), .tup [.tup [nestD 11 (.str (S [120]))]]] := by
      show readP (parens 11) = _
      rw [t_par0]
      exact readP_back (rows := [[nestD 11 (.str (S [120]))]]) (fun r hr => by rw [List.mem_singleton.mp hr]; exact hrow)
    rw [← er]
    refine (same_px q1 (by omega)).mono (fun d h5 z => ?_) (fun _ _ _ z => z)
    obtain ⟨rfl, p5⟩ := z
    simp only [ev_var, ev_C, ev_bin, ev_and, ev_or, ev_not, ev_neg, ev_opNeg, ev_tru, ev_truB, ev_B, ev_tAnd, ev_tOr, ev_tNot, ev_if, ev_nil, ev_cons, ev_tup, ev_lst, ev_P0, ev_P1, ev_sl, ev_CB, ev_call, ev_skip, ev_seq, ev_break, ev_cont, ev_drop, ev_ret, ev_retN, ev_ifS, ev_set, ev_asgN, ev_setIx, ev_iter, ev_rng1, ev_for, ev_yes, ev_def, ev_meth0, ev_meth, ev_isI, ev_raise, ev_repl, ev_split1, px_bind, px_safe, px_ok, px_exc, px_bad, px_iteB, px_ite, List.getElem?_cons_zero, List.getElem?_cons_succ, List.set_cons_zero, List.set_cons_succ, List.map_cons, List.map_nil, List.cons_append, List.nil_append, List.length_cons, List.length_nil, Nat.reduceAdd, Nat.reduceSub, List.replicate_succ, List.replicate_zero, if_true, if_false, Bool.false_eq_true, Bool.not_true, Bool.not_false]
    exact long h5 0 (Str.ofString "let") _ (Nat.zero_le _) okS_let (readP_r t_a0) (readP_r t_m0) (fun _ => rfl) rfl
end K66

set_option Elab.async false
set_option linter.all false
set_option maxRecDepth 100000
set_option maxHeartbeats 4000000
/-! K66Y: the paper is made; the law holds. -/
namespace K66
open PySem PySem.NumText PyProof.Rows L2 Mi
theorem tups_snoc (rows : List (List D)) (r : List D) : tups rows ++ [.tup r] = tups (rows ++ [r]) := by simp [tups]
/-- from the made rows on -/
theorem law_rest {k m P : Nat} {rows : List (List D)} {h : MH} {y3 : Option D} (hr : ∀ r ∈ rows, rowOk r) (hl : wsum rows ≤ 390000) (hrl : rows.length ≤ 100) (s : Src3 m h k) (hm : m ≤ 700000000) (hP : h[P]? = some (.lst (tups rows))) :
    PX (T13_law [some (.ref 0), some (.ref k), some (.ref P), y3, none, none, none, none, none, none, none, none] h) Rt nX := by
  unfold T13_law
  simp only [ev_var, ev_C, ev_bin, ev_and, ev_or, ev_not, ev_neg, ev_opNeg, ev_tru, ev_truB, ev_B, ev_tAnd, ev_tOr, ev_tNot, ev_if, ev_nil, ev_cons, ev_tup, ev_lst, ev_P0, ev_P1, ev_sl, ev_CB, ev_call, ev_skip, ev_seq, ev_break, ev_cont, ev_drop, ev_ret, ev_retN, ev_ifS, ev_set, ev_asgN, ev_setIx, ev_iter, ev_rng1, ev_for, ev_yes, ev_def, ev_meth0, ev_meth, ev_isI, ev_raise, ev_repl, ev_split1, px_bind, px_safe, px_ok, px_exc, px_bad, px_iteB, px_ite, List.getElem?_cons_zero, List.getElem?_cons_succ, List.set_cons_zero, List.set_cons_succ, List.map_cons, List.map_nil, List.cons_append, List.nil_append, List.length_cons, List.length_nil, Nat.reduceAdd, Nat.reduceSub, List.replicate_succ, List.replicate_zero, if_true, if_false, Bool.false_eq_true, Bool.not_true, Bool.not_false, tupOf (lsAt_lst hP)]
  refine law_paper hr hl hrl s fun h2 s2 => ?_
  have htl := textP_len rows
  exact law_turns (okC_text hr) (by omega) s2 (by omega) fun h3 y3 y4 y6 s3 => law_end s3 (by omega)
theorem big_ok {j : Int} (h0 : 0 ≤ j) (h : j < 10 ^ 18) : okM (.int (10 ^ 30 * j - 1)) = true ∧ (numeral (10 ^ 30 * j - 1)).length ≤ 60 := by
  have h1 : (10 ^ 30 * j - 1).natAbs < 10 ^ 50 := by
    have e : (10 : Int) ^ 30 = 1000000000000000000000000000000 := by decide
    have e2 : (10 : Int) ^ 18 = 1000000000000000000 := by decide
    have e3 : (10 : Nat) ^ 50 = 100000000000000000000000000000000000000000000000000 := by decide
    rw [e, e3]
    rw [e2] at h
    omega
  exact ⟨decide_eq_true (Nat.lt_of_lt_of_le h1 (Nat.pow_le_pow_right (by decide) (by decide))), Nat.le_trans (numeral_len (k := 50) (by decide) h1) (by decide)⟩
theorem P18 : (5 : Int) < 10 ^ 18 := by decide
theorem L18 : ((10 : Int) ^ 18).natAbs.log2 < 9000 := Nat.lt_trans (small_log (k := 60) (by decide) (by decide) (by decide)) (by decide)
theorem law_big {k m P : Nat} {rows : List (List D)} {h : MH} {y3 : Option D} (hr : ∀ r ∈ rows, rowOk r) (hl : wsum rows ≤ 380000) (hrl : rows.length ≤ 50) (s : Src3 m h k) (hm : m ≤ 600000000) (hP : h[P]? = some (.lst (tups rows))) (hPk : P ≠ k) :
    PX (T14_law [some (.ref 0), some (.ref k), some (.ref P), y3, none, none, none, none, none, none, none, none] h) Rt nX := by
  have hSL : SL = 16777216 := rfl
  have b0 : (0 : Nat) ≤ SL := by omega
  have b2 : (2 : Nat) ≤ SL := by omega
  unfold T14_law C2_law
  simp only [ev_var, ev_C, ev_bin, ev_and, ev_or, ev_not, ev_neg, ev_opNeg, ev_tru, ev_truB, ev_B, ev_tAnd, ev_tOr, ev_tNot, ev_if, ev_nil, ev_cons, ev_tup, ev_lst, ev_P0, ev_P1, ev_sl, ev_CB, ev_call, ev_skip, ev_seq, ev_break, ev_cont, ev_drop, ev_ret, ev_retN, ev_ifS, ev_set, ev_asgN, ev_setIx, ev_iter, ev_rng1, ev_for, ev_yes, ev_def, ev_meth0, ev_meth, ev_isI, ev_raise, ev_repl, ev_split1, px_bind, px_safe, px_ok, px_exc, px_bad, px_iteB, px_ite, List.getElem?_cons_zero, List.getElem?_cons_succ, List.set_cons_zero, List.set_cons_succ, List.map_cons, List.map_nil, List.cons_append, List.nil_append, List.length_cons, List.length_nil, Nat.reduceAdd, Nat.reduceSub, List.replicate_succ, List.replicate_zero, if_true, if_false, Bool.false_eq_true, Bool.not_true, Bool.not_false]
  refine (pickN (N := 4) s (by omega) (by decide) (small2 (by decide))).mono (fun d h2 z => ?_) (fun _ _ _ z => z)
  obtain ⟨n, rfl, hn, sd⟩ := z
  have e0 : opEq (.int (n : Int)) (.int 0) h2 = .ok (.bl (decide (n = 0))) h2 := eq_nat (n := 0)
  have hP2 := sd.kt.some hP hPk
  simp only [ev_var, ev_C, ev_bin, ev_and, ev_or, ev_not, ev_neg, ev_opNeg, ev_tru, ev_truB, ev_B, ev_tAnd, ev_tOr, ev_tNot, ev_if, ev_nil, ev_cons, ev_tup, ev_lst, ev_P0, ev_P1, ev_sl, ev_CB, ev_call, ev_skip, ev_seq, ev_break, ev_cont, ev_drop, ev_ret, ev_retN, ev_ifS, ev_set, ev_asgN, ev_setIx, ev_iter, ev_rng1, ev_for, ev_yes, ev_def, ev_meth0, ev_meth, ev_isI, ev_raise, ev_repl, ev_split1, px_bind, px_safe, px_ok, px_exc, px_bad, px_iteB, px_ite, List.getElem?_cons_zero, List.getElem?_cons_succ, List.set_cons_zero, List.set_cons_succ, List.map_cons, List.map_nil, List.cons_append, List.nil_append, List.length_cons, List.length_nil, Nat.reduceAdd, Nat.reduceSub, List.replicate_succ, List.replicate_zero, if_true, if_false, Bool.false_eq_true, Bool.not_true, Bool.not_false, e0]
  by_cases c0 : n = 0
  · have p30 : opPow (.int 10) (.int 30) h2 = .ok (.int ((10 : Int) ^ 30)) h2 := pow_ok (n := 30) (by decide)
    have p18 : opPow (.int 10) (.int 18) h2 = .ok (.int ((10 : Int) ^ 18)) h2 := pow_ok (n := 18) (by decide)
    simp only [decide_eq_true c0, ev_var, ev_C, ev_bin, ev_and, ev_or, ev_not, ev_neg, ev_opNeg, ev_tru, ev_truB, ev_B, ev_tAnd, ev_tOr, ev_tNot, ev_if, ev_nil, ev_cons, ev_tup, ev_lst, ev_P0, ev_P1, ev_sl, ev_CB, ev_call, ev_skip, ev_seq, ev_break, ev_cont, ev_drop, ev_ret, ev_retN, ev_ifS, ev_set, ev_asgN, ev_setIx, ev_iter, ev_rng1, ev_for, ev_yes, ev_def, ev_meth0, ev_meth, ev_isI, ev_raise, ev_repl, ev_split1, px_bind, px_safe, px_ok, px_exc, px_bad, px_iteB, px_ite, List.getElem?_cons_zero, List.getElem?_cons_succ, List.set_cons_zero, List.set_cons_succ, List.map_cons, List.map_nil, List.cons_append, List.nil_append, List.length_cons, List.length_nil, Nat.reduceAdd, Nat.reduceSub, List.replicate_succ, List.replicate_zero, if_true, if_false, Bool.false_eq_true, Bool.not_true, Bool.not_false, ty_list (lsAt_lst hP2), p30, p18]
    refine (number_px sd.src (by omega) P18 L18).mono (fun d h3 z => ?_) (fun _ _ _ z => z)
    obtain ⟨j, rfl, j0, j1, sd3⟩ := z
    have hP3 := sd3.kt.some hP2 hPk
    have hmul : opMul (.int ((10 : Int) ^ 30)) (.int j) h3 = .ok (.int ((10 : Int) ^ 30 * j)) h3 := mul_ok (Nat.lt_trans L30 (by decide)) (Nat.lt_trans (small_log (k := 60) (by decide) j0 (Int.lt_trans j1 (by decide))) (by decide))
    have ln : (tups rows).length < SL := by unfold tups; rw [List.length_map]; omega
    simp only [hmul, ev_var, ev_C, ev_bin, ev_and, ev_or, ev_not, ev_neg, ev_opNeg, ev_tru, ev_truB, ev_B, ev_tAnd, ev_tOr, ev_tNot, ev_if, ev_nil, ev_cons, ev_tup, ev_lst, ev_P0, ev_P1, ev_sl, ev_CB, ev_call, ev_skip, ev_seq, ev_break, ev_cont, ev_drop, ev_ret, ev_retN, ev_ifS, ev_set, ev_asgN, ev_setIx, ev_iter, ev_rng1, ev_for, ev_yes, ev_def, ev_meth0, ev_meth, ev_isI, ev_raise, ev_repl, ev_split1, px_bind, px_safe, px_ok, px_exc, px_bad, px_iteB, px_ite, List.getElem?_cons_zero, List.getElem?_cons_succ, List.set_cons_zero, List.set_cons_succ, List.map_cons, List.map_nil, List.cons_append, List.nil_append, List.length_cons, List.length_nil, Nat.reduceAdd, Nat.reduceSub, List.replicate_succ, List.replicate_zero, if_true, if_false, Bool.false_eq_true, Bool.not_true, Bool.not_false, sub_int, b0, b2, app_ok' hP3 ln]
    rw [tups_snoc]
    obtain ⟨o1, o2⟩ := big_ok j0 j1
    generalize (10 : Int) ^ 30 * j - 1 = w at o1 o2
    have hw : wrs [.int w, .tup []] = numeral w ++ (32 :: (40 :: ([] ++ [41]) ++ [])) := rfl
    have hro : rowOk [.int w, .tup []] := ⟨by simp, by show (okM (.int w) && (true && true)) = true; rw [o1]; rfl, by show max 0 (max (0 + 1) 0) ≤ 11; decide⟩
    refine law_rest (m := m + 1 + 7) (fun r hr' => ?_) ?_ (by rw [List.length_append]; simp only [List.length_cons, List.length_nil]; omega) ?_ (by omega) (set_get hP3)
    · rcases List.mem_append.mp hr' with e | e
      · exact hr r e
      · rw [List.mem_singleton.mp e]; exact hro
    · rw [wsum_app]
      show wsum rows + ((wrs [.int w, .tup []]).length + 1 + 0) ≤ 390000
      rw [hw]
      simp only [List.length_append, List.length_cons, List.length_nil]
      omega
    · exact set_src sd3.src hPk
  · simp only [decide_eq_false c0, ev_var, ev_C, ev_bin, ev_and, ev_or, ev_not, ev_neg, ev_opNeg, ev_tru, ev_truB, ev_B, ev_tAnd, ev_tOr, ev_tNot, ev_if, ev_nil, ev_cons, ev_tup, ev_lst, ev_P0, ev_P1, ev_sl, ev_CB, ev_call, ev_skip, ev_seq, ev_break, ev_cont, ev_drop, ev_ret, ev_retN, ev_ifS, ev_set, ev_asgN, ev_setIx, ev_iter, ev_rng1, ev_for, ev_yes, ev_def, ev_meth0, ev_meth, ev_isI, ev_raise, ev_repl, ev_split1, px_bind, px_safe, px_ok, px_exc, px_bad, px_iteB, px_ite, List.getElem?_cons_zero, List.getElem?_cons_succ, List.set_cons_zero, List.set_cons_succ, List.map_cons, List.map_nil, List.cons_append, List.nil_append, List.length_cons, List.length_nil, Nat.reduceAdd, Nat.reduceSub, List.replicate_succ, List.replicate_zero, if_true, if_false, Bool.false_eq_true, Bool.not_true, Bool.not_false]
    exact law_rest hr (by omega) (by omega) sd.src (by omega) hP2
theorem law_nested {k m P : Nat} {rows : List (List D)} {h : MH} {y3 : Option D} (hr : ∀ r ∈ rows, rowOk r) (hl : wsum rows ≤ 370000) (hrl : rows.length ≤ 40) (s : Src3 m h k) (hm : m ≤ 500000000) (hP : h[P]? = some (.lst (tups rows))) (hPk : P ≠ k) :
    PX (T15_law [some (.ref 0), some (.ref k), some (.ref P), y3, none, none, none, none, none, none, none, none] h) Rt nX := by
  have hSL : SL = 16777216 := rfl
  have b1 : (1 : Nat) ≤ SL := by omega
  unfold T15_law C1_law
  simp only [ev_var, ev_C, ev_bin, ev_and, ev_or, ev_not, ev_neg, ev_opNeg, ev_tru, ev_truB, ev_B, ev_tAnd, ev_tOr, ev_tNot, ev_if, ev_nil, ev_cons, ev_tup, ev_lst, ev_P0, ev_P1, ev_sl, ev_CB, ev_call, ev_skip, ev_seq, ev_break, ev_cont, ev_drop, ev_ret, ev_retN, ev_ifS, ev_set, ev_asgN, ev_setIx, ev_iter, ev_rng1, ev_for, ev_yes, ev_def, ev_meth0, ev_meth, ev_isI, ev_raise, ev_repl, ev_split1, px_bind, px_safe, px_ok, px_exc, px_bad, px_iteB, px_ite, List.getElem?_cons_zero, List.getElem?_cons_succ, List.set_cons_zero, List.set_cons_succ, List.map_cons, List.map_nil, List.cons_append, List.nil_append, List.length_cons, List.length_nil, Nat.reduceAdd, Nat.reduceSub, List.replicate_succ, List.replicate_zero, if_true, if_false, Bool.false_eq_true, Bool.not_true, Bool.not_false]
  refine (pickN (N := 3) s (by omega) (by decide) (small2 (by decide))).mono (fun d h2 z => ?_) (fun _ _ _ z => z)
  obtain ⟨n, rfl, hn, sd⟩ := z
  have e0 : opEq (.int (n : Int)) (.int 0) h2 = .ok (.bl (decide (n = 0))) h2 := eq_nat (n := 0)
  have hP2 := sd.kt.some hP hPk
  simp only [ev_var, ev_C, ev_bin, ev_and, ev_or, ev_not, ev_neg, ev_opNeg, ev_tru, ev_truB, ev_B, ev_tAnd, ev_tOr, ev_tNot, ev_if, ev_nil, ev_cons, ev_tup, ev_lst, ev_P0, ev_P1, ev_sl, ev_CB, ev_call, ev_skip, ev_seq, ev_break, ev_cont, ev_drop, ev_ret, ev_retN, ev_ifS, ev_set, ev_asgN, ev_setIx, ev_iter, ev_rng1, ev_for, ev_yes, ev_def, ev_meth0, ev_meth, ev_isI, ev_raise, ev_repl, ev_split1, px_bind, px_safe, px_ok, px_exc, px_bad, px_iteB, px_ite, List.getElem?_cons_zero, List.getElem?_cons_succ, List.set_cons_zero, List.set_cons_succ, List.map_cons, List.map_nil, List.cons_append, List.nil_append, List.length_cons, List.length_nil, Nat.reduceAdd, Nat.reduceSub, List.replicate_succ, List.replicate_zero, if_true, if_false, Bool.false_eq_true, Bool.not_true, Bool.not_false, e0]
  by_cases c0 : n = 0
  · simp only [decide_eq_true c0, ev_var, ev_C, ev_bin, ev_and, ev_or, ev_not, ev_neg, ev_opNeg, ev_tru, ev_truB, ev_B, ev_tAnd, ev_tOr, ev_tNot, ev_if, ev_nil, ev_cons, ev_tup, ev_lst, ev_P0, ev_P1, ev_sl, ev_CB, ev_call, ev_skip, ev_seq, ev_break, ev_cont, ev_drop, ev_ret, ev_retN, ev_ifS, ev_set, ev_asgN, ev_setIx, ev_iter, ev_rng1, ev_for, ev_yes, ev_def, ev_meth0, ev_meth, ev_isI, ev_raise, ev_repl, ev_split1, px_bind, px_safe, px_ok, px_exc, px_bad, px_iteB, px_ite, List.getElem?_cons_zero, List.getElem?_cons_succ, List.set_cons_zero, List.set_cons_succ, List.map_cons, List.map_nil, List.cons_append, List.nil_append, List.length_cons, List.length_nil, Nat.reduceAdd, Nat.reduceSub, List.replicate_succ, List.replicate_zero, if_true, if_false, Bool.false_eq_true, Bool.not_true, Bool.not_false, ty_list (lsAt_lst hP2)]
    have ec : cstM 0 = 60 := rfl
    refine (member_px 6 0 _ k h2 (by decide) (by decide) sd.src (by omega)).mono (fun d h3 z => ?_) (fun _ _ _ z => z)
    obtain ⟨⟨o1, o2, o3⟩, sd3⟩ := z
    refine (pickN (N := 12) sd3.src (by omega) (by decide) (small2 (by decide))).mono (fun d2 h4 z => ?_) (fun _ _ _ z => z)
    obtain ⟨q, rfl, hq, sd4⟩ := z
    refine (nest_px (n := q) (d := d) (mh := h4) (by omega)).mono (fun d2 h5 z => ?_) (fun _ _ _ z => z)
    obtain ⟨rfl, rfl⟩ := z
    have hP4 := sd4.kt.some (sd3.kt.some hP2 hPk) hPk
    have ln : (tups rows).length < SL := by unfold tups; rw [List.length_map]; omega
    simp only [ev_var, ev_C, ev_bin, ev_and, ev_or, ev_not, ev_neg, ev_opNeg, ev_tru, ev_truB, ev_B, ev_tAnd, ev_tOr, ev_tNot, ev_if, ev_nil, ev_cons, ev_tup, ev_lst, ev_P0, ev_P1, ev_sl, ev_CB, ev_call, ev_skip, ev_seq, ev_break, ev_cont, ev_drop, ev_ret, ev_retN, ev_ifS, ev_set, ev_asgN, ev_setIx, ev_iter, ev_rng1, ev_for, ev_yes, ev_def, ev_meth0, ev_meth, ev_isI, ev_raise, ev_repl, ev_split1, px_bind, px_safe, px_ok, px_exc, px_bad, px_iteB, px_ite, List.getElem?_cons_zero, List.getElem?_cons_succ, List.set_cons_zero, List.set_cons_succ, List.map_cons, List.map_nil, List.cons_append, List.nil_append, List.length_cons, List.length_nil, Nat.reduceAdd, Nat.reduceSub, List.replicate_succ, List.replicate_zero, if_true, if_false, Bool.false_eq_true, Bool.not_true, Bool.not_false, b1, app_ok' hP4 ln]
    rw [tups_snoc]
    have hw : wrs [nestD q d] = wr (nestD q d) ++ [] := rfl
    have hlen := nest_len (d := d) q
    have hdep := nest_dep (d := d) q
    have l0 : lenM 0 = 40 := rfl
    have hro : rowOk [nestD q d] := ⟨by simp, by show (okM (nestD q d) && true) = true; rw [nest_ok o1 q]; rfl, by show max (dep (nestD q d)) 0 ≤ 11; omega⟩
    refine law_big (m := m + 1 + cstM 0 + 1) (fun r hr' => ?_) ?_ (by rw [List.length_append]; simp only [List.length_cons, List.length_nil]; omega) ?_ (by omega) (set_get hP4) hPk
    · rcases List.mem_append.mp hr' with e | e
      · exact hr r e
      · rw [List.mem_singleton.mp e]; exact hro
    · rw [wsum_app]
      show wsum rows + ((wrs [nestD q d]).length + 1 + 0) ≤ 380000
      rw [hw]
      simp only [List.length_append, List.length_nil]
      omega
    · exact set_src sd4.src hPk
  · simp only [decide_eq_false c0, ev_var, ev_C, ev_bin, ev_and, ev_or, ev_not, ev_neg, ev_opNeg, ev_tru, ev_truB, ev_B, ev_tAnd, ev_tOr, ev_tNot, ev_if, ev_nil, ev_cons, ev_tup, ev_lst, ev_P0, ev_P1, ev_sl, ev_CB, ev_call, ev_skip, ev_seq, ev_break, ev_cont, ev_drop, ev_ret, ev_retN, ev_ifS, ev_set, ev_asgN, ev_setIx, ev_iter, ev_rng1, ev_for, ev_yes, ev_def, ev_meth0, ev_meth, ev_isI, ev_raise, ev_repl, ev_split1, px_bind, px_safe, px_ok, px_exc, px_bad, px_iteB, px_ite, List.getElem?_cons_zero, List.getElem?_cons_succ, List.set_cons_zero, List.set_cons_succ, List.map_cons, List.map_nil, List.cons_append, List.nil_append, List.length_cons, List.length_nil, Nat.reduceAdd, Nat.reduceSub, List.replicate_succ, List.replicate_zero, if_true, if_false, Bool.false_eq_true, Bool.not_true, Bool.not_false]
    exact law_big hr (by omega) (by omega) sd.src (by omega) hP2 hPk
theorem plain (ns : List Int) (hn : ns.length ≤ 63) : ∃ mh, F_law [.ref 0] [.fro (ns.map D.int)] = .ok (.bl true) mh := by
  have hSL : SL = 16777216 := rfl
  have b0 : (0 : Nat) ≤ SL := by omega
  have main : PX (F_law [.ref 0] [.fro (ns.map D.int)]) qR nX := by
    unfold F_law B_law
    simp only [ev_var, ev_C, ev_bin, ev_and, ev_or, ev_not, ev_neg, ev_opNeg, ev_tru, ev_truB, ev_B, ev_tAnd, ev_tOr, ev_tNot, ev_if, ev_nil, ev_cons, ev_tup, ev_lst, ev_P0, ev_P1, ev_sl, ev_CB, ev_call, ev_skip, ev_seq, ev_break, ev_cont, ev_drop, ev_ret, ev_retN, ev_ifS, ev_set, ev_asgN, ev_setIx, ev_iter, ev_rng1, ev_for, ev_yes, ev_def, ev_meth0, ev_meth, ev_isI, ev_raise, ev_repl, ev_split1, px_bind, px_safe, px_ok, px_exc, px_bad, px_iteB, px_ite, List.getElem?_cons_zero, List.getElem?_cons_succ, List.set_cons_zero, List.set_cons_succ, List.map_cons, List.map_nil, List.cons_append, List.nil_append, List.length_cons, List.length_nil, Nat.reduceAdd, Nat.reduceSub, List.replicate_succ, List.replicate_zero, if_true, if_false, Bool.false_eq_true, Bool.not_true, Bool.not_false]
    refine (source_px hn).mono (fun d h z => ?_) (fun _ _ _ z => z)
    obtain ⟨k, rfl, hk, s⟩ := z
    unfold T17_law
    simp only [ev_var, ev_C, ev_bin, ev_and, ev_or, ev_not, ev_neg, ev_opNeg, ev_tru, ev_truB, ev_B, ev_tAnd, ev_tOr, ev_tNot, ev_if, ev_nil, ev_cons, ev_tup, ev_lst, ev_P0, ev_P1, ev_sl, ev_CB, ev_call, ev_skip, ev_seq, ev_break, ev_cont, ev_drop, ev_ret, ev_retN, ev_ifS, ev_set, ev_asgN, ev_setIx, ev_iter, ev_rng1, ev_for, ev_yes, ev_def, ev_meth0, ev_meth, ev_isI, ev_raise, ev_repl, ev_split1, px_bind, px_safe, px_ok, px_exc, px_bad, px_iteB, px_ite, List.getElem?_cons_zero, List.getElem?_cons_succ, List.set_cons_zero, List.set_cons_succ, List.map_cons, List.map_nil, List.cons_append, List.nil_append, List.length_cons, List.length_nil, Nat.reduceAdd, Nat.reduceSub, List.replicate_succ, List.replicate_zero, if_true, if_false, Bool.false_eq_true, Bool.not_true, Bool.not_false, b0]
    unfold T16_law
    simp only [ev_var, ev_C, ev_bin, ev_and, ev_or, ev_not, ev_neg, ev_opNeg, ev_tru, ev_truB, ev_B, ev_tAnd, ev_tOr, ev_tNot, ev_if, ev_nil, ev_cons, ev_tup, ev_lst, ev_P0, ev_P1, ev_sl, ev_CB, ev_call, ev_skip, ev_seq, ev_break, ev_cont, ev_drop, ev_ret, ev_retN, ev_ifS, ev_set, ev_asgN, ev_setIx, ev_iter, ev_rng1, ev_for, ev_yes, ev_def, ev_meth0, ev_meth, ev_isI, ev_raise, ev_repl, ev_split1, px_bind, px_safe, px_ok, px_exc, px_bad, px_iteB, px_ite, List.getElem?_cons_zero, List.getElem?_cons_succ, List.set_cons_zero, List.set_cons_succ, List.map_cons, List.map_nil, List.cons_append, List.nil_append, List.length_cons, List.length_nil, Nat.reduceAdd, Nat.reduceSub, List.replicate_succ, List.replicate_zero, if_true, if_false, Bool.false_eq_true, Bool.not_true, Bool.not_false]
    have s1 := s.pre (pre_app h (MO.lst []))
    refine (pickN (N := 7) s1 (by omega) (by decide) (small2 (by decide))).mono (fun d h2 z => ?_) (fun _ _ _ z => z)
    obtain ⟨q, rfl, hq, sd⟩ := z
    have hP2 := sd.kt.some (j := h.length) get_new (by omega)
    simp only [ev_var, ev_C, ev_bin, ev_and, ev_or, ev_not, ev_neg, ev_opNeg, ev_tru, ev_truB, ev_B, ev_tAnd, ev_tOr, ev_tNot, ev_if, ev_nil, ev_cons, ev_tup, ev_lst, ev_P0, ev_P1, ev_sl, ev_CB, ev_call, ev_skip, ev_seq, ev_break, ev_cont, ev_drop, ev_ret, ev_retN, ev_ifS, ev_set, ev_asgN, ev_setIx, ev_iter, ev_rng1, ev_for, ev_yes, ev_def, ev_meth0, ev_meth, ev_isI, ev_raise, ev_repl, ev_split1, px_bind, px_safe, px_ok, px_exc, px_bad, px_iteB, px_ite, List.getElem?_cons_zero, List.getElem?_cons_succ, List.set_cons_zero, List.set_cons_succ, List.map_cons, List.map_nil, List.cons_append, List.nil_append, List.length_cons, List.length_nil, Nat.reduceAdd, Nat.reduceSub, List.replicate_succ, List.replicate_zero, if_true, if_false, Bool.false_eq_true, Bool.not_true, Bool.not_false, inR_nat (n := q) (by omega), Int.toNat_natCast]
    have hPk : h.length ≠ k := by omega
    have tail : ∀ f h', Rt f h' → PX (match f with | .nx _ => Res.ok D.non h' | .rt d => Res.ok d h' | _ => Res.bad) qR nX := fun f h' z => by
      rw [show f = .rt (.bl true) from z]
      exact (rfl : (D.bl true) = .bl true)
    refine loop_px (fun i env h' => Src3 (1 + i * 90000) h' k ∧ ∃ (rows : List (List D)) (y3 : Option D), env = [some (.ref 0), some (.ref k), some (.ref h.length), y3, none, none, none, none, none, none, none, none] ∧ h'[h.length]? = some (.lst (tups rows)) ∧ rows.length = i ∧ (∀ r ∈ rows, rowOk r) ∧ wsum rows ≤ i * 50000) _ _ _ _ ⟨sd.src.mono (by omega), [], none, rfl, hP2, rfl, (fun _ z => by cases z), Nat.le_refl _⟩ ?_ ?_
    · rintro i env h' _ hi ⟨s', rows, y3, rfl, hP', hrl, hr, hw⟩
      refine ⟨_, _, srcR_at (by omega), rfl, ?_⟩
      unfold L1_law
      simp only [ev_var, ev_C, ev_bin, ev_and, ev_or, ev_not, ev_neg, ev_opNeg, ev_tru, ev_truB, ev_B, ev_tAnd, ev_tOr, ev_tNot, ev_if, ev_nil, ev_cons, ev_tup, ev_lst, ev_P0, ev_P1, ev_sl, ev_CB, ev_call, ev_skip, ev_seq, ev_break, ev_cont, ev_drop, ev_ret, ev_retN, ev_ifS, ev_set, ev_asgN, ev_setIx, ev_iter, ev_rng1, ev_for, ev_yes, ev_def, ev_meth0, ev_meth, ev_isI, ev_raise, ev_repl, ev_split1, px_bind, px_safe, px_ok, px_exc, px_bad, px_iteB, px_ite, List.getElem?_cons_zero, List.getElem?_cons_succ, List.set_cons_zero, List.set_cons_succ, List.map_cons, List.map_nil, List.cons_append, List.nil_append, List.length_cons, List.length_nil, Nat.reduceAdd, Nat.reduceSub, List.replicate_succ, List.replicate_zero, if_true, if_false, Bool.false_eq_true, Bool.not_true, Bool.not_false, ty_list (lsAt_lst hP'), ev_comp]
      refine (pickN (N := 4) s' (by omega) (by decide) (small2 (by decide))).mono (fun d h3 z => ?_) (fun _ _ _ z => z)
      obtain ⟨p, rfl, hp, sd3⟩ := z
      have ea : opAdd (.int 1) (.int (p : Int)) h3 = .ok (.int ((1 + p : Nat) : Int)) h3 := add_nat (m := 1)
      simp only [ev_var, ev_C, ev_bin, ev_and, ev_or, ev_not, ev_neg, ev_opNeg, ev_tru, ev_truB, ev_B, ev_tAnd, ev_tOr, ev_tNot, ev_if, ev_nil, ev_cons, ev_tup, ev_lst, ev_P0, ev_P1, ev_sl, ev_CB, ev_call, ev_skip, ev_seq, ev_break, ev_cont, ev_drop, ev_ret, ev_retN, ev_ifS, ev_set, ev_asgN, ev_setIx, ev_iter, ev_rng1, ev_for, ev_yes, ev_def, ev_meth0, ev_meth, ev_isI, ev_raise, ev_repl, ev_split1, px_bind, px_safe, px_ok, px_exc, px_bad, px_iteB, px_ite, List.getElem?_cons_zero, List.getElem?_cons_succ, List.set_cons_zero, List.set_cons_succ, List.map_cons, List.map_nil, List.cons_append, List.nil_append, List.length_cons, List.length_nil, Nat.reduceAdd, Nat.reduceSub, List.replicate_succ, List.replicate_zero, if_true, if_false, Bool.false_eq_true, Bool.not_true, Bool.not_false, ea, inR_nat (n := 1 + p) (by omega), Int.toNat_natCast]
      have hc4 := cst4
      have hl4 := len4
      have hpc : (1 + p) * 20460 ≤ 4 * 20460 := Nat.mul_le_mul_right _ (by omega)
      refine mems_px (c := 20460) (r := 4) (mh := h') (by omega) s'.lt sd3 (by omega) (fun i2 h4 m' s4 hm4 => ⟨_, rfl, ?_⟩) (fun acc h4 sd4 hal ham hacc => ?_)
      · simp only [wipeE, nName, ev_var, ev_C, ev_bin, ev_and, ev_or, ev_not, ev_neg, ev_opNeg, ev_tru, ev_truB, ev_B, ev_tAnd, ev_tOr, ev_tNot, ev_if, ev_nil, ev_cons, ev_tup, ev_lst, ev_P0, ev_P1, ev_sl, ev_CB, ev_call, ev_skip, ev_seq, ev_break, ev_cont, ev_drop, ev_ret, ev_retN, ev_ifS, ev_set, ev_asgN, ev_setIx, ev_iter, ev_rng1, ev_for, ev_yes, ev_def, ev_meth0, ev_meth, ev_isI, ev_raise, ev_repl, ev_split1, px_bind, px_safe, px_ok, px_exc, px_bad, px_iteB, px_ite, List.getElem?_cons_zero, List.getElem?_cons_succ, List.set_cons_zero, List.set_cons_succ, List.map_cons, List.map_nil, List.cons_append, List.nil_append, List.length_cons, List.length_nil, Nat.reduceAdd, Nat.reduceSub, List.replicate_succ, List.replicate_zero, if_true, if_false, Bool.false_eq_true, Bool.not_true, Bool.not_false]
        refine (member_px 6 4 m' k h4 (by decide) (by decide) s4 (by rw [hc4]; exact hm4)).mono (fun d h5 z => ?_) (fun _ _ _ z => z)
        rw [hc4] at z
        exact z
      · have hP4 := sd4.kt.some hP' hPk
        have ln : (tups rows).length < SL := by unfold tups; rw [List.length_map]; omega
        simp only [ev_var, ev_C, ev_bin, ev_and, ev_or, ev_not, ev_neg, ev_opNeg, ev_tru, ev_truB, ev_B, ev_tAnd, ev_tOr, ev_tNot, ev_if, ev_nil, ev_cons, ev_tup, ev_lst, ev_P0, ev_P1, ev_sl, ev_CB, ev_call, ev_skip, ev_seq, ev_break, ev_cont, ev_drop, ev_ret, ev_retN, ev_ifS, ev_set, ev_asgN, ev_setIx, ev_iter, ev_rng1, ev_for, ev_yes, ev_def, ev_meth0, ev_meth, ev_isI, ev_raise, ev_repl, ev_split1, px_bind, px_safe, px_ok, px_exc, px_bad, px_iteB, px_ite, List.getElem?_cons_zero, List.getElem?_cons_succ, List.set_cons_zero, List.set_cons_succ, List.map_cons, List.map_nil, List.cons_append, List.nil_append, List.length_cons, List.length_nil, Nat.reduceAdd, Nat.reduceSub, List.replicate_succ, List.replicate_zero, if_true, if_false, Bool.false_eq_true, Bool.not_true, Bool.not_false, tupOf hacc, app_ok' hP4 ln]
        rw [tups_snoc]
        have hlen := wrs_len (L := 10750) fun d hd => by have := (ham d hd).2.2; rw [hl4] at this; exact this
        have hal4 : acc.length * (10750 + 1) ≤ 4 * (10750 + 1) := Nat.mul_le_mul_right _ (by omega)
        have hdp := deps_of (n := 4) fun d hd => (ham d hd).2.1
        have hro : rowOk acc := ⟨fun e => by rw [e] at hal; simp at hal; omega, okMs_of fun d hd => (ham d hd).1, by omega⟩
        refine ⟨(set_src sd4.src hPk).mono (by omega), rows ++ [acc], _, rfl, set_get hP4, by rw [List.length_append]; simp [hrl], ?_, ?_⟩
        · intro r hr'
          rcases List.mem_append.mp hr' with e | e
          · exact hr r e
          · rw [List.mem_singleton.mp e]; exact hro
        · rw [wsum_app]
          show wsum rows + ((wrs acc).length + 1 + 0) ≤ (i + 1) * 50000
          omega
    · rintro env h' ⟨s', rows, y3, rfl, hP', hrl, hr, hw⟩
      rw [Nat.zero_add] at *
      refine ⟨srcR_end, ?_⟩
      have hq6 : q * 50000 ≤ 6 * 50000 := Nat.mul_le_mul_right _ (by omega)
      exact (law_nested hr (by omega) (by omega) s' (by omega) hP' hPk).mono tail (fun _ _ _ z => z)
  obtain ⟨d, mh, e, rfl⟩ := main.ex
  exact ⟨mh, e⟩
end K66

set_option Elab.async false
set_option linter.all false
set_option maxRecDepth 100000
set_option maxHeartbeats 4000000
/-! the defs keep their mirrors' promises (printed by gen.py) -/
namespace K66
open PySem PySem.Spec PyProof.Rows L2 Mi
def top (i : Nat) : Stmt := PySem.Challenge.pw_tellsasleep_k66_papers_as_text.main.body.getD i (.Pass ⟨0, 0, 0, 0⟩)
theorem hu65 {k : Nat} {A : Around} (hr : Room k A) : A.units + 65 < cLine := by have := hr.un; omega
theorem CwSw {elt : Expr} {gs : List Comprehension} {scope : Scope} {pos py : Pos} {y : Str} {l : Nat} {env : PySem.Env} (hk : env.scope.kind = .function) (hy : env.scope.names.lookup y = some .local) (hl : (py.line == pos.line) = true)
    (ha : (scope.names.any fun (n, k) => n == y && (k == .local || k == .cell)) = false) : swapsWith (.ListComp elt gs scope pos) (some (.Name y py)) l env = pure true := sw_true hk hy hl ha
structure Tx (P : Program) (w : World) (g : Gi) (mg : Str → Option Value) (base : Heap) : Prop where
  dig : DigOk g.K
  b_all : mg "all" = none
  b_bool : mg "bool" = none
  b_dict : mg "dict" = none
  b_int : mg "int" = none
  b_isinstance : mg "isinstance" = none
  b_len : mg "len" = none
  b_list : mg "list" = none
  b_min : mg "min" = none
  b_range : mg "range" = none
  b_str : mg "str" = none
  b_tuple : mg "tuple" = none
  b_zip : mg "zip" = none
  g_SMALL : ∃ u, mg "SMALL" = some u ∧ RelV (.str "abcdefghijklmnopqrstuvwxyz") u
  g_FIGURES : ∃ u, mg "FIGURES" = some u ∧ RelV (.str "0123456789") u
  e_BadLetter : ErrC P w g.K mg base "BadLetter" (g.ex 0) "line" 1
  f_member_text : ∃ f fd, Fun g.K "member_text" "member_text" (top 7) f fd ∧ mg "member_text" = some (.ref f)
  f_paper_text : ∃ f fd, Fun g.K "paper_text" "paper_text" (top 6) f fd ∧ mg "paper_text" = some (.ref f)
  f_is_word : ∃ f fd, Fun g.K "is_word" "is_word" (top 8) f fd ∧ mg "is_word" = some (.ref f)
  f_is_number : ∃ f fd, Fun g.K "is_number" "is_number" (top 9) f fd ∧ mg "is_number" = some (.ref f)
  f_line_of : ∃ f fd, Fun g.K "line_of" "line_of" (top 11) f fd ∧ mg "line_of" = some (.ref f)
  f_line_tokens : ∃ f fd, Fun g.K "line_tokens" "line_tokens" (top 10) f fd ∧ mg "line_tokens" = some (.ref f)
  f_read_word : ∃ f fd, Fun g.K "read_word" "read_word" (top 13) f fd ∧ mg "read_word" = some (.ref f)
  f_read_line : ∃ f fd, Fun g.K "read_line" "read_line" (top 12) f fd ∧ mg "read_line" = some (.ref f)
  f_paper_from : ∃ f fd, Fun g.K "paper_from" "paper_from" (top 14) f fd ∧ mg "paper_from" = some (.ref f)
  f_law_source : ∃ f fd, Fun g.K "_law_source" "_law_source" (top 16) f fd ∧ mg "_law_source" = some (.ref f)
  f_law_pick : ∃ f fd, Fun g.K "_law_pick" "_law_pick" (top 17) f fd ∧ mg "_law_pick" = some (.ref f)
  f_law_number : ∃ f fd, Fun g.K "_law_number" "_law_number" (top 18) f fd ∧ mg "_law_number" = some (.ref f)
  f_law_shuffled : ∃ f fd, Fun g.K "_law_shuffled" "_law_shuffled" (top 19) f fd ∧ mg "_law_shuffled" = some (.ref f)
  f_law_grammar : ∃ f fd, Fun g.K "_law_grammar" "_law_grammar" (top 20) f fd ∧ mg "_law_grammar" = some (.ref f)
  f_law_words : ∃ f fd, Fun g.K "_law_words" "_law_words" (top 21) f fd ∧ mg "_law_words" = some (.ref f)
  f_law_same : ∃ f fd, Fun g.K "_law_same" "_law_same" (top 22) f fd ∧ mg "_law_same" = some (.ref f)
  f_law_member : ∃ f fd, Fun g.K "_law_member" "_law_member" (top 23) f fd ∧ mg "_law_member" = some (.ref f)
  f_law_nest : ∃ f fd, Fun g.K "_law_nest" "_law_nest" (top 24) f fd ∧ mg "_law_nest" = some (.ref f)
  f_law_written : ∃ f fd, Fun g.K "_law_written" "_law_written" (top 25) f fd ∧ mg "_law_written" = some (.ref f)
  f_law_word : ∃ f fd, Fun g.K "_law_word" "_law_word" (top 26) f fd ∧ mg "_law_word" = some (.ref f)
  f_law_line : ∃ f fd, Fun g.K "_law_line" "_law_line" (top 27) f fd ∧ mg "_law_line" = some (.ref f)
  f_law_read : ∃ f fd, Fun g.K "_law_read" "_law_read" (top 28) f fd ∧ mg "_law_read" = some (.ref f)
  f_law_told : ∃ f fd, Fun g.K "_law_told" "_law_told" (top 29) f fd ∧ mg "_law_told" = some (.ref f)
  f_law_spoilt : ∃ f fd, Fun g.K "_law_spoilt" "_law_spoilt" (top 30) f fd ∧ mg "_law_spoilt" = some (.ref f)
  f_law : ∃ f fd, Fun g.K "law" "law" (top 31) f fd ∧ mg "law" = some (.ref f)
section
variable {P : Program} {w : World} {g : Gi} {mg : Str → Option Value} {base : Heap}
abbrev s_member_text : Stmt := top 7
theorem sc_member_text : FnScope N_member_text ["member"] (defScope s_member_text) := ⟨rfl, rfl, rfl, by decide +kernel, rfl, by decide +kernel, by decide +kernel⟩
theorem c_member_text (T : Tx P w g mg base) : ∀ n : Nat, Callee P w g mg base "member_text" (1 + n) 1 (F_member_text n)
  | 0 => by
    obtain ⟨f, fd, F, hm⟩ := T.f_member_text
    exact def_ok (k := 0) F sc_member_text hm (fun _ _ _ _ _ _ us hl => match us, hl with | [_], _ => rfl) (fun cdv A outer s H E hr => ssm_bad)
  | n + 1 => by
    obtain ⟨f, fd, F, hm⟩ := T.f_member_text
    have ih := c_member_text T n
    refine def_ok (k := 1 + n) F sc_member_text hm (fun _ _ _ _ _ _ us hl => match us, hl with | [_], _ => rfl) (fun cdv A outer s H E hrR => ?_)
    have nd := sc_member_text.nd
    have hr := hrR.mono (show 0 ≤ 1 + n from by omega)
    exact ssm_cons (sm_if (pt_cmpM om_is (pm_var 0) (pm_non)) (ssm_one (sm_ret (pm_str))) (ssm_nil)) (
    ssm_cons (sm_if (pt_tru (pm_isI (T := "tuple") (Ts := "tuple") (by decide +kernel) rfl T.b_isinstance rfl T.b_tuple (by decide +kernel) (pm_var 0))) (ssm_one (sm_ret (pm_bin om_add (pm_bin om_add (pm_str) (pm_bm PySem.F.plainAttrs_str PySem.F.slot_str_join PySem.F.type_str_join mm_join (pm_str) (pam_cons (pm_lc (own := [("one", 1)]) rfl nd (im_iter (pm_var 0)) (blkOk_by (N := N_member_text) (sc := defScope s_member_text) (by decide +kernel)) (fun _ _ _ _ _ => gm_name nd rfl (Or.inl rfl)) (fun _ _ _ _ _ => ptsm_nil) (fun _ _ _ _ _ => pm_call ih hrR rfl passL (pam_cons (pm_var 1) (pam_nil)) (mCons_len (mNil_len)))) (pam_nil)))) (pm_str)))) (ssm_nil)) (
    ssm_one (sm_ret (pm_callTy (cm_strL rfl T.dig) rfl T.b_str (by decide +kernel) (pam_cons (pm_var 0) (pam_nil))))))
abbrev s_paper_text : Stmt := top 6
theorem sc_paper_text : FnScope N_paper_text ["paper"] (defScope s_paper_text) := ⟨rfl, rfl, rfl, by decide +kernel, rfl, by decide +kernel, by decide +kernel⟩
theorem c_paper_text (T : Tx P w g mg base) : Callee P w g mg base "paper_text" 22 1 F_paper_text := by
  obtain ⟨f, fd, F, hm⟩ := T.f_paper_text
  refine def_ok (k := 21) F sc_paper_text hm (fun _ _ _ _ _ _ us hl => match us, hl with | [_], _ => rfl) (fun cdv A outer s H E hr => ?_)
  have nd := sc_paper_text.nd
  exact ssm_one (sm_ret (pm_bm PySem.F.plainAttrs_str PySem.F.slot_str_join PySem.F.type_str_join mm_join (pm_str) (pam_cons (pm_lc (own := [("row", 1)]) rfl nd (im_iter (pm_var 0)) (blkOk_by (N := N_paper_text) (sc := defScope s_paper_text) (by decide +kernel)) (fun _ _ _ _ _ => gm_name nd rfl (Or.inl rfl)) (fun _ _ _ _ _ => ptsm_nil) (fun _ _ _ _ _ => pm_bm PySem.F.plainAttrs_str PySem.F.slot_str_join PySem.F.type_str_join mm_join (pm_str) (pam_cons (pm_lc (own := [("one", 2)]) rfl nd (im_iter (pm_var 1)) (blkOk_by rfl) (fun _ _ _ _ _ => gm_name nd rfl (Or.inl rfl)) (fun _ _ _ _ _ => ptsm_nil) (fun _ _ _ _ _ => pm_call (c_member_text T 20) (hr.mono (by decide)) rfl passL (pam_cons (pm_var 2) (pam_nil)) (mCons_len (mNil_len)))) (pam_nil)))) (pam_nil))))
abbrev s_is_word : Stmt := top 8
theorem sc_is_word : FnScope N_is_word ["word"] (defScope s_is_word) := ⟨rfl, rfl, rfl, by decide +kernel, rfl, by decide +kernel, by decide +kernel⟩
theorem c_is_word (T : Tx P w g mg base) : Callee P w g mg base "is_word" 1 1 F_is_word := by
  obtain ⟨f, fd, F, hm⟩ := T.f_is_word
  refine def_ok (k := 0) F sc_is_word hm (fun _ _ _ _ _ _ us hl => match us, hl with | [_], _ => rfl) (fun cdv A outer s H E hr => ?_)
  have nd := sc_is_word.nd
  exact ssm_one (sm_ret (pm_and (pm_cmp (om_in (hu65 hr)) (pm_ix (pm_var 0) (pm_int)) (pm_gstr rfl T.g_SMALL.choose_spec.1 T.g_SMALL.choose_spec.2)) (pm_one (pm_callB (cm_all rfl) rfl T.b_all (by decide +kernel) (pam_cons (pm_lc (own := [("sign", 1)]) rfl nd (im_iter (pm_var 0)) (blkOk_by (N := N_is_word) (sc := defScope s_is_word) (by decide +kernel)) (fun _ _ _ _ _ => gm_name nd rfl (Or.inl rfl)) (fun _ _ _ _ _ => ptsm_nil) (fun _ _ _ _ _ => pm_cmp (om_in (hu65 hr)) (pm_var 1) (pm_bin om_add (pm_gstr rfl T.g_SMALL.choose_spec.1 T.g_SMALL.choose_spec.2) (pm_gstr rfl T.g_FIGURES.choose_spec.1 T.g_FIGURES.choose_spec.2)))) (pam_nil))))))
abbrev s_is_number : Stmt := top 9
theorem sc_is_number : FnScope N_is_number ["word"] (defScope s_is_number) := ⟨rfl, rfl, rfl, by decide +kernel, rfl, by decide +kernel, by decide +kernel⟩
theorem c_is_number (T : Tx P w g mg base) : Callee P w g mg base "is_number" 1 1 F_is_number := by
  obtain ⟨f, fd, F, hm⟩ := T.f_is_number
  refine def_ok (k := 0) F sc_is_number hm (fun _ _ _ _ _ _ us hl => match us, hl with | [_], _ => rfl) (fun cdv A outer s H E hr => ?_)
  have nd := sc_is_number.nd
  exact ssm_cons (sm_set (i := 1) nd rfl (Or.inl rfl) (pm_if (pt_cmpM (om_eq hr.units) (pm_ix (pm_var 0) (pm_int)) (pm_str)) (pm_sl (pm_var 0) (pom_some (pm_int)) (pom_none)) (pm_var 0))) (
    ssm_cons (sm_if (PW.pt (pwm_or (pt_cmpM (om_eq hr.units) (pm_var 1) (pm_str)) (pwm_or (pt_cmpM om_gt (pm_callB cm_len rfl T.b_len (by decide +kernel) (pam_cons (pm_var 1) (pam_nil))) (pm_int)) (pwm_or1 (ptm_not (pt_tru (pm_callB (cm_all rfl) rfl T.b_all (by decide +kernel) (pam_cons (pm_lc (own := [("sign", 2)]) rfl nd (im_iter (pm_var 1)) (blkOk_by (N := N_is_number) (sc := defScope s_is_number) (by decide +kernel)) (fun _ _ _ _ _ => gm_name nd rfl (Or.inl rfl)) (fun _ _ _ _ _ => ptsm_nil) (fun _ _ _ _ _ => pm_cmp (om_in (hu65 hr)) (pm_var 2) (pm_gstr rfl T.g_FIGURES.choose_spec.1 T.g_FIGURES.choose_spec.2))) (pam_nil))))))))) (ssm_one (sm_ret (pm_bl))) (ssm_nil)) (
    ssm_one (sm_ret (pm_or (pm_cmp (om_ne hr.units) (pm_ix (pm_var 1) (pm_int)) (pm_str)) (pm_one (pm_cmp (om_eq hr.units) (pm_var 0) (pm_str)))))))
abbrev s_line_of : Stmt := top 11
theorem sc_line_of : FnScope N_line_of ["tokens"] (defScope s_line_of) := ⟨rfl, rfl, rfl, by decide +kernel, rfl, by decide +kernel, by decide +kernel⟩
theorem c_line_of (T : Tx P w g mg base) : Callee P w g mg base "line_of" 1 1 F_line_of := by
  obtain ⟨f, fd, F, hm⟩ := T.f_line_of
  refine def_ok (k := 0) F sc_line_of hm (fun _ _ _ _ _ _ us hl => match us, hl with | [_], _ => rfl) (fun cdv A outer s H E hr => ?_)
  have nd := sc_line_of.nd
  exact ssm_cons (sm_set (i := 1) nd rfl (Or.inl rfl) (pm_str)) (
    ssm_cons (sm_for (vs := [2]) (passes_of rfl) rfl (im_range1 rfl T.b_range (pam_cons (pm_callB cm_len rfl T.b_len (by decide +kernel) (pam_cons (pm_var 0) (pam_nil))) (pam_nil))) (gm_name nd rfl (Or.inl rfl)) (ssm_cons (sm_if (PW.pt (pwm_and (pt_cmpM om_gt (pm_var 2) (pm_int)) (pwm_and (pt_cmpM (om_ne hr.units) (pm_ix (pm_var 0) (pm_var 2)) (pm_str)) (pwm_and1 (pt_cmpM (om_ne hr.units) (pm_ix (pm_var 0) (pm_bin om_sub (pm_var 2) (pm_int))) (pm_str)))))) (ssm_one (sm_set (i := 1) nd rfl (Or.inl rfl) (pm_bin om_add (pm_var 1) (pm_str)))) (ssm_nil)) (
    ssm_one (sm_set (i := 1) nd rfl (Or.inl rfl) (pm_bin om_add (pm_var 1) (pm_ix (pm_var 0) (pm_var 2))))))) (
    ssm_one (sm_ret (pm_var 1))))
abbrev s_line_tokens : Stmt := top 10
theorem sc_line_tokens : FnScope N_line_tokens ["line"] (defScope s_line_tokens) := ⟨rfl, rfl, rfl, by decide +kernel, rfl, by decide +kernel, by decide +kernel⟩
theorem c_line_tokens (T : Tx P w g mg base) : Callee P w g mg base "line_tokens" 2 1 F_line_tokens := by
  obtain ⟨f, fd, F, hm⟩ := T.f_line_tokens
  refine def_ok (k := 1) F sc_line_tokens hm (fun _ _ _ _ _ _ us hl => match us, hl with | [_], _ => rfl) (fun cdv A outer s H E hr => ?_)
  have nd := sc_line_tokens.nd
  exact ssm_cons (sm_set (i := 1) nd rfl (Or.inl rfl) (pm_lst (pam_nil))) (
    ssm_cons (sm_set (i := 2) nd rfl (Or.inl rfl) (pm_str)) (
    ssm_cons (sm_for (vs := [3]) (passes_of rfl) rfl (im_range1 rfl T.b_range (pam_cons (pm_callB cm_len rfl T.b_len (by decide +kernel) (pam_cons (pm_var 0) (pam_nil))) (pam_nil))) (gm_name nd rfl (Or.inl rfl)) (ssm_cons (sm_set (i := 4) nd rfl (Or.inl rfl) (pm_ix (pm_var 0) (pm_var 3))) (
    ssm_cons (sm_if (pt_cmpM (om_nin (hu65 hr)) (pm_var 4) (pm_str)) (ssm_cons (sm_set (i := 2) nd rfl (Or.inl rfl) (pm_bin om_add (pm_var 2) (pm_var 4))) (
    ssm_one (sm_cont))) (ssm_nil)) (
    ssm_cons (sm_if (pt_cmpM (om_ne hr.units) (pm_var 2) (pm_str)) (ssm_cons (sm_expr (pm_bm PySem.F.plainAttrs_list PySem.F.slot_list_append PySem.F.type_list_append mm_append (pm_var 1) (pam_cons (pm_var 2) (pam_nil)))) (
    ssm_one (sm_set (i := 2) nd rfl (Or.inl rfl) (pm_str)))) (ssm_nil)) (
    ssm_one (sm_if (pt_cmpM (om_ne hr.units) (pm_var 4) (pm_str)) (ssm_one (sm_expr (pm_bm PySem.F.plainAttrs_list PySem.F.slot_list_append PySem.F.type_list_append mm_append (pm_var 1) (pam_cons (pm_var 4) (pam_nil))))) (ssm_nil))))))) (
    ssm_cons (sm_if (pt_cmpM (om_ne hr.units) (pm_var 2) (pm_str)) (ssm_one (sm_expr (pm_bm PySem.F.plainAttrs_list PySem.F.slot_list_append PySem.F.type_list_append mm_append (pm_var 1) (pam_cons (pm_var 2) (pam_nil))))) (ssm_nil)) (
    ssm_one (sm_ret (pm_if (pt_cmpM (om_eq hr.units) (pm_call (c_line_of T) (hr.mono (by decide)) rfl (passes_call (takes_of rfl rfl rfl rfl) (fun _ _ _ _ h => h)) (pam_cons (pm_var 1) (pam_nil)) (mCons_len (mNil_len))) (pm_var 0)) (pm_var 1) (pm_non)))))))
abbrev s_read_word : Stmt := top 13
theorem sc_read_word : FnScope N_read_word ["word", "number"] (defScope s_read_word) := ⟨rfl, rfl, rfl, by decide +kernel, rfl, by decide +kernel, by decide +kernel⟩
theorem c_read_word (T : Tx P w g mg base) : Callee P w g mg base "read_word" 3 2 F_read_word := by
  obtain ⟨f, fd, F, hm⟩ := T.f_read_word
  refine def_ok (k := 2) F sc_read_word hm (fun _ _ _ _ _ _ us hl => match us, hl with | [_, _], _ => rfl) (fun cdv A outer s H E hr => ?_)
  have nd := sc_read_word.nd
  exact ssm_cons (sm_if (pt_cmpM (om_eq hr.units) (pm_var 0) (pm_str)) (ssm_one (sm_ret (pm_non))) (ssm_nil)) (
    ssm_cons (sm_if (pt_tru (pm_call (c_is_number T) (hr.mono (by decide)) rfl (passes_call (takes_of rfl rfl rfl rfl) (fun _ _ _ _ h => h)) (pam_cons (pm_var 0) (pam_nil)) (mCons_len (mNil_len)))) (ssm_one (sm_ret (pm_callTy (cm_int T.dig) rfl T.b_int (by decide +kernel) (pam_cons (pm_var 0) (pam_nil))))) (ssm_nil)) (
    ssm_cons (sm_if (pt_tru (pm_call (c_is_word T) (hr.mono (by decide)) rfl (passes_call (takes_of rfl rfl rfl rfl) (fun _ _ _ _ h => h)) (pam_cons (pm_var 0) (pam_nil)) (mCons_len (mNil_len)))) (ssm_one (sm_ret (pm_var 0))) (ssm_nil)) (
    ssm_one (sm_raise (c := 0) T.e_BadLetter rfl (takes_of rfl rfl rfl rfl) (hr.mono (by decide)) rfl (pm_var 1)))))
abbrev s_read_line : Stmt := top 12
theorem sc_read_line : FnScope N_read_line ["line", "number"] (defScope s_read_line) := ⟨rfl, rfl, rfl, by decide +kernel, rfl, by decide +kernel, by decide +kernel⟩
theorem c_read_line (T : Tx P w g mg base) : Callee P w g mg base "read_line" 4 2 F_read_line := by
  obtain ⟨f, fd, F, hm⟩ := T.f_read_line
  refine def_ok (k := 3) F sc_read_line hm (fun _ _ _ _ _ _ us hl => match us, hl with | [_, _], _ => rfl) (fun cdv A outer s H E hr => ?_)
  have nd := sc_read_line.nd
  exact ssm_cons (sm_set (i := 2) nd rfl (Or.inl rfl) (pm_call (c_line_tokens T) (hr.mono (by decide)) rfl (passes_call (takes_of rfl rfl rfl rfl) (fun _ _ _ _ h => h)) (pam_cons (pm_var 0) (pam_nil)) (mCons_len (mNil_len)))) (
    ssm_cons (sm_if (PW.pt (pwm_or (pt_cmpM om_is (pm_var 2) (pm_non)) (pwm_or1 (pt_cmpM (om_eq hr.units) (pm_callB cm_len rfl T.b_len (by decide +kernel) (pam_cons (pm_var 2) (pam_nil))) (pm_int))))) (ssm_one (sm_raise (c := 0) T.e_BadLetter rfl (takes_of rfl rfl rfl rfl) (hr.mono (by decide)) rfl (pm_var 1))) (ssm_nil)) (
    ssm_cons (sm_set (i := 3) nd rfl (Or.inl rfl) (pm_lst (pam_cons (pm_lst (pam_nil)) (pam_nil)))) (
    ssm_cons (sm_for (vs := [4]) (passes_of rfl) rfl (im_iter (pm_var 2)) (gm_name nd rfl (Or.inl rfl)) (ssm_one (sm_if (pt_cmpM (om_eq hr.units) (pm_var 4) (pm_str)) (ssm_cons (sm_if (pt_cmpM (om_eq hr.units) (pm_callB cm_len rfl T.b_len (by decide +kernel) (pam_cons (pm_var 3) (pam_nil))) (pm_int)) (ssm_one (sm_raise (c := 0) T.e_BadLetter rfl (takes_of rfl rfl rfl rfl) (hr.mono (by decide)) rfl (pm_var 1))) (ssm_nil)) (
    ssm_one (sm_expr (pm_bm PySem.F.plainAttrs_list PySem.F.slot_list_append PySem.F.type_list_append mm_append (pm_var 3) (pam_cons (pm_lst (pam_nil)) (pam_nil)))))) (ssm_one (sm_if (pt_cmpM (om_eq hr.units) (pm_var 4) (pm_str)) (ssm_cons (sm_if (pt_cmpM (om_eq hr.units) (pm_callB cm_len rfl T.b_len (by decide +kernel) (pam_cons (pm_var 3) (pam_nil))) (pm_int)) (ssm_one (sm_raise (c := 0) T.e_BadLetter rfl (takes_of rfl rfl rfl rfl) (hr.mono (by decide)) rfl (pm_var 1))) (ssm_nil)) (
    ssm_cons (sm_set (i := 5) nd rfl (Or.inl rfl) (pm_callTy cm_tuple rfl T.b_tuple (by decide +kernel) (pam_cons (pm_bm0 PySem.F.plainAttrs_list PySem.F.slot_list_pop PySem.F.type_list_pop mm_pop (pm_var 3)) (pam_nil)))) (
    ssm_one (sm_expr (pm_bm PySem.F.plainAttrs_list PySem.F.slot_list_append PySem.F.type_list_append mm_append (pm_ix (pm_var 3) (pm_neg (pm_int))) (pam_cons (pm_var 5) (pam_nil))))))) (ssm_one (sm_expr (pm_bm PySem.F.plainAttrs_list PySem.F.slot_list_append PySem.F.type_list_append mm_append (pm_ix (pm_var 3) (pm_neg (pm_int))) (pam_cons (pm_call (c_read_word T) (hr.mono (by decide)) rfl (passes_call (takes_of rfl rfl rfl rfl) (fun _ _ _ _ h => h)) (pam_cons (pm_var 4) (pam_cons (pm_var 1) (pam_nil))) (mCons_len (mCons_len (mNil_len)))) (pam_nil)))))))))) (
    ssm_cons (sm_if (pt_cmpM om_gt (pm_callB cm_len rfl T.b_len (by decide +kernel) (pam_cons (pm_var 3) (pam_nil))) (pm_int)) (ssm_one (sm_raise (c := 0) T.e_BadLetter rfl (takes_of rfl rfl rfl rfl) (hr.mono (by decide)) rfl (pm_var 1))) (ssm_nil)) (
    ssm_one (sm_ret (pm_callTy cm_tuple rfl T.b_tuple (by decide +kernel) (pam_cons (pm_ix (pm_var 3) (pm_int)) (pam_nil)))))))))
abbrev s_paper_from : Stmt := top 14
theorem sc_paper_from : FnScope N_paper_from ["text"] (defScope s_paper_from) := ⟨rfl, rfl, rfl, by decide +kernel, rfl, by decide +kernel, by decide +kernel⟩
theorem c_paper_from (T : Tx P w g mg base) : Callee P w g mg base "paper_from" 5 1 F_paper_from := by
  obtain ⟨f, fd, F, hm⟩ := T.f_paper_from
  refine def_ok (k := 4) F sc_paper_from hm (fun _ _ _ _ _ _ us hl => match us, hl with | [_], _ => rfl) (fun cdv A outer s H E hr => ?_)
  have nd := sc_paper_from.nd
  exact ssm_cons (sm_if (pt_cmpM (om_eq hr.units) (pm_var 0) (pm_str)) (ssm_one (sm_ret (pm_tup (pam_nil)))) (ssm_nil)) (
    ssm_cons (sm_set (i := 1) nd rfl (Or.inr rfl) (pm_bm PySem.F.plainAttrs_str PySem.F.slot_str_split PySem.F.type_str_split mm_split (pm_var 0) (pam_cons (pm_str) (pam_nil)))) (
    ssm_one (sm_ret (pm_callTy cm_tuple rfl T.b_tuple (by decide +kernel) (pam_cons (pm_lcX (own := [("at", 2)]) rfl rfl (takes_of rfl rfl rfl rfl) rfl nd (im_range1 rfl T.b_range (pam_cons (pm_callB cm_len rfl T.b_len (by decide +kernel) (pam_cons (pm_var 1) (pam_nil))) (pam_nil))) (blkOk_by (N := N_paper_from) (sc := defScope s_paper_from) (by decide +kernel)) (fun _ _ _ _ _ => gm_name nd rfl (Or.inl rfl)) (fun _ _ _ _ _ => ptsm_nil) (fun _ _ _ _ _ _ hX => pm_call (c_read_line T) (hr.mono (by decide)) rfl hX (pam_cons (pm_ix (pm_var 1) (pm_var 2)) (pam_cons (pm_bin om_add (pm_var 2) (pm_int)) (pam_nil))) (mCons_len (mCons_len (mNil_len))))) pam_nil)))))
abbrev s_law_source : Stmt := top 16
theorem sc_law_source : FnScope N_law_source ["script", "at"] (defScope s_law_source) := ⟨rfl, rfl, rfl, by decide +kernel, rfl, by decide +kernel, by decide +kernel⟩
theorem c_law_source (T : Tx P w g mg base) : Callee P w g mg base "_law_source" 1 2 F_law_source := by
  obtain ⟨f, fd, F, hm⟩ := T.f_law_source
  refine def_ok (k := 0) F sc_law_source hm (fun _ _ _ _ _ _ us hl => match us, hl with | [_, _], _ => rfl) (fun cdv A outer s H E hr => ?_)
  have nd := sc_law_source.nd
  exact ssm_cons (sm_set (i := 2) nd rfl (Or.inr rfl) (pm_bin om_mul (pm_bin om_mul (pm_bin om_mul (pm_bin om_mul (pm_bin om_mul (pm_bin om_pow (pm_int) (pm_int)) (pm_bin om_pow (pm_int) (pm_int))) (pm_bin om_pow (pm_int) (pm_int))) (pm_bin om_pow (pm_int) (pm_int))) (pm_bin om_pow (pm_int) (pm_int))) (pm_bin om_pow (pm_int) (pm_int)))) (
    ssm_cons (sm_setLc (i := 3) (own := [("cell", 5)]) rfl nd rfl rfl (CwSw rfl rfl rfl (by decide +kernel)) (im_iter (pm_sl (pm_var 0) (pom_none) (pom_some (pm_int)))) (blkOk_by (N := N_law_source) (sc := defScope s_law_source) (by decide +kernel)) (fun _ _ _ _ _ => gm_name nd rfl (Or.inl rfl)) (fun _ _ _ _ _ => ptsm_nil) (fun _ _ _ _ _ => pm_bin om_mod (pm_callTy (cm_int T.dig) rfl T.b_int (by decide +kernel) (pam_cons (pm_var 5) (pam_nil))) (pm_var 2))) (
    ssm_cons (sm_set (i := 4) nd rfl (Or.inl rfl) (pm_bin om_add (pm_int) (pm_bin om_mul (pm_var 1) (pm_int)))) (
    ssm_cons (sm_for (vs := [5]) (passes_of rfl) rfl (im_iter (pm_var 3)) (gm_name nd rfl (Or.inl rfl)) (ssm_one (sm_set (i := 4) nd rfl (Or.inl rfl) (pm_bin om_mod (pm_bin om_add (pm_bin om_add (pm_bin om_mul (pm_var 4) (pm_int)) (pm_bin om_mod (pm_var 5) (pm_int))) (pm_int)) (pm_int))))) (
    ssm_cons (sm_set (i := 6) nd rfl (Or.inl rfl) (pm_if (pt_cmpM om_gt (pm_callB cm_len rfl T.b_len (by decide +kernel) (pam_cons (pm_var 3) (pam_nil))) (pm_int)) (pm_ix (pm_var 3) (pm_bin om_mod (pm_var 1) (pm_callB cm_len rfl T.b_len (by decide +kernel) (pam_cons (pm_var 3) (pam_nil))))) (pm_int))) (
    ssm_one (sm_ret (pm_lst (pam_cons (pm_if (pt_cmpM om_ge (pm_var 6) (pm_bin om_pow (pm_int) (pm_int))) (pm_var 6) (pm_int)) (pam_cons (pm_var 4) (pam_cons (pm_bin om_mod (pm_var 1) (pm_int)) (pam_nil)))))))))))
abbrev s_law_pick : Stmt := top 17
theorem sc_law_pick : FnScope N_law_pick ["source", "many"] (defScope s_law_pick) := ⟨rfl, rfl, rfl, by decide +kernel, rfl, by decide +kernel, by decide +kernel⟩
theorem c_law_pick (T : Tx P w g mg base) : Callee P w g mg base "_law_pick" 1 2 F_law_pick := by
  obtain ⟨f, fd, F, hm⟩ := T.f_law_pick
  refine def_ok (k := 0) F sc_law_pick hm (fun _ _ _ _ _ _ us hl => match us, hl with | [_, _], _ => rfl) (fun cdv A outer s H E hr => ?_)
  have nd := sc_law_pick.nd
  exact ssm_cons (sm_if (pt_cmpM om_gt (pm_ix (pm_var 0) (pm_int)) (pm_int)) (ssm_cons (sm_set (i := 2) nd rfl (Or.inl rfl) (pm_bin om_mod (pm_ix (pm_var 0) (pm_int)) (pm_var 1))) (
    ssm_cons (sm_setIx (pm_bin om_fdiv (pm_ix (pm_var 0) (pm_int)) (pm_var 1)) (pm_var 0) (pm_int)) (
    ssm_one (sm_ret (pm_var 2))))) (ssm_nil)) (
    ssm_cons (sm_setIx (pm_bin om_add (pm_ix (pm_var 0) (pm_int)) (pm_int)) (pm_var 0) (pm_int)) (
    ssm_cons (sm_set (i := 3) nd rfl (Or.inl rfl) (pm_bin om_mod (pm_bin om_add (pm_bin om_add (pm_bin om_mul (pm_ix (pm_var 0) (pm_int)) (pm_int)) (pm_bin om_mul (pm_ix (pm_var 0) (pm_int)) (pm_int))) (pm_int)) (pm_int))) (
    ssm_cons (sm_set (i := 3) nd rfl (Or.inl rfl) (pm_bin om_mod (pm_bin om_add (pm_bin om_add (pm_bin om_mul (pm_var 3) (pm_int)) (pm_bin om_mul (pm_ix (pm_var 0) (pm_int)) (pm_int))) (pm_int)) (pm_int))) (
    ssm_cons (sm_setIx (pm_var 3) (pm_var 0) (pm_int)) (
    ssm_one (sm_ret (pm_bin om_mod (pm_bin om_fdiv (pm_var 3) (pm_int)) (pm_var 1))))))))
abbrev s_law_number : Stmt := top 18
theorem sc_law_number : FnScope N_law_number ["source", "limit"] (defScope s_law_number) := ⟨rfl, rfl, rfl, by decide +kernel, rfl, by decide +kernel, by decide +kernel⟩
theorem c_law_number (T : Tx P w g mg base) : Callee P w g mg base "_law_number" 2 2 F_law_number := by
  obtain ⟨f, fd, F, hm⟩ := T.f_law_number
  refine def_ok (k := 1) F sc_law_number hm (fun _ _ _ _ _ _ us hl => match us, hl with | [_, _], _ => rfl) (fun cdv A outer s H E hr => ?_)
  have nd := sc_law_number.nd
  exact ssm_cons (sm_if (pt_cmpM (om_eq hr.units) (pm_call (c_law_pick T) (hr.mono (by decide)) rfl (passes_call (takes_of rfl rfl rfl rfl) (fun _ _ _ _ h => h)) (pam_cons (pm_var 0) (pam_cons (pm_int) (pam_nil))) (mCons_len (mCons_len (mNil_len)))) (pm_int)) (ssm_one (sm_ret (pm_call (c_law_pick T) (hr.mono (by decide)) rfl (passes_call (takes_of rfl rfl rfl rfl) (fun _ _ _ _ h => h)) (pam_cons (pm_var 0) (pam_cons (pm_callB (cm_min2 rfl) rfl T.b_min (by decide +kernel) (pam_cons (pm_var 1) (pam_cons (pm_int) (pam_nil)))) (pam_nil))) (mCons_len (mCons_len (mNil_len)))))) (ssm_nil)) (
    ssm_cons (sm_set (i := 2) nd rfl (Or.inl rfl) (pm_int)) (
    ssm_cons (sm_for (vs := [3]) (passes_of rfl) rfl (im_range1 rfl T.b_range (pam_cons (pm_int) (pam_nil))) (gm_name nd rfl (Or.inl rfl)) (ssm_one (sm_set (i := 2) nd rfl (Or.inl rfl) (pm_bin om_add (pm_bin om_mul (pm_var 2) (pm_int)) (pm_call (c_law_pick T) (hr.mono (by decide)) rfl (passes_call (takes_of rfl rfl rfl rfl) (fun _ _ _ _ h => h)) (pam_cons (pm_var 0) (pam_cons (pm_int) (pam_nil))) (mCons_len (mCons_len (mNil_len)))))))) (
    ssm_one (sm_ret (pm_bin om_mod (pm_var 2) (pm_var 1))))))
abbrev s_law_shuffled : Stmt := top 19
theorem sc_law_shuffled : FnScope N_law_shuffled ["source", "things"] (defScope s_law_shuffled) := ⟨rfl, rfl, rfl, by decide +kernel, rfl, by decide +kernel, by decide +kernel⟩
theorem c_law_shuffled (T : Tx P w g mg base) : Callee P w g mg base "_law_shuffled" 2 2 F_law_shuffled := by
  obtain ⟨f, fd, F, hm⟩ := T.f_law_shuffled
  refine def_ok (k := 1) F sc_law_shuffled hm (fun _ _ _ _ _ _ us hl => match us, hl with | [_, _], _ => rfl) (fun cdv A outer s H E hr => ?_)
  have nd := sc_law_shuffled.nd
  exact ssm_cons (sm_set (i := 2) nd rfl (Or.inl rfl) (pm_callTy cm_list rfl T.b_list (by decide +kernel) (pam_cons (pm_var 1) (pam_nil)))) (
    ssm_cons (sm_set (i := 3) nd rfl (Or.inl rfl) (pm_lst (pam_nil))) (
    ssm_cons (sm_while 30 (passes_of rfl) (pt_cmpM om_gt (pm_callB cm_len rfl T.b_len (by decide +kernel) (pam_cons (pm_var 2) (pam_nil))) (pm_int)) (ssm_one (sm_expr (pm_bm PySem.F.plainAttrs_list PySem.F.slot_list_append PySem.F.type_list_append mm_append (pm_var 3) (pam_cons (pm_bm PySem.F.plainAttrs_list PySem.F.slot_list_pop PySem.F.type_list_pop mm_pop (pm_var 2) (pam_cons (pm_call (c_law_pick T) (hr.mono (by decide)) rfl (passes_call (takes_of rfl rfl rfl rfl) (fun _ _ _ _ h => h)) (pam_cons (pm_var 0) (pam_cons (pm_callB cm_len rfl T.b_len (by decide +kernel) (pam_cons (pm_var 2) (pam_nil))) (pam_nil))) (mCons_len (mCons_len (mNil_len)))) (pam_nil))) (pam_nil)))))) (
    ssm_one (sm_ret (pm_var 3)))))
abbrev s_law_grammar : Stmt := top 20
theorem sc_law_grammar : FnScope N_law_grammar [] (defScope s_law_grammar) := ⟨rfl, rfl, rfl, by decide +kernel, rfl, by decide +kernel, by decide +kernel⟩
theorem c_law_grammar (T : Tx P w g mg base) : Callee P w g mg base "_law_grammar" 1 0 F_law_grammar := by
  obtain ⟨f, fd, F, hm⟩ := T.f_law_grammar
  refine def_ok (k := 0) F sc_law_grammar hm (fun _ _ _ _ _ _ us hl => match us, hl with | [], _ => rfl) (fun cdv A outer s H E hr => ?_)
  have nd := sc_law_grammar.nd
  exact ssm_one (sm_ret (pm_lst (pam_cons (pm_str) (pam_cons (pm_str) (pam_cons (pm_str) (pam_cons (pm_str) (pam_cons (pm_str) (pam_cons (pm_str) (pam_cons (pm_str) (pam_cons (pm_str) (pam_cons (pm_str) (pam_cons (pm_str) (pam_cons (pm_str) (pam_cons (pm_str) (pam_cons (pm_str) (pam_cons (pm_str) (pam_cons (pm_str) (pam_cons (pm_str) (pam_cons (pm_str) (pam_cons (pm_str) (pam_cons (pm_str) (pam_cons (pm_str) (pam_cons (pm_str) (pam_cons (pm_str) (pam_cons (pm_str) (pam_nil))))))))))))))))))))))))))
abbrev s_law_words : Stmt := top 21
theorem sc_law_words : FnScope N_law_words ["source", "many"] (defScope s_law_words) := ⟨rfl, rfl, rfl, by decide +kernel, rfl, by decide +kernel, by decide +kernel⟩
theorem c_law_words (T : Tx P w g mg base) : Callee P w g mg base "_law_words" 3 2 F_law_words := by
  obtain ⟨f, fd, F, hm⟩ := T.f_law_words
  refine def_ok (k := 2) F sc_law_words hm (fun _ _ _ _ _ _ us hl => match us, hl with | [_, _], _ => rfl) (fun cdv A outer s H E hr => ?_)
  have nd := sc_law_words.nd
  exact ssm_cons (sm_set (i := 2) nd rfl (Or.inr rfl) (pm_str)) (
    ssm_cons (sm_set (i := 3) nd rfl (Or.inl rfl) (pm_str)) (
    ssm_cons (sm_for (vs := [4]) (passes_of rfl) rfl (im_range1 rfl T.b_range (pam_cons (pm_call (c_law_pick T) (hr.mono (by decide)) rfl (passes_call (takes_of rfl rfl rfl rfl) (fun _ _ _ _ h => h)) (pam_cons (pm_var 0) (pam_cons (pm_int) (pam_nil))) (mCons_len (mCons_len (mNil_len)))) (pam_nil))) (gm_name nd rfl (Or.inl rfl)) (ssm_one (sm_set (i := 3) nd rfl (Or.inl rfl) (pm_bin om_add (pm_var 3) (pm_ix (pm_var 2) (pm_call (c_law_pick T) (hr.mono (by decide)) rfl (passes_call (takes_of rfl rfl rfl rfl) (fun _ _ _ _ h => h)) (pam_cons (pm_var 0) (pam_cons (pm_int) (pam_nil))) (mCons_len (mCons_len (mNil_len))))))))) (
    ssm_cons (sm_set (i := 5) nd rfl (Or.inl rfl) (pm_lst (pam_nil))) (
    ssm_cons (sm_if (PW.pt (pwm_and (pt_cmpM om_le (pm_var 1) (pm_int)) (pwm_and1 (pt_cmpM om_gt (pm_call (c_law_pick T) (hr.mono (by decide)) rfl (passes_call (takes_of rfl rfl rfl rfl) (fun _ _ _ _ h => h)) (pam_cons (pm_var 0) (pam_cons (pm_int) (pam_nil))) (mCons_len (mCons_len (mNil_len)))) (pm_int))))) (ssm_cons (sm_set (i := 6) nd rfl (Or.inl rfl) (pm_call (c_law_pick T) (hr.mono (by decide)) rfl (passes_call (takes_of rfl rfl rfl rfl) (fun _ _ _ _ h => h)) (pam_cons (pm_var 0) (pam_cons (pm_bin om_add (pm_callB cm_len rfl T.b_len (by decide +kernel) (pam_cons (pm_var 3) (pam_nil))) (pm_int)) (pam_nil))) (mCons_len (mCons_len (mNil_len))))) (
    ssm_one (sm_for (vs := [7]) (passes_of rfl) rfl (im_iter (pm_sl (pm_call (c_law_shuffled T) (hr.mono (by decide)) rfl (passes_call (takes_of rfl rfl rfl rfl) (fun _ _ _ _ h => h)) (pam_cons (pm_var 0) (pam_cons (pm_lc (own := [("k", 9)]) rfl nd (im_range1 rfl T.b_range (pam_cons (pm_int) (pam_nil))) (blkOk_by (N := N_law_words) (sc := defScope s_law_words) (by decide +kernel)) (fun _ _ _ _ _ => gm_name nd rfl (Or.inl rfl)) (fun _ _ _ _ _ => ptsm_nil) (fun _ _ _ _ _ => pm_ix (pm_var 2) (pm_var 9))) (pam_nil))) (mCons_len (mCons_len (mNil_len)))) (pom_none) (pom_some (pm_var 1)))) (gm_name nd rfl (Or.inl rfl)) (ssm_one (sm_expr (pm_bm PySem.F.plainAttrs_list PySem.F.slot_list_append PySem.F.type_list_append mm_append (pm_var 5) (pam_cons (pm_bin om_add (pm_bin om_add (pm_sl (pm_var 3) (pom_none) (pom_some (pm_var 6))) (pm_var 7)) (pm_sl (pm_var 3) (pom_some (pm_var 6)) (pom_none))) (pam_nil)))))))) (ssm_cons (sm_set (i := 8) nd rfl (Or.inl rfl) (pm_call (c_law_pick T) (hr.mono (by decide)) rfl (passes_call (takes_of rfl rfl rfl rfl) (fun _ _ _ _ h => h)) (pam_cons (pm_var 0) (pam_cons (pm_int) (pam_nil))) (mCons_len (mCons_len (mNil_len))))) (
    ssm_one (sm_for (vs := [9]) (passes_of rfl) rfl (im_range1 rfl T.b_range (pam_cons (pm_var 1) (pam_nil))) (gm_name nd rfl (Or.inl rfl)) (ssm_one (sm_expr (pm_bm PySem.F.plainAttrs_list PySem.F.slot_list_append PySem.F.type_list_append mm_append (pm_var 5) (pam_cons (pm_bin om_add (pm_bin om_add (pm_ix (pm_var 2) (pm_call (c_law_pick T) (hr.mono (by decide)) rfl (passes_call (takes_of rfl rfl rfl rfl) (fun _ _ _ _ h => h)) (pam_cons (pm_var 0) (pam_cons (pm_int) (pam_nil))) (mCons_len (mCons_len (mNil_len))))) (pm_var 3)) (pm_callTy (cm_strL rfl T.dig) rfl T.b_str (by decide +kernel) (pam_cons (pm_bin om_add (pm_var 8) (pm_var 9)) (pam_nil)))) (pam_nil))))))))) (
    ssm_cons (sm_set (i := 10) nd rfl (Or.inr rfl) (pm_call0 (c_law_grammar T) (hr.mono (by decide)) rfl (passes_call (takes_of rfl rfl rfl rfl) (fun _ _ _ _ h => h)))) (
    ssm_one (sm_ret (pm_lc (own := [("word", 11)]) rfl nd (im_iter (pm_var 5)) (blkOk_by (N := N_law_words) (sc := defScope s_law_words) (by decide +kernel)) (fun _ _ _ _ _ => gm_name nd rfl (Or.inl rfl)) (fun _ _ _ _ _ => ptsm_nil) (fun _ _ _ _ _ => pm_if (pt_cmpM (om_in (hu65 hr)) (pm_var 11) (pm_var 10)) (pm_bin om_add (pm_var 11) (pm_str)) (pm_var 11))))))))))
abbrev s_law_same : Stmt := top 22
theorem sc_law_same : FnScope N_law_same ["answer", "due"] (defScope s_law_same) := ⟨rfl, rfl, rfl, by decide +kernel, rfl, by decide +kernel, by decide +kernel⟩
theorem c_law_same (T : Tx P w g mg base) : ∀ n : Nat, Callee P w g mg base "_law_same" (1 + n) 2 (F_law_same n)
  | 0 => by
    obtain ⟨f, fd, F, hm⟩ := T.f_law_same
    exact def_ok (k := 0) F sc_law_same hm (fun _ _ _ _ _ _ us hl => match us, hl with | [_, _], _ => rfl) (fun cdv A outer s H E hr => ssm_bad)
  | n + 1 => by
    obtain ⟨f, fd, F, hm⟩ := T.f_law_same
    have ih := c_law_same T n
    refine def_ok (k := 1 + n) F sc_law_same hm (fun _ _ _ _ _ _ us hl => match us, hl with | [_, _], _ => rfl) (fun cdv A outer s H E hrR => ?_)
    have nd := sc_law_same.nd
    have hr := hrR.mono (show 0 ≤ 1 + n from by omega)
    exact ssm_cons (sm_if (pt_cmpM om_is (pm_var 1) (pm_non)) (ssm_one (sm_ret (pm_cmp om_is (pm_var 0) (pm_non)))) (ssm_nil)) (
    ssm_cons (sm_if (pt_tru (pm_isI (T := "bool") (Ts := "bool") (by decide +kernel) rfl T.b_isinstance rfl T.b_bool (by decide +kernel) (pm_var 1))) (ssm_one (sm_ret (pm_and (pm_isI (T := "bool") (Ts := "bool") (by decide +kernel) rfl T.b_isinstance rfl T.b_bool (by decide +kernel) (pm_var 0)) (pm_one (pm_cmp (om_eq hr.units) (pm_var 0) (pm_var 1)))))) (ssm_nil)) (
    ssm_cons (sm_if (pt_tru (pm_isI (T := "int") (Ts := "int") (by decide +kernel) rfl T.b_isinstance rfl T.b_int (by decide +kernel) (pm_var 1))) (ssm_one (sm_ret (pm_and (pm_isI (T := "int") (Ts := "int") (by decide +kernel) rfl T.b_isinstance rfl T.b_int (by decide +kernel) (pm_var 0)) (pm_and (pm_not (pm_isI (T := "bool") (Ts := "bool") (by decide +kernel) rfl T.b_isinstance rfl T.b_bool (by decide +kernel) (pm_var 0))) (pm_one (pm_cmp (om_eq hr.units) (pm_var 0) (pm_var 1))))))) (ssm_nil)) (
    ssm_cons (sm_if (pt_tru (pm_isI (T := "str") (Ts := "str") (by decide +kernel) rfl T.b_isinstance rfl T.b_str (by decide +kernel) (pm_var 1))) (ssm_one (sm_ret (pm_and (pm_isI (T := "str") (Ts := "str") (by decide +kernel) rfl T.b_isinstance rfl T.b_str (by decide +kernel) (pm_var 0)) (pm_one (pm_cmp (om_eq hr.units) (pm_var 0) (pm_var 1)))))) (ssm_nil)) (
    ssm_cons (sm_if (pt_tru (pm_isI (T := "dict") (Ts := "dict") (by decide +kernel) rfl T.b_isinstance rfl T.b_dict (by decide +kernel) (pm_var 1))) ssm_bad (ssm_nil)) (
    ssm_cons (sm_if (pt_tru (pm_isI (T := "tuple") (Ts := "tuple") (by decide +kernel) rfl T.b_isinstance rfl T.b_tuple (by decide +kernel) (pm_var 1))) (ssm_one (sm_if (ptm_not (pt_tru (pm_isI (T := "tuple") (Ts := "tuple") (by decide +kernel) rfl T.b_isinstance rfl T.b_tuple (by decide +kernel) (pm_var 0)))) (ssm_one (sm_ret (pm_bl))) (ssm_nil))) (ssm_one (sm_if (ptm_not (pt_tru (pm_isI (T := "list") (Ts := "list") (by decide +kernel) rfl T.b_isinstance rfl T.b_list (by decide +kernel) (pm_var 0)))) (ssm_one (sm_ret (pm_bl))) (ssm_nil)))) (
    ssm_cons (sm_if (pt_cmpM (om_ne hr.units) (pm_callB cm_len rfl T.b_len (by decide +kernel) (pam_cons (pm_var 0) (pam_nil))) (pm_callB cm_len rfl T.b_len (by decide +kernel) (pam_cons (pm_var 1) (pam_nil)))) (ssm_one (sm_ret (pm_bl))) (ssm_nil)) (
    ssm_cons (sm_for (vs := [3, 4]) (passes_of rfl) rfl (im_zip rfl T.b_zip (pam_cons (pm_var 0) (pam_cons (pm_var 1) (pam_nil)))) (gm_tup rfl (gms_cons (gm_name nd rfl (Or.inl rfl)) (gms_cons (gm_name nd rfl (Or.inl rfl)) (gms_nil)))) (ssm_one (sm_if (ptm_not (pt_tru (pm_call ih hrR rfl (passes_call (takes_of rfl rfl rfl rfl) (fun _ _ _ _ h => h)) (pam_cons (pm_var 3) (pam_cons (pm_var 4) (pam_nil))) (mCons_len (mCons_len (mNil_len)))))) (ssm_one (sm_ret (pm_bl))) (ssm_nil)))) (
    ssm_one (sm_ret (pm_bl))))))))))
abbrev s_law_member : Stmt := top 23
theorem sc_law_member : FnScope N_law_member ["source", "room"] (defScope s_law_member) := ⟨rfl, rfl, rfl, by decide +kernel, rfl, by decide +kernel, by decide +kernel⟩
theorem c_law_member (T : Tx P w g mg base) : ∀ n : Nat, Callee P w g mg base "_law_member" (4 + n) 2 (F_law_member n)
  | 0 => by
    obtain ⟨f, fd, F, hm⟩ := T.f_law_member
    exact def_ok (k := 3) F sc_law_member hm (fun _ _ _ _ _ _ us hl => match us, hl with | [_, _], _ => rfl) (fun cdv A outer s H E hr => ssm_bad)
  | n + 1 => by
    obtain ⟨f, fd, F, hm⟩ := T.f_law_member
    have ih := c_law_member T n
    refine def_ok (k := 4 + n) F sc_law_member hm (fun _ _ _ _ _ _ us hl => match us, hl with | [_, _], _ => rfl) (fun cdv A outer s H E hrR => ?_)
    have nd := sc_law_member.nd
    have hr := hrR.mono (show 3 ≤ 4 + n from by omega)
    exact ssm_cons (sm_set (i := 2) nd rfl (Or.inl rfl) (pm_call (c_law_pick T) (hr.mono (by decide)) rfl (passes_call (takes_of rfl rfl rfl rfl) (fun _ _ _ _ h => h)) (pam_cons (pm_var 0) (pam_cons (pm_int) (pam_nil))) (mCons_len (mCons_len (mNil_len))))) (
    ssm_cons (sm_if (pt_cmpM (om_eq hr.units) (pm_var 2) (pm_int)) (ssm_one (sm_ret (pm_non))) (ssm_nil)) (
    ssm_cons (sm_if (pt_cmpM (om_eq hr.units) (pm_var 2) (pm_int)) (ssm_one (sm_ret (pm_ix (pm_call (c_law_words T) (hr.mono (by decide)) rfl (passes_call (takes_of rfl rfl rfl rfl) (fun _ _ _ _ h => h)) (pam_cons (pm_var 0) (pam_cons (pm_int) (pam_nil))) (mCons_len (mCons_len (mNil_len)))) (pm_int)))) (ssm_nil)) (
    ssm_cons (sm_if (PW.pt (pwm_and (pt_cmpM om_gt (pm_var 2) (pm_int)) (pwm_and1 (pt_cmpM om_gt (pm_var 1) (pm_int))))) (ssm_one (sm_ret (pm_callTy cm_tuple rfl T.b_tuple (by decide +kernel) (pam_cons (pm_lc (own := [("turn", 4)]) rfl nd (im_range1 rfl T.b_range (pam_cons (pm_call (c_law_pick T) (hr.mono (by decide)) rfl (passes_call (takes_of rfl rfl rfl rfl) (fun _ _ _ _ h => h)) (pam_cons (pm_var 0) (pam_cons (pm_if (pt_cmpM om_gt (pm_var 1) (pm_int)) (pm_int) (pm_int)) (pam_nil))) (mCons_len (mCons_len (mNil_len)))) (pam_nil))) (blkOk_by (N := N_law_member) (sc := defScope s_law_member) (by decide +kernel)) (fun _ _ _ _ _ => gm_name nd rfl (Or.inl rfl)) (fun _ _ _ _ _ => ptsm_nil) (fun _ _ _ _ _ => pm_call ih hrR rfl passL (pam_cons (pm_var 0) (pam_cons (pm_bin om_sub (pm_var 1) (pm_int)) (pam_nil))) (mCons_len (mCons_len (mNil_len))))) (pam_nil))))) (ssm_nil)) (
    ssm_cons (sm_set (i := 3) nd rfl (Or.inl rfl) (pm_call (c_law_number T) (hr.mono (by decide)) rfl (passes_call (takes_of rfl rfl rfl rfl) (fun _ _ _ _ h => h)) (pam_cons (pm_var 0) (pam_cons (pm_bin om_pow (pm_int) (pm_int)) (pam_nil))) (mCons_len (mCons_len (mNil_len))))) (
    ssm_one (sm_ret (pm_if (pt_cmpM om_gt (pm_call (c_law_pick T) (hr.mono (by decide)) rfl (passes_call (takes_of rfl rfl rfl rfl) (fun _ _ _ _ h => h)) (pam_cons (pm_var 0) (pam_cons (pm_int) (pam_nil))) (mCons_len (mCons_len (mNil_len)))) (pm_int)) (pm_var 3) (pm_bin om_sub (pm_neg (pm_int)) (pm_var 3)))))))))
abbrev s_law_nest : Stmt := top 24
theorem sc_law_nest : FnScope N_law_nest ["member", "many"] (defScope s_law_nest) := ⟨rfl, rfl, rfl, by decide +kernel, rfl, by decide +kernel, by decide +kernel⟩
theorem c_law_nest (T : Tx P w g mg base) : Callee P w g mg base "_law_nest" 1 2 F_law_nest := by
  obtain ⟨f, fd, F, hm⟩ := T.f_law_nest
  refine def_ok (k := 0) F sc_law_nest hm (fun _ _ _ _ _ _ us hl => match us, hl with | [_, _], _ => rfl) (fun cdv A outer s H E hr => ?_)
  have nd := sc_law_nest.nd
  exact ssm_cons (sm_for (vs := [2]) (passes_of rfl) rfl (im_range1 rfl T.b_range (pam_cons (pm_var 1) (pam_nil))) (gm_name nd rfl (Or.inl rfl)) (ssm_one (sm_set (i := 0) nd rfl (Or.inl rfl) (pm_tup (pam_cons (pm_var 0) (pam_nil)))))) (
    ssm_one (sm_ret (pm_var 0)))
abbrev s_law_written : Stmt := top 25
theorem sc_law_written : FnScope N_law_written ["member"] (defScope s_law_written) := ⟨rfl, rfl, rfl, by decide +kernel, rfl, by decide +kernel, by decide +kernel⟩
theorem c_law_written (T : Tx P w g mg base) : ∀ n : Nat, Callee P w g mg base "_law_written" (1 + n) 1 (F_law_written n)
  | 0 => by
    obtain ⟨f, fd, F, hm⟩ := T.f_law_written
    exact def_ok (k := 0) F sc_law_written hm (fun _ _ _ _ _ _ us hl => match us, hl with | [_], _ => rfl) (fun cdv A outer s H E hr => ssm_bad)
  | n + 1 => by
    obtain ⟨f, fd, F, hm⟩ := T.f_law_written
    have ih := c_law_written T n
    refine def_ok (k := 1 + n) F sc_law_written hm (fun _ _ _ _ _ _ us hl => match us, hl with | [_], _ => rfl) (fun cdv A outer s H E hrR => ?_)
    have nd := sc_law_written.nd
    have hr := hrR.mono (show 0 ≤ 1 + n from by omega)
    exact ssm_cons (sm_if (pt_cmpM om_is (pm_var 0) (pm_non)) (ssm_one (sm_ret (pm_str))) (ssm_nil)) (
    ssm_cons (sm_if (pt_tru (pm_isI (T := "tuple") (Ts := "tuple") (by decide +kernel) rfl T.b_isinstance rfl T.b_tuple (by decide +kernel) (pm_var 0))) (ssm_one (sm_ret (pm_bin om_add (pm_bin om_add (pm_str) (pm_bm PySem.F.plainAttrs_str PySem.F.slot_str_join PySem.F.type_str_join mm_join (pm_str) (pam_cons (pm_lc (own := [("one", 1)]) rfl nd (im_iter (pm_var 0)) (blkOk_by (N := N_law_written) (sc := defScope s_law_written) (by decide +kernel)) (fun _ _ _ _ _ => gm_name nd rfl (Or.inl rfl)) (fun _ _ _ _ _ => ptsm_nil) (fun _ _ _ _ _ => pm_call ih hrR rfl passL (pam_cons (pm_var 1) (pam_nil)) (mCons_len (mNil_len)))) (pam_nil)))) (pm_str)))) (ssm_nil)) (
    ssm_one (sm_ret (pm_callTy (cm_strL rfl T.dig) rfl T.b_str (by decide +kernel) (pam_cons (pm_var 0) (pam_nil))))))
abbrev s_law_word : Stmt := top 26
theorem sc_law_word : FnScope N_law_word ["word"] (defScope s_law_word) := ⟨rfl, rfl, rfl, by decide +kernel, rfl, by decide +kernel, by decide +kernel⟩
theorem c_law_word (T : Tx P w g mg base) : Callee P w g mg base "_law_word" 1 1 F_law_word := by
  obtain ⟨f, fd, F, hm⟩ := T.f_law_word
  refine def_ok (k := 0) F sc_law_word hm (fun _ _ _ _ _ _ us hl => match us, hl with | [_], _ => rfl) (fun cdv A outer s H E hr => ?_)
  have nd := sc_law_word.nd
  exact ssm_cons (sm_set (i := 1) nd rfl (Or.inl rfl) (pm_if (pt_cmpM (om_eq hr.units) (pm_sl (pm_var 0) (pom_none) (pom_some (pm_int))) (pm_str)) (pm_sl (pm_var 0) (pom_some (pm_int)) (pom_none)) (pm_var 0))) (
    ssm_cons (sm_if (pt_cmpM (om_eq hr.units) (pm_var 0) (pm_str)) (ssm_one (sm_ret (pm_tup (pam_cons (pm_bl) (pam_cons (pm_non) (pam_nil)))))) (ssm_nil)) (
    ssm_cons (sm_if (PW.pt (pwm_and (pt_cmpM (om_ne hr.units) (pm_var 1) (pm_str)) (pwm_and1 (pt_cmpM (om_eq hr.units) (pm_callB cm_len rfl T.b_len (by decide +kernel) (pam_cons (pm_lc (own := [("sign", 3)]) rfl nd (im_iter (pm_var 1)) (blkOk_by (N := N_law_word) (sc := defScope s_law_word) (by decide +kernel)) (fun _ _ _ _ _ => gm_name nd rfl (Or.inl rfl)) (fun _ _ _ _ _ => ptsm_one (pt_cmpM (om_nin (hu65 hr)) (pm_var 3) (pm_str))) (fun _ _ _ _ _ => pm_var 3)) (pam_nil))) (pm_int))))) (ssm_one (sm_ret (pm_tup (pam_cons (pm_and (pm_cmp om_le (pm_callB cm_len rfl T.b_len (by decide +kernel) (pam_cons (pm_var 1) (pam_nil))) (pm_int)) (pm_one (pm_or (pm_cmp (om_ne hr.units) (pm_ix (pm_var 1) (pm_int)) (pm_str)) (pm_one (pm_cmp (om_eq hr.units) (pm_var 0) (pm_str)))))) (pam_cons (pm_if (pt_cmpM om_le (pm_callB cm_len rfl T.b_len (by decide +kernel) (pam_cons (pm_var 1) (pam_nil))) (pm_int)) (pm_callTy (cm_int T.dig) rfl T.b_int (by decide +kernel) (pam_cons (pm_var 0) (pam_nil))) (pm_int)) (pam_nil)))))) (ssm_nil)) (
    ssm_cons (sm_set (i := 2) nd rfl (Or.inl rfl) (pm_and (pm_cmp (om_ne hr.units) (pm_var 0) (pm_str)) (pm_and (pm_cmp (om_in (hu65 hr)) (pm_ix (pm_var 0) (pm_int)) (pm_str)) (pm_one (pm_cmp (om_eq hr.units) (pm_callB cm_len rfl T.b_len (by decide +kernel) (pam_cons (pm_lc (own := [("sign", 3)]) rfl nd (im_iter (pm_var 0)) (blkOk_by (N := N_law_word) (sc := defScope s_law_word) (by decide +kernel)) (fun _ _ _ _ _ => gm_name nd rfl (Or.inl rfl)) (fun _ _ _ _ _ => ptsm_one (pt_cmpM (om_nin (hu65 hr)) (pm_var 3) (pm_str))) (fun _ _ _ _ _ => pm_var 3)) (pam_nil))) (pm_int)))))) (
    ssm_one (sm_ret (pm_tup (pam_cons (pm_var 2) (pam_cons (pm_var 0) (pam_nil)))))))))
abbrev s_law_line : Stmt := top 27
theorem sc_law_line : FnScope N_law_line ["line"] (defScope s_law_line) := ⟨rfl, rfl, rfl, by decide +kernel, rfl, by decide +kernel, by decide +kernel⟩
theorem c_law_line (T : Tx P w g mg base) : Callee P w g mg base "_law_line" 22 1 F_law_line := by
  obtain ⟨f, fd, F, hm⟩ := T.f_law_line
  refine def_okT (k := 21) F sc_law_line (by decide +kernel) (by decide) hm (fun _ _ _ _ _ _ us hl => match us, hl with | [_], _ => rfl) (fun cdv A outer s H E hr => ?_)
  have nd := sc_law_line.nd
  exact sstm_consS (sm_set (i := 1) nd rfl (Or.inl rfl) (pm_lst (pam_cons (pm_lst (pam_nil)) (pam_nil)))) (sstm_cons (stm_set (i := 2) nd rfl (Or.inl rfl) (petm_split (petm_replT (petm_repl0 (pm_var 0))) pm_str)) (PSsT.of (ssm_cons (sm_for (vs := [3]) (passes_of rfl) rfl (im_iter (pm_lc (own := [("one", 8)]) rfl nd (im_iter (pm_var 2)) (blkOk_by (N := N_law_line) (sc := defScope s_law_line) (by decide +kernel)) (fun _ _ _ _ _ => gm_name nd rfl (Or.inl rfl)) (fun _ _ _ _ _ => ptsm_one (pt_cmpM (om_ne hr.units) (pm_var 8) (pm_str))) (fun _ _ _ _ _ => pm_var 8))) (gm_name nd rfl (Or.inl rfl)) (ssm_one (sm_if (pt_cmpM (om_eq hr.units) (pm_var 3) (pm_str)) (ssm_cons (sm_expr (pm_bm PySem.F.plainAttrs_list PySem.F.slot_list_append PySem.F.type_list_append mm_append (pm_var 1) (pam_cons (pm_lst (pam_nil)) (pam_nil)))) (
    ssm_one (sm_if (pt_cmpM om_gt (pm_callB cm_len rfl T.b_len (by decide +kernel) (pam_cons (pm_var 1) (pam_nil))) (pm_int)) (ssm_one (sm_ret (pm_non))) (ssm_nil)))) (ssm_one (sm_if (pt_cmpM (om_eq hr.units) (pm_var 3) (pm_str)) (ssm_cons (sm_if (pt_cmpM (om_eq hr.units) (pm_callB cm_len rfl T.b_len (by decide +kernel) (pam_cons (pm_var 1) (pam_nil))) (pm_int)) (ssm_one (sm_ret (pm_non))) (ssm_nil)) (
    ssm_cons (sm_set (i := 4) nd rfl (Or.inl rfl) (pm_callTy cm_tuple rfl T.b_tuple (by decide +kernel) (pam_cons (pm_bm0 PySem.F.plainAttrs_list PySem.F.slot_list_pop PySem.F.type_list_pop mm_pop (pm_var 1)) (pam_nil)))) (
    ssm_one (sm_expr (pm_bm PySem.F.plainAttrs_list PySem.F.slot_list_append PySem.F.type_list_append mm_append (pm_ix (pm_var 1) (pm_neg (pm_int))) (pam_cons (pm_var 4) (pam_nil))))))) (ssm_cons (sm_asgN (vs := [5, 6]) (pm_call (c_law_word T) (hr.mono (by decide)) rfl (passes_call (takes_of rfl rfl rfl rfl) (fun _ _ _ _ h => h)) (pam_cons (pm_var 3) (pam_nil)) (mCons_len (mNil_len))) (gm_tup rfl (gms_cons (gm_name nd rfl (Or.inl rfl)) (gms_cons (gm_name nd rfl (Or.inl rfl)) (gms_nil))))) (
    ssm_cons (sm_if (ptm_not (pt_tru (pm_var 5))) (ssm_one (sm_ret (pm_non))) (ssm_nil)) (
    ssm_one (sm_expr (pm_bm PySem.F.plainAttrs_list PySem.F.slot_list_append PySem.F.type_list_append mm_append (pm_ix (pm_var 1) (pm_neg (pm_int))) (pam_cons (pm_var 6) (pam_nil)))))))))))) (
    ssm_cons (sm_if (PW.pt (pwm_or (pt_cmpM om_gt (pm_callB cm_len rfl T.b_len (by decide +kernel) (pam_cons (pm_var 1) (pam_nil))) (pm_int)) (pwm_or1 (pt_cmpM (om_eq hr.units) (pm_ix (pm_var 1) (pm_int)) (pm_lst (pam_nil)))))) (ssm_one (sm_ret (pm_non))) (ssm_nil)) (
    ssm_cons (sm_set (i := 7) nd rfl (Or.inl rfl) (pm_callTy cm_tuple rfl T.b_tuple (by decide +kernel) (pam_cons (pm_ix (pm_var 1) (pm_int)) (pam_nil)))) (
    ssm_one (sm_ret (pm_if (pt_cmpM (om_eq hr.units) (pm_sl (pm_call (c_law_written T 20) (hr.mono (by decide)) rfl (passes_call (takes_of rfl rfl rfl rfl) (fun _ _ _ _ h => h)) (pam_cons (pm_var 7) (pam_nil)) (mCons_len (mNil_len))) (pom_some (pm_int)) (pom_some (pm_neg (pm_int)))) (pm_var 0)) (pm_var 7) (pm_non)))))))))
abbrev s_law_read : Stmt := top 28
theorem sc_law_read : FnScope N_law_read ["text"] (defScope s_law_read) := ⟨rfl, rfl, rfl, by decide +kernel, rfl, by decide +kernel, by decide +kernel⟩
theorem c_law_read (T : Tx P w g mg base) : Callee P w g mg base "_law_read" 23 1 F_law_read := by
  obtain ⟨f, fd, F, hm⟩ := T.f_law_read
  refine def_ok (k := 22) F sc_law_read hm (fun _ _ _ _ _ _ us hl => match us, hl with | [_], _ => rfl) (fun cdv A outer s H E hr => ?_)
  have nd := sc_law_read.nd
  exact ssm_cons (sm_if (pt_cmpM (om_eq hr.units) (pm_var 0) (pm_str)) (ssm_one (sm_ret (pm_tup (pam_cons (pm_str) (pam_cons (pm_tup (pam_nil)) (pam_nil)))))) (ssm_nil)) (
    ssm_cons (sm_setLc (i := 1) (own := [("line", 3)]) rfl nd rfl rfl (CwSw rfl rfl rfl (by decide +kernel)) (im_iter (pm_bm PySem.F.plainAttrs_str PySem.F.slot_str_split PySem.F.type_str_split mm_split (pm_var 0) (pam_cons (pm_str) (pam_nil)))) (blkOk_by (N := N_law_read) (sc := defScope s_law_read) (by decide +kernel)) (fun _ _ _ _ _ => gm_name nd rfl (Or.inl rfl)) (fun _ _ _ _ _ => ptsm_nil) (fun _ _ _ _ _ => pm_call (c_law_line T) (hr.mono (by decide)) rfl passL (pam_cons (pm_var 3) (pam_nil)) (mCons_len (mNil_len)))) (
    ssm_cons (sm_for (vs := [2]) (passes_of rfl) rfl (im_range1 rfl T.b_range (pam_cons (pm_callB cm_len rfl T.b_len (by decide +kernel) (pam_cons (pm_var 1) (pam_nil))) (pam_nil))) (gm_name nd rfl (Or.inl rfl)) (ssm_one (sm_if (pt_cmpM om_is (pm_ix (pm_var 1) (pm_var 2)) (pm_non)) (ssm_one (sm_ret (pm_tup (pam_cons (pm_str) (pam_cons (pm_bin om_add (pm_var 2) (pm_int)) (pam_nil)))))) (ssm_nil)))) (
    ssm_one (sm_ret (pm_tup (pam_cons (pm_str) (pam_cons (pm_callTy cm_tuple rfl T.b_tuple (by decide +kernel) (pam_cons (pm_var 1) (pam_nil))) (pam_nil))))))))
abbrev s_law_told : Stmt := top 29
theorem sc_law_told : FnScope N_law_told ["text"] (defScope s_law_told) := ⟨rfl, rfl, rfl, by decide +kernel, rfl, by decide +kernel, by decide +kernel⟩
theorem c_law_told (T : Tx P w g mg base) : Callee P w g mg base "_law_told" 6 1 F_law_told := by
  obtain ⟨f, fd, F, hm⟩ := T.f_law_told
  refine def_ok (k := 5) F sc_law_told hm (fun _ _ _ _ _ _ us hl => match us, hl with | [_], _ => rfl) (fun cdv A outer s H E hr => ?_)
  have nd := sc_law_told.nd
  refine (ssm_cons (sm_try (i := 1) (n := 2) (c := 0) (c_paper_from T) T.e_BadLetter (hr.mono (by decide)) rfl rfl nd rfl (Or.inl rfl) rfl (by decide) rfl rfl rfl (takes_of rfl rfl rfl rfl) (fun _ _ => pam_cons (pm_var 0) (pam_nil)) (mCons_len (mNil_len)) (fun a oe cls d pn hz hf => ?_) sufA_ok) (
    ssm_one (sm_ret (pm_tup (pam_cons (pm_str) (pam_cons (pm_var 1) (pam_nil)))))))
  exact pss_one (ps_ret (pe_tup (pa_cons pe_str (pa_cons (pe_xf T.e_BadLetter.rd T.e_BadLetter.nf hz hf (pe_var (i := 2) rfl (.inl rfl))) pa_nil))))
abbrev s_law_spoilt : Stmt := top 30
theorem sc_law_spoilt : FnScope N_law_spoilt ["source", "text"] (defScope s_law_spoilt) := ⟨rfl, rfl, rfl, by decide +kernel, rfl, by decide +kernel, by decide +kernel⟩
theorem c_law_spoilt (T : Tx P w g mg base) : Callee P w g mg base "_law_spoilt" 2 2 F_law_spoilt := by
  obtain ⟨f, fd, F, hm⟩ := T.f_law_spoilt
  refine def_ok (k := 1) F sc_law_spoilt hm (fun _ _ _ _ _ _ us hl => match us, hl with | [_, _], _ => rfl) (fun cdv A outer s H E hr => ?_)
  have nd := sc_law_spoilt.nd
  exact ssm_cons (sm_set (i := 2) nd rfl (Or.inl rfl) (pm_call (c_law_pick T) (hr.mono (by decide)) rfl (passes_call (takes_of rfl rfl rfl rfl) (fun _ _ _ _ h => h)) (pam_cons (pm_var 0) (pam_cons (pm_bin om_add (pm_callB cm_len rfl T.b_len (by decide +kernel) (pam_cons (pm_var 1) (pam_nil))) (pm_int)) (pam_nil))) (mCons_len (mCons_len (mNil_len))))) (
    ssm_cons (sm_set (i := 3) nd rfl (Or.inl rfl) (pm_ix (pm_lst (pam_cons (pm_str) (pam_cons (pm_str) (pam_cons (pm_str) (pam_cons (pm_str) (pam_cons (pm_str) (pam_cons (pm_str) (pam_cons (pm_str) (pam_cons (pm_str) (pam_cons (pm_str) (pam_cons (pm_str) (pam_cons (pm_str) (pam_cons (pm_str) (pam_nil)))))))))))))) (pm_call (c_law_pick T) (hr.mono (by decide)) rfl (passes_call (takes_of rfl rfl rfl rfl) (fun _ _ _ _ h => h)) (pam_cons (pm_var 0) (pam_cons (pm_int) (pam_nil))) (mCons_len (mCons_len (mNil_len)))))) (
    ssm_cons (sm_if (pt_cmpM (om_eq hr.units) (pm_call (c_law_pick T) (hr.mono (by decide)) rfl (passes_call (takes_of rfl rfl rfl rfl) (fun _ _ _ _ h => h)) (pam_cons (pm_var 0) (pam_cons (pm_int) (pam_nil))) (mCons_len (mCons_len (mNil_len)))) (pm_int)) (ssm_one (sm_ret (pm_bin om_add (pm_sl (pm_var 1) (pom_none) (pom_some (pm_var 2))) (pm_sl (pm_var 1) (pom_some (pm_bin om_add (pm_var 2) (pm_int))) (pom_none))))) (ssm_nil)) (
    ssm_one (sm_ret (pm_bin om_add (pm_bin om_add (pm_sl (pm_var 1) (pom_none) (pom_some (pm_var 2))) (pm_var 3)) (pm_sl (pm_var 1) (pom_some (pm_bin om_add (pm_var 2) (pm_call (c_law_pick T) (hr.mono (by decide)) rfl (passes_call (takes_of rfl rfl rfl rfl) (fun _ _ _ _ h => h)) (pam_cons (pm_var 0) (pam_cons (pm_int) (pam_nil))) (mCons_len (mCons_len (mNil_len)))))) (pom_none)))))))
abbrev s_law : Stmt := top 31
theorem sc_law : FnScope N_law ["script"] (defScope s_law) := ⟨rfl, rfl, rfl, by decide +kernel, rfl, by decide +kernel, by decide +kernel⟩
theorem ok_law (T : Tx P w g mg base) {f : Addr} {fd : FuncData} (F : Fun g.K "law" "law" s_law f fd) : FnOk P w g.K mg base (L2.CX P w) 42 f fd ["script"] (spM g 1 F_law) := by
  refine def_okF (k := 41) F sc_law (fun cdv A outer s H E hr => ?_)
  have nd := sc_law.nd
  exact ssm_cons (sm_set (i := 1) nd rfl (Or.inr rfl) (pm_call (c_law_source T) (hr.mono (by decide)) rfl (passes_call (takes_of rfl rfl rfl rfl) (fun _ _ _ _ h => h)) (pam_cons (pm_var 0) (pam_cons (pm_int) (pam_nil))) (mCons_len (mCons_len (mNil_len))))) (
    ssm_cons (sm_set (i := 2) nd rfl (Or.inl rfl) (pm_lst (pam_nil))) (
    ssm_cons (sm_for (vs := [3]) (passes_of rfl) rfl (im_range1 rfl T.b_range (pam_cons (pm_call (c_law_pick T) (hr.mono (by decide)) rfl (passes_call (takes_of rfl rfl rfl rfl) (fun _ _ _ _ h => h)) (pam_cons (pm_var 1) (pam_cons (pm_int) (pam_nil))) (mCons_len (mCons_len (mNil_len)))) (pam_nil))) (gm_name nd rfl (Or.inl rfl)) (ssm_one (sm_expr (pm_bm PySem.F.plainAttrs_list PySem.F.slot_list_append PySem.F.type_list_append mm_append (pm_var 2) (pam_cons (pm_callTy cm_tuple rfl T.b_tuple (by decide +kernel) (pam_cons (pm_lc (own := [("k", 11)]) rfl nd (im_range1 rfl T.b_range (pam_cons (pm_bin om_add (pm_int) (pm_call (c_law_pick T) (hr.mono (by decide)) rfl (passes_call (takes_of rfl rfl rfl rfl) (fun _ _ _ _ h => h)) (pam_cons (pm_var 1) (pam_cons (pm_int) (pam_nil))) (mCons_len (mCons_len (mNil_len))))) (pam_nil))) (blkOk_by (N := N_law) (sc := defScope s_law) (by decide +kernel)) (fun _ _ _ _ _ => gm_name nd rfl (Or.inl rfl)) (fun _ _ _ _ _ => ptsm_nil) (fun _ _ _ _ _ => pm_call (c_law_member T 6) (hr.mono (by decide)) rfl passL (pam_cons (pm_var 1) (pam_cons (pm_int) (pam_nil))) (mCons_len (mCons_len (mNil_len))))) (pam_nil))) (pam_nil)))))) (
    ssm_cons (sm_if (pt_cmpM (om_eq hr.units) (pm_call (c_law_pick T) (hr.mono (by decide)) rfl (passes_call (takes_of rfl rfl rfl rfl) (fun _ _ _ _ h => h)) (pam_cons (pm_var 1) (pam_cons (pm_int) (pam_nil))) (mCons_len (mCons_len (mNil_len)))) (pm_int)) (ssm_one (sm_expr (pm_bm PySem.F.plainAttrs_list PySem.F.slot_list_append PySem.F.type_list_append mm_append (pm_var 2) (pam_cons (pm_tup (pam_cons (pm_call (c_law_nest T) (hr.mono (by decide)) rfl (passes_call (takes_of rfl rfl rfl rfl) (fun _ _ _ _ h => h)) (pam_cons (pm_call (c_law_member T 6) (hr.mono (by decide)) rfl (passes_call (takes_of rfl rfl rfl rfl) (fun _ _ _ _ h => h)) (pam_cons (pm_var 1) (pam_cons (pm_int) (pam_nil))) (mCons_len (mCons_len (mNil_len)))) (pam_cons (pm_call (c_law_pick T) (hr.mono (by decide)) rfl (passes_call (takes_of rfl rfl rfl rfl) (fun _ _ _ _ h => h)) (pam_cons (pm_var 1) (pam_cons (pm_int) (pam_nil))) (mCons_len (mCons_len (mNil_len)))) (pam_nil))) (mCons_len (mCons_len (mNil_len)))) (pam_nil))) (pam_nil))))) (ssm_nil)) (
    ssm_cons (sm_if (pt_cmpM (om_eq hr.units) (pm_call (c_law_pick T) (hr.mono (by decide)) rfl (passes_call (takes_of rfl rfl rfl rfl) (fun _ _ _ _ h => h)) (pam_cons (pm_var 1) (pam_cons (pm_int) (pam_nil))) (mCons_len (mCons_len (mNil_len)))) (pm_int)) (ssm_one (sm_expr (pm_bm PySem.F.plainAttrs_list PySem.F.slot_list_append PySem.F.type_list_append mm_append (pm_var 2) (pam_cons (pm_tup (pam_cons (pm_bin om_sub (pm_bin om_mul (pm_bin om_pow (pm_int) (pm_int)) (pm_call (c_law_number T) (hr.mono (by decide)) rfl (passes_call (takes_of rfl rfl rfl rfl) (fun _ _ _ _ h => h)) (pam_cons (pm_var 1) (pam_cons (pm_bin om_pow (pm_int) (pm_int)) (pam_nil))) (mCons_len (mCons_len (mNil_len))))) (pm_int)) (pam_cons (pm_tup (pam_nil)) (pam_nil)))) (pam_nil))))) (ssm_nil)) (
    ssm_cons (sm_set (i := 2) nd rfl (Or.inl rfl) (pm_callTy cm_tuple rfl T.b_tuple (by decide +kernel) (pam_cons (pm_var 2) (pam_nil)))) (
    ssm_cons (sm_set (i := 4) nd rfl (Or.inl rfl) (pm_bm PySem.F.plainAttrs_str PySem.F.slot_str_join PySem.F.type_str_join mm_join (pm_str) (pam_cons (pm_lc (own := [("row", 10)]) rfl nd (im_iter (pm_var 2)) (blkOk_by (N := N_law) (sc := defScope s_law) (by decide +kernel)) (fun _ _ _ _ _ => gm_name nd rfl (Or.inl rfl)) (fun _ _ _ _ _ => ptsm_nil) (fun _ _ _ _ _ => pm_sl (pm_call (c_law_written T 20) (hr.mono (by decide)) rfl passL (pam_cons (pm_var 10) (pam_nil)) (mCons_len (mNil_len))) (pom_some (pm_int)) (pom_some (pm_neg (pm_int))))) (pam_nil)))) (
    ssm_cons (sm_set (i := 5) nd rfl (Or.inl rfl) (pm_tup (pam_cons (pm_str) (pam_cons (pm_var 2) (pam_nil))))) (
    ssm_cons (sm_if (PW.pt (pwm_or (ptm_not (pt_tru (pm_call (c_law_same T 40) (hr.mono (by decide)) rfl (passes_call (takes_of rfl rfl rfl rfl) (fun _ _ _ _ h => h)) (pam_cons (pm_call (c_law_told T) (hr.mono (by decide)) rfl (passes_call (takes_of rfl rfl rfl rfl) (fun _ _ _ _ h => h)) (pam_cons (pm_var 4) (pam_nil)) (mCons_len (mNil_len))) (pam_cons (pm_var 5) (pam_nil))) (mCons_len (mCons_len (mNil_len)))))) (pwm_or (ptm_not (pt_tru (pm_call (c_law_same T 40) (hr.mono (by decide)) rfl (passes_call (takes_of rfl rfl rfl rfl) (fun _ _ _ _ h => h)) (pam_cons (pm_call (c_paper_text T) (hr.mono (by decide)) rfl (passes_call (takes_of rfl rfl rfl rfl) (fun _ _ _ _ h => h)) (pam_cons (pm_var 2) (pam_nil)) (mCons_len (mNil_len))) (pam_cons (pm_var 4) (pam_nil))) (mCons_len (mCons_len (mNil_len)))))) (pwm_or1 (ptm_not (pt_tru (pm_call (c_law_same T 40) (hr.mono (by decide)) rfl (passes_call (takes_of rfl rfl rfl rfl) (fun _ _ _ _ h => h)) (pam_cons (pm_call (c_law_told T) (hr.mono (by decide)) rfl (passes_call (takes_of rfl rfl rfl rfl) (fun _ _ _ _ h => h)) (pam_cons (pm_var 4) (pam_nil)) (mCons_len (mNil_len))) (pam_cons (pm_var 5) (pam_nil))) (mCons_len (mCons_len (mNil_len)))))))))) (ssm_one (sm_ret (pm_bl))) (ssm_nil)) (
    ssm_cons (sm_for (vs := [3]) (passes_of rfl) rfl (im_range1 rfl T.b_range (pam_cons (pm_int) (pam_nil))) (gm_name nd rfl (Or.inl rfl)) (ssm_cons (sm_set (i := 6) nd rfl (Or.inl rfl) (pm_call (c_law_spoilt T) (hr.mono (by decide)) rfl (passes_call (takes_of rfl rfl rfl rfl) (fun _ _ _ _ h => h)) (pam_cons (pm_var 1) (pam_cons (pm_var 4) (pam_nil))) (mCons_len (mCons_len (mNil_len))))) (
    ssm_cons (sm_if (ptm_not (pt_tru (pm_call (c_law_same T 40) (hr.mono (by decide)) rfl (passes_call (takes_of rfl rfl rfl rfl) (fun _ _ _ _ h => h)) (pam_cons (pm_call (c_law_told T) (hr.mono (by decide)) rfl (passes_call (takes_of rfl rfl rfl rfl) (fun _ _ _ _ h => h)) (pam_cons (pm_var 6) (pam_nil)) (mCons_len (mNil_len))) (pam_cons (pm_call (c_law_read T) (hr.mono (by decide)) rfl (passes_call (takes_of rfl rfl rfl rfl) (fun _ _ _ _ h => h)) (pam_cons (pm_var 6) (pam_nil)) (mCons_len (mNil_len))) (pam_nil))) (mCons_len (mCons_len (mNil_len)))))) (ssm_one (sm_ret (pm_bl))) (ssm_nil)) (
    ssm_one (sm_if (pt_cmpM (om_eq hr.units) (pm_call (c_law_pick T) (hr.mono (by decide)) rfl (passes_call (takes_of rfl rfl rfl rfl) (fun _ _ _ _ h => h)) (pam_cons (pm_var 1) (pam_cons (pm_int) (pam_nil))) (mCons_len (mCons_len (mNil_len)))) (pm_int)) (ssm_one (sm_set (i := 4) nd rfl (Or.inl rfl) (pm_var 6))) (ssm_nil)))))) (
    ssm_cons (sm_set (i := 7) nd rfl (Or.inl rfl) (pm_call (c_law_pick T) (hr.mono (by decide)) rfl (passes_call (takes_of rfl rfl rfl rfl) (fun _ _ _ _ h => h)) (pam_cons (pm_var 1) (pam_cons (pm_int) (pam_nil))) (mCons_len (mCons_len (mNil_len))))) (
    ssm_cons (sm_set (i := 8) nd rfl (Or.inl rfl) (pm_bin om_add (pm_bin om_add (pm_bin om_mul (pm_str) (pm_bin om_add (pm_int) (pm_var 7))) (pm_str)) (pm_bin om_mul (pm_str) (pm_bin om_add (pm_int) (pm_var 7))))) (
    ssm_cons (sm_if (ptm_not (pt_tru (pm_call (c_law_same T 40) (hr.mono (by decide)) rfl (passes_call (takes_of rfl rfl rfl rfl) (fun _ _ _ _ h => h)) (pam_cons (pm_call (c_law_told T) (hr.mono (by decide)) rfl (passes_call (takes_of rfl rfl rfl rfl) (fun _ _ _ _ h => h)) (pam_cons (pm_var 8) (pam_nil)) (mCons_len (mNil_len))) (pam_cons (pm_if (pt_cmpM (om_eq hr.units) (pm_var 7) (pm_int)) (pm_tup (pam_cons (pm_str) (pam_cons (pm_int) (pam_nil)))) (pm_tup (pam_cons (pm_str) (pam_cons (pm_tup (pam_cons (pm_tup (pam_cons (pm_call (c_law_nest T) (hr.mono (by decide)) rfl (passes_call (takes_of rfl rfl rfl rfl) (fun _ _ _ _ h => h)) (pam_cons (pm_str) (pam_cons (pm_int) (pam_nil))) (mCons_len (mCons_len (mNil_len)))) (pam_nil))) (pam_nil))) (pam_nil))))) (pam_nil))) (mCons_len (mCons_len (mNil_len)))))) (ssm_one (sm_ret (pm_bl))) (ssm_nil)) (
    ssm_cons (sm_set (i := 9) nd rfl (Or.inl rfl) (pm_bin om_add (pm_str) (pm_bin om_mul (pm_str) (pm_bin om_add (pm_int) (pm_var 7))))) (
    ssm_cons (sm_if (PW.pt (pwm_or (pt_cmpM (om_ne hr.units) (pm_ix (pm_call (c_law_told T) (hr.mono (by decide)) rfl (passes_call (takes_of rfl rfl rfl rfl) (fun _ _ _ _ h => h)) (pam_cons (pm_bin om_add (pm_str) (pm_var 9)) (pam_nil)) (mCons_len (mNil_len))) (pm_int)) (pm_ix (pm_lst (pam_cons (pm_str) (pam_cons (pm_str) (pam_nil)))) (pm_var 7))) (pwm_or1 (pt_cmpM (om_ne hr.units) (pm_ix (pm_call (c_law_told T) (hr.mono (by decide)) rfl (passes_call (takes_of rfl rfl rfl rfl) (fun _ _ _ _ h => h)) (pam_cons (pm_bin om_add (pm_bin om_add (pm_str) (pm_var 9)) (pm_str)) (pam_nil)) (mCons_len (mNil_len))) (pm_int)) (pm_ix (pm_lst (pam_cons (pm_str) (pam_cons (pm_str) (pam_nil)))) (pm_var 7)))))) (ssm_one (sm_ret (pm_bl))) (ssm_nil)) (
    ssm_one (sm_ret (pm_and (pm_cmp (om_eq hr.units) (pm_call (c_law_told T) (hr.mono (by decide)) rfl (passes_call (takes_of rfl rfl rfl rfl) (fun _ _ _ _ h => h)) (pam_cons (pm_str) (pam_nil)) (mCons_len (mNil_len))) (pm_tup (pam_cons (pm_str) (pam_cons (pm_tup (pam_nil)) (pam_nil))))) (pm_and (pm_cmp (om_eq hr.units) (pm_call (c_law_told T) (hr.mono (by decide)) rfl (passes_call (takes_of rfl rfl rfl rfl) (fun _ _ _ _ h => h)) (pam_cons (pm_str) (pam_nil)) (mCons_len (mNil_len))) (pm_tup (pam_cons (pm_str) (pam_cons (pm_int) (pam_nil))))) (pm_one (pm_cmp (om_eq hr.units) (pm_call (c_law_told T) (hr.mono (by decide)) rfl (passes_call (takes_of rfl rfl rfl rfl) (fun _ _ _ _ h => h)) (pam_cons (pm_str) (pam_nil)) (mCons_len (mNil_len))) (pm_tup (pam_cons (pm_str) (pam_cons (pm_int) (pam_nil))))))))))))))))))))))))
end
end K66

set_option Elab.async false
set_option linter.all false
set_option maxRecDepth 100000
set_option maxHeartbeats 4000000
namespace K66
open PySem PySem.Spec PyProof.Rows L2 Mi
/-- where the classes of errors stand -/
def exOf (K : PySem.W.Frag) : Nat → Addr := fun i => match PySem.W.nsIn K mainGlobals ("BadLetter") with
  | some (some (.ref C)) => C
  | _ => 0
abbrev gOf (K : PySem.W.Frag) : Gi := ⟨K, exOf K⟩
def spL (K : PySem.W.Frag) : Sp := spM (gOf K) 1 F_law
theorem all_mk {P : Program} {w : World} {K : PySem.W.Frag} {h : Heap} {mg : Str → Option Value} {fa : Addr} (X : K.In h) (G : h.Ns mainGlobals mg) (hfa : mg "law" = some (.ref fa)) (d2 : PySem.W.nsIn K cStatics "sys.int_max_str_digits" = some none)
    (b_all : PySem.W.nsIn K mainGlobals "all" = some none)
    (b_bool : PySem.W.nsIn K mainGlobals "bool" = some none)
    (b_dict : PySem.W.nsIn K mainGlobals "dict" = some none)
    (b_int : PySem.W.nsIn K mainGlobals "int" = some none)
    (b_isinstance : PySem.W.nsIn K mainGlobals "isinstance" = some none)
    (b_len : PySem.W.nsIn K mainGlobals "len" = some none)
    (b_list : PySem.W.nsIn K mainGlobals "list" = some none)
    (b_min : PySem.W.nsIn K mainGlobals "min" = some none)
    (b_range : PySem.W.nsIn K mainGlobals "range" = some none)
    (b_str : PySem.W.nsIn K mainGlobals "str" = some none)
    (b_tuple : PySem.W.nsIn K mainGlobals "tuple" = some none)
    (b_zip : PySem.W.nsIn K mainGlobals "zip" = some none)
    {t_SMALL : Tok} (g_SMALL : PySem.W.nsIn K mainGlobals "SMALL" = some (some (.str "abcdefghijklmnopqrstuvwxyz" t_SMALL)))
    {t_FIGURES : Tok} (g_FIGURES : PySem.W.nsIn K mainGlobals "FIGURES" = some (some (.str "0123456789" t_FIGURES)))
    (f_member_text : ∃ f fd, Fun K "member_text" "member_text" (top 7) f fd ∧ mg "member_text" = some (.ref f))
    (f_paper_text : ∃ f fd, Fun K "paper_text" "paper_text" (top 6) f fd ∧ mg "paper_text" = some (.ref f))
    (f_is_word : ∃ f fd, Fun K "is_word" "is_word" (top 8) f fd ∧ mg "is_word" = some (.ref f))
    (f_is_number : ∃ f fd, Fun K "is_number" "is_number" (top 9) f fd ∧ mg "is_number" = some (.ref f))
    (f_line_of : ∃ f fd, Fun K "line_of" "line_of" (top 11) f fd ∧ mg "line_of" = some (.ref f))
    (f_line_tokens : ∃ f fd, Fun K "line_tokens" "line_tokens" (top 10) f fd ∧ mg "line_tokens" = some (.ref f))
    (f_read_word : ∃ f fd, Fun K "read_word" "read_word" (top 13) f fd ∧ mg "read_word" = some (.ref f))
    (f_read_line : ∃ f fd, Fun K "read_line" "read_line" (top 12) f fd ∧ mg "read_line" = some (.ref f))
    (f_paper_from : ∃ f fd, Fun K "paper_from" "paper_from" (top 14) f fd ∧ mg "paper_from" = some (.ref f))
    (f_law_source : ∃ f fd, Fun K "_law_source" "_law_source" (top 16) f fd ∧ mg "_law_source" = some (.ref f))
    (f_law_pick : ∃ f fd, Fun K "_law_pick" "_law_pick" (top 17) f fd ∧ mg "_law_pick" = some (.ref f))
    (f_law_number : ∃ f fd, Fun K "_law_number" "_law_number" (top 18) f fd ∧ mg "_law_number" = some (.ref f))
    (f_law_shuffled : ∃ f fd, Fun K "_law_shuffled" "_law_shuffled" (top 19) f fd ∧ mg "_law_shuffled" = some (.ref f))
    (f_law_grammar : ∃ f fd, Fun K "_law_grammar" "_law_grammar" (top 20) f fd ∧ mg "_law_grammar" = some (.ref f))
    (f_law_words : ∃ f fd, Fun K "_law_words" "_law_words" (top 21) f fd ∧ mg "_law_words" = some (.ref f))
    (f_law_same : ∃ f fd, Fun K "_law_same" "_law_same" (top 22) f fd ∧ mg "_law_same" = some (.ref f))
    (f_law_member : ∃ f fd, Fun K "_law_member" "_law_member" (top 23) f fd ∧ mg "_law_member" = some (.ref f))
    (f_law_nest : ∃ f fd, Fun K "_law_nest" "_law_nest" (top 24) f fd ∧ mg "_law_nest" = some (.ref f))
    (f_law_written : ∃ f fd, Fun K "_law_written" "_law_written" (top 25) f fd ∧ mg "_law_written" = some (.ref f))
    (f_law_word : ∃ f fd, Fun K "_law_word" "_law_word" (top 26) f fd ∧ mg "_law_word" = some (.ref f))
    (f_law_line : ∃ f fd, Fun K "_law_line" "_law_line" (top 27) f fd ∧ mg "_law_line" = some (.ref f))
    (f_law_read : ∃ f fd, Fun K "_law_read" "_law_read" (top 28) f fd ∧ mg "_law_read" = some (.ref f))
    (f_law_told : ∃ f fd, Fun K "_law_told" "_law_told" (top 29) f fd ∧ mg "_law_told" = some (.ref f))
    (f_law_spoilt : ∃ f fd, Fun K "_law_spoilt" "_law_spoilt" (top 30) f fd ∧ mg "_law_spoilt" = some (.ref f))
    (f_law : ∃ f fd, Fun K "law" "law" (top 31) f fd ∧ mg "law" = some (.ref f))
    (e_BadLetter : ∀ base : Heap, ErrC P w K mg base "BadLetter" (exOf K 0) "line" 1)
    : ∃ fd : FuncData, (∀ (s : Shared) (u : Value), BindsTo s fd ⟨[u], []⟩ [("script", u)]) ∧ ∀ base : Heap, K.In base → base.Ns mainGlobals mg → FnOk P w K mg base (L2.CX P w) 42 fa fd ["script"] (spL K) := by
  have TT : ∀ base : Heap, Tx P w (gOf K) mg base := fun base =>
    { dig := d2
      b_all := PySem.W.mg_none_of X G b_all
      b_bool := PySem.W.mg_none_of X G b_bool
      b_dict := PySem.W.mg_none_of X G b_dict
      b_int := PySem.W.mg_none_of X G b_int
      b_isinstance := PySem.W.mg_none_of X G b_isinstance
      b_len := PySem.W.mg_none_of X G b_len
      b_list := PySem.W.mg_none_of X G b_list
      b_min := PySem.W.mg_none_of X G b_min
      b_range := PySem.W.mg_none_of X G b_range
      b_str := PySem.W.mg_none_of X G b_str
      b_tuple := PySem.W.mg_none_of X G b_tuple
      b_zip := PySem.W.mg_none_of X G b_zip
      g_SMALL := str_at X G g_SMALL
      g_FIGURES := str_at X G g_FIGURES
      e_BadLetter := e_BadLetter base
      f_member_text := f_member_text
      f_paper_text := f_paper_text
      f_is_word := f_is_word
      f_is_number := f_is_number
      f_line_of := f_line_of
      f_line_tokens := f_line_tokens
      f_read_word := f_read_word
      f_read_line := f_read_line
      f_paper_from := f_paper_from
      f_law_source := f_law_source
      f_law_pick := f_law_pick
      f_law_number := f_law_number
      f_law_shuffled := f_law_shuffled
      f_law_grammar := f_law_grammar
      f_law_words := f_law_words
      f_law_same := f_law_same
      f_law_member := f_law_member
      f_law_nest := f_law_nest
      f_law_written := f_law_written
      f_law_word := f_law_word
      f_law_line := f_law_line
      f_law_read := f_law_read
      f_law_told := f_law_told
      f_law_spoilt := f_law_spoilt
      f_law := f_law
    }
  obtain ⟨f, fd, F, hm⟩ := f_law
  have e := hfa.symm.trans hm
  cases e
  have hb : Binds K fd ["script"] [] := F.binds (fun _ _ _ _ _ _ us hl => match us, hl with | [_], _ => rfl)
  obtain ⟨oc, od, kV, doc, pm, an, cdv, ct, osl, rfl, lk, hcd⟩ := id F.ex
  exact ⟨_, fun s u => .of_eq rfl, fun base _ _ => ok_law (TT base) F⟩
abbrev sI_BadLetter : Stmt := inClass (top 2) 0
theorem scI_BadLetter : FnScope ["self", "line"] ["self", "line"] (defScope sI_BadLetter) := ⟨rfl, rfl, rfl, by decide +kernel, rfl, by decide +kernel, by decide +kernel⟩
theorem mk_BadLetter {P : Program} {w : World} {K : PySem.W.Frag} {h : Heap} {mg : Str → Option Value} {C CS f1 : Addr} (X : K.In h) (G : h.Ns mainGlobals mg)
    {nm q : Str} {N : Addr} {bs bm : List Value} {sn : List Str} {sub : List Value} {ab : Bool} {col : Option Bool} {dd : Option Addr} {m0 m1 m2 m3 m5 : Option Value} {od1 an1 : Option Addr} {sl1 : Array (Option Value)} {oc1 kV1 dc1 pm1 cd1 ct1 : Value}
    (aC : PySem.W.nsIn K mainGlobals "BadLetter" = some (some (.ref C))) (aS : PySem.W.nsIn K mainGlobals "SleepError" = some (some (.ref CS)))
    (xL : K.lookup C = some (excClassObj nm q C N bs bm true sn sub ab col dd m0 m1 m2 m3 m5 "ValueError.__new__")) (xB : PySem.HandSPX.refsVE bm = true)
    (sa : PySem.W.findIn K (.ref C) "__setattr__" = some (some (.builtin "object.__setattr__"))) (ga : PySem.W.findIn K (.ref C) "__getattribute__" = some (some (.builtin "BaseException.__getattribute__"))) (gg : PySem.W.findIn K (.ref C) "__getattr__" = some none) (nb : PySem.W.findIn K (.ref C) "line" = some none)
    (a1 : PySem.W.findIn K (.ref C) "__init__" = some (some (.ref f1))) (t1 : PySem.W.typeIn K (.ref f1) = some (.type "function"))
    (l1 : K.lookup f1 = some ⟨oc1, od1, .func (PySem.W.fnOf "__init__" "BadLetter.__init__" (defArgs sI_BadLetter) (defBody sI_BadLetter) (defScope sI_BadLetter) .none kV1 dc1 pm1 an1 cd1 ct1), sl1⟩) (c1 : PySem.W.codeIn K cd1 "BadLetter.__init__" = true) (k1 : PySem.W.keepIn K (.ref f1) = true)
    (kC : PySem.W.keepIn K (.ref C) = true) (eC : PySem.W.subIn K (.ref C) (.type "BaseException") = some true) (tC : PySem.W.typeIn K (.ref C) = some (.type "type")) (hC : PySem.W.hasDictIn K C = true) (iC : PySem.W.isClsIn K C = true) (sC : PySem.W.subIn K (.ref C) (.ref C) = some true)
    (rS : PySem.W.readsIn K CS (.type "type") = true) (gS : PySem.W.specialIn K (.ref CS) "__getattribute__" = some (some (.builtin "type.__getattribute__"))) (fS : PySem.W.findCls K (.ref CS) (.type "type") "__init__" = some (.val (.builtin "ValueError.__init__"))) (zs : PySem.W.nsIn K mainGlobals "str" = some none) :
    ∀ base : Heap, ErrC P w K mg base "BadLetter" (exOf K 0) "line" 1 := fun base => by
  have e : exOf K 0 = C := by
    show (match PySem.W.nsIn K mainGlobals "BadLetter" with
      | some (some (.ref C)) => C
      | _ => 0) = C
    rw [aC]
  rw [e]
  have T : OexC K C := ⟨⟨nm, q, N, bs, bm, sn, sub, ab, col, dd, m0, m1, m2, m3, m5, xL, xB⟩, sa, eC, tC, kC⟩
  have F := fun_mk (st := sI_BadLetter) l1 c1 k1
  have nd := scI_BadLetter.nd
  have hb : Binds K _ ["self", "line"] [] := F.binds (fun _ _ _ _ _ _ us hl => match us, hl with | [_, _], _ => rfl)
  exact { T := T, gC := PySem.W.mg_of X G aC, self := exm_self eC iC tC sC, rd := ⟨ga, gg, eC, hC⟩, nf := nb,
          ini := ⟨f1, _, _, init_ok (c1 := "BadLetter") (c2 := " ") F scI_BadLetter T nb (by decide) (by decide) (fun cdv A outer s H E => pss_cons (ps_expr (pe_sinit rfl (PySem.W.mg_of X G aS) rS gS fS (pa_cons (pe_var rfl (.inl rfl)) (pa_cons (pe_msg (x := "") (pe_var rfl (.inl rfl)) rfl (PySem.W.mg_none_of X G zs)) pa_nil)))) (pss_one (ps_ost (pe_var rfl (.inl rfl)) (pe_var rfl (.inl rfl))))), hb, a1, t1⟩ }
theorem walk {l : PySem.W.OpenLaw} {q : Program} {loose : List Str} {XP : (Str → Option Value) → Heap → Prop} {YP : World → Heap → Prop} {d : DefRec} {K : Params → PySem.W.Frag} (hn : l.most = some 63) (hdf : d.params.defaults = [])
    (hY : ∀ (w : World) (h : Heap), YP w h → (K w.params).In h)
    (F : ∀ (w : World) (mg : Str → Option Value) (fa : Addr) (h : Heap), (K w.params).In h → h.Ns mainGlobals mg → mg d.name = some (.ref fa) →
      ∃ fd : FuncData, (∀ (s : Shared) (u : Value), BindsTo s fd ⟨[u], []⟩ [("script", u)]) ∧ ∀ base : Heap, (K w.params).In base → base.Ns mainGlobals mg → FnOk l.prog w (K w.params) mg base (L2.CX l.prog w) 42 fa fd ["script"] (spL (K w.params))) :
    PySem.W.WalkO q loose XP YP l.row.toRowW d [] (fun f vs => PySem.call f vs) :=
  L2.walk_of (n := 63) (k := 42) (x := "script") (CX := fun w => L2.CX l.prog w) (sp := fun w => spL (K w.params)) hn (by decide) hdf ⟨rfl, by decide, by decide⟩ hY F
    (fun w H a ns hl hO hS => let ⟨mh, e⟩ := plain ns hl; script_in rfl hO hS e) fun w H s e s' ⟨_, _, _, _, _, _, _, _, _, _, _, _, z⟩ => z
end K66
open PySem PySem.W PyProof.Rows in
set_option maxRecDepth 100000 in
set_option maxHeartbeats 0 in
theorem PySem.Challenge.cw_tellsasleep_k66_papers_as_text_holds : PySem.Challenge.rw_tellsasleep_k66_papers_as_text.Holds := by
  w_on; o_law; k_head; (case hw => w_witness2)
  k_fill
  refine K66.walk (l := PySem.Challenge.rw_tellsasleep_k66_papers_as_text) rfl rfl (fun w h Y => PySem.W.kIn_of Y) ?F
  case F =>
    intro w mg fa h KX G hmg
    refine' K66.all_mk KX G hmg ?d2 ?b_all ?b_bool ?b_dict ?b_int ?b_isinstance ?b_len ?b_list ?b_min ?b_range ?b_str ?b_tuple ?b_zip ?g_SMALL ?g_FIGURES ?f_member_text ?f_paper_text ?f_is_word ?f_is_number ?f_line_of ?f_line_tokens ?f_read_word ?f_read_line ?f_paper_from ?f_law_source ?f_law_pick ?f_law_number ?f_law_shuffled ?f_law_grammar ?f_law_words ?f_law_same ?f_law_member ?f_law_nest ?f_law_written ?f_law_word ?f_law_line ?f_law_read ?f_law_told ?f_law_spoilt ?f_law ?e_BadLetter
    (case d2 => k_is)
    (case b_all => k_is)
    (case b_bool => k_is)
    (case b_dict => k_is)
    (case b_int => k_is)
    (case b_isinstance => k_is)
    (case b_len => k_is)
    (case b_list => k_is)
    (case b_min => k_is)
    (case b_range => k_is)
    (case b_str => k_is)
    (case b_tuple => k_is)
    (case b_zip => k_is)
    (case g_SMALL => k_is)
    (case g_FIGURES => k_is)
    (case f_member_text => refine' Mi.fn_at KX G ?a ?l ?c ?k; (case a => k_is); (case l => k_is); (case c => k_is); (case k => k_is))
    (case f_paper_text => refine' Mi.fn_at KX G ?a ?l ?c ?k; (case a => k_is); (case l => k_is); (case c => k_is); (case k => k_is))
    (case f_is_word => refine' Mi.fn_at KX G ?a ?l ?c ?k; (case a => k_is); (case l => k_is); (case c => k_is); (case k => k_is))
    (case f_is_number => refine' Mi.fn_at KX G ?a ?l ?c ?k; (case a => k_is); (case l => k_is); (case c => k_is); (case k => k_is))
    (case f_line_of => refine' Mi.fn_at KX G ?a ?l ?c ?k; (case a => k_is); (case l => k_is); (case c => k_is); (case k => k_is))
    (case f_line_tokens => refine' Mi.fn_at KX G ?a ?l ?c ?k; (case a => k_is); (case l => k_is); (case c => k_is); (case k => k_is))
    (case f_read_word => refine' Mi.fn_at KX G ?a ?l ?c ?k; (case a => k_is); (case l => k_is); (case c => k_is); (case k => k_is))
    (case f_read_line => refine' Mi.fn_at KX G ?a ?l ?c ?k; (case a => k_is); (case l => k_is); (case c => k_is); (case k => k_is))
    (case f_paper_from => refine' Mi.fn_at KX G ?a ?l ?c ?k; (case a => k_is); (case l => k_is); (case c => k_is); (case k => k_is))
    (case f_law_source => refine' Mi.fn_at KX G ?a ?l ?c ?k; (case a => k_is); (case l => k_is); (case c => k_is); (case k => k_is))
    (case f_law_pick => refine' Mi.fn_at KX G ?a ?l ?c ?k; (case a => k_is); (case l => k_is); (case c => k_is); (case k => k_is))
    (case f_law_number => refine' Mi.fn_at KX G ?a ?l ?c ?k; (case a => k_is); (case l => k_is); (case c => k_is); (case k => k_is))
    (case f_law_shuffled => refine' Mi.fn_at KX G ?a ?l ?c ?k; (case a => k_is); (case l => k_is); (case c => k_is); (case k => k_is))
    (case f_law_grammar => refine' Mi.fn_at KX G ?a ?l ?c ?k; (case a => k_is); (case l => k_is); (case c => k_is); (case k => k_is))
    (case f_law_words => refine' Mi.fn_at KX G ?a ?l ?c ?k; (case a => k_is); (case l => k_is); (case c => k_is); (case k => k_is))
    (case f_law_same => refine' Mi.fn_at KX G ?a ?l ?c ?k; (case a => k_is); (case l => k_is); (case c => k_is); (case k => k_is))
    (case f_law_member => refine' Mi.fn_at KX G ?a ?l ?c ?k; (case a => k_is); (case l => k_is); (case c => k_is); (case k => k_is))
    (case f_law_nest => refine' Mi.fn_at KX G ?a ?l ?c ?k; (case a => k_is); (case l => k_is); (case c => k_is); (case k => k_is))
    (case f_law_written => refine' Mi.fn_at KX G ?a ?l ?c ?k; (case a => k_is); (case l => k_is); (case c => k_is); (case k => k_is))
    (case f_law_word => refine' Mi.fn_at KX G ?a ?l ?c ?k; (case a => k_is); (case l => k_is); (case c => k_is); (case k => k_is))
    (case f_law_line => refine' Mi.fn_at KX G ?a ?l ?c ?k; (case a => k_is); (case l => k_is); (case c => k_is); (case k => k_is))
    (case f_law_read => refine' Mi.fn_at KX G ?a ?l ?c ?k; (case a => k_is); (case l => k_is); (case c => k_is); (case k => k_is))
    (case f_law_told => refine' Mi.fn_at KX G ?a ?l ?c ?k; (case a => k_is); (case l => k_is); (case c => k_is); (case k => k_is))
    (case f_law_spoilt => refine' Mi.fn_at KX G ?a ?l ?c ?k; (case a => k_is); (case l => k_is); (case c => k_is); (case k => k_is))
    (case f_law => refine' Mi.fn_at KX G ?a ?l ?c ?k; (case a => k_is); (case l => k_is); (case c => k_is); (case k => k_is))
    (case e_BadLetter => refine' K66.mk_BadLetter KX G ?aC ?aS ?xL ?xB ?sa ?ga ?gg ?nb ?a1 ?t1 ?l1 ?c1 ?k1 ?kC ?eC ?tC ?hC ?iC ?sC ?rS ?gS ?fS ?zs; (case aC => k_is); (case aS => k_is); (case xL => k_is); (case xB => decide +kernel); (case sa => k_is); (case ga => k_is); (case gg => k_is); (case nb => k_is); (case a1 => k_is); (case t1 => k_is); (case l1 => k_is); (case c1 => k_is); (case k1 => k_is); (case kC => k_is); (case eC => k_is); (case tC => k_is); (case hC => k_is); (case iC => k_is); (case sC => first | rfl | k_is); (case rS => k_is); (case gS => k_is); (case fS => k_is); (case zs => k_is))
