import PyProof.Rows.All
import Wide.All
import OpenK.AllK
import Wide.FinOn
import HandS.ForMost
import HandS.ForExc
import HandS.Deep
import HandS.IsInst
import HandS.Property
import HandS.Defaults
import HandS.HeadHook2
import HandS.TupAny
import HandS.TupLe
import HandS.More
import PyProof.P3In
import PyProof.StrOps2
import HandS.Head0
import HandS.Head1
import HandS.Head2
import HandS.HeadEnd
import HandS.HeadHook1
import PySem.Challenge.RW_keptkinds_k04_order_of_terms
set_option Elab.async false
set_option linter.all false
set_option maxRecDepth 100000
set_option maxHeartbeats 4000000
/-! KD0: data, what stands for it, slots. -/
namespace KD
open PySem L2

inductive D where
  | non | bl (b : Bool) | int (i : Int) | str (x : Str)
  | tup (xs : List D) | lst (xs : List D) | fls (xs : List D) | dic (ks vs : List D) | ob (c : Str) (ns : List Str) (fs : List D)

/-- a value, an error of the class c with these fields, or nothing told -/
inductive Rs (α : Type) where
  | ok (a : α) | xc (c : Str) (ns : List Str) (fs : List D) | bot
def Rs.bind {α β : Type} : Rs α → (α → Rs β) → Rs β
  | .ok a, k => k a
  | .xc c n f, _ => .xc c n f
  | .bot, _ => .bot
@[simp] theorem Rs.bind_ok {α β : Type} (a : α) (k : α → Rs β) : (Rs.ok a).bind k = k a := rfl
@[simp] theorem Rs.bind_xc {α β : Type} (c n f) (k : α → Rs β) : (Rs.xc c n f : Rs α).bind k = .xc c n f := rfl
@[simp] theorem Rs.bind_bot {α β : Type} (k : α → Rs β) : (Rs.bot : Rs α).bind k = .bot := rfl

section
variable (K : PySem.W.Frag)
mutual
inductive Dp (G : Hp) : V → D → Prop
  | non : Dp G .non .non
  | bl (b : Bool) : Dp G (.bl b) (.bl b)
  | int (i : Int) : Dp G (.int i) (.int i)
  | str (x : Str) : PyData.strOk x = true → Dp G (.str x) (.str x)
  | tup {a : Addr} {xs : List V} {ds : List D} : SqT K G a xs → DpAll G xs ds → Dp G (.ref a) (.tup ds)
  | lst {a : Addr} {xs : List V} {ds : List D} : G a = some (.lst xs) → DpAll G xs ds → Dp G (.ref a) (.lst ds)
  | fls {a : Addr} {xs : List V} {ds : List D} : SqL K G a xs → DpAll G xs ds → Dp G (.ref a) (.fls ds)
  | dic {a : Addr} {kvs : List (Key × V)} {ks ds : List D} : G a = some (.dK kvs) → DpAll G (kvs.map fun p => kV p.1) ks → DpAll G (kvs.map (·.2)) ds → Dp G (.ref a) (.dic ks ds)
  | ob {a dx : Addr} {c : Str} {fs : List (Str × V)} {ds : List D} : G a = some (.ins (He.ga K c) dx fs) → DpAll G (fs.map (·.2)) ds → Dp G (.ref a) (.ob c (fs.map (·.1)) ds)
inductive DpAll (G : Hp) : List V → List D → Prop
  | nil : DpAll G [] []
  | cons {v : V} {vs : List V} {d : D} {ds : List D} : Dp G v d → DpAll G vs ds → DpAll G (v :: vs) (d :: ds)
end
end

theorem SqT.mono {K : PySem.W.Frag} {G G' : Hp} {a : Addr} {xs : List V} (s : Same G G') (h : SqT K G a xs) : SqT K G' a xs := by
  rcases h with h | h
  · rcases h with h | ⟨o, h⟩
    · exact .inl (.inl (s _ _ h))
    · exact .inl (.inr ⟨o, s _ _ h⟩)
  · exact .inr h

section
variable {K : PySem.W.Frag} {G G' H H' : Hp}
mutual
theorem Dp.mono (s : Same G G') : ∀ (d : D) (v : V), Dp K G v d → Dp K G' v d
  | .non, _, h => by cases h; exact .non
  | .bl _, _, h => by cases h; exact .bl _
  | .int _, _, h => by cases h; exact .int _
  | .str _, _, h => by
    cases h with
    | str _ hx => exact .str _ hx
  | .tup ds, _, h => by
    cases h with
    | tup hs ha => exact .tup (KD.SqT.mono s hs) (DpAll.mono s ds _ ha)
  | .lst ds, _, h => by
    cases h with
    | lst hs ha => exact .lst (s _ _ hs) (DpAll.mono s ds _ ha)
  | .fls ds, _, h => by
    cases h with
    | fls hs ha => exact .fls (s.seq hs) (DpAll.mono s ds _ ha)
  | .dic ks ds, _, h => by
    cases h with
    | dic hs hk ha => exact .dic (s _ _ hs) (DpAll.mono s ks _ hk) (DpAll.mono s ds _ ha)
  | .ob c ns ds, _, h => by
    cases h with
    | ob hs ha => exact .ob (s _ _ hs) (DpAll.mono s ds _ ha)
theorem DpAll.mono (s : Same G G') : ∀ (ds : List D) (vs : List V), DpAll K G vs ds → DpAll K G' vs ds
  | [], _, h => by cases h; exact .nil
  | d :: ds, _, h => by
    cases h with
    | cons h1 h2 => exact .cons (Dp.mono s d _ h1) (DpAll.mono s ds _ h2)
end
theorem Dp.up (s : Same G G') {d : D} {v : V} (h : Dp K G v d) : Dp K G' v d := Dp.mono s d v h
theorem DpAll.up (s : Same G G') {d : List D} {v : List V} (h : DpAll K G v d) : DpAll K G' v d := DpAll.mono s d v h
theorem DpAll.length : ∀ {vs : List V} {ds : List D}, DpAll K G vs ds → vs.length = ds.length
  | _, _, .nil => rfl
  | _, _, .cons _ t => by simp [DpAll.length t]
theorem DpAll.append : ∀ {vs ws : List V} {ds es : List D}, DpAll K G vs ds → DpAll K G ws es → DpAll K G (vs ++ ws) (ds ++ es)
  | _, _, _, _, .nil, h => h
  | _, _, _, _, .cons a t, h => .cons a (DpAll.append t h)
theorem DpAll.get : ∀ {vs : List V} {ds : List D} {i : Nat} {v : V}, DpAll K G vs ds → vs[i]? = some v → ∃ d, ds[i]? = some d ∧ Dp K G v d
  | _, _, i, v, .nil, e => by simp at e
  | _, _, 0, v, .cons a t, e => by simp at e; subst e; exact ⟨_, rfl, a⟩
  | _, _, i + 1, v, .cons a t, e => by
    obtain ⟨d, h1, h2⟩ := DpAll.get (i := i) (v := v) t (by simpa using e)
    exact ⟨d, by simpa using h1, h2⟩
theorem DpAll.getD : ∀ {vs : List V} {ds : List D} {i : Nat} {d : D}, DpAll K G vs ds → ds[i]? = some d → ∃ v, vs[i]? = some v ∧ Dp K G v d
  | _, _, i, v, .nil, e => by simp at e
  | _, _, 0, v, .cons a t, e => by simp at e; subst e; exact ⟨_, rfl, a⟩
  | _, _, i + 1, v, .cons a t, e => by
    obtain ⟨d, h1, h2⟩ := DpAll.getD (i := i) (d := v) t (by simpa using e)
    exact ⟨d, by simpa using h1, h2⟩
theorem DpAll.take : ∀ {vs : List V} {ds : List D} (n : Nat), DpAll K G vs ds → DpAll K G (vs.take n) (ds.take n)
  | _, _, 0, _ => .nil
  | _, _, _ + 1, .nil => .nil
  | _, _, n + 1, .cons a t => .cons a (DpAll.take n t)
theorem DpAll.drop : ∀ {vs : List V} {ds : List D} (n : Nat), DpAll K G vs ds → DpAll K G (vs.drop n) (ds.drop n)
  | _, _, 0, h => h
  | _, _, _ + 1, .nil => .nil
  | _, _, n + 1, .cons _ t => DpAll.drop n t

/-- only new things were laid; G is the part that data may lean on -/
structure Grow (H G H' G' : Hp) : Prop where
  hh : Same H H'
  gg : Same G G'
  gh : Same G' H'
  nw : ∀ a o, G' a = some o → G a = some o ∨ H a = none
theorem Grow.refl (s : Same G H) : Grow H G H G := ⟨Same.refl _, Same.refl _, s, fun _ _ h => .inl h⟩
theorem Grow.trans {H1 G1 H2 G2 : Hp} (a : Grow H G H1 G1) (b : Grow H1 G1 H2 G2) : Grow H G H2 G2 :=
  ⟨a.hh.trans b.hh, a.gg.trans b.gg, b.gh, fun c o h => by
    rcases b.nw c o h with h | h
    · exact a.nw c o h
    · exact .inr (a.hh.free h)⟩
theorem same_upd {H : Hp} {a : Addr} {o : HO} (n : H a = none) : Same H (upd H a o) := fun b u h => by rw [upd_ne (ne_of_none h n)]; exact h
/-- a new data object -/
theorem Grow.laid (s : Same G H) {a : Addr} {o : HO} (n : H a = none) : Grow H G (upd H a o) (upd G a o) := by
  have ng : G a = none := s.free n
  refine ⟨same_upd n, same_upd ng, fun b u h => ?_, fun b u h => ?_⟩
  · by_cases e : b = a
    · subst e; rw [upd_same] at h ⊢; exact h
    · rw [upd_ne e] at h ⊢; exact s b u h
  · by_cases e : b = a
    · subst e; exact .inr n
    · rw [upd_ne e] at h; exact .inl h
/-- a new thing beside the data -/
theorem Grow.beside (s : Same G H) {a : Addr} {o : HO} (n : H a = none) : Grow H G (upd H a o) G :=
  ⟨same_upd n, Same.refl _, s.trans (same_upd n), fun _ _ h => .inl h⟩

/-- a slot: nothing told; data; an owned list; an owned dict -/
inductive Sl where
  | no | dt (d : D) | ol (xs : List D) | od (ks vs : List D)
abbrev Ev := List Sl
def Sl.own : Sl → Bool
  | .ol _ => true
  | .od _ _ => true
  | _ => false
def SlOk (K : PySem.W.Frag) (G H : Hp) (o : Option V) : Sl → Prop
  | .no => True
  | .dt d => ∃ v, o = some v ∧ Dp K G v d
  | .ol xs => ∃ a vs, o = some (.ref a) ∧ H a = some (.lst vs) ∧ G a = none ∧ DpAll K G vs xs
  | .od ks vs => ∃ (a : Addr) (us : List (Key × V)), o = some (.ref a) ∧ H a = some (.dK us) ∧ G a = none ∧ DpAll K G (us.map fun p => kV p.1) ks ∧ DpAll K G (us.map (·.2)) vs
structure Rep (K : PySem.W.Frag) (G H : Hp) (σ : St) (ρ : Ev) : Prop where
  len : σ.length = ρ.length
  sl : ∀ (i : Nat) (s : Sl) (o : Option V), ρ[i]? = some s → σ[i]? = some o → SlOk K G H o s
  dis : ∀ (i j : Nat) (s t : Sl) (a : Addr), ρ[i]? = some s → ρ[j]? = some t → s.own = true → t.own = true → σ[i]? = some (some (.ref a)) → σ[j]? = some (some (.ref a)) → i = j

theorem SlOk.grow {o : Option V} {s : Sl} (g : Grow H G H' G') (h : SlOk K G H o s) : SlOk K G' H' o s := by
  have fr : ∀ a, (∃ u, H a = some u) → G a = none → G' a = none := fun a hu n => by
    obtain ⟨u, hu⟩ := hu
    cases e : G' a with
    | none => rfl
    | some w =>
      rcases g.nw a w e with q | q
      · rw [n] at q; cases q
      · rw [hu] at q; cases q
  cases s with
  | no => trivial
  | dt d => obtain ⟨v, e, q⟩ := h; exact ⟨v, e, q.up g.gg⟩
  | ol xs => obtain ⟨a, vs, e, q, n, r⟩ := h; exact ⟨a, vs, e, g.hh _ _ q, fr a ⟨_, q⟩ n, r.up g.gg⟩
  | od ks vs => obtain ⟨a, us, e, q, n, z, r⟩ := h; exact ⟨a, us, e, g.hh _ _ q, fr a ⟨_, q⟩ n, z.up g.gg, r.up g.gg⟩
theorem Rep.grow {σ : St} {ρ : Ev} (g : Grow H G H' G') (r : Rep K G H σ ρ) : Rep K G' H' σ ρ :=
  ⟨r.len, fun i s o h1 h2 => (r.sl i s o h1 h2).grow g, r.dis⟩
theorem Rep.dt {σ : St} {ρ : Ev} (r : Rep K G H σ ρ) {i : Nat} {d : D} (h : ρ[i]? = some (.dt d)) : ∃ v, σ[i]? = some (some v) ∧ Dp K G v d := by
  have hi : i < σ.length := by rw [r.len]; exact (List.getElem?_eq_some_iff.mp h).1
  obtain ⟨v, e, q⟩ := r.sl i _ (σ[i]) h (by simp [hi])
  exact ⟨v, by rw [List.getElem?_eq_getElem hi, e], q⟩
theorem Rep.ol {σ : St} {ρ : Ev} (r : Rep K G H σ ρ) {i : Nat} {xs : List D} (h : ρ[i]? = some (.ol xs)) : ∃ a vs, σ[i]? = some (some (.ref a)) ∧ H a = some (.lst vs) ∧ G a = none ∧ DpAll K G vs xs := by
  have hi : i < σ.length := by rw [r.len]; exact (List.getElem?_eq_some_iff.mp h).1
  obtain ⟨a, vs, e, q⟩ := r.sl i _ (σ[i]) h (by simp [hi])
  exact ⟨a, vs, by rw [List.getElem?_eq_getElem hi, e], q⟩
theorem Rep.od {σ : St} {ρ : Ev} (r : Rep K G H σ ρ) {i : Nat} {ks xs : List D} (h : ρ[i]? = some (.od ks xs)) : ∃ (a : Addr) (us : List (Key × V)), σ[i]? = some (some (.ref a)) ∧ H a = some (.dK us) ∧ G a = none ∧ DpAll K G (us.map fun p => kV p.1) ks ∧ DpAll K G (us.map (·.2)) xs := by
  have hi : i < σ.length := by rw [r.len]; exact (List.getElem?_eq_some_iff.mp h).1
  obtain ⟨a, vs, e, q⟩ := r.sl i _ (σ[i]) h (by simp [hi])
  exact ⟨a, vs, by rw [List.getElem?_eq_getElem hi, e], q⟩
theorem Rep.addr {σ : St} {ρ : Ev} (r : Rep K G H σ ρ) {i : Nat} {s : Sl} {a : Addr} (h : ρ[i]? = some s) (ho : s.own = true) (e : σ[i]? = some (some (.ref a))) : (∃ u, H a = some u) ∧ G a = none := by
  cases s with
  | no => cases ho
  | dt d => cases ho
  | ol xs =>
    obtain ⟨b, vs, e1, q, n, _⟩ := r.ol h
    rw [e] at e1; cases e1
    exact ⟨⟨_, q⟩, n⟩
  | od ks vs =>
    obtain ⟨b, us, e1, q, n, _⟩ := r.od h
    rw [e] at e1; cases e1
    exact ⟨⟨_, q⟩, n⟩
/-- a slot is stored -/
theorem Rep.set {σ : St} {ρ : Ev} (r : Rep K G H σ ρ) {i : Nat} {s : Sl} {o : Option V} (h : SlOk K G H o s)
    (hd : ∀ a, s.own = true → o = some (.ref a) → ∀ j t, j ≠ i → ρ[j]? = some t → t.own = true → σ[j]? ≠ some (some (.ref a))) : Rep K G H (σ.set i o) (ρ.set i s) := by
  refine ⟨by simp [r.len], fun j t u h1 h2 => ?_, fun j k t u a h1 h2 o1 o2 e1 e2 => ?_⟩
  · by_cases hj : i = j
    · subst hj
      have hi : i < ρ.length := by have := (List.getElem?_eq_some_iff.mp h1).1; simpa using this
      rw [List.getElem?_set_self hi] at h1
      rw [List.getElem?_set_self (by rw [r.len]; exact hi)] at h2
      cases h1; cases h2; exact h
    · rw [List.getElem?_set_ne hj] at h1 h2
      exact r.sl j t u h1 h2
  · by_cases hj : i = j
    · subst hj
      by_cases hk : i = k
      · exact hk
      · exfalso
        have hi : i < ρ.length := by have := (List.getElem?_eq_some_iff.mp h1).1; simpa using this
        rw [List.getElem?_set_self hi] at h1
        rw [List.getElem?_set_self (by rw [r.len]; exact hi)] at e1
        rw [List.getElem?_set_ne hk] at h2 e2
        cases h1
        have e1' : o = some (.ref a) := Option.some.inj e1
        exact hd a o1 e1' k u (Ne.symm hk) h2 o2 e2
    · by_cases hk : i = k
      · subst hk
        exfalso
        have hi : i < ρ.length := by have := (List.getElem?_eq_some_iff.mp h2).1; simpa using this
        rw [List.getElem?_set_self hi] at h2
        rw [List.getElem?_set_self (by rw [r.len]; exact hi)] at e2
        rw [List.getElem?_set_ne hj] at h1 e1
        cases h2
        have e2' : o = some (.ref a) := Option.some.inj e2
        exact hd a o2 e2' j t (Ne.symm hj) h1 o1 e1
      · rw [List.getElem?_set_ne hj] at h1 e1
        rw [List.getElem?_set_ne hk] at h2 e2
        exact r.dis j k t u a h1 h2 o1 o2 e1 e2
theorem Rep.setDt {σ : St} {ρ : Ev} (r : Rep K G H σ ρ) {i : Nat} {d : D} {v : V} (h : Dp K G v d) : Rep K G H (σ.set i (some v)) (ρ.set i (.dt d)) :=
  r.set ⟨v, rfl, h⟩ (fun _ o => by cases o)
/-- forgetting a slot -/
theorem Rep.drop {σ : St} {ρ : Ev} (r : Rep K G H σ ρ) (i : Nat) : Rep K G H σ (ρ.set i .no) := by
  refine ⟨by simp [r.len], fun j t u h1 h2 => ?_, fun j k t u a h1 h2 o1 o2 e1 e2 => ?_⟩
  · by_cases hj : i = j
    · subst hj
      have hi : i < ρ.length := by have := (List.getElem?_eq_some_iff.mp h1).1; simpa using this
      rw [List.getElem?_set_self hi] at h1; cases h1; trivial
    · rw [List.getElem?_set_ne hj] at h1
      exact r.sl j t u h1 h2
  · have ne : ∀ {j : Nat} {t : Sl}, (ρ.set i .no)[j]? = some t → t.own = true → ρ[j]? = some t := fun {j t} h o => by
      by_cases hj : i = j
      · subst hj
        have hi : i < ρ.length := by have := (List.getElem?_eq_some_iff.mp h).1; simpa using this
        rw [List.getElem?_set_self hi] at h; cases h; cases o
      · rw [List.getElem?_set_ne hj] at h; exact h
    exact r.dis j k t u a (ne h1 o1) (ne h2 o2) o1 o2 e1 e2

/-! ### ends of expressions -/
def XdOk (K : PySem.W.Frag) (H G : Hp) : Option Addr → List Str → List D → Prop
  | none, ns, fs => ns = [] ∧ fs = []
  | some dx, ns, fs => ∃ vs : List (Str × V), H dx = some (.xd vs) ∧ ns = vs.map (·.1) ∧ DpAll K G (vs.map (·.2)) fs
def Fi {α : Type} (K : PySem.W.Frag) (E : XK) (H G : Hp) (r : Rs α) (P : α → Hp → Hp → Prop) : Prop := match r with
  | .ok a => ∀ H' G', Grow H G H' G' → P a H' G'
  | .xc c ns fs => ∀ od H' G', Grow H G H' G' → XdOk K H' G' od ns fs → E (.ref (He.ga K c)) od H'
  | .bot => False
theorem Fi.imp {α : Type} {E : XK} {r : Rs α} {P P' : α → Hp → Hp → Prop} (h : Fi K E H G r P) (f : ∀ a H' G', Grow H G H' G' → P a H' G' → P' a H' G') : Fi K E H G r P' := by
  cases r with
  | ok a => exact fun H' G' g => f a H' G' g (h H' G' g)
  | xc c n fs => exact h
  | bot => exact h
theorem Fi.grow {α : Type} {E : XK} {r : Rs α} {P : α → Hp → Hp → Prop} (h : Fi K E H G r P) (g : Grow H G H' G') : Fi K E H' G' r P := by
  cases r with
  | ok a => exact fun H'' G'' g' => h H'' G'' (g.trans g')
  | xc c n fs => exact fun od H'' G'' g' x => h od H'' G'' (g.trans g') x
  | bot => exact h
theorem Fi.bind {α β : Type} {E : XK} {r : Rs α} {k : α → Rs β} {P : β → Hp → Hp → Prop} (h : Fi K E H G (r.bind k) P) : Fi K E H G r (fun a H' G' => Fi K E H' G' (k a) P) := by
  cases r with
  | ok a => exact fun H' G' g => Fi.grow (r := k a) h g
  | xc c n fs => exact h
  | bot => exact h
/-- now, at this very heap -/
theorem Fi.now {α : Type} {E : XK} {a : α} {P : α → Hp → Hp → Prop} (s : Same G H) (h : Fi K E H G (.ok a) P) : P a H G := h H G (Grow.refl s)
end
end KD

/-! KD1: expressions as functions of the slots. -/
namespace KD
open PySem L2

theorem peI {X : Cx} {e : Expr} {t t' : TE} (h : PE X e t) (f : ∀ σ H Q, t' σ H Q → t σ H Q) : PE X e t' := ⟨fun pins s σ H Q I q => h.run pins s σ H Q I (f σ H Q q)⟩
theorem ptI {X : Cx} {e : Expr} {t t' : TT} (h : PT X e t) (f : ∀ σ H Q, t' σ H Q → t σ H Q) : PT X e t' := ⟨fun pins s σ H Q I q => h.run pins s σ H Q I (f σ H Q q)⟩
theorem pwI {X : Cx} {e : Expr} {t t' : TT} (h : PW X e t) (f : ∀ σ H Q, t' σ H Q → t σ H Q) : PW X e t' := ⟨fun w pins s σ H Q I q => h.run w pins s σ H Q I (f σ H Q q)⟩
theorem paI {X : Cx} {e : List Expr} {t t' : TA} (h : PA X e t) (f : ∀ σ H Q, t' σ H Q → t σ H Q) : PA X e t' := ⟨fun pos pins s σ H Q I q => h.run pos pins s σ H Q I (f σ H Q q)⟩
theorem psI {X : Cx} {e : Stmt} {t t' : TS} (h : PS X e t) (f : ∀ D σ H, t' D σ H → t D σ H) : PS X e t' := ⟨fun pins s σ H D I q => h.run pins s σ H D I (f D σ H q)⟩
theorem pssI {X : Cx} {e : List Stmt} {t t' : TS} (h : PSs X e t) (f : ∀ D σ H, t' D σ H → t D σ H) : PSs X e t' := ⟨fun pins s σ H D I q => h.run pins s σ H D I (f D σ H q)⟩

def tG {α : Type} (K : PySem.W.Frag) (E : XK) (f : Ev → Rs α) (P : α → Hp → Hp → Prop) : L2.St → Hp → Prop := fun σ H => ∃ ρ G, Same G H ∧ Rep K G H σ ρ ∧ Fi K E H G (f ρ) P
def tD (K : PySem.W.Frag) (E : XK) (f : Ev → Rs D) : TE := fun σ H Q => tG K E f (fun d H' G' => ∀ v, Dp K G' v d → Q v H') σ H
def tDT (K : PySem.W.Frag) (E : XK) (f : Ev → Rs Bool) : TT := fun σ H Q => tG K E f (fun b H' _ => Q b H') σ H
def tDA (K : PySem.W.Frag) (E : XK) (f : Ev → Rs (List D)) : TA := fun σ H Q => tG K E f (fun d H' G' => ∀ v, DpAll K G' v d → Q v H') σ H
abbrev DE (X : Cx) (E : XK) (e : Expr) (f : Ev → Rs D) : Prop := PE X e (tD X.K E f)
abbrev DT (X : Cx) (E : XK) (e : Expr) (f : Ev → Rs Bool) : Prop := PT X e (tDT X.K E f)
abbrev DW (X : Cx) (E : XK) (e : Expr) (f : Ev → Rs Bool) : Prop := PW X e (tDT X.K E f)
abbrev DA (X : Cx) (E : XK) (e : List Expr) (f : Ev → Rs (List D)) : Prop := PA X e (tDA X.K E f)

/-! ### data operations -/
mutual
def D.py : D → PyData
  | .non => .none
  | .bl b => .bool b
  | .int i => .int i
  | .str x => .str x
  | .tup xs => .tuple (D.pys xs)
  | .lst xs => .list (D.pys xs)
  | .fls xs => .list (D.pys xs)
  | .dic _ _ => .dict []
  | .ob _ _ _ => .dict []
def D.pys : List D → List PyData
  | [] => []
  | d :: ds => d.py :: D.pys ds
end
mutual
def D.plain : D → Bool
  | .dic _ _ => false
  | .ob _ _ _ => false
  | .tup xs => D.plains xs
  | .lst xs => D.plains xs
  | .fls xs => D.plains xs
  | _ => true
def D.plains : List D → Bool
  | [] => true
  | d :: ds => d.plain && D.plains ds
end
mutual
def D.dep : D → Nat
  | .tup xs => D.deps xs + 1
  | .lst xs => D.deps xs + 1
  | .fls xs => D.deps xs + 1
  | _ => 0
def D.deps : List D → Nat
  | [] => 0
  | d :: ds => max d.dep (D.deps ds)
end
def eqD (d e : D) : Bool := PyData.eqv d.py e.py
def eqOk (d e : D) : Bool := d.plain && e.plain && (decide (d.dep ≤ 200) || decide (e.dep ≤ 200))
def gEq (d e : D) : Rs D := if eqOk d e then .ok (.bl (eqD d e)) else .bot
def gNe (d e : D) : Rs D := if eqOk d e then .ok (.bl (!eqD d e)) else .bot

section
variable {K : PySem.W.Frag} {G H : Hp}
mutual
theorem Dp.pyD : ∀ (d : D) (v : V), d.plain = true → KD.Dp K G v d → L2.Dp K G v d.py ∧ d.py.canLay0 = true ∧ d.py.depth = d.dep
  | .non, _, _, h => by cases h; exact ⟨.non, rfl, rfl⟩
  | .bl _, _, _, h => by cases h; exact ⟨.bl _, rfl, rfl⟩
  | .int _, _, _, h => by cases h; exact ⟨.int _, rfl, rfl⟩
  | .str _, _, _, h => by
    cases h with
    | str _ hx => exact ⟨.str _, by simpa [D.py, PyData.canLay0] using hx, by simp [D.py, PyData.depth, D.dep]⟩
  | .tup ds, _, p, h => by
    cases h with
    | tup hs ha =>
      obtain ⟨a, b, c⟩ := DpAll.pyD ds _ (by simpa [D.plain] using p) ha
      exact ⟨.tup hs a, by simpa [D.py, PyData.canLay0] using b, by simp [D.py, PyData.depth, D.dep, c]⟩
  | .lst ds, _, p, h => by
    cases h with
    | lst hs ha =>
      obtain ⟨a, b, c⟩ := DpAll.pyD ds _ (by simpa [D.plain] using p) ha
      exact ⟨.lst (SqL.of hs) a, by simpa [D.py, PyData.canLay0] using b, by simp [D.py, PyData.depth, D.dep, c]⟩
  | .fls ds, _, p, h => by
    cases h with
    | fls hs ha =>
      obtain ⟨a, b, c⟩ := DpAll.pyD ds _ (by simpa [D.plain] using p) ha
      exact ⟨.lst hs a, by simpa [D.py, PyData.canLay0] using b, by simp [D.py, PyData.depth, D.dep, c]⟩
  | .dic _ _, _, p, _ => by simp [D.plain] at p
  | .ob _ _ _, _, p, _ => by simp [D.plain] at p
theorem DpAll.pyD : ∀ (ds : List D) (vs : List V), D.plains ds = true → KD.DpAll K G vs ds → L2.DpAll K G vs (D.pys ds) ∧ PyData.canLayAll0 (D.pys ds) = true ∧ PyData.depthAll (D.pys ds) = D.deps ds
  | [], _, _, h => by cases h; exact ⟨.nil, by simp [D.pys, PyData.canLayAll0], by simp [D.pys, PyData.depthAll, D.deps]⟩
  | d :: ds, _, p, h => by
    cases h with
    | cons h1 h2 =>
      have p' : d.plain = true ∧ D.plains ds = true := by simpa [D.plains] using p
      obtain ⟨a, b, c⟩ := Dp.pyD d _ p'.1 h1
      obtain ⟨a', b', c'⟩ := DpAll.pyD ds _ p'.2 h2
      exact ⟨.cons a a', by simp [D.pys, PyData.canLayAll0, b, b'], by simp [D.pys, PyData.depthAll, D.deps, c, c']⟩
end
mutual
theorem hDp_up {G G' : Hp} (s : Same G G') : ∀ (d : PyData) (v : V), L2.Dp K G v d → L2.Dp K G' v d
  | .none, _, h => by cases h; exact .non
  | .bool _, _, h => by cases h; exact .bl _
  | .int _, _, h => by cases h; exact .int _
  | .str _, _, h => by cases h; exact .str _
  | .tuple ds, _, h => by cases h with | tup hs ha => exact .tup (KD.SqT.mono s hs) (hDpAll_up s ds _ ha)
  | .list ds, _, h => by cases h with | lst hs ha => exact .lst (s.seq hs) (hDpAll_up s ds _ ha)
  | .dict _, _, h => by cases h
theorem hDpAll_up {G G' : Hp} (s : Same G G') : ∀ (ds : List PyData) (vs : List V), L2.DpAll K G vs ds → L2.DpAll K G' vs ds
  | [], _, h => by cases h; exact .nil
  | d :: ds, _, h => by cases h with | cons h1 h2 => exact .cons (hDp_up s d _ h1) (hDpAll_up s ds _ h2)
end
end

/-- an operation on two values by data -/
def OpDD (X : Cx) (f : Value → Value → Sem Value) (g : D → D → Rs D) : Prop := ∃ r : R2, OpR X f r ∧
  ∀ (E : XK) (G H : Hp) (x y : V) (dx dy : D) (Q : VK), Same G H → Dp X.K G x dx → Dp X.K G y dy → Fi X.K E H G (g dx dy) (fun d H' G' => ∀ v, Dp X.K G' v d → Q v H') → r x y H Q
def CallDD (X : Cx) (f : Value) (g : List D → Rs D) : Prop := ∃ r : List V → Hp → VK → Prop, CallR X f r ∧
  ∀ (E : XK) (G H : Hp) (xs : List V) (ds : List D) (Q : VK), Same G H → DpAll X.K G xs ds → Fi X.K E H G (g ds) (fun d H' G' => ∀ v, Dp X.K G' v d → Q v H') → r xs H Q

def gAdd (x y : D) : Rs D := match x, y with
  | .int i, .int j => .ok (.int (i + j))
  | .str a, .str b => if a.length + b.length ≤ sizeLine then .ok (.str (a ++ b)) else .bot
  | .tup a, .tup b => if a.length + b.length ≤ sizeLine then .ok (.tup (a ++ b)) else .bot
  | .lst a, .lst b => if a.length + b.length ≤ sizeLine then .ok (.lst (a ++ b)) else .bot
  | _, _ => .bot
def gSub (x y : D) : Rs D := match x, y with
  | .int i, .int j => .ok (.int (i - j))
  | _, _ => .bot
/-- one of them below 2^64 -/
def okMul (i j : Int) : Bool := decide ((-(2 ^ 64) < i ∧ i < 2 ^ 64) ∨ (-(2 ^ 64) < j ∧ j < 2 ^ 64))
theorem okMul_iff {i j : Int} : okMul i j = true ↔ (-(2 ^ 64) < i ∧ i < 2 ^ 64) ∨ (-(2 ^ 64) < j ∧ j < 2 ^ 64) := by unfold okMul; exact decide_eq_true_iff
theorem okMul_r (i : Int) {j : Int} (h : -(2 ^ 64) < j ∧ j < 2 ^ 64) : okMul i j = true := okMul_iff.mpr (.inr h)
theorem okMul_l (j : Int) {i : Int} (h : -(2 ^ 64) < i ∧ i < 2 ^ 64) : okMul i j = true := okMul_iff.mpr (.inl h)
def okPow (i j : Int) : Bool := decide (0 ≤ j ∧ j ≤ 1000000 ∧ i.natAbs < 2 ^ 64)
/-- x * y: ints, one of them below 2^64; a short text; a list -/
def gMul (x y : D) : Rs D := match x, y with
  | .int i, .int j => if okMul i j = true then .ok (.int (i * j)) else .bot
  | .str a, .int n => if 0 ≤ n ∧ n ≤ 1000 ∧ a.length ≤ 1000 then .ok (.str ⟨(List.replicate n.toNat a.cps.toList).flatten.toArray⟩) else .bot
  | .lst a, .int n => if 0 ≤ n ∧ n ≤ 1000 ∧ a.length ≤ 1000 then .ok (.lst (List.replicate n.toNat a).flatten) else .bot
  | _, _ => .bot
def gDiv (x y : D) : Rs D := match x, y with
  | .int i, .int j => if 0 < j ∧ j < 1073741824 then .ok (.int (i / j)) else .bot
  | _, _ => .bot
def gMod (x y : D) : Rs D := match x, y with
  | .int i, .int j => if 0 < j then .ok (.int (i % j)) else .bot
  | _, _ => .bot
def gPow (x y : D) : Rs D := match x, y with
  | .int i, .int j => if okPow i j = true then .ok (.int (i ^ j.toNat)) else .bot
  | _, _ => .bot
def gLt (x y : D) : Rs D := match x, y with
  | .int i, .int j => .ok (.bl (decide (i < j)))
  | _, _ => .bot
def gLe (x y : D) : Rs D := match x, y with
  | .int i, .int j => .ok (.bl (decide (i ≤ j)))
  | _, _ => .bot
def gGt (x y : D) : Rs D := match x, y with
  | .int i, .int j => .ok (.bl (decide (j < i)))
  | _, _ => .bot
def gGe (x y : D) : Rs D := match x, y with
  | .int i, .int j => .ok (.bl (decide (j ≤ i)))
  | _, _ => .bot

theorem strOk_app {a b : Str} (ha : PyData.strOk a = true) (hb : PyData.strOk b = true) : PyData.strOk (a ++ b) = true := by
  unfold PyData.strOk at *
  show (a.cps ++ b.cps).all (· < 0x110000) = true
  rw [Array.all_append, ha, hb]; rfl

section
variable {X : Cx}
/-- at once, without growth -/
theorem fi0 {K : PySem.W.Frag} {E : XK} {H G : Hp} {d : D} {Q : VK} {v : V} (s : Same G H) (fi : Fi K E H G (.ok d) (fun d H' G' => ∀ v, Dp K G' v d → Q v H')) (h : Dp K G v d) : Q v H := fi H G (Grow.refl s) v h
/-- a new object -/
theorem fiN {K : PySem.W.Frag} {E : XK} {H G : Hp} {d : D} {Q : VK} {p : Addr} {o : HO} (s : Same G H) (fi : Fi K E H G (.ok d) (fun d H' G' => ∀ v, Dp K G' v d → Q v H')) (n : H p = none) (h : Dp K (upd G p o) (.ref p) d) : Q (.ref p) (upd H p o) :=
  fi _ _ (Grow.laid s n) _ h

theorem dd_sub : OpDD X (binaryOp .Sub) gSub := ⟨_, op_sub, fun E G H x y dx dy Q s hx hy fi => by
  cases hx <;> cases hy <;> first | exact False.elim fi | exact ⟨_, _, rfl, rfl, fi0 s fi (.int _)⟩⟩
theorem dd_lt0 : OpDD X (compareOp .Lt) gLt := ⟨_, op_lt, fun E G H x y dx dy Q s hx hy fi => by
  cases hx <;> cases hy <;> first | exact False.elim fi | exact ⟨_, _, rfl, rfl, fi0 s fi (.bl _)⟩⟩
theorem dd_le : OpDD X (compareOp .LtE) gLe := ⟨_, op_le, fun E G H x y dx dy Q s hx hy fi => by
  cases hx <;> cases hy <;> first | exact False.elim fi | exact ⟨_, _, rfl, rfl, fi0 s fi (.bl _)⟩⟩
theorem dd_gt : OpDD X (compareOp .Gt) gGt := ⟨_, op_gt, fun E G H x y dx dy Q s hx hy fi => by
  cases hx <;> cases hy <;> first | exact False.elim fi | exact ⟨_, _, rfl, rfl, fi0 s fi (.bl _)⟩⟩
theorem dd_ge : OpDD X (compareOp .GtE) gGe := ⟨_, op_ge, fun E G H x y dx dy Q s hx hy fi => by
  cases hx <;> cases hy <;> first | exact False.elim fi | exact ⟨_, _, rfl, rfl, fi0 s fi (.bl _)⟩⟩
theorem dd_div : OpDD X (binaryOp .FloorDiv) gDiv := ⟨_, op_fdiv, fun E G H x y dx dy Q s hx hy fi => by
  cases hx <;> cases hy <;> try exact False.elim fi
  rename_i i j
  by_cases c : 0 < j ∧ j < 1073741824
  · unfold gDiv at fi; dsimp only at fi; rw [if_pos c] at fi
    exact ⟨_, _, rfl, rfl, c, fi0 s fi (.int _)⟩
  · unfold gDiv at fi; dsimp only at fi; rw [if_neg c] at fi; exact False.elim fi⟩
theorem dd_mod : OpDD X (binaryOp .Mod) gMod := ⟨_, op_mod, fun E G H x y dx dy Q s hx hy fi => by
  cases hx <;> cases hy <;> try exact False.elim fi
  rename_i i j
  by_cases c : 0 < j
  · unfold gMod at fi; dsimp only at fi; rw [if_pos c] at fi
    exact ⟨_, _, rfl, rfl, c, fi0 s fi (.int _)⟩
  · unfold gMod at fi; dsimp only at fi; rw [if_neg c] at fi; exact False.elim fi⟩
theorem dd_pow : OpDD X (binaryOp .Pow) gPow := ⟨_, op_pow, fun E G H x y dx dy Q s hx hy fi => by
  cases hx <;> cases hy <;> try exact False.elim fi
  rename_i i j
  by_cases c : okPow i j = true
  · unfold gPow at fi; dsimp only at fi; rw [if_pos c] at fi
    exact ⟨_, _, rfl, rfl, (show 0 ≤ j ∧ j ≤ 1000000 ∧ i.natAbs < 2 ^ 64 from of_decide_eq_true c), fi0 s fi (.int _)⟩
  · unfold gPow at fi; dsimp only at fi; rw [if_neg c] at fi; exact False.elim fi⟩
theorem dd_add : OpDD X (binaryOp .Add) gAdd := ⟨_, op_add.or (op_add_str.or (op_cat.or op_catA)), fun E G H x y dx dy Q s hx hy fi => by
  cases hx with
  | int i =>
    cases hy <;> try exact False.elim fi
    exact .inl ⟨_, _, rfl, rfl, fi0 s fi (.int _)⟩
  | str a ha =>
    cases hy <;> try exact False.elim fi
    rename_i b hb
    by_cases c : a.length + b.length ≤ sizeLine
    · unfold gAdd at fi; dsimp only at fi; rw [if_pos c] at fi
      exact .inr (.inl ⟨_, _, rfl, rfl, c, fi0 s fi (.str _ (strOk_app ha hb))⟩)
    · unfold gAdd at fi; dsimp only at fi; rw [if_neg c] at fi; exact False.elim fi
  | tup h1 h2 =>
    cases hy <;> try exact False.elim fi
    rename_i a xs ds b ys es h3 h4
    by_cases c : ds.length + es.length ≤ sizeLine
    · unfold gAdd at fi; dsimp only at fi; rw [if_pos c] at fi
      have l1 := h2.length; have l2 := h4.length
      refine .inr (.inr (.inr ⟨_, _, _, _, rfl, rfl, KD.SqT.mono s h1, KD.SqT.mono s h3, by omega, fun e => ?_, fun e e' => ?_, fun e e' p np => ?_⟩))
      · subst e; cases h2; exact fi0 s fi (.tup h3 h4)
      · subst e'; cases h4; rw [List.append_nil] at fi; exact fi0 s fi (.tup h1 h2)
      · have ng := s.free np
        exact fiN s fi np (.tup (SqT.of upd_same) ((h2.append h4).up (same_upd ng)))
    · unfold gAdd at fi; dsimp only at fi; rw [if_neg c] at fi; exact False.elim fi
  | lst h1 h2 =>
    cases hy <;> try exact False.elim fi
    rename_i a xs ds b ys es h3 h4
    by_cases c : ds.length + es.length ≤ sizeLine
    · unfold gAdd at fi; dsimp only at fi; rw [if_pos c] at fi
      have l1 := h2.length; have l2 := h4.length
      refine .inr (.inr (.inl ⟨_, _, _, _, rfl, rfl, s _ _ h1, s _ _ h3, by omega, fun p np => ?_⟩))
      have ng := s.free np
      exact fiN s fi np (.lst upd_same ((h2.append h4).up (same_upd ng)))
    · unfold gAdd at fi; dsimp only at fi; rw [if_neg c] at fi; exact False.elim fi
  | _ => exact False.elim fi⟩
theorem dd_eq (hu : X.A.units + 200 < cLine) : OpDD X (compareOp .Eq) gEq := by
  refine ⟨fun x y H Q => ∃ d e, L2.Dp X.K H x d ∧ L2.Dp X.K H y e ∧ d.canLay0 = true ∧ e.canLay0 = true ∧ min d.depth e.depth ≤ 200 ∧ Q (.bl (PyData.eqv d e)) H, ?_, fun E G H x y dx dy Q s hx hy fi => ?_⟩
  · intro pins st σ H x y v u Q I rx ry h
    obtain ⟨d, e, hd, he, sd, se, sm, q⟩ := h
    obtain ⟨as, r1⟩ := Dp.reads I d x v hd rx
    obtain ⟨bs, r2⟩ := Dp.reads I e y u he ry
    exact SeqAt.compareEq_reads r1 r2 sd se (by omega) ⟨.bl _, H, I, rfl, q⟩
  · unfold gEq at fi
    by_cases c : eqOk dx dy = true
    · rw [if_pos c] at fi
      have c' : (dx.plain = true ∧ dy.plain = true) ∧ (dx.dep ≤ 200 ∨ dy.dep ≤ 200) := by simpa [eqOk] using c
      obtain ⟨a1, a2, a3⟩ := Dp.pyD dx x c'.1.1 hx
      obtain ⟨b1, b2, b3⟩ := Dp.pyD dy y c'.1.2 hy
      exact ⟨_, _, hDp_up s _ _ a1, hDp_up s _ _ b1, a2, b2, by omega, fi0 s fi (.bl _)⟩
    · rw [if_neg c] at fi; exact False.elim fi
theorem dd_ne (hu : X.A.units + 200 < cLine) : OpDD X (compareOp .NotEq) gNe := by
  refine ⟨fun x y H Q => ∃ d e, L2.Dp X.K H x d ∧ L2.Dp X.K H y e ∧ d.canLay0 = true ∧ e.canLay0 = true ∧ min d.depth e.depth ≤ 200 ∧ Q (.bl (!PyData.eqv d e)) H, ?_, fun E G H x y dx dy Q s hx hy fi => ?_⟩
  · intro pins st σ H x y v u Q I rx ry h
    obtain ⟨d, e, hd, he, sd, se, sm, q⟩ := h
    obtain ⟨as, r1⟩ := Dp.reads I d x v hd rx
    obtain ⟨bs, r2⟩ := Dp.reads I e y u he ry
    exact SeqAt.compareNe_reads r1 r2 sd se (by omega) ⟨.bl _, H, I, rfl, q⟩
  · unfold gNe at fi
    by_cases c : eqOk dx dy = true
    · rw [if_pos c] at fi
      have c' : (dx.plain = true ∧ dy.plain = true) ∧ (dx.dep ≤ 200 ∨ dy.dep ≤ 200) := by simpa [eqOk] using c
      obtain ⟨a1, a2, a3⟩ := Dp.pyD dx x c'.1.1 hx
      obtain ⟨b1, b2, b3⟩ := Dp.pyD dy y c'.1.2 hy
      exact ⟨_, _, hDp_up s _ _ a1, hDp_up s _ _ b1, a2, b2, by omega, fi0 s fi (.bl _)⟩
    · rw [if_neg c] at fi; exact False.elim fi
end

/-! ### the rules -/
def dVar (i : Nat) : Ev → Rs D := fun ρ => match ρ[i]? with
  | some (.dt d) => .ok d
  | _ => .bot
def dC (d : D) : Ev → Rs D := fun _ => .ok d
def dOp (g : D → D → Rs D) (fa fb : Ev → Rs D) : Ev → Rs D := fun ρ => (fa ρ).bind fun x => (fb ρ).bind fun y => g x y
def dNil : Ev → Rs (List D) := fun _ => .ok []
def dCons (f : Ev → Rs D) (fs : Ev → Rs (List D)) : Ev → Rs (List D) := fun ρ => (f ρ).bind fun x => (fs ρ).bind fun xs => .ok (x :: xs)
def dCall (g : List D → Rs D) (fs : Ev → Rs (List D)) : Ev → Rs D := fun ρ => (fs ρ).bind g
def asB : D → Rs Bool
  | .bl b => .ok b
  | _ => .bot
def truD : D → Rs Bool
  | .non => .ok false
  | .bl b => .ok b
  | .int i => .ok (i != 0)
  | .lst xs => .ok (!xs.isEmpty)
  | .tup xs => .ok (!xs.isEmpty)
  | _ => .bot
def dTest (f : Ev → Rs D) : Ev → Rs Bool := fun ρ => (f ρ).bind asB
def dTru (f : Ev → Rs D) : Ev → Rs Bool := fun ρ => (f ρ).bind truD
def dAnd (f g : Ev → Rs Bool) : Ev → Rs Bool := fun ρ => (f ρ).bind fun b => if b = true then g ρ else .ok false
def dOr (f g : Ev → Rs Bool) : Ev → Rs Bool := fun ρ => (f ρ).bind fun b => if b = true then .ok true else g ρ
def dNot (f : Ev → Rs Bool) : Ev → Rs Bool := fun ρ => (f ρ).bind fun b => .ok (!b)
def dAndV (f g : Ev → Rs D) : Ev → Rs D := fun ρ => (f ρ).bind fun x => (asB x).bind fun b => if b = true then g ρ else .ok (.bl false)
def dOrV (f g : Ev → Rs D) : Ev → Rs D := fun ρ => (f ρ).bind fun x => (asB x).bind fun b => if b = true then .ok (.bl true) else g ρ
def dNotV (f : Ev → Rs D) : Ev → Rs D := fun ρ => (f ρ).bind fun x => (asB x).bind fun b => .ok (.bl (!b))
def D.isNon : D → Bool
  | .non => true
  | _ => false
def dIsN (f : Ev → Rs D) : Ev → Rs D := fun ρ => (f ρ).bind fun x => .ok (.bl x.isNon)
def dNotN (f : Ev → Rs D) : Ev → Rs D := fun ρ => (f ρ).bind fun x => .ok (.bl (!x.isNon))
def dTup (fs : Ev → Rs (List D)) : Ev → Rs D := fun ρ => (fs ρ).bind fun xs => if xs.length ≤ 1000 then .ok (.tup xs) else .bot
def dLst (fs : Ev → Rs (List D)) : Ev → Rs D := fun ρ => (fs ρ).bind fun xs => if xs.length ≤ 1000 then .ok (.lst xs) else .bot
section
variable {X : Cx} {E : XK} {e a b : Expr} {es : List Expr} {pos : Pos} {fa fb : Ev → Rs D} {fs : Ev → Rs (List D)} {ft fu : Ev → Rs Bool}
theorem de_var {i : Nat} (h : PE X e (tVar i)) : DE X E e (dVar i) := peI h fun σ H Q ⟨ρ, G, s, r, fi⟩ => by
  unfold dVar at fi
  split at fi
  · rename_i d e
    obtain ⟨v, h1, h2⟩ := r.dt e
    exact ⟨v, h1, fi0 s fi h2⟩
  · exact False.elim fi
theorem de_int {i : Int} {j} : DE X E (.Constant (.int i) j pos) (dC (.int i)) := peI pe_int fun σ H Q ⟨ρ, G, s, r, fi⟩ => fi0 s fi (.int i)
theorem de_bl {i : Bool} {j} : DE X E (.Constant (.bool i) j pos) (dC (.bl i)) := peI pe_bl fun σ H Q ⟨ρ, G, s, r, fi⟩ => fi0 s fi (.bl i)
theorem de_non {j} : DE X E (.Constant .none j pos) (dC .non) := peI pe_non fun σ H Q ⟨ρ, G, s, r, fi⟩ => fi0 s fi .non
theorem de_str {i : Str} {j} (h : PyData.strOk i = true := by decide +kernel) : DE X E (.Constant (.str i) j pos) (dC (.str i)) := peI pe_str fun σ H Q ⟨ρ, G, s, r, fi⟩ => fi0 s fi (.str i h)
theorem de_globS {x i : Str} (h : PE X e (tC (.str i))) (ho : PyData.strOk i = true) : DE X E e (dC (.str i)) := peI h fun σ H Q ⟨ρ, G, s, r, fi⟩ => fi0 s fi (.str i ho)
theorem de_op {op : Operator} {g : D → D → Rs D} (o : OpDD X (binaryOp op) g) (ha : DE X E a fa) (hb : DE X E b fb) : DE X E (.BinOp a op b pos) (dOp g fa fb) := by
  obtain ⟨r, ho, hg⟩ := o
  refine peI (pe_op ho ha hb) fun σ H Q ⟨ρ, G, s, r, fi⟩ => ?_
  refine ⟨ρ, G, s, r, fi.bind.imp fun x H1 G1 g1 fi1 v hv => ?_⟩
  refine ⟨ρ, G1, g1.gh, r.grow g1, fi1.bind.imp fun y H2 G2 g2 fi2 w hw => ?_⟩
  exact hg E G2 H2 v w x y Q g2.gh (hv.up g2.gg) hw fi2
theorem de_cmp {op : CmpOp} {g : D → D → Rs D} (o : OpDD X (compareOp op) g) (ha : DE X E a fa) (hb : DE X E b fb) (hm : behindInMarks op b = false) : DE X E (.Compare a [op] [b] pos) (dOp g fa fb) := by
  obtain ⟨r, ho, hg⟩ := o
  refine peI (pe_cmpR ho ha hb hm) fun σ H Q ⟨ρ, G, s, r, fi⟩ => ?_
  refine ⟨ρ, G, s, r, fi.bind.imp fun x H1 G1 g1 fi1 v hv => ?_⟩
  refine ⟨ρ, G1, g1.gh, r.grow g1, fi1.bind.imp fun y H2 G2 g2 fi2 w hw => ?_⟩
  exact hg E G2 H2 v w x y Q g2.gh (hv.up g2.gg) hw fi2
theorem dt_cmp {op : CmpOp} {g : D → D → Rs D} (o : OpDD X (compareOp op) g) (ha : DE X E a fa) (hb : DE X E b fb) (hm : behindInMarks op b = false) : DT X E (.Compare a [op] [b] pos) (dTest (dOp g fa fb)) := by
  obtain ⟨r, ho, hg⟩ := o
  refine ptI (pt_cmpR ho ha hb hm) fun σ H Q ⟨ρ, G, s, r, fi⟩ => ?_
  have fi' := fi.bind
  refine ⟨ρ, G, s, r, fi'.bind.imp fun x H1 G1 g1 fi1 v hv => ?_⟩
  refine ⟨ρ, G1, g1.gh, r.grow g1, fi1.bind.imp fun y H2 G2 g2 fi2 w hw => ?_⟩
  refine hg E G2 H2 v w x y _ g2.gh (hv.up g2.gg) hw (fi2.imp fun d H3 G3 g3 fi3 z hz => ?_)
  cases hz <;> first | exact False.elim fi3 | exact ⟨_, rfl, fi3.now g3.gh⟩
theorem dt_tru (ha : DE X E e fa) (he : ∀ whole, isTrue e X.env whole = (do let v ← whole; standAt e.pos; holding [v] (truthy v))) : DT X E e (dTru fa) := by
  refine ptI (pt_truth ha he) fun σ H Q ⟨ρ, G, s, r, fi⟩ => ?_
  refine ⟨ρ, G, s, r, fi.bind.imp fun d H1 G1 g1 fi1 v hv => ?_⟩
  cases hv with
  | non => exact ⟨_, rfl, fi1.now g1.gh⟩
  | bl b => exact ⟨_, rfl, fi1.now g1.gh⟩
  | int i => exact ⟨_, rfl, fi1.now g1.gh⟩
  | lst h1 h2 =>
    refine ⟨_, .inl ⟨_, SqL.of (g1.gh _ _ h1), rfl⟩, ?_⟩
    have q := fi1.now g1.gh
    cases h2 <;> exact q
  | tup h1 h2 =>
    refine ⟨_, .inr (.inl ⟨_, KD.SqT.mono g1.gh h1, rfl⟩), ?_⟩
    have q := fi1.now g1.gh
    cases h2 <;> exact q
  | _ => exact False.elim fi1
theorem dw_and1 (ha : DT X E a ft) : DW X E (.BoolOp .And [a] pos) ft := pw_and1 ha
theorem dw_or1 (ha : DT X E a ft) : DW X E (.BoolOp .Or [a] pos) ft := pw_or1 ha
theorem dw_and {rest : List Expr} (ha : DT X E a ft) (hb : DW X E (.BoolOp .And (b :: rest) pos) fu) : DW X E (.BoolOp .And (a :: b :: rest) pos) (dAnd ft fu) := by
  refine pwI (pw_and ha hb) fun σ H Q ⟨ρ, G, s, r, fi⟩ => ?_
  refine ⟨ρ, G, s, r, fi.bind.imp fun c H1 G1 g1 fi1 => ?_⟩
  cases c with
  | true => exact iteT ⟨ρ, G1, g1.gh, r.grow g1, fi1⟩
  | false => exact iteF (fi1.now g1.gh)
theorem dw_or {rest : List Expr} (ha : DT X E a ft) (hb : DW X E (.BoolOp .Or (b :: rest) pos) fu) : DW X E (.BoolOp .Or (a :: b :: rest) pos) (dOr ft fu) := by
  refine pwI (pw_or ha hb) fun σ H Q ⟨ρ, G, s, r, fi⟩ => ?_
  refine ⟨ρ, G, s, r, fi.bind.imp fun c H1 G1 g1 fi1 => ?_⟩
  cases c with
  | false => exact iteF ⟨ρ, G1, g1.gh, r.grow g1, fi1⟩
  | true => exact iteT (fi1.now g1.gh)
theorem dt_not (ha : DT X E a ft) : DT X E (.UnaryOp .Not a pos) (dNot ft) := by
  refine ptI (pt_not ha) fun σ H Q ⟨ρ, G, s, r, fi⟩ => ?_
  exact ⟨ρ, G, s, r, fi.bind.imp fun c H1 G1 g1 fi1 => fi1.now g1.gh⟩
theorem de_one {op} (ha : DE X E a fa) : DE X E (.BoolOp op [a] pos) fa := pe_one ha
theorem de_and {rest : List Expr} (ha : DE X E a fa) (hb : DE X E (.BoolOp .And (b :: rest) pos) fb) : DE X E (.BoolOp .And (a :: b :: rest) pos) (dAndV fa fb) := by
  refine peI (pe_and ha hb) fun σ H Q ⟨ρ, G, s, r, fi⟩ => ?_
  refine ⟨ρ, G, s, r, fi.bind.imp fun d H1 G1 g1 fi1 v hv => ?_⟩
  cases hv <;> try exact False.elim fi1
  rename_i c
  refine ⟨c, rfl, ?_⟩
  cases c with
  | true => exact iteT ⟨ρ, G1, g1.gh, r.grow g1, fi1⟩
  | false => exact iteF (fi0 g1.gh fi1 (.bl _))
theorem de_or {rest : List Expr} (ha : DE X E a fa) (hb : DE X E (.BoolOp .Or (b :: rest) pos) fb) : DE X E (.BoolOp .Or (a :: b :: rest) pos) (dOrV fa fb) := by
  refine peI (pe_or ha hb) fun σ H Q ⟨ρ, G, s, r, fi⟩ => ?_
  refine ⟨ρ, G, s, r, fi.bind.imp fun d H1 G1 g1 fi1 v hv => ?_⟩
  cases hv <;> try exact False.elim fi1
  rename_i c
  refine ⟨c, rfl, ?_⟩
  cases c with
  | false => exact iteF ⟨ρ, G1, g1.gh, r.grow g1, fi1⟩
  | true => exact iteT (fi0 g1.gh fi1 (.bl _))
theorem de_not (ha : DE X E a fa) : DE X E (.UnaryOp .Not a pos) (dNotV fa) := by
  refine peI (pe_not ha) fun σ H Q ⟨ρ, G, s, r, fi⟩ => ?_
  refine ⟨ρ, G, s, r, fi.bind.imp fun d H1 G1 g1 fi1 v hv => ?_⟩
  cases hv <;> try exact False.elim fi1
  rename_i c
  exact ⟨c, rfl, fi0 g1.gh fi1 (.bl _)⟩
theorem Dp.isN {K : PySem.W.Frag} {G : Hp} {v : V} {d : D} (h : Dp K G v d) : decide (v = .non) = d.isNon := by
  cases h <;> simp [D.isNon]
theorem de_isN {j pos'} (ha : DE X E a fa) : DE X E (.Compare a [.Is] [.Constant .none j pos'] pos) (dIsN fa) := by
  refine peI (pe_cmp (pc_isN ha) rfl) fun σ H Q ⟨ρ, G, s, r, fi⟩ => ?_
  refine ⟨ρ, G, s, r, fi.bind.imp fun d H1 G1 g1 fi1 v hv => ?_⟩
  show Q (.bl (decide (v = .non))) H1
  rw [hv.isN]
  exact fi0 g1.gh fi1 (.bl _)
theorem de_notN {j pos'} (ha : DE X E a fa) : DE X E (.Compare a [.IsNot] [.Constant .none j pos'] pos) (dNotN fa) := by
  refine peI (pe_cmp (pc_notN ha) rfl) fun σ H Q ⟨ρ, G, s, r, fi⟩ => ?_
  refine ⟨ρ, G, s, r, fi.bind.imp fun d H1 G1 g1 fi1 v hv => ?_⟩
  show Q (.bl (!decide (v = .non))) H1
  rw [hv.isN]
  exact fi0 g1.gh fi1 (.bl _)
theorem dt_B (h : PT X e (tB (tD X.K E fa))) : DT X E e (dTest fa) := by
  refine ptI h fun σ H Q ⟨ρ, G, s, r, fi⟩ => ?_
  refine ⟨ρ, G, s, r, fi.bind.imp fun d H1 G1 g1 fi1 v hv => ?_⟩
  cases hv <;> first | exact False.elim fi1 | exact ⟨_, rfl, fi1.now g1.gh⟩
theorem da_nil : DA X E [] dNil := paI pa_nil fun σ H Q ⟨ρ, G, s, r, fi⟩ => fi H G (Grow.refl s) [] .nil
theorem da_cons (ha : DE X E e fa) (hr : DA X E es fs) (hs : starEach (e :: es) X.env = (false, eval e X.env) :: starEach es X.env := by rfl) : DA X E (e :: es) (dCons fa fs) := by
  refine paI (pa_cons ha hr hs) fun σ H Q ⟨ρ, G, s, r, fi⟩ => ?_
  refine ⟨ρ, G, s, r, fi.bind.imp fun d H1 G1 g1 fi1 v hv => ?_⟩
  refine ⟨ρ, G1, g1.gh, r.grow g1, fi1.bind.imp fun ds H2 G2 g2 fi2 vs hvs => ?_⟩
  exact fi2.now g2.gh _ (.cons (hv.up g2.gg) hvs)
theorem le_line {n : Nat} (h : n ≤ 1000) : n ≤ sizeLine := by rw [sizeLine_eq]; omega
theorem de_tup {x1} (h : DA X E es fs) : DE X E (.Tuple es x1 pos) (dTup fs) := by
  refine peI (pe_tup h) fun σ H Q ⟨ρ, G, s, r, fi⟩ => ?_
  refine ⟨ρ, G, s, r, fi.bind.imp fun ds H1 G1 g1 fi1 vs hvs => ?_⟩
  have l := hvs.length
  by_cases c : ds.length ≤ 1000
  · rw [if_pos c] at fi1
    exact ⟨le_line (by omega), fun p np => fiN g1.gh fi1 np (.tup (SqT.of upd_same) (hvs.up (same_upd (g1.gh.free np))))⟩
  · rw [if_neg c] at fi1; exact False.elim fi1
theorem de_lst (h : DA X E es fs) : DE X E (.List es pos) (dLst fs) := by
  refine peI (pe_lst h) fun σ H Q ⟨ρ, G, s, r, fi⟩ => ?_
  refine ⟨ρ, G, s, r, fi.bind.imp fun ds H1 G1 g1 fi1 vs hvs => ?_⟩
  have l := hvs.length
  by_cases c : ds.length ≤ 1000
  · rw [if_pos c] at fi1
    exact ⟨le_line (by omega), fun p np => fiN g1.gh fi1 np (.lst upd_same (hvs.up (same_upd (g1.gh.free np))))⟩
  · rw [if_neg c] at fi1; exact False.elim fi1
theorem de_callB {id : String} {x : Str} {p : Pos} {g : List D → Rs D} (hc : CallDD X (.builtin id) g) (hg : Gl X x) (hm : X.mg x = none) (hv : bootBuiltins x = some (.builtin id)) (ha : DA X E (e :: es) fs) (hn : x ≠ "__name__" := by decide) (hdb : (x == ("__debug__" : Str)) = false := by decide)
    (he : starEach (e :: es) X.env = (false, eval e X.env) :: starEach es X.env := by rfl) (hpl : (backTo pos (starEach es X.env)).any (·.1) = false := by rfl) : DE X E (.Call (.Name x p) (e :: es) [] pos) (dCall g fs) := by
  obtain ⟨r, hr, hq⟩ := hc
  refine peI (pe_callB hr hg hm hv ha hn hdb he hpl) fun σ H Q ⟨ρ, G, s, r, fi⟩ => ?_
  exact ⟨ρ, G, s, r, fi.bind.imp fun ds H1 G1 g1 fi1 vs hvs => hq E G1 H1 vs ds Q g1.gh hvs fi1⟩
theorem de_callTy {T : String} {x : Str} {p : Pos} {g : List D → Rs D} (hc : CallDD X (.type T) g) (hg : Gl X x) (hm : X.mg x = none) (hv : bootBuiltins x = some (.type T)) (ha : DA X E (e :: es) fs) (hn : x ≠ "__name__" := by decide) (hdb : (x == ("__debug__" : Str)) = false := by decide)
    (he : starEach (e :: es) X.env = (false, eval e X.env) :: starEach es X.env := by rfl) (hpl : (backTo pos (starEach es X.env)).any (·.1) = false := by rfl) : DE X E (.Call (.Name x p) (e :: es) [] pos) (dCall g fs) := by
  obtain ⟨r, hr, hq⟩ := hc
  refine peI (pe_callTy hr hg hm hv ha hn hdb he hpl) fun σ H Q ⟨ρ, G, s, r, fi⟩ => ?_
  exact ⟨ρ, G, s, r, fi.bind.imp fun ds H1 G1 g1 fi1 vs hvs => hq E G1 H1 vs ds Q g1.gh hvs fi1⟩
/-- the promise of a def by its function on data -/
def spD (K : PySem.W.Frag) (n : Nat) (g : List D → Rs D) : Sp := fun vs H Q E => ∃ G ds, Same G H ∧ DpAll K G vs ds ∧ ds.length = n ∧ Fi K E H G (g ds) (fun d H' G' => ∀ v, Dp K G' v d → Q v H')
def dCallN (n : Nat) (g : List D → Rs D) (fs : Ev → Rs (List D)) : Ev → Rs D := fun ρ => (fs ρ).bind fun ds => if ds.length = n then g ds else .bot
theorem de_call {CX : CXT} {k n : Nat} {f : Addr} {fd : FuncData} {ps : List Str} {x : Str} {p : Pos} {g : List D → Rs D} (F : FnOk X.prog X.w X.K X.mg X.base CX k f fd ps (spD X.K n g)) (hr : Room k X.A) (hg : Gl X x) (hm : X.mg x = some (.ref f)) (hk : PySem.W.keepIn X.K (.ref f) = true) (hb : Binds X.K fd ps []) (hx : Passes CX X E)
    (ha : DA X E (e :: es) fs) (hdb : (x == ("__debug__" : Str)) = false := by decide) (he : starEach (e :: es) X.env = (false, eval e X.env) :: starEach es X.env := by rfl) (hpl : (backTo pos (starEach es X.env)).any (·.1) = false := by rfl) :
    DE X E (.Call (.Name x p) (e :: es) [] pos) (dCallN n g fs) := by
  refine peI (pe_call F hr hg hm hk hb .nil hx ha hdb he hpl) fun σ H Q ⟨ρ, G, s, r, fi⟩ => ?_
  refine ⟨ρ, G, s, r, fi.bind.imp fun ds H1 G1 g1 fi1 vs hvs => ?_⟩
  by_cases c : ds.length = n
  · rw [if_pos c] at fi1
    rw [List.append_nil]
    exact ⟨G1, ds, g1.gh, hvs, c, fi1⟩
  · rw [if_neg c] at fi1; exact False.elim fi1
end
end KD

/-! KD2: statements, loops, comprehensions as functions of the slots. -/
namespace KD
open PySem L2

inductive SR where
  | nx (ρ : Ev) | rt (d : D) | bk (ρ : Ev) | ct (ρ : Ev) | xc (c : Str) (ns : List Str) (fs : List D) | bot
def Rs.sr {α : Type} (r : Rs α) (k : α → SR) : SR := match r with
  | .ok a => k a
  | .xc c n f => .xc c n f
  | .bot => .bot
@[simp] theorem Rs.sr_ok {α : Type} (a : α) (k : α → SR) : (Rs.ok a).sr k = k a := rfl
@[simp] theorem Rs.sr_xc {α : Type} (c n f) (k : α → SR) : (Rs.xc c n f : Rs α).sr k = .xc c n f := rfl
@[simp] theorem Rs.sr_bot {α : Type} (k : α → SR) : (Rs.bot : Rs α).sr k = .bot := rfl
def SR.seq (r : SR) (k : Ev → SR) : SR := match r with
  | .nx ρ => k ρ
  | .rt d => .rt d
  | .bk ρ => .bk ρ
  | .ct ρ => .ct ρ
  | .xc c n f => .xc c n f
  | .bot => .bot
@[simp] theorem SR.seq_nx (ρ : Ev) (k : Ev → SR) : (SR.nx ρ).seq k = k ρ := rfl
@[simp] theorem SR.seq_rt (d : D) (k : Ev → SR) : (SR.rt d).seq k = .rt d := rfl
@[simp] theorem SR.seq_bk (ρ : Ev) (k : Ev → SR) : (SR.bk ρ).seq k = .bk ρ := rfl
@[simp] theorem SR.seq_ct (ρ : Ev) (k : Ev → SR) : (SR.ct ρ).seq k = .ct ρ := rfl
@[simp] theorem SR.seq_xc (c n f) (k : Ev → SR) : (SR.xc c n f).seq k = .xc c n f := rfl
@[simp] theorem SR.seq_bot (k : Ev → SR) : SR.bot.seq k = .bot := rfl
def Rs.nox {α : Type} (r : Rs α) : Rs α := match r with
  | .ok a => .ok a
  | _ => .bot
@[simp] theorem Rs.nox_ok {α : Type} (a : α) : (Rs.ok a).nox = .ok a := rfl

structure At (K : PySem.W.Frag) (H0 G0 H G : Hp) (σ : L2.St) (ρ : Ev) : Prop where
  gr : Grow H0 G0 H G
  rep : Rep K G H σ ρ
  own : ∀ (i : Nat) (s : Sl) (a : Addr), ρ[i]? = some s → s.own = true → σ[i]? = some (some (.ref a)) → H0 a = none
section
variable {K : PySem.W.Frag} {H0 G0 H G H' G' : Hp} {σ : L2.St} {ρ : Ev} {E : XK} {Dn : Ends}
theorem At.grow (a : At K H0 G0 H G σ ρ) (g : Grow H G H' G') : At K H0 G0 H' G' σ ρ := ⟨a.gr.trans g, a.rep.grow g, a.own⟩
theorem At.setDt (a : At K H0 G0 H G σ ρ) {i : Nat} {v : V} {d : D} (h : Dp K G v d) : At K H0 G0 H G (σ.set i (some v)) (ρ.set i (.dt d)) := by
  refine ⟨a.gr, a.rep.setDt h, fun j s b h1 h2 h3 => ?_⟩
  by_cases hj : i = j
  · subst hj
    have hi : i < ρ.length := by have := (List.getElem?_eq_some_iff.mp h1).1; simpa using this
    rw [List.getElem?_set_self hi] at h1; cases h1; cases h2
  · rw [List.getElem?_set_ne hj] at h1 h3; exact a.own j s b h1 h2 h3
theorem At.drop (a : At K H0 G0 H G σ ρ) (i : Nat) : At K H0 G0 H G σ (ρ.set i .no) := by
  refine ⟨a.gr, a.rep.drop i, fun j s b h1 h2 h3 => ?_⟩
  by_cases hj : i = j
  · subst hj
    have hi : i < ρ.length := by have := (List.getElem?_eq_some_iff.mp h1).1; simpa using this
    rw [List.getElem?_set_self hi] at h1; cases h1; cases h2
  · rw [List.getElem?_set_ne hj] at h1; exact a.own j s b h1 h2 h3
def wipeE : List Nat → Ev → Ev
  | [], ρ => ρ
  | i :: is, ρ => wipeE is (ρ.set i .no)
theorem At.wipe : ∀ (is : List Nat) {ρ : Ev}, At K H0 G0 H G σ ρ → At K H0 G0 H G σ (wipeE is ρ)
  | [], _, a => a
  | i :: is, _, a => At.wipe is (a.drop i)
theorem Rep.wipe : ∀ (is : List Nat) {ρ : Ev}, Rep K G H σ ρ → Rep K G H σ (wipeE is ρ)
  | [], _, a => a
  | i :: is, _, a => Rep.wipe is (a.drop i)

def FiS (K : PySem.W.Frag) (E : XK) (H0 G0 G : Hp) (r : SR) (Dn : Ends) : Prop := match r with
  | .nx ρ => ∀ σ H G', Same G G' → At K H0 G0 H G' σ ρ → Dn.nx σ H
  | .bk ρ => ∀ σ H G', Same G G' → At K H0 G0 H G' σ ρ → Dn.bk σ H
  | .ct ρ => ∀ σ H G', Same G G' → At K H0 G0 H G' σ ρ → Dn.ct σ H
  | .rt d => ∀ v H' G', Grow H0 G0 H' G' → Dp K G' v d → Dn.rt v H'
  | .xc c ns fs => ∀ od H' G', Grow H0 G0 H' G' → XdOk K H' G' od ns fs → E (.ref (He.ga K c)) od H'
  | .bot => False
theorem FiS.up {r : SR} (h : FiS K E H0 G0 G r Dn) (s : Same G G') : FiS K E H0 G0 G' r Dn := by
  cases r with
  | nx ρ => exact fun σ H G'' q => h σ H G'' (s.trans q)
  | bk ρ => exact fun σ H G'' q => h σ H G'' (s.trans q)
  | ct ρ => exact fun σ H G'' q => h σ H G'' (s.trans q)
  | rt d => exact h
  | xc c n f => exact h
  | bot => exact h
theorem FiS.sr {α : Type} {r : Rs α} {k : α → SR} (h : FiS K E H0 G0 G (r.sr k) Dn) (a : At K H0 G0 H G σ ρ) : Fi K E H G r (fun x H' G' => At K H0 G0 H' G' σ ρ ∧ FiS K E H0 G0 G' (k x) Dn) := by
  cases r with
  | ok x => exact fun H' G' g => ⟨a.grow g, FiS.up (r := k x) h g.gg⟩
  | xc c n f => exact fun od H' G' g x => h od H' G' (a.gr.trans g) x
  | bot => exact h
def tS (K : PySem.W.Frag) (E : XK) (f : Ev → SR) : TS := fun Dn σ H => ∃ H0 G0 ρ G, At K H0 G0 H G σ ρ ∧ FiS K E H0 G0 G (f ρ) Dn
end
abbrev DS (X : Cx) (E : XK) (st : Stmt) (f : Ev → SR) : Prop := PS X st (tS X.K E f)
abbrev DSs (X : Cx) (E : XK) (st : List Stmt) (f : Ev → SR) : Prop := PSs X st (tS X.K E f)

def sSeq (f g : Ev → SR) : Ev → SR := fun ρ => (f ρ).seq g
def sNil : Ev → SR := .nx
def sIf (c : Ev → Rs Bool) (f g : Ev → SR) : Ev → SR := fun ρ => (c ρ).sr fun b => if b = true then f ρ else g ρ
def sSet (i : Nat) (f : Ev → Rs D) : Ev → SR := fun ρ => (f ρ).sr fun d => .nx (ρ.set i (.dt d))
def sRet (f : Ev → Rs D) : Ev → SR := fun ρ => (f ρ).sr .rt
def sRetN : Ev → SR := fun _ => .rt .non
def sExpr (f : Ev → Rs D) : Ev → SR := fun ρ => (f ρ).sr fun _ => .nx ρ
/-- x = [] -/
def sNew (i : Nat) : Ev → SR := fun ρ => .nx (ρ.set i (.ol []))
/-- x = {} -/
def sNewD (i : Nat) : Ev → SR := fun ρ => .nx (ρ.set i (.od [] []))
def sApp (i : Nat) (f : Ev → Rs D) : Ev → SR := fun ρ => match ρ[i]? with
  | some (.ol xs) => (f ρ).sr fun d => if xs.length < 1000000 then .nx (ρ.set i (.ol (xs ++ [d]))) else .bot
  | _ => .bot
/-- an owned thing becomes data -/
def frz (i : Nat) (ρ : Ev) : Ev := match ρ[i]? with
  | some (.ol xs) => ρ.set i (.dt (.lst xs))
  | some (.od ks vs) => ρ.set i (.dt (.dic ks vs))
  | _ => ρ
section
variable {X : Cx} {E : XK} {st : Stmt} {rest body : List Stmt} {f g h : Ev → SR} {e : Expr} {fa fb : Ev → Rs D} {ft : Ev → Rs Bool} {pos : Pos}
theorem ds_nil : DSs X E [] sNil := pssI pss_nil fun D σ H ⟨H0, G0, ρ, G, a, fi⟩ => fi σ H G (Same.refl _) a
theorem ds_cons (h1 : DS X E st f) (h2 : DSs X E rest g) : DSs X E (st :: rest) (sSeq f g) := by
  refine pssI (pss_cons h1 h2) fun D σ H ⟨H0, G0, ρ, G, a, fi⟩ => ?_
  refine ⟨H0, G0, ρ, G, a, ?_⟩
  unfold sSeq at fi
  cases q : f ρ with
  | nx ρ' =>
    rw [q] at fi
    exact fun σ' H' G' s' a' => ⟨H0, G0, ρ', G', a', FiS.up (r := g ρ') fi s'⟩
  | rt d => rw [q] at fi; exact fi
  | bk d => rw [q] at fi; exact fi
  | ct d => rw [q] at fi; exact fi
  | xc c n d => rw [q] at fi; exact fi
  | bot => rw [q] at fi; exact fi
theorem ds_one (h1 : DS X E st f) : DSs X E [st] f := pss_one h1
theorem ds_pass : DS X E (.Pass pos) sNil := psI ps_pass fun D σ H ⟨H0, G0, ρ, G, a, fi⟩ => fi σ H G (Same.refl _) a
theorem ds_doc {x j pos'} : DS X E (.Expr (.Constant (.str x) j pos) pos') sNil := psI ps_doc fun D σ H ⟨H0, G0, ρ, G, a, fi⟩ => fi σ H G (Same.refl _) a
theorem ds_break : DS X E (.Break pos) .bk := psI ps_break fun D σ H ⟨H0, G0, ρ, G, a, fi⟩ => fi σ H G (Same.refl _) a
theorem ds_cont : DS X E (.Continue pos) .ct := psI ps_continue fun D σ H ⟨H0, G0, ρ, G, a, fi⟩ => fi σ H G (Same.refl _) a
theorem ds_never : DS X E st (fun _ => .bot) := psI ps_never fun D σ H ⟨H0, G0, ρ, G, a, fi⟩ => fi
theorem ds_if {c : Expr} {a b : List Stmt} (hc : DT X E c ft) (ha : DSs X E a f) (hb : DSs X E b g) : DS X E (.If c a b pos) (sIf ft f g) := by
  refine psI (ps_if hc ha hb) fun D σ H ⟨H0, G0, ρ, G, at_, fi⟩ => ?_
  refine ⟨ρ, G, at_.gr.gh, at_.rep, (fi.sr at_).imp fun c H1 G1 g1 ⟨a1, fi1⟩ => ?_⟩
  cases c with
  | true => exact iteT ⟨H0, G0, ρ, G1, a1, fi1⟩
  | false => exact iteF ⟨H0, G0, ρ, G1, a1, fi1⟩
theorem ds_ret (he : DE X E e fa) : DS X E (.Return (some e) pos) (sRet fa) := by
  refine psI (ps_ret he) fun D σ H ⟨H0, G0, ρ, G, at_, fi⟩ => ?_
  exact ⟨ρ, G, at_.gr.gh, at_.rep, (fi.sr at_).imp fun d H1 G1 g1 ⟨a1, fi1⟩ v hv => fi1 v H1 G1 a1.gr hv⟩
theorem ds_retN : DS X E (.Return none pos) sRetN := psI ps_retN fun D σ H ⟨H0, G0, ρ, G, at_, fi⟩ => fi .non H G at_.gr .non
theorem ds_expr (he : DE X E e fa) (hs : swapsWith e none pos.line X.env = pure false := by rfl) : DS X E (.Expr e pos) (sExpr fa) := by
  refine psI (ps_expr he hs) fun D σ H ⟨H0, G0, ρ, G, at_, fi⟩ => ?_
  exact ⟨ρ, G, at_.gr.gh, at_.rep, (fi.sr at_).imp fun d H1 G1 g1 ⟨a1, fi1⟩ v hv => fi1 σ H1 G1 (Same.refl _) a1⟩
/-- x = e -/
theorem ds_set {i : Nat} (h : PS X st (tAsg (tD X.K E fa) (gName i))) : DS X E st (sSet i fa) := by
  refine psI h fun D σ H ⟨H0, G0, ρ, G, at_, fi⟩ => ?_
  exact ⟨ρ, G, at_.gr.gh, at_.rep, (fi.sr at_).imp fun d H1 G1 g1 ⟨a1, fi1⟩ v hv => fi1 _ H1 G1 (Same.refl _) (a1.setDt hv)⟩
theorem At.newOl {K : PySem.W.Frag} {H0 G0 H G : Hp} {σ : L2.St} {ρ : Ev} (a : At K H0 G0 H G σ ρ) {i : Nat} {p : Addr} (n : H p = none) : At K H0 G0 (upd H p (.lst [])) G (σ.set i (some (.ref p))) (ρ.set i (.ol [])) := by
  have g := Grow.beside (o := .lst []) a.gr.gh n
  have a' := a.grow g
  refine ⟨a'.gr, a'.rep.set ⟨p, [], rfl, upd_same, a.gr.gh.free n, .nil⟩ fun b _ e j t _ h1 h2 h3 => ?_, fun j s b h1 h2 h3 => ?_⟩
  · cases e
    obtain ⟨⟨u, hu⟩, _⟩ := a.rep.addr h1 h2 h3
    rw [n] at hu; cases hu
  · by_cases hj : i = j
    · subst hj
      have hi : i < σ.length := by have := (List.getElem?_eq_some_iff.mp h3).1; simpa using this
      rw [List.getElem?_set_self hi] at h3; cases h3
      exact a.gr.hh.free n
    · rw [List.getElem?_set_ne hj] at h1 h3; exact a.own j s b h1 h2 h3
theorem ds_new {i : Nat} (h : PS X st (tAsg (tLst tNil) (gName i))) : DS X E st (sNew i) := by
  refine psI h fun D σ H ⟨H0, G0, ρ, G, at_, fi⟩ => ?_
  exact ⟨Nat.zero_le _, fun p np => fi _ _ G (Same.refl _) (at_.newOl np)⟩
theorem At.newOd {K : PySem.W.Frag} {H0 G0 H G : Hp} {σ : L2.St} {ρ : Ev} (a : At K H0 G0 H G σ ρ) {i : Nat} {p : Addr} (n : H p = none) : At K H0 G0 (upd H p (.dK [])) G (σ.set i (some (.ref p))) (ρ.set i (.od [] [])) := by
  have g := Grow.beside (o := .dK []) a.gr.gh n
  have a' := a.grow g
  refine ⟨a'.gr, a'.rep.set ⟨p, [], rfl, upd_same, a.gr.gh.free n, .nil, .nil⟩ fun b _ e j t _ h1 h2 h3 => ?_, fun j s b h1 h2 h3 => ?_⟩
  · cases e
    obtain ⟨⟨u, hu⟩, _⟩ := a.rep.addr h1 h2 h3
    rw [n] at hu; cases hu
  · by_cases hj : i = j
    · subst hj
      have hi : i < σ.length := by have := (List.getElem?_eq_some_iff.mp h3).1; simpa using this
      rw [List.getElem?_set_self hi] at h3; cases h3
      exact a.gr.hh.free n
    · rw [List.getElem?_set_ne hj] at h1 h3; exact a.own j s b h1 h2 h3
/-- an owned thing is written anew in its place -/
theorem At.put {K : PySem.W.Frag} {H0 G0 H G : Hp} {σ : L2.St} {ρ : Ev} (a : At K H0 G0 H G σ ρ) {i : Nat} {p : Addr} {o : HO} {s s' : Sl} (h : ρ[i]? = some s) (ho : s.own = true) (e : σ[i]? = some (some (.ref p)))
    (h' : SlOk K G (upd H p o) (some (.ref p)) s') : At K H0 G0 (upd H p o) G σ (ρ.set i s') := by
  obtain ⟨⟨u, hu⟩, ng⟩ := a.rep.addr h ho e
  have n0 := a.own i s p h ho e
  have hi : i < ρ.length := (List.getElem?_eq_some_iff.mp h).1
  have other : ∀ {j : Nat} {t : Sl} {b : Addr}, i ≠ j → ρ[j]? = some t → t.own = true → σ[j]? = some (some (.ref b)) → b ≠ p := fun {j t b} ne h1 h2 h3 q => by
    subst q
    exact ne (a.rep.dis i j s t b h h1 ho h2 e h3)
  refine ⟨⟨fun b u q => ?_, a.gr.gg, fun b u q => ?_, a.gr.nw⟩, ⟨by simp [a.rep.len], fun j t o' h1 h2 => ?_, fun j k t w b h1 h2 o1 o2 e1 e2 => ?_⟩, fun j t b h1 h2 h3 => ?_⟩
  · rw [upd_ne (ne_of_none q n0)]; exact a.gr.hh b u q
  · rw [upd_ne (ne_of_none q ng)]; exact a.gr.gh b u q
  · by_cases hj : i = j
    · subst hj
      rw [List.getElem?_set_self hi] at h1; cases h1
      rw [e] at h2; cases h2; exact h'
    · rw [List.getElem?_set_ne hj] at h1
      have q := a.rep.sl j t o' h1 h2
      cases t with
      | no => trivial
      | dt d => exact q
      | ol xs =>
        obtain ⟨b, vs, rfl, q1, q2⟩ := q
        exact ⟨b, vs, rfl, by rw [upd_ne (other hj h1 rfl h2)]; exact q1, q2⟩
      | od ks vs =>
        obtain ⟨b, us, rfl, q1, q2⟩ := q
        exact ⟨b, us, rfl, by rw [upd_ne (other hj h1 rfl h2)]; exact q1, q2⟩
  · by_cases hj : i = j
    · subst hj
      by_cases hk : i = k
      · exact hk
      · exfalso
        rw [List.getElem?_set_ne hk] at h2
        rw [e] at e1; cases e1
        exact other hk h2 o2 e2 rfl
    · by_cases hk : i = k
      · subst hk
        exfalso
        rw [List.getElem?_set_ne hj] at h1
        rw [e] at e2; cases e2
        exact other hj h1 o1 e1 rfl
      · rw [List.getElem?_set_ne hj] at h1
        rw [List.getElem?_set_ne hk] at h2
        exact a.rep.dis j k t w b h1 h2 o1 o2 e1 e2
  · by_cases hj : i = j
    · subst hj
      rw [e] at h3; cases h3; exact n0
    · rw [List.getElem?_set_ne hj] at h1; exact a.own j t b h1 h2 h3
theorem lt_line {n : Nat} (h : n < 1000000) : n < sizeLine := by rw [sizeLine_eq]; omega
theorem mtm {id : String} {r : V → List V → Hp → VK → Prop} (h : MtM X id r) : MtR X id r := h
/-- x.append(e) -/
theorem ds_app {i : Nat} (h : PS X st (tDrop (tBM X.K "list" rAppend (tVar i) (tCons (tD X.K E fa) tNil)))) : DS X E st (sApp i fa) := by
  refine psI h fun D σ H ⟨H0, G0, ρ, G, at_, fi⟩ => ?_
  unfold sApp at fi
  split at fi
  · rename_i xs q
    obtain ⟨a, vs, e, hH, nG, dp⟩ := at_.rep.ol q
    refine ⟨_, e, .inl ⟨rfl, _, SqL.of hH⟩, ρ, G, at_.gr.gh, at_.rep, (fi.sr at_).imp fun d H1 G1 g1 ⟨a1, fi1⟩ v hv => ?_⟩
    by_cases c : xs.length < 1000000
    · rw [if_pos c] at fi1
      have l := dp.length
      refine ⟨a, vs, v, rfl, rfl, g1.hh _ _ hH, lt_line (by omega), ?_⟩
      exact fi1 σ _ G1 (Same.refl _) (a1.put q rfl e ⟨a, vs ++ [v], rfl, upd_same, (a1.rep.addr q rfl e).2, (dp.up g1.gg).append (.cons hv .nil)⟩)
    · rw [if_neg c] at fi1; exact False.elim fi1
  · exact False.elim fi
theorem At.frz {K : PySem.W.Frag} {H0 G0 H G : Hp} {σ : L2.St} {ρ : Ev} (a : At K H0 G0 H G σ ρ) (i : Nat) : ∃ G', Same G G' ∧ At K H0 G0 H G' σ (KD.frz i ρ) := by
  have key : ∀ (s : Sl) (p : Addr) (o : HO) (d : D), ρ[i]? = some s → s.own = true → σ[i]? = some (some (.ref p)) → H p = some o → Dp K (upd G p o) (.ref p) d → ∃ G', Same G G' ∧ At K H0 G0 H G' σ (ρ.set i (.dt d)) := fun s p o d h ho e hp hd => by
    obtain ⟨_, ng⟩ := a.rep.addr h ho e
    have n0 := a.own i s p h ho e
    have hi : i < ρ.length := (List.getElem?_eq_some_iff.mp h).1
    have sg : Same G (upd G p o) := same_upd ng
    have other : ∀ {j : Nat} {t : Sl} {b : Addr}, i ≠ j → ρ[j]? = some t → t.own = true → σ[j]? = some (some (.ref b)) → b ≠ p := fun {j t b} ne h1 h2 h3 q => by
      subst q
      exact ne (a.rep.dis i j s t b h h1 ho h2 e h3)
    refine ⟨upd G p o, sg, ⟨⟨a.gr.hh, a.gr.gg.trans sg, fun b u q => ?_, fun b u q => ?_⟩, ⟨by simp [a.rep.len], fun j t o' h1 h2 => ?_, fun j k t w b h1 h2 o1 o2 e1 e2 => ?_⟩, fun j t b h1 h2 h3 => ?_⟩⟩
    · by_cases e' : b = p
      · subst e'; rw [upd_same] at q; cases q; exact hp
      · rw [upd_ne e'] at q; exact a.gr.gh b u q
    · by_cases e' : b = p
      · subst e'; exact .inr n0
      · rw [upd_ne e'] at q; exact a.gr.nw b u q
    · by_cases hj : i = j
      · subst hj
        rw [List.getElem?_set_self hi] at h1; cases h1
        rw [e] at h2; cases h2; exact ⟨_, rfl, hd⟩
      · rw [List.getElem?_set_ne hj] at h1
        have q := a.rep.sl j t o' h1 h2
        cases t with
        | no => trivial
        | dt d => obtain ⟨v, e1, q⟩ := q; exact ⟨v, e1, q.up sg⟩
        | ol xs =>
          obtain ⟨b, vs, rfl, q1, q2, q3⟩ := q
          exact ⟨b, vs, rfl, q1, by rw [upd_ne (other hj h1 rfl h2)]; exact q2, q3.up sg⟩
        | od ks vs =>
          obtain ⟨b, us, rfl, q1, q2, q3, q4⟩ := q
          exact ⟨b, us, rfl, q1, by rw [upd_ne (other hj h1 rfl h2)]; exact q2, q3.up sg, q4.up sg⟩
    · have ne : ∀ {j : Nat} {t : Sl}, (ρ.set i (.dt d))[j]? = some t → t.own = true → ρ[j]? = some t := fun {j t} h o => by
        by_cases hj : i = j
        · subst hj; rw [List.getElem?_set_self hi] at h; cases h; cases o
        · rw [List.getElem?_set_ne hj] at h; exact h
      exact a.rep.dis j k t w b (ne h1 o1) (ne h2 o2) o1 o2 e1 e2
    · by_cases hj : i = j
      · subst hj; rw [List.getElem?_set_self hi] at h1; cases h1; cases h2
      · rw [List.getElem?_set_ne hj] at h1; exact a.own j t b h1 h2 h3
  unfold KD.frz
  split
  · rename_i xs q
    obtain ⟨p, vs, e, hH, nG, dp⟩ := a.rep.ol q
    exact key _ p _ _ q rfl e hH (.lst upd_same (dp.up (same_upd nG)))
  · rename_i ks vs q
    obtain ⟨p, us, e, hH, nG, dk, dp⟩ := a.rep.od q
    exact key _ p _ _ q rfl e hH (.dic upd_same (dk.up (same_upd nG)) (dp.up (same_upd nG)))
  · exact ⟨G, Same.refl _, a⟩
theorem ds_frz {body : List Stmt} (i : Nat) (h : DSs X E body f) : DSs X E body (fun ρ => f (KD.frz i ρ)) := by
  refine pssI h fun D σ H ⟨H0, G0, ρ, G, at_, fi⟩ => ?_
  obtain ⟨G', s', a'⟩ := at_.frz i
  exact ⟨H0, G0, _, G', a', fi.up s'⟩
/-- forget slots -/
theorem ds_wipe {body : List Stmt} (is : List Nat) (h : DSs X E body f) : DSs X E body (fun ρ => f (wipeE is ρ)) :=
  pssI h fun D σ H ⟨H0, G0, ρ, G, at_, fi⟩ => ⟨H0, G0, _, G, at_.wipe is, fi⟩
end

/-! ### loops -/
/-- what is walked: the data ds, as long as G stands -/
structure ItD (K : PySem.W.Frag) (J : It) (G : Hp) (ds : List D) : Prop where
  go : ∀ i H, Same G H → i < ds.length → J.go i H
  yld : ∀ i H x H', Same G H → J.yld i H x H' → H' = H ∧ ∀ d, ds[i]? = some d → Dp K G x d
  stop : ∀ H, Same G H → J.stop ds.length H
def tDI (K : PySem.W.Frag) (E : XK) (f : Ev → Rs (List D)) : TI := fun σ H R => tG K E f (fun ds H' G' => ∀ J, ItD K J G' ds → R J H') σ H
abbrev DI (X : Cx) (E : XK) (tg iter : Expr) (f : Ev → Rs (List D)) : Prop := PI X tg iter (tDI X.K E f)
theorem piI {X : Cx} {tg iter : Expr} {t t' : TI} (h : PI X tg iter t) (f : ∀ σ H R, t' σ H R → t σ H R) : PI X tg iter t' := ⟨fun pins s σ H R I q => h.run pins s σ H R I (f σ H R q)⟩
def asL : D → Rs (List D)
  | .lst xs => .ok xs
  | .fls xs => .ok xs
  | _ => .bot
def asT : D → Rs (List D)
  | .tup xs => .ok xs
  | _ => .bot
def dItL (f : Ev → Rs D) : Ev → Rs (List D) := fun ρ => (f ρ).bind asL
def dItT (f : Ev → Rs D) : Ev → Rs (List D) := fun ρ => (f ρ).bind asT
def rngD (lo : Int) (n : Nat) : List D := (List.range n).map fun i : Nat => D.int (lo + (i : Int))
def asRng : D → Rs (List D)
  | .int j => if -1000000000 < j ∧ j < 1000000000 then .ok (rngD 0 j.toNat) else .bot
  | _ => .bot
def asRng2 (d e : D) : Rs (List D) := match d, e with
  | .int i, .int j => if (-1000000000 < i ∧ i < 1000000000) ∧ -1000000000 < j ∧ j < 1000000000 then .ok (rngD i (j - i).toNat) else .bot
  | _, _ => .bot
def dItR (f : Ev → Rs D) : Ev → Rs (List D) := fun ρ => (f ρ).bind asRng
def dItR2 (f g : Ev → Rs D) : Ev → Rs (List D) := fun ρ => (f ρ).bind fun d => (g ρ).bind fun e => asRng2 d e
section
variable {X : Cx} {E : XK} {tg : Expr} {e a b : Expr} {fa fb : Ev → Rs D} {pos p : Pos}
theorem itD_list {K : PySem.W.Frag} {G : Hp} {a : Addr} {xs : List V} {ds : List D} (h : SqL K G a xs) (q : DpAll K G xs ds) : ItD K (Itl K a) G ds where
  go i H s hi := ⟨xs, xs[i]'(by rw [q.length]; exact hi), s.seq h, by simp [q.length, hi]⟩
  yld i H x H' s hy := by
    obtain ⟨e, y⟩ := hy
    refine ⟨e, fun d hd => ?_⟩
    obtain ⟨v, h1, h2⟩ := q.getD hd
    have := y xs (s.seq h)
    rw [this] at h1; cases h1; exact h2
  stop H s := ⟨xs, s.seq h, by rw [q.length]; exact Nat.le_refl _⟩
theorem itD_tup {K : PySem.W.Frag} {G : Hp} {a : Addr} {xs : List V} {ds : List D} (h : SqT K G a xs) (q : DpAll K G xs ds) : ItD K (Itt K a) G ds where
  go i H s hi := ⟨xs, xs[i]'(by rw [q.length]; exact hi), KD.SqT.mono s h, by simp [q.length, hi]⟩
  yld i H x H' s hy := by
    obtain ⟨e, y⟩ := hy
    refine ⟨e, fun d hd => ?_⟩
    obtain ⟨v, h1, h2⟩ := q.getD hd
    have := y xs (KD.SqT.mono s h)
    rw [this] at h1; cases h1; exact h2
  stop H s := ⟨xs, KD.SqT.mono s h, by rw [q.length]; exact Nat.le_refl _⟩
theorem rngD_length (lo : Int) (n : Nat) : (rngD lo n).length = n := by simp [rngD]
theorem itD_rng {K : PySem.W.Frag} {G : Hp} {lo : Int} {n : Nat} : ItD K (Itr lo n) G (rngD lo n) where
  go i H s hi := by rw [rngD_length] at hi; exact hi
  yld i H x H' s hy := by
    obtain ⟨e, y⟩ := hy
    refine ⟨e, fun d hd => ?_⟩
    subst y
    have hi : i < n := by have := (List.getElem?_eq_some_iff.mp hd).1; rw [rngD_length] at this; exact this
    have : d = .int (lo + i) := by
      simp [rngD, hi] at hd
      exact hd.symm
    rw [this]; exact .int _
  stop H s := by rw [rngD_length]; exact Nat.le_refl _
theorem di_list (h : DE X E e fa) : DI X E tg e (dItL fa) := by
  refine piI (pi_list h) fun σ H R ⟨ρ, G, s, r, fi⟩ => ?_
  refine ⟨ρ, G, s, r, fi.bind.imp fun d H1 G1 g1 fi1 v hv => ?_⟩
  cases hv with
  | lst h1 h2 => exact ⟨_, rfl, ⟨_, SqL.of (g1.gh _ _ h1)⟩, fi1.now g1.gh _ (itD_list (SqL.of h1) h2)⟩
  | fls h1 h2 => exact ⟨_, rfl, ⟨_, g1.gh.seq h1⟩, fi1.now g1.gh _ (itD_list h1 h2)⟩
  | _ => exact False.elim fi1
theorem di_tup (h : DE X E e fa) : DI X E tg e (dItT fa) := by
  refine piI (pi_tup h) fun σ H R ⟨ρ, G, s, r, fi⟩ => ?_
  refine ⟨ρ, G, s, r, fi.bind.imp fun d H1 G1 g1 fi1 v hv => ?_⟩
  cases hv with
  | tup h1 h2 => exact ⟨_, rfl, ⟨_, KD.SqT.mono g1.gh h1⟩, fi1.now g1.gh _ (itD_tup h1 h2)⟩
  | _ => exact False.elim fi1
theorem di_rng (hg : Gl X "range") (hm : X.mg "range" = none) (ha : DE X E a fa) (hs : starEach [a] X.env = [(false, eval a X.env)] := by rfl) : DI X E tg (.Call (.Name "range" p) [a] [] pos) (dItR fa) := by
  refine piI (pi_range1 hg hm (pa_cons ha pa_nil (by rw [hs]; rfl)) hs) fun σ H R ⟨ρ, G, s, r, fi⟩ => ?_
  refine ⟨ρ, G, s, r, fi.bind.imp fun d H1 G1 g1 fi1 v hv => ?_⟩
  cases hv with
  | int j =>
    unfold asRng at fi1
    dsimp only at fi1
    by_cases c : -1000000000 < j ∧ j < 1000000000
    · rw [if_pos c] at fi1
      exact ⟨j, rfl, by omega, by omega, fi1.now g1.gh _ itD_rng⟩
    · rw [if_neg c] at fi1; exact False.elim fi1
  | _ => exact False.elim fi1
theorem di_rng2 (hg : Gl X "range") (hm : X.mg "range" = none) (ha : DE X E a fa) (hb : DE X E b fb) (hs : starEach [a, b] X.env = [(false, eval a X.env), (false, eval b X.env)] := by rfl) (hs2 : starEach [b] X.env = [(false, eval b X.env)] := by rfl) : DI X E tg (.Call (.Name "range" p) [a, b] [] pos) (dItR2 fa fb) := by
  refine piI (pi_range2 hg hm (pa_cons ha (pa_cons hb pa_nil (by rw [hs2]; rfl)) (by rw [hs, hs2])) hs hs2) fun σ H R ⟨ρ, G, s, r, fi⟩ => ?_
  refine ⟨ρ, G, s, r, fi.bind.imp fun d H1 G1 g1 fi1 v hv => ?_⟩
  refine ⟨ρ, G1, g1.gh, r.grow g1, fi1.bind.imp fun d' H2 G2 g2 fi2 v' hv' => ?_⟩
  cases hv with
  | int i =>
    cases hv' with
    | int j =>
      unfold asRng2 at fi2
      dsimp only at fi2
      by_cases c : (-1000000000 < i ∧ i < 1000000000) ∧ -1000000000 < j ∧ j < 1000000000
      · rw [if_pos c] at fi2
        exact ⟨i, j, rfl, ⟨by omega, by omega, by omega, by omega⟩, fi2.now g2.gh _ itD_rng⟩
      · rw [if_neg c] at fi2; exact False.elim fi2
    | _ => exact False.elim fi2
  | _ => cases hv' <;> exact False.elim fi2
end

/-! ### targets -/
/-- one name -/
def tgN (i : Nat) : D → Ev → Option Ev := fun d ρ => some (ρ.set i (.dt d))
/-- several names: (a, b, ..) = a tuple -/
def setsE : List Nat → List D → Ev → Ev
  | i :: is, d :: ds, ρ => setsE is ds (ρ.set i (.dt d))
  | _, _, ρ => ρ
def tgT (is : List Nat) : D → Ev → Option Ev := fun d ρ => match d with
  | .tup ds => if ds.length = is.length then some (setsE is ds ρ) else none
  | _ => none
/-- a target: what it does to slots and their readings; vs: slots that it may touch -/
def TgOk (K : PySem.W.Frag) (g : TG) (t : D → Ev → Option Ev) (vs : List Nat) : Prop := ∀ (v : V) (d : D) (σ : L2.St) (ρ ρ' : Ev) (H G : Hp) (Q : L2.St → Hp → Prop), Same G H → Dp K G v d → Rep K G H σ ρ → t d ρ = some ρ' →
  (∀ σ', L2.wipe σ' vs = L2.wipe σ vs → (Rep K G H σ ρ → Rep K G H σ' ρ') → (∀ H0 G0, At K H0 G0 H G σ ρ → At K H0 G0 H G σ' ρ') → Q σ' H) → g v σ H Q
theorem wipe_get {σ : L2.St} {vs : List Nat} (i : Nat) : (L2.wipe σ vs)[i]? = if i ∈ vs ∧ i < σ.length then some none else σ[i]? := by
  induction vs with
  | nil => simp [L2.wipe]
  | cons v vs ih =>
    unfold L2.wipe
    by_cases h : v = i
    · subst h
      by_cases hl : v < σ.length
      · rw [List.getElem?_set_self (by rw [L2.wipe_length]; exact hl)]; simp [hl]
      · rw [List.getElem?_eq_none (by rw [List.length_set, L2.wipe_length]; omega)]; simp [hl]
    · rw [List.getElem?_set_ne h, ih]
      have : i ≠ v := fun e => h e.symm
      simp [this]
theorem wipe_set {σ : L2.St} {vs : List Nat} {i : Nat} (o : Option V) (h : i ∈ vs) : L2.wipe (σ.set i o) vs = L2.wipe σ vs := by
  apply List.ext_getElem?
  intro j
  rw [wipe_get, wipe_get, List.length_set]
  by_cases hj : j ∈ vs ∧ j < σ.length
  · rw [if_pos hj, if_pos hj]
  · rw [if_neg hj, if_neg hj]
    by_cases e : i = j
    · subst e
      have : ¬ i < σ.length := fun q => hj ⟨h, q⟩
      rw [List.getElem?_eq_none (by rw [List.length_set]; omega), List.getElem?_eq_none (by omega)]
    · rw [List.getElem?_set_ne e]
theorem tg_name {K : PySem.W.Frag} {i : Nat} {vs : List Nat} (h : i ∈ vs) : TgOk K (gName i) (tgN i) vs := by
  intro v d σ ρ ρ' H G Q s hd r e q
  cases e
  exact q _ (wipe_set _ h) (fun r => r.setDt hd) (fun H0 G0 a => a.setDt hd)
/-- the readings of several names -/
def gNames : List Nat → TGs
  | [] => gNil
  | i :: is => gCons (gName i) (gNames is)
theorem tg_tup {K : PySem.W.Frag} {is vs : List Nat} (h : ∀ i ∈ is, i ∈ vs) : TgOk K (gTup K is.length (gNames is)) (tgT is) vs := by
  intro v d σ ρ ρ' H G Q s hd r e q
  cases hd with
  | tup h1 h2 =>
    rename_i a xs ds
    unfold tgT at e
    dsimp only at e
    by_cases c : ds.length = is.length
    · rw [if_pos c] at e
      cases e
      refine ⟨a, xs, rfl, KD.SqT.mono s h1, by rw [h2.length, c], ?_⟩
      have all : ∀ (is : List Nat) (xs : List V) (ds : List D) (σ : L2.St) (ρ : Ev), (∀ i ∈ is, i ∈ vs) → DpAll K G xs ds → ds.length = is.length → (∀ σ', L2.wipe σ' vs = L2.wipe σ vs → (Rep K G H σ ρ → Rep K G H σ' (setsE is ds ρ)) → (∀ H0 G0, At K H0 G0 H G σ ρ → At K H0 G0 H G σ' (setsE is ds ρ)) → Q σ' H) → gNames is xs σ H Q := by
        intro is
        induction is with
        | nil =>
          intro xs ds σ ρ hv hx hl q
          cases ds with
          | nil => cases hx; exact ⟨rfl, q σ rfl (fun r => r) (fun _ _ a => a)⟩
          | cons d ds => cases hl
        | cons i is ih =>
          intro xs ds σ ρ hv hx hl q
          cases ds with
          | nil => cases hl
          | cons d ds =>
            cases hx with
            | cons hx1 hx2 =>
              refine ⟨_, _, rfl, ?_⟩
              refine ih _ _ _ (ρ.set i (.dt d)) (fun j hj => hv j (List.mem_cons_of_mem _ hj)) hx2 (by simpa using hl) fun σ' w r' a' => ?_
              exact q σ' (w.trans (wipe_set _ (hv i List.mem_cons_self))) (fun r => r' (r.setDt hx1)) (fun H0 G0 a => a' H0 G0 (a.setDt hx1))
      exact all is xs ds σ ρ h h2 c q
    · rw [if_neg c] at e; cases e
  | _ => cases e

/-! ### for -/
def forL (t : D → Ev → Option Ev) (wp : List Nat) (body : Ev → SR) : List D → Ev → SR
  | [], ρ => .nx ρ
  | d :: ds, ρ => match t d ρ with
    | none => .bot
    | some ρ' => match body ρ' with
      | .nx ρ' => forL t wp body ds (wipeE wp ρ')
      | .ct ρ' => forL t wp body ds (wipeE wp ρ')
      | .bk ρ' => .nx (wipeE wp ρ')
      | .rt d => .rt d
      | .xc c n f => .xc c n f
      | .bot => .bot
def sFor (it : Ev → Rs (List D)) (t : D → Ev → Option Ev) (wp : List Nat) (body : Ev → SR) : Ev → SR := fun ρ => (it ρ).sr fun ds => forL t wp body ds ρ
section
variable {X : Cx} {E : XK} {tg iter : Expr} {body : List Stmt} {it : Ev → Rs (List D)} {t : D → Ev → Option Ev} {g : TG} {fb : Ev → SR} {pos : Pos}
theorem ds_for (wp : List Nat) {vs : List Nat} {st : Stmt} (ht : TgOk X.K g t vs) (h : PS X st (tFor (tDI X.K E it) g (tS X.K E fb))) : DS X E st (sFor it t wp fb) := by
  refine psI h fun D σ H ⟨H0, G0, ρ, G, at_, fi⟩ => ?_
  refine ⟨ρ, G, at_.gr.gh, at_.rep, (fi.sr at_).imp fun ds H1 G1 g1 ⟨a1, fi1⟩ J hJ => ?_⟩
  refine ⟨fun i m σ H => m = ds.length - i ∧ i ≤ ds.length ∧ ∃ ρ G, Same G1 G ∧ At X.K H0 G0 H G σ ρ ∧ FiS X.K E H0 G0 G (forL t wp fb (ds.drop i) ρ) D, ⟨ds.length, by simp, Nat.zero_le _, ρ, G1, Same.refl _, a1, by simpa using fi1⟩, ?_⟩
  rintro i m σ H ⟨rfl, hi, ρ, G, sg, a, fi⟩
  by_cases hlt : i < ds.length
  · refine .inr ⟨hJ.go i H (sg.trans a.gr.gh) hlt, fun σ' H' => ∃ ρ G, Same G1 G ∧ At X.K H0 G0 H' G σ' ρ ∧ FiS X.K E H0 G0 G (forL t wp fb (ds.drop (i + 1)) ρ) D, fun σ' H' ⟨ρ', G', q⟩ => ⟨ds.length - (i + 1), by omega, rfl, hlt, ρ', G', q⟩, fun x H' hy => ?_⟩
    obtain ⟨rfl, hy2⟩ := hJ.yld i H x H' (sg.trans a.gr.gh) hy
    have hx := (hy2 ds[i] (by simp [hlt])).up sg
    have ed : ds.drop i = ds[i] :: ds.drop (i + 1) := List.drop_eq_getElem_cons hlt
    rw [ed] at fi
    unfold forL at fi
    cases q : t ds[i] ρ with
    | some ρ' =>
      rw [q] at fi
      dsimp only at fi
      refine ht x ds[i] σ ρ ρ' _ G _ a.gr.gh hx a.rep q fun σ' _ _ ha => ?_
      refine ⟨H0, G0, ρ', G, ha H0 G0 a, ?_⟩
      cases q2 : fb ρ' with
      | nx ρ2 =>
        rw [q2] at fi
        exact fun σ2 H2 G2 s2 a2 => ⟨_, G2, sg.trans s2, a2.wipe wp, fi.up s2⟩
      | ct ρ2 =>
        rw [q2] at fi
        exact fun σ2 H2 G2 s2 a2 => ⟨_, G2, sg.trans s2, a2.wipe wp, fi.up s2⟩
      | bk ρ2 =>
        rw [q2] at fi
        exact fun σ2 H2 G2 s2 a2 => fi σ2 H2 G2 s2 (a2.wipe wp)
      | rt d => rw [q2] at fi; exact fi
      | xc c n f => rw [q2] at fi; exact fi
      | bot => rw [q2] at fi; exact fi
    | none => rw [q] at fi; exact False.elim fi
  · have e : i = ds.length := by omega
    subst e
    rw [List.drop_length] at fi
    exact .inl ⟨hJ.stop H (sg.trans a.gr.gh), fi σ H G (Same.refl _) a⟩
end

/-! ### while -/
def whileL (c : Ev → Rs Bool) (wp : List Nat) (body : Ev → SR) : Nat → Ev → SR
  | 0, _ => .bot
  | n + 1, ρ => (c ρ).sr fun b => if b = true then (match body ρ with
    | .nx ρ' => whileL c wp body n (wipeE wp ρ')
    | .ct ρ' => whileL c wp body n (wipeE wp ρ')
    | .bk ρ' => .nx (wipeE wp ρ')
    | .rt d => .rt d
    | .xc c n f => .xc c n f
    | .bot => .bot) else .nx ρ
def sWhile (n : Ev → Nat) (c : Ev → Rs Bool) (wp : List Nat) (body : Ev → SR) : Ev → SR := fun ρ => whileL c wp body (n ρ) ρ
section
variable {X : Cx} {E : XK} {fc : Ev → Rs Bool} {fb : Ev → SR} {st : Stmt}
theorem ds_while (n : Ev → Nat) (wp : List Nat) (h : PS X st (tWhile (tDT X.K E fc) (tS X.K E fb))) : DS X E st (sWhile n fc wp fb) := by
  refine psI h fun D σ H ⟨H0, G0, ρ, G, at_, fi⟩ => ?_
  refine ⟨fun m σ H => ∃ ρ G, At X.K H0 G0 H G σ ρ ∧ FiS X.K E H0 G0 G (whileL fc wp fb m ρ) D, ⟨n ρ, ρ, G, at_, fi⟩, ?_⟩
  rintro m σ H ⟨ρ, G, a, fi⟩
  cases m with
  | zero => exact False.elim fi
  | succ m =>
    unfold whileL at fi
    refine ⟨ρ, G, a.gr.gh, a.rep, (fi.sr a).imp fun b H1 G1 g1 ⟨a1, fi1⟩ => ?_⟩
    cases b with
    | false => exact iteF (fi1 σ H1 G1 (Same.refl _) a1)
    | true =>
      refine iteT ⟨fun σ' H' => ∃ ρ G, At X.K H0 G0 H' G σ' ρ ∧ FiS X.K E H0 G0 G (whileL fc wp fb m ρ) D, fun σ' H' q => ⟨m, Nat.lt_succ_self _, q⟩, H0, G0, ρ, G1, a1, ?_⟩
      rw [if_pos rfl] at fi1
      cases q2 : fb ρ with
      | nx ρ2 =>
        rw [q2] at fi1
        exact fun σ2 H2 G2 s2 a2 => ⟨_, G2, a2.wipe wp, fi1.up s2⟩
      | ct ρ2 =>
        rw [q2] at fi1
        exact fun σ2 H2 G2 s2 a2 => ⟨_, G2, a2.wipe wp, fi1.up s2⟩
      | bk ρ2 =>
        rw [q2] at fi1
        exact fun σ2 H2 G2 s2 a2 => fi1 σ2 H2 G2 s2 (a2.wipe wp)
      | rt d => rw [q2] at fi1; exact fi1
      | xc c n f => rw [q2] at fi1; exact fi1
      | bot => rw [q2] at fi1; exact fi1
end

/-! ### comprehensions: one for, two fors -/
def compL (t : D → Ev → Option Ev) (c : Ev → Rs Bool) (f : Ev → Rs D) (ρ : Ev) : List D → Rs (List D)
  | [] => .ok []
  | d :: ds => match t d ρ with
    | none => .bot
    | some ρ' => (c ρ').nox.bind fun b => if b = true then (f ρ').nox.bind fun y => (compL t c f ρ ds).bind fun ys => .ok (y :: ys) else compL t c f ρ ds
def dComp (vs : List Nat) (it : Ev → Rs (List D)) (t : D → Ev → Option Ev) (c : Ev → Rs Bool) (f : Ev → Rs D) : Ev → Rs D := fun ρ => (it ρ).bind fun ds => if ds.length ≤ 1000000 then (compL t c f (wipeE vs ρ) ds).bind fun ys => .ok (.lst ys) else .bot
theorem Fi.nox {α : Type} {K : PySem.W.Frag} {E E' : XK} {H G : Hp} {r : Rs α} {P : α → Hp → Hp → Prop} (h : Fi K E H G r.nox P) : Fi K E' H G r P := by
  cases r with
  | ok a => exact h
  | xc c n f => exact False.elim h
  | bot => exact False.elim h
theorem wipe_rep {K : PySem.W.Frag} {G H : Hp} {σ : L2.St} {ρ : Ev} (vs : List Nat) (r : Rep K G H σ ρ) : Rep K G H (L2.wipe σ vs) (wipeE vs ρ) := by
  have r1 := Rep.wipe vs r
  have no : ∀ (vs : List Nat) (ρ : Ev) (i : Nat) (s : Sl), (wipeE vs ρ)[i]? = some s → i ∈ vs → s = .no := by
    intro vs
    induction vs with
    | nil => intro ρ i s _ h; cases h
    | cons v vs ih =>
      intro ρ i s h hm
      by_cases hi : i ∈ vs
      · exact ih _ i s h hi
      · have e : i = v := by rcases List.mem_cons.mp hm with h | h; exact h; exact absurd h hi
        subst e
        have keep : ∀ (vs : List Nat) (ρ : Ev), i ∉ vs → (wipeE vs ρ)[i]? = ρ[i]? := by
          intro vs
          induction vs with
          | nil => intro ρ _; rfl
          | cons w vs ih2 =>
            intro ρ hn
            show (wipeE vs (ρ.set w .no))[i]? = ρ[i]?
            rw [ih2 _ (fun z => hn (List.mem_cons_of_mem _ z)), List.getElem?_set_ne (fun z => hn (by rw [z]; exact List.mem_cons_self))]
        have h' : (wipeE vs (ρ.set i .no))[i]? = some s := h
        rw [keep vs _ hi] at h'
        have hl : i < ρ.length := by have := (List.getElem?_eq_some_iff.mp h').1; simpa using this
        rw [List.getElem?_set_self hl] at h'
        cases h'; rfl
  refine ⟨by rw [L2.wipe_length]; exact r1.len, fun i s o h1 h2 => ?_, fun i j s t a h1 h2 o1 o2 e1 e2 => ?_⟩
  · rw [wipe_get] at h2
    by_cases c : i ∈ vs ∧ i < σ.length
    · rw [if_pos c] at h2
      rw [no vs ρ i s h1 c.1]; trivial
    · rw [if_neg c] at h2; exact r1.sl i s o h1 h2
  · have k : ∀ i : Nat, (L2.wipe σ vs)[i]? = some (some (V.ref a)) → σ[i]? = some (some (V.ref a)) := fun i e => (L2.wipe_some e).1
    exact r1.dis i j s t a h1 h2 o1 o2 (k i e1) (k j e2)
theorem len_comp {t : D → Ev → Option Ev} {c : Ev → Rs Bool} {f : Ev → Rs D} {ρ : Ev} : ∀ {ds ys : List D}, compL t c f ρ ds = .ok ys → ys.length ≤ ds.length
  | [], ys, h => by cases h; exact Nat.le_refl _
  | d :: ds, ys, h => by
    unfold compL at h
    split at h
    · cases h
    · rename_i ρ' _
      cases q : (c ρ').nox with
      | ok b =>
        rw [q, Rs.bind_ok] at h
        cases b with
        | false =>
          have h2 : compL t c f ρ ds = .ok ys := h
          have := len_comp h2
          simp; omega
        | true =>
          rw [if_pos rfl] at h
          cases q2 : (f ρ').nox with
          | ok y =>
            rw [q2, Rs.bind_ok] at h
            cases q3 : compL t c f ρ ds with
            | ok zs =>
              rw [q3, Rs.bind_ok] at h
              cases h
              have := len_comp q3
              simp; omega
            | xc => rw [q3] at h; cases h
            | bot => rw [q3] at h; cases h
          | xc => rw [q2] at h; cases h
          | bot => rw [q2] at h; cases h
      | xc => rw [q] at h; cases h
      | bot => rw [q] at h; cases h
section
variable {X : Cx} {E : XK} {e : Expr} {it : Ev → Rs (List D)} {t : D → Ev → Option Ev} {g : TG} {fc : Ev → Rs Bool} {fe : Ev → Rs D}
/-- what is left of a comprehension, over a heap where the new list at L holds acc -/
theorem lc_imp {vs : List Nat} (ht : TgOk X.K g t vs) : ∀ σ H Q, tD X.K E (dComp vs it t fc fe) σ H Q → tLc (tDI X.K E it) g (tDT X.K E0 fc) (tD X.K E0 fe) vs σ H Q := by
  intro σ H Q ⟨ρ, G, s, r, fi⟩
  refine ⟨ρ, G, s, r, fi.bind.imp fun ds H1 G1 g1 fi1 J hJ L nL => ?_⟩
  have hz : ds.length ≤ 1000000 := by
    by_cases c : ds.length ≤ 1000000
    · exact c
    · rw [if_neg c] at fi1; exact False.elim fi1
  rw [if_pos hz] at fi1
  have rr := r.grow g1
  have nG : G1 L = none := g1.gh.free nL
  -- the invariant: a part i of ds is done; acc stands at L; what is left gives the rest
  refine ⟨fun i m H => m = ds.length - i ∧ i ≤ ds.length ∧ ∃ G acc ys, H L = some (.lst acc) ∧ G L = none ∧ Same G H ∧ Grow H1 G1 (fun b => if b = L then none else H b) G ∧ DpAll X.K G acc ys ∧ ys.length ≤ i ∧ Fi X.K E H1 G1 ((compL t fc fe (wipeE vs ρ) (ds.drop i)).bind fun zs => .ok (.lst (ys ++ zs))) (fun d H' G' => ∀ v, Dp X.K G' v d → Q v H'),
    ⟨ds.length, by simp, Nat.zero_le _, G1, [], [], upd_same, nG, g1.gh.trans (same_upd nL), ?_, .nil, Nat.le_refl _, by simpa using fi1⟩, ?_⟩
  · have e1 : (fun b => if b = L then none else upd H1 L (.lst []) b) = H1 := by
      funext b
      by_cases c : b = L
      · rw [if_pos c, c, nL]
      · rw [if_neg c, upd_ne c]
    rw [e1]; exact Grow.refl g1.gh
  rintro i m H ⟨rfl, hi, G, acc, ys, hL, nGL, sG, gr, da, hy, fi⟩
  -- the growth with L as data
  have sH1 : Same H1 H := fun b o q => by
    have := gr.hh b o q
    by_cases c : b = L
    · rw [c, nL] at q; cases q
    · simp only [if_neg c] at this; exact this
  have growL : ∀ (H' G' : Hp), Grow H1 G1 (fun b => if b = L then none else H' b) G' → Same G' H' → G' L = none → ∀ acc', H' L = some (.lst acc') → Grow H1 G1 H' (upd G' L (.lst acc')) := fun H' G' gr' sG' nL' acc' hL' => by
    refine ⟨fun b o q => ?_, gr'.gg.trans (same_upd nL'), fun b o q => ?_, fun b o q => ?_⟩
    · have := gr'.hh b o q
      by_cases c : b = L
      · rw [c, nL] at q; cases q
      · simp only [if_neg c] at this; exact this
    · by_cases c : b = L
      · subst c; rw [upd_same] at q; cases q; exact hL'
      · rw [upd_ne c] at q; exact sG' b o q
    · by_cases c : b = L
      · subst c; exact .inr nL
      · rw [upd_ne c] at q; exact gr'.nw b o q
  have repAt : ∀ (H' G' : Hp), Grow H1 G1 (fun b => if b = L then none else H' b) G' → Same G' H' → Rep X.K G' H' (L2.wipe σ vs) (wipeE vs ρ) := fun H' G' gr' sG' => by
    have r2 := rr.grow gr'
    have r3 : Rep X.K G' H' σ ρ := ⟨r2.len, fun i s o h1 h2 => by
      have q := r2.sl i s o h1 h2
      cases s with
      | no => trivial
      | dt d => exact q
      | ol xs =>
        obtain ⟨b, vs, e, q1, q2⟩ := q
        refine ⟨b, vs, e, ?_, q2⟩
        by_cases c : b = L
        · simp only [if_pos c] at q1; cases q1
        · simp only [if_neg c] at q1; exact q1
      | od ks vs =>
        obtain ⟨b, vs, e, q1, q2⟩ := q
        refine ⟨b, vs, e, ?_, q2⟩
        by_cases c : b = L
        · simp only [if_pos c] at q1; cases q1
        · simp only [if_neg c] at q1; exact q1, r2.dis⟩
    exact wipe_rep vs r3
  have sJ : Same G1 H := g1.gh.trans sH1
  by_cases hlt : i < ds.length
  · refine .inr ⟨hJ.go i H sJ hlt, fun H' => ∃ G acc ys, H' L = some (.lst acc) ∧ G L = none ∧ Same G H' ∧ Grow H1 G1 (fun b => if b = L then none else H' b) G ∧ DpAll X.K G acc ys ∧ ys.length ≤ i + 1 ∧ Fi X.K E H1 G1 ((compL t fc fe (wipeE vs ρ) (ds.drop (i + 1))).bind fun zs => .ok (.lst (ys ++ zs))) (fun d H' G' => ∀ v, Dp X.K G' v d → Q v H'), fun H' q => ⟨ds.length - (i + 1), by omega, rfl, hlt, q⟩, fun x H' hy' => ?_⟩
    obtain ⟨rfl, hy2⟩ := hJ.yld i H x H' sJ hy'
    have hx : Dp X.K G x ds[i] := (hy2 ds[i] (by simp [hlt])).up gr.gg
    have ed : ds.drop i = ds[i] :: ds.drop (i + 1) := List.drop_eq_getElem_cons hlt
    rw [ed] at fi
    unfold compL at fi
    cases q : t ds[i] (wipeE vs ρ) with
    | none => rw [q] at fi; exact False.elim fi
    | some ρ' =>
      rw [q] at fi
      dsimp only at fi
      have rep0 := repAt H' G gr sG
      refine ht x ds[i] _ _ ρ' _ G _ sG hx rep0 q fun σ' hw hr _ => ?_
      refine ⟨by
        rw [hw]
        have : L2.wipe (L2.wipe σ vs) vs = L2.wipe σ vs := by
          apply List.ext_getElem?
          intro j
          rw [wipe_get, wipe_get, L2.wipe_length]
          by_cases c : j ∈ vs ∧ j < σ.length
          · rw [if_pos c, if_pos c]
          · rw [if_neg c]
        exact this, ?_⟩
      -- the test
      have step : ∀ (H2 G2 : Hp), Grow H' G H2 G2 → G2 L = none ∧ Grow H1 G1 (fun b => if b = L then none else H2 b) G2 := fun H2 G2 g2 => by
        have nL2 : G2 L = none := by
          cases e : G2 L with
          | none => rfl
          | some u =>
            rcases g2.nw L u e with z | z
            · rw [nGL] at z; cases z
            · rw [hL] at z; cases z
        refine ⟨nL2, fun b o z => ?_, gr.gg.trans g2.gg, fun b o z => ?_, fun b o z => ?_⟩
        · have c : b ≠ L := fun e => by rw [e, nL] at z; cases z
          simp only [if_neg c]; exact g2.hh b o (sH1 b o z)
        · have c : b ≠ L := fun e => by rw [e, nL2] at z; cases z
          simp only [if_neg c]; exact g2.gh b o z
        · rcases g2.nw b o z with z | z
          · exact gr.nw b o z
          · exact .inr (sH1.free z)
      cases qc : fc ρ' with
      | xc => rw [qc] at fi; exact False.elim fi
      | bot => rw [qc] at fi; exact False.elim fi
      | ok b =>
        rw [qc, Rs.nox_ok, Rs.bind_ok] at fi
        refine ⟨ρ', G, sG, hr rep0, ?_⟩
        rw [qc]
        intro H2 G2 g2
        obtain ⟨nL2, gr2⟩ := step H2 G2 g2
        have hL2 := g2.hh _ _ hL
        cases b with
        | false =>
          refine iteF ⟨G2, acc, ys, hL2, nL2, g2.gh, gr2, da.up g2.gg, by omega, ?_⟩
          exact fi
        | true =>
          rw [if_pos rfl] at fi
          refine iteT ?_
          cases qe : fe ρ' with
          | xc => rw [qe] at fi; exact False.elim fi
          | bot => rw [qe] at fi; exact False.elim fi
          | ok y =>
            rw [qe, Rs.nox_ok, Rs.bind_ok] at fi
            refine ⟨ρ', G2, g2.gh, (hr rep0).grow g2, ?_⟩
            rw [qe]
            intro H3 G3 g3 v hv
            obtain ⟨nL3, gr3⟩ := step H3 G3 (g2.trans g3)
            have hL3 := g3.hh _ _ hL2
            have la := da.length
            refine ⟨acc, hL3, lt_line (by omega), G3, acc ++ [v], ys ++ [y], upd_same, nL3, fun b o z => ?_, ?_, (da.up (g2.trans g3).gg).append (.cons hv .nil), by simp; omega, ?_⟩
            · rw [upd_ne (ne_of_none z nL3)]; exact g3.gh b o z
            · have e1 : (fun b => if b = L then none else upd H3 L (.lst (acc ++ [v])) b) = (fun b => if b = L then none else H3 b) := by
                funext b
                by_cases c : b = L
                · rw [if_pos c, if_pos c]
                · rw [if_neg c, if_neg c, upd_ne c]
              rw [e1]; exact gr3
            · cases q3 : compL t fc fe (wipeE vs ρ) (ds.drop (i + 1)) with
              | ok zs =>
                rw [q3] at fi
                have fi3 : Fi X.K E H1 G1 (.ok (.lst (ys ++ (y :: zs)))) (fun d H' G' => ∀ v, Dp X.K G' v d → Q v H') := fi
                show Fi X.K E H1 G1 (.ok (D.lst ((ys ++ [y]) ++ zs))) _
                rw [List.append_assoc]; exact fi3
              | xc c n f => rw [q3] at fi; exact fi
              | bot => rw [q3] at fi; exact fi
  · have e : i = ds.length := by omega
    subst e
    rw [List.drop_length] at fi
    refine .inl ⟨hJ.stop H sJ, ?_⟩
    have fi2 : Fi X.K E H1 G1 (.ok (.lst ys)) (fun d H' G' => ∀ v, Dp X.K G' v d → Q v H') := by simpa [compL] using fi
    exact fi2 H _ (growL H G gr sG nGL acc hL) _ (.lst upd_same (da.up (same_upd nGL)))
theorem de_lc {vs : List Nat} (ht : TgOk X.K g t vs) (h : PE X e (tLc (tDI X.K E it) g (tDT X.K E0 fc) (tD X.K E0 fe) vs)) : DE X E e (dComp vs it t fc fe) := peI h (lc_imp ht)
/-- y = [..] -/
theorem ds_setLc {vs : List Nat} {i : Nat} {st : Stmt} (ht : TgOk X.K g t vs) (h : PS X st (tAsg (tLc (tDI X.K E it) g (tDT X.K E0 fc) (tD X.K E0 fe) vs) (gName i))) : DS X E st (sSet i (dComp vs it t fc fe)) :=
  ds_set (psI h fun D σ H q => lc_imp ht σ H _ q)
theorem dts_nil : PTs X [] (tDT X.K E fun _ => .ok true) := ⟨fun pins s σ H Q I h => (pts_nil (X := X)).run pins s σ H Q I (by obtain ⟨ρ, G, sg, r, fi⟩ := h; exact fi.now sg)⟩
theorem dts_one {c : Expr} (h : DT X E c fc) : PTs X [c] (tDT X.K E fc) := pts_one h
/-- a, b, .. = e -/
def sUnp (is : List Nat) (f : Ev → Rs D) : Ev → SR := fun ρ => (f ρ).sr fun d => match tgT is d ρ with
  | some ρ' => .nx ρ'
  | none => .bot
theorem ds_unp {is : List Nat} {st : Stmt} {fa : Ev → Rs D} (h : PS X st (tAsg (tD X.K E fa) (gTup X.K is.length (gNames is)))) : DS X E st (sUnp is fa) := by
  refine psI h fun D σ H ⟨H0, G0, ρ, G, at_, fi⟩ => ?_
  refine ⟨ρ, G, at_.gr.gh, at_.rep, (fi.sr at_).imp fun d H1 G1 g1 ⟨a1, fi1⟩ v hv => ?_⟩
  cases q : tgT is d ρ with
  | none => rw [q] at fi1; exact False.elim fi1
  | some ρ' =>
    rw [q] at fi1
    exact tg_tup (vs := is) (fun i h => h) v d σ ρ ρ' H1 G1 _ g1.gh hv a1.rep q fun σ' _ _ ha => fi1 σ' H1 G1 (Same.refl _) (ha H0 G0 a1)
end
end KD

/-! KD3: subscripts, slices, builtins, membership, isinstance, fields, methods, defs. -/
namespace KD
open PySem L2

/-! ### dict keys -/
def D.key : D → Option Key
  | .int i => some (.inl i)
  | .str x => some (.inr x)
  | _ => none
def lookD : List D → List D → Key → Option D
  | k :: ks, v :: vs, q => if k.key = some q then some v else lookD ks vs q
  | _, _, _ => none
theorem Dp.keyV {K : PySem.W.Frag} {G : Hp} {v : V} {d : D} {k : Key} (h : Dp K G v d) (e : d.key = some k) : v = kV k := by
  cases h <;> first | cases e; rfl | cases e
theorem Dp.keyD {K : PySem.W.Frag} {G : Hp} {d : D} {k : Key} (h : Dp K G (kV k) d) : d.key = some k := by
  cases k with
  | inl i => cases h; rfl
  | inr x => cases h; rfl
theorem look_val {K : PySem.W.Frag} {G : Hp} {q : Key} : ∀ {kvs : List (Key × V)} {ks vs : List D}, DpAll K G (kvs.map fun p => kV p.1) ks → DpAll K G (kvs.map (·.2)) vs →
    (∀ d, lookD ks vs q = some d → ∃ v, valV kvs q = some v ∧ Dp K G v d) ∧ (lookD ks vs q = none → valV kvs q = none)
  | [], _, _, h1, h2 => by cases h1; cases h2; exact ⟨fun d e => (by cases e), fun _ => rfl⟩
  | (k, v) :: kvs, _, _, h1, h2 => by
    cases h1 with
    | cons a1 t1 =>
      cases h2 with
      | cons a2 t2 =>
        obtain ⟨i1, i2⟩ := look_val (q := q) t1 t2
        have ek := Dp.keyD (k := k) a1
        by_cases c : k = q
        · have c' : some k = some q := congrArg some c
          refine ⟨fun d e => ?_, fun e => ?_⟩
          · unfold lookD at e; rw [ek, if_pos c'] at e; cases e
            exact ⟨v, valV_pos c, a2⟩
          · unfold lookD at e; rw [ek, if_pos c'] at e; cases e
        · have c' : ¬ some k = some q := fun z => c (Option.some.inj z)
          refine ⟨fun d e => ?_, fun e => ?_⟩
          · unfold lookD at e; rw [ek, if_neg c'] at e
            obtain ⟨w, e1, e2⟩ := i1 d e
            exact ⟨w, by rw [valV_neg c]; exact e1, e2⟩
          · unfold lookD at e; rw [ek, if_neg c'] at e
            rw [valV_neg c]; exact i2 e

/-! ### a[b] -/
def atD (xs : List D) (i : Int) : Rs D := match atI xs i with
  | some d => .ok d
  | none => .bot
def gIx (x y : D) : Rs D := match x, y with
  | .lst xs, .int i => atD xs i
  | .fls xs, .int i => atD xs i
  | .tup xs, .int i => atD xs i
  | .str z, .int i => if z.length ≤ 1000 then (match atI z.cps.toList i with | some c => .ok (.str ⟨#[c]⟩) | none => .bot) else .bot
  | .dic ks vs, y => (match y.key with | some k => (match lookD ks vs k with | some d => .ok d | none => .bot) | none => .bot)
  | _, _ => .bot
def IxDD (X : Cx) (g : D → D → Rs D) : Prop := ∃ r : R2, IxR X r ∧
  ∀ (E : XK) (G H : Hp) (x y : V) (dx dy : D) (Q : VK), Same G H → Dp X.K G x dx → Dp X.K G y dy → Fi X.K E H G (g dx dy) (fun d H' G' => ∀ v, Dp X.K G' v d → Q v H') → r x y H Q
section
variable {X : Cx} {E : XK} {e a b : Expr} {es : List Expr} {fa fb : Ev → Rs D} {fs : Ev → Rs (List D)} {pos p : Pos}
theorem ix_dict (hu : X.A.units + 1 < cLine) : IxR X (fun x y H Q => ∃ a v, x = .ref a ∧ DGet H a y (some v) ∧ Q v H) := by
  intro value slice pins s σ H x y v u Q I rx ry h hs
  obtain ⟨p, r, rfl, g, q⟩ := h
  obtain rfl : v = Value.ref p := rx
  exact PyProof.Rows.tail_any (dict_typeIs I g) PySem.F.slot_dict_getitem.lookup (d_getItem hu I g ry fun w' s3 I3 rw' => ⟨r, H, I3, rw', q⟩) hs
theorem atI_dp {K : PySem.W.Frag} {G : Hp} {xs : List V} {ds : List D} {i : Int} {d : D} (h : DpAll K G xs ds) (e : atI ds i = some d) : ∃ v, atI xs i = some v ∧ Dp K G v d := by
  unfold atI at e ⊢
  rw [← h.length] at e
  cases q : ixN xs.length i with
  | none => rw [q] at e; cases e
  | some j =>
    rw [q] at e
    exact h.getD e
theorem mem_atI {α : Type} {xs : List α} {i : Int} {c : α} (h : atI xs i = some c) : c ∈ xs := by
  unfold atI at h
  cases q : ixN xs.length i with
  | none => rw [q] at h; cases h
  | some j =>
    rw [q] at h
    exact List.mem_of_getElem? h
theorem strOk_iff (x : Str) : PyData.strOk x = true ↔ ∀ c ∈ x.cps.toList, c < 0x110000 := by
  unfold PyData.strOk
  rw [Array.all_eq_true']
  simp
theorem strOk_one {x : Str} {c : Nat} (h : PyData.strOk x = true) (hc : c ∈ x.cps.toList) : PyData.strOk ⟨#[c]⟩ = true := by
  have := (strOk_iff x).mp h c hc
  rw [strOk_iff]
  intro d hd
  simp at hd; subst hd; exact this
theorem ixd (hu : X.A.units + 1 < cLine) : IxDD X gIx := ⟨_, ix_seq.or (ix_dict hu), fun E G H x y dx dy Q s hx hy fi => by
  have at_ : ∀ {ds : List D} {i : Int}, Fi X.K E H G (atD ds i) (fun d H' G' => ∀ v, Dp X.K G' v d → Q v H') → ∃ d, atI ds i = some d ∧ Fi X.K E H G (.ok d) (fun d H' G' => ∀ v, Dp X.K G' v d → Q v H') := fun {ds i} fi => by
    unfold atD at fi
    cases q : atI ds i with
    | none => rw [q] at fi; exact False.elim fi
    | some d => rw [q] at fi; exact ⟨d, rfl, fi⟩
  cases hx with
  | lst h1 h2 =>
    cases hy <;> try exact False.elim fi
    obtain ⟨d, e, fi⟩ := at_ fi
    obtain ⟨v, e1, e2⟩ := atI_dp h2 e
    exact .inl (.inl ⟨_, _, _, v, rfl, rfl, SqL.of (s _ _ h1), e1, fi0 s fi e2⟩)
  | fls h1 h2 =>
    cases hy <;> try exact False.elim fi
    obtain ⟨d, e, fi⟩ := at_ fi
    obtain ⟨v, e1, e2⟩ := atI_dp h2 e
    exact .inl (.inl ⟨_, _, _, v, rfl, rfl, s.seq h1, e1, fi0 s fi e2⟩)
  | tup h1 h2 =>
    cases hy <;> try exact False.elim fi
    obtain ⟨d, e, fi⟩ := at_ fi
    obtain ⟨v, e1, e2⟩ := atI_dp h2 e
    exact .inl (.inr (.inl ⟨_, _, _, v, rfl, rfl, KD.SqT.mono s h1, e1, fi0 s fi e2⟩))
  | str z hz =>
    cases hy <;> try exact False.elim fi
    rename_i i
    unfold gIx at fi
    dsimp only at fi
    by_cases c : z.length ≤ 1000
    · rw [if_pos c] at fi
      cases q : atI z.cps.toList i with
      | none => rw [q] at fi; exact False.elim fi
      | some ch =>
        rw [q] at fi
        exact .inl (.inr (.inr ⟨z, i, ch, rfl, rfl, le_line c, q, fi0 s fi (.str _ (strOk_one hz (mem_atI q)))⟩))
    · rw [if_neg c] at fi; exact False.elim fi
  | dic h1 h2 h3 =>
    unfold gIx at fi
    dsimp only at fi
    cases q : dy.key with
    | none => rw [q] at fi; exact False.elim fi
    | some k =>
      rw [q] at fi
      dsimp only at fi
      rename_i a kvs ks vs
      cases q2 : lookD ks vs k with
      | none => rw [q2] at fi; exact False.elim fi
      | some d =>
        rw [q2] at fi
        obtain ⟨v, e1, e2⟩ := (look_val h2 h3).1 d q2
        refine .inr ⟨_, v, rfl, .inl ⟨kvs, k, .inl (s _ _ h1), hy.keyV q, e1.symm⟩, fi0 s fi e2⟩
  | _ => exact False.elim fi⟩
theorem de_ix {g : D → D → Rs D} (o : IxDD X g) (ha : DE X E a fa) (hb : DE X E b fb) (hs : PlainIx b) : DE X E (.Subscript a b pos) (dOp g fa fb) := by
  obtain ⟨r, ho, hg⟩ := o
  refine peI (pe_ix ho ha hb hs) fun σ H Q ⟨ρ, G, s, r, fi⟩ => ?_
  refine ⟨ρ, G, s, r, fi.bind.imp fun x H1 G1 g1 fi1 v hv => ?_⟩
  refine ⟨ρ, G1, g1.gh, r.grow g1, fi1.bind.imp fun y H2 G2 g2 fi2 w hw => ?_⟩
  exact hg E G2 H2 v w x y Q g2.gh (hv.up g2.gg) hw fi2
/-! ### a[lo:hi] -/
def dNoP : Ev → Rs (Option Int) := fun _ => .ok none
def asI : D → Rs (Option Int)
  | .int i => .ok (some i)
  | _ => .bot
def dPart (f : Ev → Rs D) : Ev → Rs (Option Int) := fun ρ => (f ρ).bind asI
def tDO (K : PySem.W.Frag) (E : XK) (f : Ev → Rs (Option Int)) : TO := fun σ H Q => tG K E f (fun o H' _ => Q o H') σ H
abbrev DO (X : Cx) (E : XK) (e : Option Expr) (f : Ev → Rs (Option Int)) : Prop := PO X e (tDO X.K E f)
theorem poI {e : Option Expr} {t t' : TO} (h : PO X e t) (f : ∀ σ H Q, t' σ H Q → t σ H Q) : PO X e t' := ⟨fun pins s σ H Q I q => h.run pins s σ H Q I (f σ H Q q)⟩
theorem do_none : DO X E none dNoP := poI po_none fun σ H Q ⟨ρ, G, s, r, fi⟩ => fi.now s
theorem do_some (h : DE X E e fa) : DO X E (some e) (dPart fa) := poI (po_some h) fun σ H Q ⟨ρ, G, s, r, fi⟩ => by
  refine ⟨ρ, G, s, r, fi.bind.imp fun d H1 G1 g1 fi1 v hv => ?_⟩
  cases hv <;> first | exact False.elim fi1 | exact ⟨_, rfl, fi1.now g1.gh⟩
def cutD (xs : List D) (lo hi : Option Int) : List D := (xs.drop (HT.sIx xs.length 0 lo)).take (HT.sIx xs.length xs.length hi - HT.sIx xs.length 0 lo)
def gSl (x : D) (lo hi : Option Int) : Rs D := match x with
  | .lst xs => .ok (.lst (cutD xs lo hi))
  | .tup xs => .ok (.tup (cutD xs lo hi))
  | _ => .bot
def dSl (f : Ev → Rs D) (l h : Ev → Rs (Option Int)) : Ev → Rs D := fun ρ => (f ρ).bind fun x => (l ρ).bind fun lo => (h ρ).bind fun hi => gSl x lo hi
theorem cut_dp {K : PySem.W.Frag} {G : Hp} {xs : List V} {ds : List D} (h : DpAll K G xs ds) (lo hi : Option Int) : DpAll K G (cutV xs lo hi) (cutD ds lo hi) := by
  unfold cutV cutD
  rw [h.length]
  exact (h.drop _).take _
theorem de_slice {lo hi : Option Expr} {l h : Ev → Rs (Option Int)} {p2 : Pos} (he : DE X E e fa) (hl : DO X E lo l) (hh : DO X E hi h) : DE X E (.Subscript e (.Slice lo hi none p2) pos) (dSl fa l h) := by
  refine peI (pe_slice (sl_list.or sl_tupA) he hl hh) fun σ H Q ⟨ρ, G, s, r, fi⟩ => ?_
  refine ⟨ρ, G, s, r, fi.bind.imp fun x H1 G1 g1 fi1 v hv => ?_⟩
  refine ⟨ρ, G1, g1.gh, r.grow g1, fi1.bind.imp fun lo H2 G2 g2 fi2 => ?_⟩
  refine ⟨ρ, G2, g2.gh, (r.grow g1).grow g2, fi2.bind.imp fun hi H3 G3 g3 fi3 => ?_⟩
  have gg := g2.trans g3
  cases hv with
  | lst h1 h2 =>
    refine .inl ⟨_, _, rfl, SqL.of (g3.gh _ _ (gg.gg _ _ h1)), fun p np => ?_⟩
    exact fiN g3.gh fi3 np (.lst upd_same (cut_dp ((h2.up gg.gg).up (same_upd (g3.gh.free np))) _ _))
  | tup h1 h2 =>
    refine .inr ⟨_, _, rfl, KD.SqT.mono (gg.gg.trans g3.gh) h1, fun c => ?_, fun c p np => ?_⟩
    · refine fi0 g3.gh fi3 (.tup (KD.SqT.mono gg.gg h1) ?_)
      rename_i a xs ds
      have : cutD ds lo hi = ds := by
        unfold cutD
        rw [← h2.length, c.1, c.2]
        rw [List.drop_zero, h2.length]
        simp
      rw [this]; exact h2.up gg.gg
    · exact fiN g3.gh fi3 np (.tup (SqT.of upd_same) (cut_dp ((h2.up gg.gg).up (same_upd (g3.gh.free np))) _ _))
  | _ => exact False.elim fi3

/-! ### built-in calls -/
def cLen (ds : List D) : Rs D := match ds with
  | [.lst xs] => .ok (.int xs.length)
  | [.fls xs] => .ok (.int xs.length)
  | [.tup xs] => .ok (.int xs.length)
  | [.str z] => if z.length ≤ 1000 then .ok (.int z.length) else .bot
  | _ => .bot
theorem dpAll1 {K : PySem.W.Frag} {G : Hp} {vs : List V} {d : D} (h : DpAll K G vs [d]) : ∃ v, vs = [v] ∧ Dp K G v d := by
  cases h with
  | cons a t => cases t; exact ⟨_, rfl, a⟩
theorem dpAll2 {K : PySem.W.Frag} {G : Hp} {vs : List V} {d e : D} (h : DpAll K G vs [d, e]) : ∃ v w, vs = [v, w] ∧ Dp K G v d ∧ Dp K G w e := by
  cases h with
  | cons a t =>
    obtain ⟨w, rfl, b⟩ := dpAll1 t
    exact ⟨_, _, rfl, a, b⟩
theorem cd_len : CallDD X (.builtin "len") cLen := ⟨_, call_len, fun E G H xs ds Q s hx fi => by
  match ds, hx, fi with
  | [d], hx, fi =>
    obtain ⟨v, rfl, h⟩ := dpAll1 hx
    cases h with
    | lst h1 h2 => exact ⟨_, _, rfl, .inl ⟨_, SqL.of (s _ _ h1), rfl⟩, by rw [h2.length]; exact fi0 s fi (.int _)⟩
    | fls h1 h2 => exact ⟨_, _, rfl, .inl ⟨_, s.seq h1, rfl⟩, by rw [h2.length]; exact fi0 s fi (.int _)⟩
    | tup h1 h2 => exact ⟨_, _, rfl, .inr ⟨_, KD.SqT.mono s h1, rfl⟩, by rw [h2.length]; exact fi0 s fi (.int _)⟩
    | str z hz =>
      unfold cLen at fi; dsimp only at fi
      by_cases c : z.length ≤ 1000
      · rw [if_pos c] at fi
        exact ⟨_, z.length, rfl, ⟨le_line c, rfl⟩, fi0 s fi (.int _)⟩
      · rw [if_neg c] at fi; exact False.elim fi
    | _ => exact False.elim fi
  | [], hx, fi => exact False.elim fi
  | d1 :: _ :: _, hx, fi => exact False.elim (by cases d1 <;> exact fi)⟩
def cInt (ds : List D) : Rs D := match ds with
  | [.int i] => .ok (.int i)
  | [.bl b] => .ok (.int (if b then 1 else 0))
  | _ => .bot
theorem cd_int : CallDD X (.type "int") cInt := ⟨_, call_int1, fun E G H xs ds Q s hx fi => by
  match ds, hx, fi with
  | [d], hx, fi =>
    obtain ⟨v, rfl, h⟩ := dpAll1 hx
    cases h with
    | int i => exact .inl ⟨_, rfl, fi0 s fi (.int _)⟩
    | bl b => exact .inr ⟨_, rfl, fi0 s fi (.int _)⟩
    | _ => exact False.elim fi
  | [], hx, fi => exact False.elim fi
  | d1 :: _ :: _, hx, fi => exact False.elim (by cases d1 <;> exact fi)⟩
def cTuple (ds : List D) : Rs D := match ds with
  | [.lst xs] => .ok (.tup xs)
  | [.tup xs] => .ok (.tup xs)
  | _ => .bot
theorem cd_tuple : CallDD X (.type "tuple") cTuple := ⟨_, call_tuple_of, fun E G H xs ds Q s hx fi => by
  match ds, hx, fi with
  | [d], hx, fi =>
    obtain ⟨v, rfl, h⟩ := dpAll1 hx
    cases h with
    | lst h1 h2 => exact ⟨_, _, rfl, .inl ⟨SqL.of (s _ _ h1), fun l nl => fiN s fi nl (.tup (SqT.of upd_same) (h2.up (same_upd (s.free nl))))⟩⟩
    | tup h1 h2 => exact ⟨_, _, rfl, .inr ⟨KD.SqT.mono s h1, fi0 s fi (.tup h1 h2)⟩⟩
    | _ => exact False.elim fi
  | [], hx, fi => exact False.elim fi
  | d1 :: _ :: _, hx, fi => exact False.elim (by cases d1 <;> exact fi)⟩
def cList (ds : List D) : Rs D := match ds with
  | [.lst xs] => .ok (.lst xs)
  | [.tup xs] => .ok (.lst xs)
  | [.dic ks _] => .ok (.lst ks)
  | _ => .bot
theorem cd_list (hc : X.calm = true) : CallDD X (.type "list") cList := ⟨_, call_list_of.or (call_listD hc), fun E G H xs ds Q s hx fi => by
  match ds, hx, fi with
  | [d], hx, fi =>
    obtain ⟨v, rfl, h⟩ := dpAll1 hx
    cases h with
    | lst h1 h2 => exact .inl ⟨_, _, rfl, .inl (SqL.of (s _ _ h1)), fun l nl => fiN s fi nl (.lst upd_same (h2.up (same_upd (s.free nl))))⟩
    | tup h1 h2 => exact .inl ⟨_, _, rfl, .inr (KD.SqT.mono s h1), fun l nl => fiN s fi nl (.lst upd_same (h2.up (same_upd (s.free nl))))⟩
    | dic h1 h2 h3 => exact .inr ⟨_, _, rfl, .inl (s _ _ h1), fun l nl => fiN s fi nl (.lst upd_same (h2.up (same_upd (s.free nl))))⟩
    | _ => exact False.elim fi
  | [], hx, fi => exact False.elim fi
  | d1 :: _ :: _, hx, fi => exact False.elim (by cases d1 <;> exact fi)⟩
/-! ### in -/
def inOk (x : D) (ys : List D) : Bool := x.plain && D.plains ys && (decide (x.dep ≤ 100) || decide (D.deps ys ≤ 100))
def gIn (x y : D) : Rs D := match y with
  | .lst ys => if inOk x ys then .ok (.bl (ys.any fun z => eqD z x)) else .bot
  | .fls ys => if inOk x ys then .ok (.bl (ys.any fun z => eqD z x)) else .bot
  | .tup ys => if inOk x ys then .ok (.bl (ys.any fun z => eqD z x)) else .bot
  | .dic ks vs => (match x.key with | some k => .ok (.bl (lookD ks vs k).isSome) | none => .bot)
  | .str z => (match x with | .str a => (match a.cps.toList with | [c] => .ok (.bl (decide (c ∈ z.cps.toList))) | _ => .bot) | _ => .bot)
  | _ => .bot
def gNotIn (x y : D) : Rs D := (gIn x y).bind fun d => match d with | .bl b => .ok (.bl (!b)) | _ => .bot
theorem any_pys (x : D) : ∀ ys : List D, ((D.pys ys).any fun z => PyData.eqv z x.py) = ys.any fun z => eqD z x
  | [] => rfl
  | y :: ys => by
    show (PyData.eqv y.py x.py || (D.pys ys).any _) = (eqD y x || ys.any _)
    rw [any_pys x ys]; rfl
theorem one_cps {a : Str} {c : Nat} (h : a.cps.toList = [c]) : a = ⟨#[c]⟩ := by
  obtain ⟨cps⟩ := a
  have : cps = #[c] := by
    apply Array.ext'
    exact h
  rw [this]
/-- in, in every form, by a Bool that says whether it is negated -/
theorem op_inAll (neg : Bool) (hu : X.A.units + 200 < cLine) {op : CmpOp} (hop : op = if neg then .NotIn else .In) : OpR X (compareOp op) (fun x y H Q =>
    (∃ d ds, L2.Dp X.K H x d ∧ (L2.Dp X.K H y (.list ds) ∨ L2.Dp X.K H y (.tuple ds)) ∧ d.canLay0 = true ∧ PyData.canLayAll0 ds = true ∧ min (PyData.depthAll ds) d.depth ≤ 100 ∧ Q (.bl (neg ^^ (ds.any fun z => PyData.eqv z d))) H) ∨
    (∃ (c : Nat) (z : Str), x = .str ⟨#[c]⟩ ∧ y = .str z ∧ Q (.bl (neg ^^ decide (c ∈ z.cps.toList))) H) ∨
    (∃ a o, y = .ref a ∧ DGet H a x o ∧ Q (.bl (neg ^^ o.isSome)) H)) := by
  subst hop
  intro pins s σ H x y v u Q I rx ry h
  rcases h with ⟨d, ds, hd, he, sd, se, sm, q⟩ | h | ⟨a, o, rfl, g, q⟩
  · obtain ⟨as, r1⟩ := Dp.reads I d x v hd rx
    rcases he with he | he
    · obtain ⟨bs, r2⟩ := Dp.reads I _ y u he ry
      cases neg with
      | false => exact SeqAt.in_list_reads r2 r1 se sd (by omega) ⟨.bl _, H, I, rfl, by simpa using q⟩
      | true => exact SeqAt.notIn_list_reads r2 r1 se sd (by omega) ⟨.bl _, H, I, rfl, by simpa using q⟩
    · obtain ⟨bs, r2⟩ := Dp.reads I _ y u he ry
      cases neg with
      | false => exact SeqAt.in_tuple_reads r2 r1 se sd (by omega) ⟨.bl _, H, I, rfl, by simpa using q⟩
      | true => exact SeqAt.notIn_tuple_reads r2 r1 se sd (by omega) ⟨.bl _, H, I, rfl, by simpa using q⟩
  · cases neg with
    | false => exact op_in_sign pins s σ H x y v u Q I rx ry (by simpa using h)
    | true => exact op_notIn_sign pins s σ H x y v u Q I rx ry (by simpa using h)
  · obtain rfl : u = Value.ref a := ry
    cases neg with
    | false => exact d_in (by omega) I g rx fun s' I' => ⟨.bl _, H, I', rfl, by simpa using q⟩
    | true => exact d_notIn (by omega) I g rx fun s' I' => ⟨.bl _, H, I', rfl, by simpa using q⟩
theorem dd_inAll (neg : Bool) (hu : X.A.units + 200 < cLine) {op : CmpOp} (hop : op = if neg then .NotIn else .In) {g : D → D → Rs D} (hg : ∀ x y, g x y = (gIn x y).bind fun d => match d with | .bl b => .ok (.bl (neg ^^ b)) | _ => .bot) : OpDD X (compareOp op) g :=
  ⟨_, op_inAll neg hu hop, fun E G H x y dx dy Q s hx hy fi => by
  rw [hg] at fi
  have seq : ∀ (ys : List D), Fi X.K E H G ((if inOk dx ys then Rs.ok (D.bl (ys.any fun z => eqD z dx)) else .bot).bind fun d => match d with | .bl b => .ok (.bl (neg ^^ b)) | _ => .bot) (fun d H' G' => ∀ v, Dp X.K G' v d → Q v H') →
      dx.plain = true ∧ D.plains ys = true ∧ (dx.dep ≤ 100 ∨ D.deps ys ≤ 100) ∧ Q (.bl (neg ^^ ys.any fun z => eqD z dx)) H := fun ys fi => by
    by_cases c : inOk dx ys = true
    · rw [if_pos c] at fi
      have c' : (dx.plain = true ∧ D.plains ys = true) ∧ (dx.dep ≤ 100 ∨ D.deps ys ≤ 100) := by simpa [inOk] using c
      exact ⟨c'.1.1, c'.1.2, c'.2, fi0 s fi (.bl _)⟩
    · rw [if_neg c] at fi; exact False.elim fi
  cases hy with
  | lst h1 h2 =>
    obtain ⟨p1, p2, p3, q⟩ := seq _ fi
    obtain ⟨a1, a2, a3⟩ := Dp.pyD dx x p1 hx
    obtain ⟨b1, b2, b3⟩ := DpAll.pyD _ _ p2 h2
    exact .inl ⟨_, _, hDp_up s _ _ a1, .inl (.lst (SqL.of (s _ _ h1)) (hDpAll_up s _ _ b1)), a2, b2, by omega, by rw [any_pys]; exact q⟩
  | fls h1 h2 =>
    obtain ⟨p1, p2, p3, q⟩ := seq _ fi
    obtain ⟨a1, a2, a3⟩ := Dp.pyD dx x p1 hx
    obtain ⟨b1, b2, b3⟩ := DpAll.pyD _ _ p2 h2
    exact .inl ⟨_, _, hDp_up s _ _ a1, .inl (.lst (s.seq h1) (hDpAll_up s _ _ b1)), a2, b2, by omega, by rw [any_pys]; exact q⟩
  | tup h1 h2 =>
    obtain ⟨p1, p2, p3, q⟩ := seq _ fi
    obtain ⟨a1, a2, a3⟩ := Dp.pyD dx x p1 hx
    obtain ⟨b1, b2, b3⟩ := DpAll.pyD _ _ p2 h2
    exact .inl ⟨_, _, hDp_up s _ _ a1, .inr (.tup (KD.SqT.mono s h1) (hDpAll_up s _ _ b1)), a2, b2, by omega, by rw [any_pys]; exact q⟩
  | str z hz =>
    cases hx <;> try exact False.elim fi
    rename_i a ha
    unfold gIn at fi; dsimp only at fi
    cases q : a.cps.toList with
    | nil => rw [q] at fi; exact False.elim fi
    | cons c r =>
      cases r with
      | nil =>
        rw [q] at fi
        rw [one_cps q]
        exact .inr (.inl ⟨c, z, rfl, rfl, fi0 s fi (.bl _)⟩)
      | cons d r => rw [q] at fi; exact False.elim fi
  | dic h1 h2 h3 =>
    unfold gIn at fi; dsimp only at fi
    cases q : dx.key with
    | none => rw [q] at fi; exact False.elim fi
    | some k =>
      rw [q] at fi
      rename_i a kvs ks vs
      refine .inr (.inr ⟨_, valV kvs k, rfl, .inl ⟨kvs, k, .inl (s _ _ h1), hx.keyV q, rfl⟩, ?_⟩)
      have e : (valV kvs k).isSome = (lookD ks vs k).isSome := by
        cases q2 : lookD ks vs k with
        | none => rw [(look_val h2 h3).2 q2]; rfl
        | some d => obtain ⟨v, e1, _⟩ := (look_val h2 h3).1 d q2; rw [e1]; rfl
      rw [e]
      exact fi0 s fi (.bl _)
  | _ => exact False.elim fi⟩
theorem dd_in (hu : X.A.units + 200 < cLine) : OpDD X (compareOp .In) gIn := dd_inAll false hu rfl fun x y => by
  cases q : gIn x y with
  | ok d =>
    unfold gIn at q
    split at q <;> (try split at q) <;> (try split at q) <;> first | (cases q; simp) | cases q
  | xc => rfl
  | bot => rfl
theorem dd_notIn (hu : X.A.units + 200 < cLine) : OpDD X (compareOp .NotIn) gNotIn := dd_inAll true hu rfl fun x y => by
  unfold gNotIn
  cases gIn x y with
  | ok d => cases d <;> simp
  | xc => rfl
  | bot => rfl
/-! ### isinstance with a built-in class -/
def tyN : D → String
  | .non => "NoneType"
  | .bl _ => "bool"
  | .int _ => "int"
  | .str _ => "str"
  | .tup _ => "tuple"
  | .lst _ => "list"
  | .fls _ => "list"
  | .dic _ _ => "dict"
  | .ob _ _ _ => "?"
def isiD (T : String) (d : D) : Rs D := match d with
  | .ob _ _ _ => .bot
  | d => (match kitB (tyN d) T with | some b => .ok (.bl b) | none => .bot)
def dIsi (T : String) (f : Ev → Rs D) : Ev → Rs D := fun ρ => (f ρ).bind (isiD T)
theorem SqL.ty {K : PySem.W.Frag} {H : Hp} {a : Addr} {xs : List V} (h : SqL K H a xs) : TyX K H (.ref a) (.type "list") := by
  rcases h with (h | ⟨o, h⟩) | ⟨o, its, n, h1, h2, _⟩
  · exact .base (.lst h)
  · exact .base (.frz h)
  · exact .kList h1 h2
theorem SqT.ty {K : PySem.W.Frag} {H : Hp} {a : Addr} {xs : List V} (h : SqT K H a xs) : TyX K H (.ref a) (.type "tuple") := by
  rcases h with (h | ⟨o, h⟩) | ⟨o, its, n, h1, h2, _⟩
  · exact .base (.tup h)
  · exact .fTuple h
  · exact .kTuple h1 h2
theorem Dp.ty {K : PySem.W.Frag} {G H : Hp} {v : V} {d : D} (s : Same G H) (h : Dp K G v d) (n : ∀ c ns fs, d ≠ .ob c ns fs) : TyX K H v (.type (tyN d)) := by
  cases h with
  | non => exact .base .non
  | bl b => exact .base (.bl b)
  | int i => exact .base (.int i)
  | str x hx => exact .base (.str x)
  | tup h1 h2 => exact KD.SqT.ty (KD.SqT.mono s h1)
  | lst h1 h2 => exact .base (.lst (s _ _ h1))
  | fls h1 h2 => exact KD.SqL.ty (s.seq h1)
  | dic h1 h2 h3 => exact .base (.dK (s _ _ h1))
  | ob h1 h2 => exact absurd rfl (n _ _ _)
theorem de_isi {T : String} {x : Str} {p1 p2 : Pos} (hg : Gl X "isinstance") (hm : X.mg "isinstance" = none) (ha : DE X E e fa) (hT : PE X (.Name x p2) (tC (.ty T)))
    (hs : starEach [e, .Name x p2] X.env = [(false, eval e X.env), (false, eval (.Name x p2) X.env)] := by rfl) (hs2 : starEach [.Name x p2] X.env = [(false, eval (.Name x p2) X.env)] := by rfl)
    (hpl : (backTo pos (starEach [.Name x p2] X.env)).any (·.1) = false := by rfl) : DE X E (.Call (.Name "isinstance" p1) [e, .Name x p2] [] pos) (dIsi T fa) := by
  refine peI (pe_callB (id := "isinstance") call_isi hg hm PyProof.Rows.boot_isinstance (pa_cons ha (pa_cons hT pa_nil (by rw [hs2]; rfl)) (by rw [hs, hs2])) (by decide) (by decide) (by rw [hs, hs2]) hpl) fun σ H Q ⟨ρ, G, s, r, fi⟩ => ?_
  refine ⟨ρ, G, s, r, fi.bind.imp fun d H1 G1 g1 fi1 v hv => ?_⟩
  have nob : ∀ c ns fs, d ≠ .ob c ns fs := fun c ns fs e => by subst e; exact False.elim fi1
  have fi2 : Fi X.K E H1 G1 (match kitB (tyN d) T with | some b => Rs.ok (D.bl b) | none => .bot) (fun d H' G' => ∀ v, Dp X.K G' v d → Q v H') := by
    unfold isiD at fi1
    split at fi1
    · exact False.elim fi1
    · exact fi1
  cases q : kitB (tyN d) T with
  | none => rw [q] at fi2; exact False.elim fi2
  | some b =>
    rw [q] at fi2
    exact ⟨v, .ty T, _, _, b, rfl, .ty T, hv.ty g1.gh nob, kit_ty q, fi0 g1.gh fi2 (.bl _)⟩
/-! ### fields, methods, properties of own classes -/
def fldD : List Str → List D → Str → Option D
  | n :: ns, d :: ds, f => if f = n then some d else fldD ns ds f
  | _, _, _ => none
def gFld (c f : Str) (x : D) : Rs D := match x with
  | .ob c' ns fs => if c' = c then (match fldD ns fs f with | some d => .ok d | none => .bot) else .bot
  | _ => .bot
def dFld (c f : Str) (g : Ev → Rs D) : Ev → Rs D := fun ρ => (g ρ).bind (gFld c f)
theorem fld_dp {K : PySem.W.Frag} {G : Hp} {f : Str} : ∀ {fs : List (Str × V)} {ds : List D}, DpAll K G (fs.map (·.2)) ds →
    (∀ d, fldD (fs.map (·.1)) ds f = some d → ∃ v, fs.lookup f = some v ∧ Dp K G v d) ∧ (fldD (fs.map (·.1)) ds f = none → fs.lookup f = none)
  | [], _, h => by cases h; exact ⟨fun d e => (by cases e), fun _ => rfl⟩
  | (n, v) :: fs, _, h => by
    cases h with
    | cons a t =>
      obtain ⟨i1, i2⟩ := fld_dp (f := f) t
      show (∀ d, (if f = n then some _ else fldD (fs.map (·.1)) _ f) = some d → ∃ w, (match f == n with | true => some v | false => fs.lookup f) = some w ∧ Dp K G w d) ∧ ((if f = n then some _ else fldD (fs.map (·.1)) _ f) = none → (match f == n with | true => some v | false => fs.lookup f) = none)
      by_cases c : f = n
      · have c' : (f == n) = true := beq_iff_eq.mpr c
        rw [if_pos c, c']
        exact ⟨fun d e => ⟨v, rfl, by cases e; exact a⟩, fun e => by cases e⟩
      · have c' : (f == n) = false := beq_eq_false_iff_ne.mpr c
        rw [if_neg c, c']
        exact ⟨i1, i2⟩
theorem de_fld {c f : Str} (cl : Cls X.K (He.ga X.K c)) (na : NoAttr X.K (He.ga X.K c) f) (he : DE X E e fa) (hb : attributeBase e f X.env (eval e X.env) = eval e X.env := by rfl) : DE X E (.Attribute e f pos) (dFld c f fa) := by
  refine peI (pe_fld he hb) fun σ H Q ⟨ρ, G, s, r, fi⟩ => ?_
  refine ⟨ρ, G, s, r, fi.bind.imp fun d H1 G1 g1 fi1 v hv => ?_⟩
  cases hv with
  | ob h1 h2 =>
    rename_i a dx c' fs ds
    unfold gFld at fi1
    dsimp only at fi1
    by_cases e : c' = c
    · subst e
      rw [if_pos rfl] at fi1
      cases q : fldD (fs.map (·.1)) ds f with
      | none => rw [q] at fi1; exact False.elim fi1
      | some d =>
        rw [q] at fi1
        obtain ⟨w, e1, e2⟩ := (fld_dp h2).1 d q
        exact ⟨_, _, _, _, w, rfl, g1.gh _ _ h1, cl, na, e1, fi0 g1.gh fi1 e2⟩
    · rw [if_neg e] at fi1; exact False.elim fi1
  | _ => exact False.elim fi1
/-- the object's class, and no attribute of that name -/
def gSelf (c m : Str) (x : D) : Rs D := match x with
  | .ob c' ns fs => if c' = c then (match fldD ns fs m with | some _ => .bot | none => .ok x) else .bot
  | _ => .bot
def dMeth (c m : Str) (n : Nat) (g : List D → Rs D) (fo : Ev → Rs D) (fs : Ev → Rs (List D)) : Ev → Rs D := fun ρ => (fo ρ).bind fun x => (gSelf c m x).bind fun x => (fs ρ).bind fun ds => if ds.length + 1 = n then g (x :: ds) else .bot
theorem gSelf_ok {K : PySem.W.Frag} {G H : Hp} {E : XK} {c m : Str} {x : D} {v : V} {P : D → Hp → Hp → Prop} (h : Dp K G v x) (fi : Fi K E H G (gSelf c m x) P) : ∃ a dx fs ds, v = .ref a ∧ x = .ob c (fs.map (·.1)) ds ∧ G a = some (.ins (He.ga K c) dx fs) ∧ fs.lookup m = none ∧ Fi K E H G (.ok x) P := by
  cases h with
  | ob h1 h2 =>
    rename_i a dx c' fs ds
    unfold gSelf at fi
    dsimp only at fi
    by_cases e : c' = c
    · subst e
      rw [if_pos rfl] at fi
      cases q : fldD (fs.map (·.1)) ds m with
      | some d => rw [q] at fi; exact False.elim fi
      | none =>
        rw [q] at fi
        exact ⟨a, dx, fs, ds, rfl, rfl, h1, (fld_dp h2).2 q, fi⟩
    · rw [if_neg e] at fi; exact False.elim fi
  | _ => exact False.elim fi
theorem de_meth {CX : CXT} {k n : Nat} {c m : Str} {f : Addr} {fd : FuncData} {ps : List Str} {g : List D → Rs D} {o : Expr} {apos : Pos} {pl : Sem Bool} (he : DE X E o fa) (cl : Cls X.K (He.ga X.K c)) (hm : Meth X.K (He.ga X.K c) m f) (F : FnOk X.prog X.w X.K X.mg X.base CX k f fd ps (spD X.K n g)) (hr : Room k X.A) (hb : Binds X.K fd ps []) (hx : Passes CX X E) (ha : DA X E (e :: es) fs)
    (hst : starEach (e :: es) X.env = (false, eval e X.env) :: starEach es X.env := by rfl) (hpl : (backTo pos (starEach es X.env)).any (·.1) = false := by rfl)
    (ht : eval (.Call (.Attribute o m apos) (e :: es) [] pos) X.env = (do
      let ov ← eval o X.env
      standAt apos.atName
      let (f, first) ← holding [ov] (getMethod ov m pl)
      callWith pos f first (backTo pos (starEach (e :: es) X.env)) (backToKw pos (keywordEach [] X.env))) := by rfl) :
    DE X E (.Call (.Attribute o m apos) (e :: es) [] pos) (dMeth c m n g fa fs) := by
  refine peI (pe_meth (pl := pl) he cl hm F hr hb .nil hx ha hst hpl ht) fun σ H Q ⟨ρ, G, s, r, fi⟩ => ?_
  refine ⟨ρ, G, s, r, fi.bind.imp fun d H1 G1 g1 fi1 v hv => ?_⟩
  obtain ⟨a, dx, fs, ds, rfl, rfl, h1, h2, fi2⟩ := gSelf_ok hv fi1.bind
  have fi3 := fi2.now g1.gh
  refine ⟨a, dx, fs, rfl, g1.gh _ _ h1, h2, ρ, G1, g1.gh, r.grow g1, fi3.bind.imp fun es H2 G2 g2 fi4 vs hvs => ?_⟩
  by_cases cn : es.length + 1 = n
  · rw [if_pos cn] at fi4
    rw [List.append_nil]
    exact ⟨G2, _ :: es, g2.gh, .cons (hv.up g2.gg) hvs, by simpa using cn, fi4⟩
  · rw [if_neg cn] at fi4; exact False.elim fi4
theorem de_meth0 {CX : CXT} {k n : Nat} {c m : Str} {f : Addr} {fd : FuncData} {ps : List Str} {g : List D → Rs D} {o : Expr} {apos : Pos} {pl : Sem Bool} (he : DE X E o fa) (cl : Cls X.K (He.ga X.K c)) (hm : Meth X.K (He.ga X.K c) m f) (F : FnOk X.prog X.w X.K X.mg X.base CX k f fd ps (spD X.K n g)) (hr : Room k X.A) (hb : Binds X.K fd ps []) (hx : Passes CX X E)
    (ht : eval (.Call (.Attribute o m apos) [] [] pos) X.env = (do
      let ov ← eval o X.env
      standAt apos.atName
      let (f, first) ← holding [ov] (getMethod ov m pl)
      callWith pos f first (backTo pos (starEach [] X.env)) (backToKw pos (keywordEach [] X.env))) := by rfl) :
    DE X E (.Call (.Attribute o m apos) [] [] pos) (dMeth c m n g fa dNil) := by
  refine peI (pe_meth0 (pl := pl) he cl hm F hr hb .nil hx ht) fun σ H Q ⟨ρ, G, s, r, fi⟩ => ?_
  refine ⟨ρ, G, s, r, fi.bind.imp fun d H1 G1 g1 fi1 v hv => ?_⟩
  obtain ⟨a, dx, fs, ds, rfl, rfl, h1, h2, fi2⟩ := gSelf_ok hv fi1.bind
  have fi3 := fi2.now g1.gh
  refine ⟨a, dx, fs, rfl, g1.gh _ _ h1, h2, ?_⟩
  have fi4 : Fi X.K E H1 G1 (if (0 : Nat) + 1 = n then g [.ob c (fs.map (·.1)) ds] else .bot) (fun d H' G' => ∀ v, Dp X.K G' v d → Q v H') := fi3
  by_cases cn : 0 + 1 = n
  · rw [if_pos cn] at fi4
    exact ⟨G1, [.ob c (fs.map (·.1)) ds], g1.gh, .cons hv .nil, by simpa using cn, fi4⟩
  · rw [if_neg cn] at fi4; exact False.elim fi4
def gCls (c : Str) (x : D) : Rs D := match x with
  | .ob c' _ _ => if c' = c then .ok x else .bot
  | _ => .bot
def dProp (c : Str) (g : List D → Rs D) (fo : Ev → Rs D) : Ev → Rs D := fun ρ => (fo ρ).bind fun x => (gCls c x).bind fun x => (g [x]).nox
theorem de_prop {CX : CXT} {k : Nat} {c f : Str} {p' g' : Addr} {fd : FuncData} {ps : List Str} {g : List D → Rs D} (he : DE X E e fa) (cl : Cls X.K (He.ga X.K c)) (hp : PropOf X.K (He.ga X.K c) f p' g') (F : FnOk X.prog X.w X.K X.mg X.base CX k g' fd ps (spD X.K 1 g)) (hr : Room (k + 1) X.A) (hb : Binds X.K fd ps []) (hx : Passes CX X.nox E0)
    (hab : attributeBase e f X.env (eval e X.env) = eval e X.env := by rfl) : DE X E (.Attribute e f pos) (dProp c g fa) := by
  refine peI (pe_prop he cl hp F hr hb .nil hx hab) fun σ H Q ⟨ρ, G, s, r, fi⟩ => ?_
  refine ⟨ρ, G, s, r, fi.bind.imp fun d H1 G1 g1 fi1 v hv => ?_⟩
  cases hv with
  | ob h1 h2 =>
    rename_i a dx c' fs ds
    have fi2 := fi1
    unfold gCls at fi2
    dsimp only at fi2
    by_cases e : c' = c
    · subst e
      rw [if_pos rfl, Rs.bind_ok] at fi2
      exact ⟨a, dx, fs, rfl, g1.gh _ _ h1, G1, [_], g1.gh, .cons (.ob h1 h2) .nil, rfl, fi2.nox⟩
    · rw [if_neg e] at fi2; exact False.elim fi2
  | _ => exact False.elim fi1
end

/-! ### a def by its function on data -/
/-- the slots at the start -/
def ev0 (n : Nat) (ds : List D) : Ev := (ds.map Sl.dt) ++ List.replicate (n - ds.length) .no
def SR.fin : SR → Rs D
  | .rt d => .ok d
  | .nx _ => .ok .non
  | .xc c n f => .xc c n f
  | _ => .bot
def runD (n : Nat) (f : Ev → SR) (ds : List D) : Rs D := (f (ev0 n ds)).fin
theorem rep0 {K : PySem.W.Frag} {G H : Hp} {N : List Str} {vs : List V} {ds : List D} (h : DpAll K G vs ds) (hn : vs.length ≤ N.length) : Rep K G H (start N vs) (ev0 N.length ds) := by
  have l := h.length
  have e0 : start N vs = vs.map some ++ List.replicate (N.length - vs.length) none := rfl
  refine ⟨by rw [e0]; simp [ev0, l], fun i s o h1 h2 => ?_, fun i j s t a h1 h2 o1 o2 e1 e2 => ?_⟩
  · unfold ev0 at h1
    rw [e0] at h2
    by_cases c : i < ds.length
    · rw [List.getElem?_append_left (by simpa using c)] at h1
      rw [List.getElem?_append_left (by simp; omega)] at h2
      rw [List.getElem?_map] at h1 h2
      cases q : ds[i]? with
      | none => rw [q] at h1; cases h1
      | some d =>
        rw [q] at h1; cases h1
        obtain ⟨v, e1, e2⟩ := h.getD q
        rw [e1] at h2; cases h2
        exact ⟨v, rfl, e2⟩
    · rw [List.getElem?_append_right (by simpa using c)] at h1
      rw [List.getElem?_replicate] at h1
      split at h1
      · cases h1; trivial
      · cases h1
  · exfalso
    unfold ev0 at h1
    by_cases c : i < ds.length
    · rw [List.getElem?_append_left (by simpa using c), List.getElem?_map] at h1
      cases q : ds[i]? with
      | none => rw [q] at h1; cases h1
      | some d => rw [q] at h1; cases h1; cases o1
    · rw [List.getElem?_append_right (by simpa using c), List.getElem?_replicate] at h1
      split at h1
      · cases h1; cases o1
      · cases h1
end KD

/-! KD4: defs and their calls. -/
namespace KD
open PySem L2
section
variable {P : Program} {w : World} {K : PySem.W.Frag} {mg : Str → Option Value} {base : Heap}
theorem fn_D {x qual : Str} {params : Arguments} {body : List Stmt} {scope : Scope} {dvs : List V} {kws : List (Str × V)} {f : Addr} {fd : FuncData} {N ps : List Str} {k : Nat} {b : Ev → SR} (F : FunD K x qual params body scope dvs kws f fd) (S : FnScope N ps scope)
    (hb : ∀ (cdv : Value) (A : Around) (outer : List Env) (s : Shared) (H : Hp) (E : XK), Room k (A.deeper (PyProof.Rows.envOfC qual scope s.heap.objs.size f cdv)) → DSs (cxOf (L2.CX P w) P w K mg base N qual scope f cdv A outer s H E) E body b) :
    FnOk P w K mg base (L2.CX P w) (k + 1) f fd ps (spD K ps.length (runD N.length b)) := by
  refine F.ok S (fun vs H Q E ⟨G, ds, _, dp, l, _⟩ => dp.length.trans l) fun cdv A outer s H vs Q E hr ⟨G, ds, sg, dp, l, fi⟩ => ⟨_, hb cdv A outer s H E hr, ?_⟩
  have hn : vs.length ≤ N.length := by
    have h1 := dp.length
    have h2 : (N.take ps.length).length = ps.length := by rw [S.pre]
    rw [List.length_take] at h2
    omega
  have noown : ∀ (i : Nat) (s : Sl), (ev0 N.length ds)[i]? = some s → s.own = true → False := fun i s h1 o1 => by
    unfold ev0 at h1
    by_cases c : i < ds.length
    · rw [List.getElem?_append_left (by simpa using c), List.getElem?_map] at h1
      cases q : ds[i]? with
      | none => rw [q] at h1; cases h1
      | some d => rw [q] at h1; cases h1; cases o1
    · rw [List.getElem?_append_right (by simpa using c), List.getElem?_replicate] at h1
      split at h1
      · cases h1; cases o1
      · cases h1
  refine ⟨H, G, ev0 N.length ds, G, ⟨Grow.refl sg, rep0 dp hn, fun i s a h1 h2 _ => (noown i s h1 h2).elim⟩, ?_⟩
  unfold runD at fi
  cases q : b (ev0 N.length ds) with
  | nx ρ => rw [q] at fi; exact fun σ H' G' sg' a => fi H' G' a.gr _ .non
  | rt d => rw [q] at fi; exact fun v H' G' g hv => fi H' G' g v hv
  | bk ρ => rw [q] at fi; exact False.elim fi
  | ct ρ => rw [q] at fi; exact False.elim fi
  | xc c n f => rw [q] at fi; exact fi
  | bot => rw [q] at fi; exact False.elim fi
end

/-! ### the facts of the top: a Hook of our own -/
abbrev gAd (x : Str) : PySem.W.Frag → Addr := fun K => He.ga K x
abbrev mAd (c m : Str) : PySem.W.Frag → Addr := fun K => He.ma K (He.ga K c) m
/-- a property's getter -/
def pAd (c m : Str) : PySem.W.Frag → Addr := fun K => match PySem.W.recIn K (He.ma K (He.ga K c) m) "property" with
  | some (.ref g :: _) => g
  | _ => 0
structure DefP where
  ad : PySem.W.Frag → Addr
  name : Str
  qual : Str
  params : Arguments
  body : List Stmt
  scope : Scope
  dfl : List He.Dv := []
  kwd : List (Str × He.Dv) := []
def fnP (K : PySem.W.Frag) (a : Addr) : He.FnW := match K.lookup a with
  | some ⟨_, _, .func fd, _⟩ => some (fd.name, fd.qualname, fd.params, fd.body, fd.scope, fd.globals, fd.closure, fd.builtins)
  | _ => none
def DefP.val (d : DefP) : He.FnW := some (d.name, d.qual, d.params, .stmts d.body, d.scope, mainGlobals, [], builtinsNs)
def DefP.dvs (K : PySem.W.Frag) (d : DefP) : List V := d.dfl.map (He.Dv.v K)
def DefP.kws (K : PySem.W.Frag) (d : DefP) : List (Str × V) := d.kwd.map fun q => (q.1, q.2.v K)
def DefP.ok (K : PySem.W.Frag) (d : DefP) : Bool := PySem.W.keepIn K (.ref (d.ad K)) && (match K.lookup (d.ad K) with
  | some ⟨_, _, .func fd, _⟩ => PySem.W.codeIn K fd.code d.qual && (He.dflB K fd.defaults (d.dvs K) && He.kwdB K fd.kwdefaults (d.kws K))
  | _ => false)
theorem DefP.funD {K : PySem.W.Frag} {d : DefP} (e : fnP K (d.ad K) = d.val) (c : d.ok K = true) : ∃ fd, FunD K d.name d.qual d.params d.body d.scope (d.dvs K) (d.kws K) (d.ad K) fd := by
  obtain ⟨kp, c2⟩ := He.ba c
  unfold fnP at e
  cases q : K.lookup (d.ad K) with
  | none =>
    rw [q] at c2
    cases c2
  | some o =>
    obtain ⟨oc, od, dt, osl⟩ := o
    rw [q] at c2 e
    cases dt with
    | func fd =>
      obtain ⟨n1, n2, n3, n4, n5, n6, n7, n8, n9, n10, n11, n12, n13, n14, n15⟩ := fd
      have e2 : (some (n1, n2, n3, n4, n5, n6, n7, n15) : He.FnW) = some (d.name, d.qual, d.params, .stmts d.body, d.scope, mainGlobals, [], builtinsNs) := e
      simp only [Option.some.injEq, Prod.mk.injEq] at e2
      obtain ⟨h1, h2, h3, h4, h5, h6, h7, h8⟩ := e2
      subst h1 h2 h3 h4 h5 h6 h7 h8
      have c3 : (PySem.W.codeIn K n13 d.qual && (He.dflB K n8 (d.dvs K) && He.kwdB K n9 (d.kws K))) = true := c2
      obtain ⟨k1, k2⟩ := He.ba c3
      obtain ⟨k3, k4⟩ := He.ba k2
      exact ⟨_, ⟨oc, od, n8, n9, n10, n11, n12, n13, n14, osl, rfl, q, k1, He.dflB_ok k3, He.kwdB_ok k4⟩, kp⟩
    | _ => cases c2
/-- facts: those of He.Fa, and a property -/
inductive Fb where
  | fa (f : He.Fa)
  | prop (c m : Str)
def Fb.ok (K : PySem.W.Frag) : Fb → Bool
  | .fa f => f.ok K
  | .prop c m => He.eqO (PySem.W.findIn K (.ref (He.ga K c)) m) (some (some (.ref (He.ma K (He.ga K c) m)))) && (He.eqO (PySem.W.specialIn K (.ref (He.ma K (He.ga K c) m)) "__get__") (some (some (.builtin "property.__get__"))) && (decide (PySem.W.takesIn K (.ref (He.ma K (He.ga K c) m)) = some true) && (match PySem.W.recIn K (He.ma K (He.ga K c) m) "property" with
    | some (.ref _ :: _) => true
    | _ => false)))
theorem prop_ok {K : PySem.W.Frag} {c m : Str} (h : (Fb.prop c m).ok K = true) : PropOf K (He.ga K c) m (He.ma K (He.ga K c) m) (pAd c m K) := by
  obtain ⟨h1, h2⟩ := He.ba h
  obtain ⟨h3, h4⟩ := He.ba h2
  obtain ⟨h5, h6⟩ := He.ba h4
  refine ⟨He.eqO_ok h1, He.eqO_ok h3, of_decide_eq_true h5, ?_⟩
  unfold pAd
  split at h6
  · rename_i g rest q
    exact ⟨rest, by rw [q]⟩
  · cases h6
abbrev AlP : Type := Bool × List He.FnW
def obsP (fa : List Fb) (fn : List DefP) (K : PySem.W.Frag) : AlP := ((fa.all fun f => f.ok K) && fn.all fun d => d.ok K, fn.map fun d => fnP K (d.ad K))
def valP (fn : List DefP) : AlP := (true, fn.map DefP.val)
def SaysP (fa : List Fb) (fn : List DefP) (K : PySem.W.Frag) : Prop := obsP fa fn K = valP fn
def obsPG (n : Nat) (fa : List Fb) (fn : List DefP) (g : Addr → Option Obj) : AlP := obsP fa fn (He.frG g (He.asD g n))
def hookP (n : Nat) (fa : List Fb) (fn : List DefP) : PySem.W.Hook where
  α := AlP
  obs := fun s => obsPG n fa fn s.heap.get?
  val := fun _ => valP fn
  says := fun _ h => ∃ K : PySem.W.Frag, K.In h ∧ SaysP fa fn K
  of := fun _ _ e => ⟨_, He.frG_in, e⟩
  keeps := fun _ _ _ ⟨K, hK, c⟩ k => ⟨K, PySem.W.Frag.In.keeps hK k, c⟩
theorem obsPG_eq {n : Nat} {fa : List Fb} {fn : List DefP} {g : Addr → Option Obj} {s : Shared} (h : ∀ a, g a = s.heap.get? a) : obsPG n fa fn g = (hookP n fa fn).obs s := by
  have e : g = s.heap.get? := funext h
  rw [e] <;> rfl
section
variable {fa : List Fb} {fn : List DefP} {K : PySem.W.Frag} {mg : Str → Option Value}
theorem SaysP.fact (c : SaysP fa fn K) (i : Nat) {f : Fb} (h : fa[i]? = some f := by rfl) : f.ok K = true := by
  have c1 := (He.ba (show ((fa.all fun f => f.ok K) && fn.all fun d => d.ok K) = true from congrArg (fun z : AlP => z.1) c)).1
  exact List.all_eq_true.mp c1 f (List.mem_of_getElem? h)
theorem SaysP.def_ (c : SaysP fa fn K) (i : Nat) {d : DefP} (h : fn[i]? = some d := by rfl) : ∃ fd, FunD K d.name d.qual d.params d.body d.scope (d.dvs K) (d.kws K) (d.ad K) fd := by
  have c2 := (He.ba (show ((fa.all fun f => f.ok K) && fn.all fun d => d.ok K) = true from congrArg (fun z : AlP => z.1) c)).2
  have e : fn.map (fun d => fnP K (d.ad K)) = fn.map DefP.val := congrArg (fun z : AlP => z.2) c
  have e2 : (fn.map fun d => fnP K (d.ad K))[i]? = (fn.map DefP.val)[i]? := by rw [e]
  rw [List.getElem?_map, List.getElem?_map, h] at e2
  exact DefP.funD (Option.some.inj e2) (List.all_eq_true.mp c2 d (List.mem_of_getElem? h))
structure Tx (fa : List Fb) (fn : List DefP) (K : PySem.W.Frag) (mg : Str → Option Value) : Prop where
  h : ∃ h : Heap, K.In h ∧ h.Ns mainGlobals mg
  c : SaysP fa fn K
theorem Tx.glo (T : Tx fa fn K mg) (i : Nat) {x : Str} (h : fa[i]? = some (.fa (.glo x)) := by rfl) : mg x = some (.ref (He.ga K x)) := by
  obtain ⟨hp, X, G⟩ := T.h
  exact He.glo_ok X G (T.c.fact i h)
theorem Tx.free (T : Tx fa fn K mg) (i : Nat) {x : Str} (h : fa[i]? = some (.fa (.free x)) := by rfl) : mg x = none := by
  obtain ⟨hp, X, G⟩ := T.h
  exact He.free_ok X G (T.c.fact i h)
theorem Tx.str (T : Tx fa fn K mg) (i : Nat) {x z : Str} (h : fa[i]? = some (.fa (.str x z)) := by rfl) : ∃ t, mg x = some (.str z t) := by
  obtain ⟨hp, X, G⟩ := T.h
  exact He.str_ok X G (T.c.fact i h)
theorem Tx.int (T : Tx fa fn K mg) (i : Nat) {x : Str} {z : Int} (h : fa[i]? = some (.fa (.int x z)) := by rfl) : ∃ t, mg x = some (.int z t) := by
  obtain ⟨hp, X, G⟩ := T.h
  exact He.int_ok X G (T.c.fact i h)
theorem Tx.cls (T : Tx fa fn K mg) (i : Nat) {x : Str} (h : fa[i]? = some (.fa (.cls x)) := by rfl) : Cls K (He.ga K x) := He.cls_ok (T.c.fact i h)
theorem Tx.noat (T : Tx fa fn K mg) (i : Nat) {x f : Str} (h : fa[i]? = some (.fa (.noat x f)) := by rfl) : NoAttr K (He.ga K x) f := He.noat_ok (T.c.fact i h)
theorem Tx.meth (T : Tx fa fn K mg) (i : Nat) {x m : Str} (h : fa[i]? = some (.fa (.meth x m)) := by rfl) : Meth K (He.ga K x) m (He.ma K (He.ga K x) m) := He.meth_ok (T.c.fact i h)
theorem Tx.mkr (T : Tx fa fn K mg) (i : Nat) {x : Str} (h : fa[i]? = some (.fa (.mkr x)) := by rfl) : Mk K (He.ga K x) (He.ma K (He.ga K x) "__init__") := He.mkr_ok (T.c.fact i h)
theorem Tx.prop (T : Tx fa fn K mg) (i : Nat) {c m : Str} (h : fa[i]? = some (.prop c m) := by rfl) : PropOf K (He.ga K c) m (He.ma K (He.ga K c) m) (pAd c m K) := prop_ok (T.c.fact i h)
end

section
variable {P : Program} {w : World} {K : PySem.W.Frag} {mg : Str → Option Value} {base : Heap}
/-- the def at ad computes g -/
def FnD (P : Program) (w : World) (K : PySem.W.Frag) (mg : Str → Option Value) (base : Heap) (k : Nat) (ad : PySem.W.Frag → Addr) (n : Nat) (g : List D → Rs D) : Prop :=
  ∃ fd ps, FnOk P w K mg base (L2.CX P w) k (ad K) fd ps (spD K n g) ∧ Binds K fd ps [] ∧ PySem.W.keepIn K (.ref (ad K)) = true
theorem FnD.mono {j k : Nat} {ad : PySem.W.Frag → Addr} {n : Nat} {g : List D → Rs D} (F : FnD P w K mg base j ad n g) (h : j ≤ k) : FnD P w K mg base k ad n g :=
  let ⟨fd, ps, a, b, c⟩ := F
  ⟨fd, ps, a.mono h, b, c⟩
/-- by another function that agrees where it tells something -/
theorem FnD.imp {k : Nat} {ad : PySem.W.Frag → Addr} {n : Nat} {g g' : List D → Rs D} (F : FnD P w K mg base k ad n g) (h : ∀ ds, ds.length = n → g' ds ≠ .bot → g' ds = g ds) : FnD P w K mg base k ad n g' := by
  obtain ⟨fd, ps, a, b, c⟩ := F
  refine ⟨fd, ps, a.imp fun vs H Q E ⟨G, ds, sg, dp, l, fi⟩ => ⟨G, ds, sg, dp, l, ?_⟩, b, c⟩
  by_cases e : g' ds = .bot
  · rw [e] at fi; exact False.elim fi
  · rw [← h ds l e]; exact fi
theorem fnD_of {d : DefP} {N ps : List Str} {k : Nat} {b : Ev → SR} {fd : FuncData} (F : FunD K d.name d.qual d.params d.body d.scope [] (d.kws K) (d.ad K) fd) (S : FnScope N ps d.scope)
    (hbd : ∀ (dV kV doc pm : Value) (an : Option Addr) (cdv ct : Value) (us : List Value), us.length = ps.length → bindArgs (PySem.W.fnOf d.name d.qual d.params d.body d.scope .none kV doc pm an cdv ct) ⟨us, []⟩ = pure (ps.zip us))
    (hb : ∀ (cdv : Value) (A : Around) (outer : List Env) (s : Shared) (H : Hp) (E : XK), Room k (A.deeper (PyProof.Rows.envOfC d.qual d.scope s.heap.objs.size (d.ad K) cdv)) → DSs (cxOf (L2.CX P w) P w K mg base N d.qual d.scope (d.ad K) cdv A outer s H E) E d.body b) :
    FnD P w K mg base (k + 1) d.ad ps.length (runD N.length b) :=
  ⟨fd, ps, fn_D F S hb, F.bindsN (ps := ps) fun kV doc pm an cdv ct us hl => hbd .none kV doc pm an cdv ct us hl, F.kp⟩
end
section
variable {X : Cx} {E : XK} {e : Expr} {es : List Expr} {fa : Ev → Rs D} {fs : Ev → Rs (List D)} {pos : Pos}
theorem de_callF {k n : Nat} {x : Str} {p : Pos} {g : List D → Rs D} (F : FnD X.prog X.w X.K X.mg X.base k (gAd x) n g) (hr : Room k X.A) (hm : X.mg x = some (.ref (He.ga X.K x))) (hx : Passes (L2.CX X.prog X.w) X E) (ha : DA X E (e :: es) fs) (hg : Gl X x := by rfl)
    (hdb : (x == ("__debug__" : Str)) = false := by decide) (he : starEach (e :: es) X.env = (false, eval e X.env) :: starEach es X.env := by rfl) (hpl : (backTo pos (starEach es X.env)).any (·.1) = false := by rfl) :
    DE X E (.Call (.Name x p) (e :: es) [] pos) (dCallN n g fs) := by
  obtain ⟨fd, ps, a, b, c⟩ := F
  exact de_call a hr hg hm c b hx ha hdb he hpl
theorem de_methF {k n : Nat} {c m : Str} {g : List D → Rs D} {o : Expr} {apos : Pos} {pl : Sem Bool} (F : FnD X.prog X.w X.K X.mg X.base k (mAd c m) n g) (hr : Room k X.A) (cl : Cls X.K (He.ga X.K c)) (hm : Meth X.K (He.ga X.K c) m (He.ma X.K (He.ga X.K c) m)) (hx : Passes (L2.CX X.prog X.w) X E) (he : DE X E o fa) (ha : DA X E (e :: es) fs)
    (hst : starEach (e :: es) X.env = (false, eval e X.env) :: starEach es X.env := by rfl) (hpl : (backTo pos (starEach es X.env)).any (·.1) = false := by rfl)
    (ht : eval (.Call (.Attribute o m apos) (e :: es) [] pos) X.env = (do
      let ov ← eval o X.env
      standAt apos.atName
      let (f, first) ← holding [ov] (getMethod ov m pl)
      callWith pos f first (backTo pos (starEach (e :: es) X.env)) (backToKw pos (keywordEach [] X.env))) := by rfl) :
    DE X E (.Call (.Attribute o m apos) (e :: es) [] pos) (dMeth c m n g fa fs) := by
  obtain ⟨fd, ps, a, b, _⟩ := F
  exact de_meth (pl := pl) he cl hm a hr b hx ha hst hpl ht
theorem de_propF {k : Nat} {c f : Str} {g : List D → Rs D} (F : FnD X.prog X.w X.K X.mg X.base k (pAd c f) 1 g) (hr : Room (k + 1) X.A) (cl : Cls X.K (He.ga X.K c)) (hp : PropOf X.K (He.ga X.K c) f (He.ma X.K (He.ga X.K c) f) (pAd c f X.K)) (he : DE X E e fa)
    (hab : attributeBase e f X.env (eval e X.env) = eval e X.env := by rfl) : DE X E (.Attribute e f pos) (dProp c g fa) := by
  obtain ⟨fd, ps, a, b, _⟩ := F
  exact de_prop he cl hp a hr b passL hab
end
end KD

/-! KD5: further rules. -/
namespace KD
open PySem L2
section
variable {X : Cx} {E : XK} {e a b : Expr} {es : List Expr} {fa fb : Ev → Rs D} {fs : Ev → Rs (List D)} {pos p : Pos} {st : Stmt}
theorem dt_isN {j pos'} (ha : DE X E a fa) : DT X E (.Compare a [.Is] [.Constant .none j pos'] pos) (dTest (dIsN fa)) := by
  refine ptI (pt_cmp (pc_isN ha) rfl) fun σ H Q ⟨ρ, G, s, r, fi⟩ => ?_
  have fi' := fi.bind
  refine ⟨ρ, G, s, r, fi'.bind.imp fun d H1 G1 g1 fi1 v hv => ?_⟩
  have fi2 := Fi.now g1.gh fi1
  refine ⟨_, rfl, ?_⟩
  rw [hv.isN]
  exact Fi.now g1.gh fi2
theorem dt_notN {j pos'} (ha : DE X E a fa) : DT X E (.Compare a [.IsNot] [.Constant .none j pos'] pos) (dTest (dNotN fa)) := by
  refine ptI (pt_cmp (pc_notN ha) rfl) fun σ H Q ⟨ρ, G, s, r, fi⟩ => ?_
  have fi' := fi.bind
  refine ⟨ρ, G, s, r, fi'.bind.imp fun d H1 G1 g1 fi1 v hv => ?_⟩
  have fi2 := Fi.now g1.gh fi1
  refine ⟨_, rfl, ?_⟩
  rw [hv.isN]
  exact Fi.now g1.gh fi2
def gNeg (x : D) : Rs D := match x with
  | .int i => .ok (.int (-i))
  | _ => .bot
def dNeg (f : Ev → Rs D) : Ev → Rs D := fun ρ => (f ρ).bind gNeg
theorem de_neg (ha : DE X E a fa) : DE X E (.UnaryOp .USub a pos) (dNeg fa) := by
  refine peI (pe_un un_neg ha) fun σ H Q ⟨ρ, G, s, r, fi⟩ => ?_
  refine ⟨ρ, G, s, r, fi.bind.imp fun d H1 G1 g1 fi1 v hv => ?_⟩
  cases hv <;> first | exact False.elim fi1 | exact ⟨_, rfl, fi0 g1.gh fi1 (.int _)⟩
/-! ### * -/
theorem foldl_cps (x : Array Nat) : ∀ (n : Nat) (acc : Array Nat), (List.replicate n x).foldl (· ++ ·) acc = acc ++ ((List.replicate n x.toList).flatten).toArray
  | 0, acc => by simp
  | n + 1, acc => by
    rw [List.replicate_succ, List.foldl_cons, foldl_cps x n, List.replicate_succ, List.flatten_cons]
    apply Array.ext'
    simp [List.append_assoc]
theorem op_mul_str : OpR X (binaryOp .Mult) (fun x y H Q => ∃ z n, x = .str z ∧ y = .int n ∧ 0 ≤ n ∧ n ≤ 1000 ∧ z.length ≤ 1000 ∧ Q (.str ⟨((List.replicate n.toNat z.cps.toList).flatten).toArray⟩) H) := by
  intro pins s σ H x y v u Q I rx ry h
  obtain ⟨z, n, rfl, rfl, h0, h1, h2, q⟩ := h
  obtain ⟨t, rfl⟩ := rx
  obtain ⟨t', rfl⟩ := ry
  have hm : z.length * n.toNat ≤ 1000000 := by
    have : n.toNat ≤ 1000 := by omega
    calc z.length * n.toNat ≤ 1000 * 1000 := Nat.mul_le_mul h2 this
      _ = 1000000 := by decide
  have he : (⟨((List.replicate n.toNat z.cps.toList).flatten).toArray⟩ : Str) = ⟨(List.replicate n.toNat z.cps).foldl (· ++ ·) #[]⟩ := by
    rw [foldl_cps]; simp
  refine PySem.P.mul_str (by
      have c1 : ¬ n < -(2 ^ 63 : Int) := by omega
      have c2 : ¬ n ≥ 2 ^ 63 := by omega
      rw [decide_eq_false c1, decide_eq_false c2]; rfl) (fun hn _ => ?_) (fun _ _ => ?_) ?_
  · have : (z.length : Int) ≤ 1000 := by omega
    have hd : (1000 : Int) ≤ (2 ^ 63 - 1) / n := by
      rw [Int.le_ediv_iff_mul_le (by omega)]
      omega
    omega
  · unfold Builtin.Str.tooLong
    rw [sizeLine_eq]
    exact decide_eq_false (by omega)
  · by_cases c : n < 1
    · have : n = 0 := by omega
      subst this
      rw [if_pos c]
      exact ⟨by decide, .str _, H, I.tok _, ⟨_, rfl⟩, q⟩
    · rw [if_neg c]
      by_cases c2 : (n == 1 || z.length == 0) = true
      · rw [if_pos c2]
        refine ⟨.str z, H, I, ⟨_, rfl⟩, ?_⟩
        have ez : (⟨((List.replicate n.toNat z.cps.toList).flatten).toArray⟩ : Str) = z := by
          rcases (by simpa using c2 : n = 1 ∨ z.length = 0) with e | e
          · subst e; simp
          · have : z.cps = #[] := by
              apply Array.eq_empty_of_size_eq_zero
              exact e
            obtain ⟨cps⟩ := z
            have : cps = #[] := this
            subst this
            simp
        rw [ez] at q; exact q
      · rw [if_neg c2]
        rw [he] at q
        refine ⟨?_, .str _, H, I.tok _, ⟨_, rfl⟩, q⟩
        rw [← he]
        show ((List.replicate n.toNat z.cps.toList).flatten).toArray.size ≤ sizeLine
        rw [List.size_toArray, List.length_flatten, List.map_replicate, List.sum_replicate_nat, sizeLine_eq]
        have : z.cps.toList.length = z.length := rfl
        rw [this, Nat.mul_comm]
        omega
theorem strOk_rep {z : Str} (h : PyData.strOk z = true) (n : Nat) : PyData.strOk ⟨((List.replicate n z.cps.toList).flatten).toArray⟩ = true := by
  rw [strOk_iff] at h ⊢
  intro c hc
  rw [List.toList_toArray] at hc
  obtain ⟨l, h1, h2⟩ := List.mem_flatten.mp hc
  rw [(List.mem_replicate.mp h1).2] at h2
  exact h c h2
theorem dp_rep {K : PySem.W.Frag} {G : Hp} {xs : List V} {ds : List D} (h : DpAll K G xs ds) : ∀ n, DpAll K G (List.replicate n xs).flatten (List.replicate n ds).flatten
  | 0 => .nil
  | n + 1 => by
    rw [List.replicate_succ, List.replicate_succ, List.flatten_cons, List.flatten_cons]
    exact h.append (dp_rep h n)
theorem dd_mul : OpDD X (binaryOp .Mult) gMul := ⟨_, op_mul.or (op_mul_str.or op_rep), fun E G H x y dx dy Q s hx hy fi => by
  cases hx with
  | int i =>
    cases hy <;> try exact False.elim fi
    rename_i j
    by_cases c : okMul i j = true
    · unfold gMul at fi; dsimp only at fi; rw [if_pos c] at fi
      exact .inl ⟨_, _, rfl, rfl, okMul_iff.mp c, fi0 s fi (.int _)⟩
    · unfold gMul at fi; dsimp only at fi; rw [if_neg c] at fi; exact False.elim fi
  | str z hz =>
    cases hy <;> try exact False.elim fi
    rename_i n
    by_cases c : 0 ≤ n ∧ n ≤ 1000 ∧ z.length ≤ 1000
    · unfold gMul at fi; dsimp only at fi; rw [if_pos c] at fi
      exact .inr (.inl ⟨z, n, rfl, rfl, c.1, c.2.1, c.2.2, fi0 s fi (.str _ (strOk_rep hz _))⟩)
    · unfold gMul at fi; dsimp only at fi; rw [if_neg c] at fi; exact False.elim fi
  | lst h1 h2 =>
    cases hy <;> try exact False.elim fi
    rename_i a xs ds n
    by_cases c : 0 ≤ n ∧ n ≤ 1000 ∧ ds.length ≤ 1000
    · unfold gMul at fi; dsimp only at fi; rw [if_pos c] at fi
      have l := h2.length
      have hm : xs.length * n.toNat ≤ sizeLine := by
        have : n.toNat ≤ 1000 := by omega
        rw [sizeLine_eq]
        calc xs.length * n.toNat ≤ 1000 * 1000 := Nat.mul_le_mul (by omega) this
          _ ≤ 16777216 := by decide
      refine .inr (.inr ⟨_, n, _, rfl, rfl, s _ _ h1, by omega, by omega, hm, fun p np => ?_⟩)
      exact fiN s fi np (.lst upd_same (dp_rep (h2.up (same_upd (s.free np))) _))
    · unfold gMul at fi; dsimp only at fi; rw [if_neg c] at fi; exact False.elim fi
  | _ => exact False.elim fi⟩
/-! ### sum, any, all -/
def asInts : List D → Option (List Int)
  | [] => some []
  | .int i :: ds => (asInts ds).map (i :: ·)
  | _ => none
def asBls : List D → Option (List Bool)
  | [] => some []
  | .bl i :: ds => (asBls ds).map (i :: ·)
  | _ => none
theorem dp_ints {K : PySem.W.Frag} {G : Hp} : ∀ {vs : List V} {ds : List D} {ns : List Int}, DpAll K G vs ds → asInts ds = some ns → vs = ns.map V.int
  | _, [], _, h, e => by cases h; cases e; rfl
  | _, d :: ds, ns, h, e => by
    cases h with
    | cons a t =>
      cases a <;> try (cases e)
      rename_i i
      cases q : asInts ds with
      | none => simp [asInts, q] at e
      | some ms => simp [asInts, q] at e; subst e; rw [dp_ints t q]; rfl
theorem dp_bls {K : PySem.W.Frag} {G : Hp} : ∀ {vs : List V} {ds : List D} {ns : List Bool}, DpAll K G vs ds → asBls ds = some ns → vs = ns.map V.bl
  | _, [], _, h, e => by cases h; cases e; rfl
  | _, d :: ds, ns, h, e => by
    cases h with
    | cons a t =>
      cases a <;> try (cases e)
      rename_i i
      cases q : asBls ds with
      | none => simp [asBls, q] at e
      | some ms => simp [asBls, q] at e; subst e; rw [dp_bls t q]; rfl
def cSum (ds : List D) : Rs D := match ds with
  | [.lst xs] => (match asInts xs with | some ns => .ok (.int ns.sum) | none => .bot)
  | _ => .bot
def cAny (ds : List D) : Rs D := match ds with
  | [.lst xs] => (match asBls xs with | some ns => .ok (.bl (ns.any id)) | none => .bot)
  | _ => .bot
def cAll (ds : List D) : Rs D := match ds with
  | [.lst xs] => (match asBls xs with | some ns => .ok (.bl (ns.all id)) | none => .bot)
  | _ => .bot
theorem cd_sum (hc : X.calm = true) : CallDD X (.builtin "sum") cSum := ⟨_, cr_sum hc, fun E G H xs ds Q s hx fi => by
  match ds, hx, fi with
  | [d], hx, fi =>
    obtain ⟨v, rfl, h⟩ := dpAll1 hx
    cases h with
    | @lst a vs ds h1 h2 =>
      unfold cSum at fi; dsimp only at fi
      cases q : asInts ds with
      | none => rw [q] at fi; exact False.elim fi
      | some ns =>
        rw [q] at fi
        exact ⟨a, ns, rfl, by rw [← dp_ints h2 q]; exact SqL.of (s _ _ h1), fi0 s fi (.int _)⟩
    | _ => exact False.elim fi
  | [], hx, fi => exact False.elim fi
  | d1 :: _ :: _, hx, fi => exact False.elim (by cases d1 <;> exact fi)⟩
theorem cd_any (hc : X.calm = true) : CallDD X (.builtin "any") cAny := ⟨_, cr_any hc, fun E G H xs ds Q s hx fi => by
  match ds, hx, fi with
  | [d], hx, fi =>
    obtain ⟨v, rfl, h⟩ := dpAll1 hx
    cases h with
    | @lst a vs ds h1 h2 =>
      unfold cAny at fi; dsimp only at fi
      cases q : asBls ds with
      | none => rw [q] at fi; exact False.elim fi
      | some ns =>
        rw [q] at fi
        exact ⟨a, ns, rfl, by rw [← dp_bls h2 q]; exact SqL.of (s _ _ h1), fi0 s fi (.bl _)⟩
    | _ => exact False.elim fi
  | [], hx, fi => exact False.elim fi
  | d1 :: _ :: _, hx, fi => exact False.elim (by cases d1 <;> exact fi)⟩
theorem cd_all (hc : X.calm = true) : CallDD X (.builtin "all") cAll := ⟨_, cr_all hc, fun E G H xs ds Q s hx fi => by
  match ds, hx, fi with
  | [d], hx, fi =>
    obtain ⟨v, rfl, h⟩ := dpAll1 hx
    cases h with
    | @lst a vs ds h1 h2 =>
      unfold cAll at fi; dsimp only at fi
      cases q : asBls ds with
      | none => rw [q] at fi; exact False.elim fi
      | some ns =>
        rw [q] at fi
        exact ⟨a, ns, rfl, by rw [← dp_bls h2 q]; exact SqL.of (s _ _ h1), fi0 s fi (.bl _)⟩
    | _ => exact False.elim fi
  | [], hx, fi => exact False.elim fi
  | d1 :: _ :: _, hx, fi => exact False.elim (by cases d1 <;> exact fi)⟩
/-! ### reading an owned list -/
def dLenO (i : Nat) : Ev → Rs D := fun ρ => match ρ[i]? with
  | some (.ol xs) => .ok (.int xs.length)
  | _ => .bot
theorem de_lenO {i : Nat} {x : Str} {p1 p2 : Pos} (hg : Gl X "len") (hm : X.mg "len" = none) (hv : PE X (.Name x p2) (tVar i)) (hs : starEach [.Name x p2] X.env = [(false, eval (.Name x p2) X.env)] := by rfl)
    (hpl : (backTo pos (starEach [] X.env)).any (·.1) = false := by rfl) : DE X E (.Call (.Name "len" p1) [.Name x p2] [] pos) (dLenO i) := by
  refine peI (pe_callB (id := "len") call_len hg hm PySem.boot_len (pa_cons hv pa_nil (by rw [hs]; rfl)) (by decide) (by decide) (by rw [hs]; rfl) hpl) fun σ H Q ⟨ρ, G, s, r, fi⟩ => ?_
  unfold dLenO at fi
  split at fi
  · rename_i xs q
    obtain ⟨a, vs, e, hH, nG, dp⟩ := r.ol q
    exact ⟨_, e, _, vs.length, rfl, .inl ⟨_, SqL.of hH, rfl⟩, by rw [dp.length]; exact fi0 s fi (.int _)⟩
  · exact False.elim fi
end
theorem u200 {k : Nat} {A : Around} (hr : Room k A) : A.units + 200 < cLine := by have := hr.un; omega
theorem u1 {k : Nat} {A : Around} (hr : Room k A) : A.units + 1 < cLine := by have := hr.un; omega
/-! ### a text, sign by sign -/
def signs (z : Str) : List D := z.cps.toList.map fun c => .str ⟨#[c]⟩
def dItS (f : Ev → Rs D) : Ev → Rs (List D) := fun ρ => (f ρ).bind fun d => match d with
  | .str z => .ok (signs z)
  | _ => .bot
theorem itD_str {K : PySem.W.Frag} {G : Hp} {z : Str} (h : PyData.strOk z = true) : ItD K (Its z) G (signs z) where
  go i H s hi := by
    have : (signs z).length = z.cps.size := by simp [signs]
    rw [this] at hi; exact hi
  yld i H x H' s hy := by
    obtain ⟨e, c, hc, rfl⟩ := hy
    refine ⟨e, fun d hd => ?_⟩
    have e2 : z.cps.toList[i]? = some c := by rw [Array.getElem?_toList]; exact hc
    unfold signs at hd
    rw [List.getElem?_map, e2] at hd
    cases hd
    exact .str _ (strOk_one h (List.mem_of_getElem? e2))
  stop H s := by
    have : (signs z).length = z.cps.size := by simp [signs]
    rw [this]; exact Nat.le_refl _
theorem di_str {X : Cx} {E : XK} {tg e : Expr} {fa : Ev → Rs D} (h : DE X E e fa) : DI X E tg e (dItS fa) := by
  refine piI (pi_str h) fun σ H R ⟨ρ, G, s, r, fi⟩ => ?_
  refine ⟨ρ, G, s, r, fi.bind.imp fun d H1 G1 g1 fi1 v hv => ?_⟩
  cases hv with
  | str z hz => exact ⟨_, rfl, fi1.now g1.gh _ (itD_str hz)⟩
  | _ => exact False.elim fi1
end KD

/-! KD6: constructors; Signature. -/
namespace KD
open PySem L2

/-- the object at x is being made: all else stays, new data may lean on x -/
structure GrowX (x : Addr) (H G H' G' : Hp) : Prop where
  hh : ∀ b o, b ≠ x → H b = some o → H' b = some o
  gg : Same G G'
  gh : Same G' H'
  nw : ∀ a o, G' a = some o → G a = some o ∨ H a = none ∨ a = x
def FiX {α : Type} (K : PySem.W.Frag) (E : XK) (x : Addr) (H G : Hp) (r : Rs α) (P : α → Hp → Hp → Prop) : Prop := match r with
  | .ok a => ∀ H' G', GrowX x H G H' G' → P a H' G'
  | .xc c ns fs => ∀ od H' G', GrowX x H G H' G' → XdOk K H' G' od ns fs → E (.ref (He.ga K c)) od H'
  | .bot => False
/-- __init__ of the class c: the object's data by g of the arguments' -/
def spI (K : PySem.W.Frag) (c : Str) (n : Nat) (g : List D → Rs D) : Sp := fun vs H Q E => ∃ (x dx : Addr) (ws : List V) (G : Hp) (ds : List D), vs = .ref x :: ws ∧ H x = some (.ins (He.ga K c) dx []) ∧ Same G H ∧ G x = none ∧ DpAll K G ws ds ∧ ds.length = n ∧
  FiX K E x H G (g ds) (fun d H' G' => Dp K G' (.ref x) d → Q .non H')
section
variable {K : PySem.W.Frag} {x dx : Addr} {H1 G1 H' G' : Hp} {C : Addr}
theorem made_none (nx : H1 x = none) (sg : Same G1 H1) : G1 x = none := sg.free nx
theorem made_same (nx : H1 x = none) (nd : H1 dx = none) (sg : Same G1 H1) : Same G1 (upd (upd H1 dx (.own x)) x (.ins C dx [])) := fun b o h => by
  have h1 := sg b o h
  rw [upd_ne (ne_of_none h1 nx), upd_ne (ne_of_none h1 nd)]; exact h1
theorem GrowX.out (nx : H1 x = none) (nd : H1 dx = none) (ne : dx ≠ x) (g : GrowX x (upd (upd H1 dx (.own x)) x (.ins C dx [])) G1 H' G') : Grow H1 G1 H' G' := by
  refine ⟨fun b o h => ?_, g.gg, g.gh, fun a o h => ?_⟩
  · refine g.hh b o (ne_of_none h nx) ?_
    rw [upd_ne (ne_of_none h nx), upd_ne (ne_of_none h nd)]; exact h
  · rcases g.nw a o h with q | q | q
    · exact .inl q
    · by_cases c : a = x
      · subst c; exact .inr nx
      · rw [upd_ne c] at q
        by_cases c2 : a = dx
        · subst c2; exact .inr nd
        · rw [upd_ne c2] at q; exact .inr q
    · subst q; exact .inr nx
end
section
variable {X : Cx} {E : XK} {e : Expr} {es : List Expr} {fs : Ev → Rs (List D)} {fa : Ev → Rs D} {pos p : Pos}
/-- C(e, ..) -/
theorem de_make {CX : CXT} {k n : Nat} {c : Str} {f : Addr} {fd : FuncData} {ps : List Str} {g : List D → Rs D} (M : Mk X.K (He.ga X.K c) f) (F : FnOk X.prog X.w X.K X.mg X.base CX k f fd ps (spI X.K c n g)) (hr : Room (k + 1) X.A) (hm : X.mg c = some (.ref (He.ga X.K c))) (hb : Binds X.K fd ps []) (hx : Passes CX X E)
    (ha : DA X E (e :: es) fs) (hg : Gl X c := by rfl) (hdb : (c == ("__debug__" : Str)) = false := by decide) (he : starEach (e :: es) X.env = (false, eval e X.env) :: starEach es X.env := by rfl) (hpl : (backTo pos (starEach es X.env)).any (·.1) = false := by rfl) :
    DE X E (.Call (.Name c p) (e :: es) [] pos) (dCallN n g fs) := by
  refine peI (pe_make M F hr hg hm hb .nil hx ha hdb he hpl) fun σ H Q ⟨ρ, G, s, r, fi⟩ => ?_
  refine ⟨ρ, G, s, r, fi.bind.imp fun ds H1 G1 g1 fi1 vs hvs x dx nx nd ne => ?_⟩
  by_cases cn : ds.length = n
  · rw [if_pos cn] at fi1
    rw [List.append_nil]
    refine ⟨x, dx, vs, G1, ds, rfl, upd_same, made_same nx nd g1.gh, made_none nx g1.gh, hvs, cn, ?_⟩
    cases q : g ds with
    | ok d =>
      rw [q] at fi1
      exact fun H' G' gx hd => ⟨rfl, fi1 H' G' (gx.out nx nd ne) _ hd⟩
    | xc c n f => rw [q] at fi1; exact fun od H' G' gx hd => fi1 od H' G' (gx.out nx nd ne) hd
    | bot => rw [q] at fi1; exact fi1
  · rw [if_neg cn] at fi1; exact False.elim fi1
end

/-! ### Signature -/
def sigOb (l ks vs : List D) : D := .ob "Signature" ["listed", "numbers"] [.lst l, .dic ks vs]
/-- the loop of __init__: rows to come, what is listed, numbered -/
def sigL (chk : List D → Rs D) : List D → List D → List D → List D → Rs D
  | [], l, ks, vs => .ok (sigOb l ks vs)
  | row :: rows, l, ks, vs => (chk [row, .lst ks]).bind fun _ => (gIx row (.int 0)).bind fun n => match n.key with
    | none => .bot
    | some k => (match lookD ks vs k with
      | some _ => .bot
      | none => (gIx row (.int 1)).bind fun a => (gIx row (.int 2)).bind fun b => (gIx row (.int 3)).bind fun c => (cTuple [c]).bind fun t =>
        if l.length < 1000 ∧ ks.length < 1000 then sigL chk rows (l ++ [.tup [n, a, b, t]]) (ks ++ [n]) (vs ++ [.int l.length]) else .bot)
def sigD (chk : List D → Rs D) (rows : List D) : Rs D := sigL chk rows [] [] []
/-- __init__: the rows are read off a list that may change later -/
def spS (K : PySem.W.Frag) (chk : List D → Rs D) : Sp := fun vs H Q E => ∃ (x dx a : Addr) (xs : List V) (G : Hp) (rows : List D), vs = [.ref x, .ref a] ∧ H x = some (.ins (He.ga K "Signature") dx []) ∧ SqL K H a xs ∧ a ≠ x ∧ Same G H ∧ G x = none ∧ DpAll K G xs rows ∧
  FiX K E x H G (sigD chk rows) (fun d H' G' => Dp K G' (.ref x) d → Q .non H')
abbrev rListD : List V → Hp → VK → Prop := fun xs H Q => ∃ (a : Addr) (kvs : List (Key × V)), xs = [.ref a] ∧ Rd H a (.dK kvs) ∧ ∀ p, H p = none → Q (.ref p) (upd H p (.lst (kvs.map fun kv => kV kv.1)))
abbrev rLenA (K : PySem.W.Frag) : List V → Hp → VK → Prop := fun xs H Q => ∃ x n, xs = [x] ∧ LenV K x H n ∧ Q (.int n) H
def dRow (i : Int) : Ev → Rs D := dOp gIx (dVar 2) (dC (.int i))
def t_sig (K : PySem.W.Frag) (E : XK) (chk : List D → Rs D) : TS :=
  tSeq (sFld K (tVar 0) (tLst tNil) "listed") (tSeq (sFld K (tVar 0) tDNewK "numbers") (tFor (iList K (tVar 1)) (gName 2)
    (tSeq (tDrop (tCall (spD K 2 chk) [] E (tCons (tVar 2) (tCons (tCB rListD (tCons (tFld K (tVar 0) "numbers") tNil)) tNil))))
    (tSeq (sDPut (tFld K (tVar 0) "numbers") (tD K E (dRow 0)) (tCB (rLenA K) (tCons (tFld K (tVar 0) "listed") tNil)))
      (tDrop (tBM K "list" rAppend (tFld K (tVar 0) "listed") (tCons (tD K E (dTup (dCons (dRow 0) (dCons (dRow 1) (dCons (dRow 2) (dCons (dCall cTuple (dCons (dRow 3) dNil)) dNil)))))) tNil)))))))
theorem sl_ne : ¬ (("listed" : Str) = "numbers") := by decide +kernel
theorem put2 (l n : Addr) : putF "numbers" (.ref n) (putF "listed" (.ref l) []) = ([("listed", V.ref l), ("numbers", V.ref n)] : List (Str × V)) := by
  show (if ("listed" : Str) = "numbers" then [(("listed" : Str), V.ref n)] else (("listed" : Str), V.ref l) :: putF "numbers" (V.ref n) []) = _
  rw [if_neg sl_ne]; rfl
theorem lk_listed (l n : Addr) : ([("listed", V.ref l), ("numbers", V.ref n)] : List (Str × V)).lookup ("listed" : Str) = some (.ref l) := by
  rw [← put2, lookup_putF, if_neg sl_ne, lookup_putF, if_pos rfl]
theorem lk_numbers (l n : Addr) : ([("listed", V.ref l), ("numbers", V.ref n)] : List (Str × V)).lookup ("numbers" : Str) = some (.ref n) := by
  rw [← put2, lookup_putF, if_pos rfl]
/-- what stands between two turns of __init__'s loop -/
structure SigAt (K : PySem.W.Frag) (x dx : Addr) (H1 G1 H G : Hp) (l n : Addr) (lv : List V) (kv : List (Key × V)) (dl ks vs : List D) : Prop where
  ob : H x = some (.ins (He.ga K "Signature") dx [("listed", .ref l), ("numbers", .ref n)])
  hl : H l = some (.lst lv)
  hn : H n = some (.dK kv)
  gx : G x = none
  gl : G l = none
  gn : G n = none
  l1 : H1 l = none
  n1 : H1 n = none
  gr : GrowX x H1 G1 H G
  dl : DpAll K G lv dl
  dk : DpAll K G (kv.map fun p => kV p.1) ks
  dv : DpAll K G (kv.map (·.2)) vs
section
variable {K : PySem.W.Frag} {x dx : Addr} {H1 G1 H G H' G' : Hp} {l n : Addr} {lv : List V} {kv : List (Key × V)} {dl ks vs : List D}
theorem SigAt.grow (a : SigAt K x dx H1 G1 H G l n lv kv dl ks vs) (x1 : ∃ o, H1 x = some o) (g : Grow H G H' G') : SigAt K x dx H1 G1 H' G' l n lv kv dl ks vs := by
  have fr : ∀ b, (∃ u, H b = some u) → G b = none → G' b = none := fun b hu ng => by
    obtain ⟨u, hu⟩ := hu
    cases e : G' b with
    | none => rfl
    | some w =>
      rcases g.nw b w e with q | q
      · rw [ng] at q; cases q
      · rw [hu] at q; cases q
  refine ⟨g.hh _ _ a.ob, g.hh _ _ a.hl, g.hh _ _ a.hn, fr x ⟨_, a.ob⟩ a.gx, fr l ⟨_, a.hl⟩ a.gl, fr n ⟨_, a.hn⟩ a.gn, a.l1, a.n1, ⟨fun b o c h => g.hh _ _ (a.gr.hh b o c h), a.gr.gg.trans g.gg, g.gh, fun b o h => ?_⟩, a.dl.up g.gg, a.dk.up g.gg, a.dv.up g.gg⟩
  rcases g.nw b o h with q | q
  · exact a.gr.nw b o q
  · by_cases c : b = x
    · exact .inr (.inr c)
    · refine .inr (.inl ?_)
      cases e : H1 b with
      | none => rfl
      | some w => rw [a.gr.hh b w c e] at q; cases q
end
theorem rowRep {K : PySem.W.Frag} {G H : Hp} {v0 v1 v : V} {row : D} (h : Dp K G v row) : Rep K G H [some v0, some v1, some v] [.no, .no, .dt row] := by
  refine ⟨rfl, fun i s o h1 h2 => ?_, fun i j s t a h1 h2 o1 _ _ _ => ?_⟩
  · match i, h1, h2 with
    | 0, h1, h2 => cases h1; trivial
    | 1, h1, h2 => cases h1; trivial
    | 2, h1, h2 => cases h1; cases h2; exact ⟨v, rfl, h⟩
  · exfalso
    match i, h1 with
    | 0, h1 => cases h1; cases o1
    | 1, h1 => cases h1; cases o1
    | 2, h1 => cases h1; cases o1
theorem SqL.except {K : PySem.W.Frag} {H H' : Hp} {x a : Addr} {xs : List V} (k : ∀ b o, b ≠ x → H b = some o → H' b = some o) (ne : a ≠ x) (h : SqL K H a xs) : SqL K H' a xs := by
  rcases h with (h | ⟨o, h⟩) | h
  · exact .inl (.inl (k _ _ ne h))
  · exact .inl (.inr ⟨o, k _ _ ne h⟩)
  · exact .inr h
theorem SigAt.ne {K : PySem.W.Frag} {x dx : Addr} {H1 G1 H G : Hp} {l n : Addr} {lv : List V} {kv : List (Key × V)} {dl ks vs : List D} (a : SigAt K x dx H1 G1 H G l n lv kv dl ks vs) : x ≠ l ∧ x ≠ n ∧ l ≠ n :=
  ⟨ne_of a.ob a.hl (by intro z; cases z), ne_of a.ob a.hn (by intro z; cases z), ne_of a.hl a.hn (by intro z; cases z)⟩
theorem SigAt.putN {K : PySem.W.Frag} {x dx : Addr} {H1 G1 H G : Hp} {l n : Addr} {lv : List V} {kv : List (Key × V)} {dl ks vs : List D} (a : SigAt K x dx H1 G1 H G l n lv kv dl ks vs) {k : Key} {v : V} {dk dv : D} (h1 : Dp K G (kV k) dk) (h2 : Dp K G v dv) :
    SigAt K x dx H1 G1 (upd H n (.dK (kv ++ [(k, v)]))) G l n lv (kv ++ [(k, v)]) dl (ks ++ [dk]) (vs ++ [dv]) := by
  obtain ⟨n1, n2, n3⟩ := a.ne
  refine ⟨by rw [upd_ne n2]; exact a.ob, by rw [upd_ne n3]; exact a.hl, upd_same, a.gx, a.gl, a.gn, a.l1, a.n1, ⟨fun b o c h => ?_, a.gr.gg, fun b o h => ?_, a.gr.nw⟩, a.dl, ?_, ?_⟩
  · rw [upd_ne (ne_of_none h a.n1)]; exact a.gr.hh b o c h
  · rw [upd_ne (ne_of_none h a.gn)]; exact a.gr.gh b o h
  · rw [List.map_append]; exact a.dk.append (.cons h1 .nil)
  · rw [List.map_append]; exact a.dv.append (.cons h2 .nil)
theorem SigAt.putL {K : PySem.W.Frag} {x dx : Addr} {H1 G1 H G : Hp} {l n : Addr} {lv : List V} {kv : List (Key × V)} {dl ks vs : List D} (a : SigAt K x dx H1 G1 H G l n lv kv dl ks vs) {v : V} {d : D} (h1 : Dp K G v d) :
    SigAt K x dx H1 G1 (upd H l (.lst (lv ++ [v]))) G l n (lv ++ [v]) kv (dl ++ [d]) ks vs := by
  obtain ⟨n1, n2, n3⟩ := a.ne
  refine ⟨by rw [upd_ne n1]; exact a.ob, upd_same, by rw [upd_ne (Ne.symm n3)]; exact a.hn, a.gx, a.gl, a.gn, a.l1, a.n1, ⟨fun b o c h => ?_, a.gr.gg, fun b o h => ?_, a.gr.nw⟩, a.dl.append (.cons h1 .nil), a.dk, a.dv⟩
  · rw [upd_ne (ne_of_none h a.l1)]; exact a.gr.hh b o c h
  · rw [upd_ne (ne_of_none h a.gl)]; exact a.gr.gh b o h
/-- the end: the object and its two things become data -/
theorem SigAt.done {K : PySem.W.Frag} {x dx : Addr} {H1 G1 H G : Hp} {l n : Addr} {lv : List V} {kv : List (Key × V)} {dl ks vs : List D} (a : SigAt K x dx H1 G1 H G l n lv kv dl ks vs) : ∃ G', GrowX x H1 G1 H G' ∧ Dp K G' (.ref x) (sigOb dl ks vs) := by
  obtain ⟨n1, n2, n3⟩ := a.ne
  have s1 : Same G (upd G l (.lst lv)) := same_upd a.gl
  have e2 : upd G l (.lst lv) n = none := by rw [upd_ne (Ne.symm n3)]; exact a.gn
  have s2 : Same (upd G l (.lst lv)) (upd (upd G l (.lst lv)) n (.dK kv)) := same_upd e2
  have e3 : upd (upd G l (.lst lv)) n (.dK kv) x = none := by rw [upd_ne n2, upd_ne n1]; exact a.gx
  have s3 : Same (upd (upd G l (.lst lv)) n (.dK kv)) (upd (upd (upd G l (.lst lv)) n (.dK kv)) x (.ins (He.ga K "Signature") dx [("listed", .ref l), ("numbers", .ref n)])) := same_upd e3
  refine ⟨_, ⟨a.gr.hh, a.gr.gg.trans (s1.trans (s2.trans s3)), fun b o h => ?_, fun b o h => ?_⟩, ?_⟩
  · by_cases c1 : b = x
    · subst c1; rw [upd_same] at h; cases h; exact a.ob
    · rw [upd_ne c1] at h
      by_cases c2 : b = n
      · subst c2; rw [upd_same] at h; cases h; exact a.hn
      · rw [upd_ne c2] at h
        by_cases c3 : b = l
        · subst c3; rw [upd_same] at h; cases h; exact a.hl
        · rw [upd_ne c3] at h; exact a.gr.gh b o h
  · by_cases c1 : b = x
    · exact .inr (.inr c1)
    · rw [upd_ne c1] at h
      by_cases c2 : b = n
      · subst c2; exact .inr (.inl a.n1)
      · rw [upd_ne c2] at h
        by_cases c3 : b = l
        · subst c3; exact .inr (.inl a.l1)
        · rw [upd_ne c3] at h; exact a.gr.nw b o h
  · have hd : DpAll K (upd (upd (upd G l (.lst lv)) n (.dK kv)) x (.ins (He.ga K "Signature") dx [("listed", .ref l), ("numbers", .ref n)])) ([("listed", V.ref l), ("numbers", V.ref n)].map (·.2)) [.lst dl, .dic ks vs] := by
      refine .cons (.lst (by rw [upd_ne (Ne.symm n1), upd_ne n3, upd_same]) ((a.dl.up s1).up (s2.trans s3))) (.cons (.dic (kvs := kv) (by rw [upd_ne (Ne.symm n2), upd_same]) (a.dk.up (s1.trans (s2.trans s3))) (a.dv.up (s1.trans (s2.trans s3)))) .nil)
    exact Dp.ob (c := "Signature") (fs := [("listed", V.ref l), ("numbers", V.ref n)]) upd_same hd
theorem pure_sig {K : PySem.W.Frag} {chk : List D → Rs D} (cl : Cls K (He.ga K "Signature")) (nl : NoAttr K (He.ga K "Signature") "listed") (nn : NoAttr K (He.ga K "Signature") "numbers") (vs : List V) (H : Hp) (Q : VK) (E : XK) (h : spS K chk vs H Q E) :
    t_sig K E chk { nx := fun _ H' => Q .non H', rt := Q } (start ["self", "symbols", "row"] vs) H := by
  obtain ⟨x, dx, a, xs, G1, rows, rfl, hx, hS, nax, sg, ngx, dp, fi⟩ := h
  refine ⟨Nat.zero_le _, fun l hl => ?_⟩
  have nxl : x ≠ l := ne_of_none hx hl
  refine ⟨_, rfl, x, _, dx, [], rfl, (by rw [upd_ne nxl]; exact hx), cl, nl, (by show 0 < 1000; decide), ?_⟩
  intro n hn
  have nxn : x ≠ n := ne_of_none upd_same hn
  have nln : l ≠ n := fun e => by
    rw [← e, upd_ne (Ne.symm nxl), upd_same] at hn; cases hn
  refine ⟨_, rfl, x, _, dx, _, rfl, (by rw [upd_ne nxn, upd_same]), cl, nn, (by show 1 < 1000; decide), ?_⟩
  rw [put2]
  have n1 : H n = none := by
    rw [upd_ne (Ne.symm nxn), upd_ne (Ne.symm nln)] at hn; exact hn
  -- the start
  have A0 : SigAt K x dx H G1 (upd (upd (upd (upd H l (.lst [])) x (.ins (He.ga K "Signature") dx (putF "listed" (.ref l) []))) n (.dK [])) x (.ins (He.ga K "Signature") dx [("listed", .ref l), ("numbers", .ref n)])) G1 l n [] [] [] [] [] := by
    refine ⟨upd_same, by rw [upd_ne (Ne.symm nxl), upd_ne nln, upd_ne (Ne.symm nxl), upd_same], by rw [upd_ne (Ne.symm nxn), upd_same], ngx, sg.free hl, sg.free n1, hl, n1, ⟨fun b o c q => ?_, Same.refl _, fun b o q => ?_, fun b o q => .inl q⟩, .nil, .nil, .nil⟩
    · rw [upd_ne c, upd_ne (ne_of_none q n1), upd_ne c, upd_ne (ne_of_none q hl)]; exact q
    · have c : b ≠ x := fun e => by rw [e, ngx] at q; cases q
      have q1 := sg b o q
      rw [upd_ne c, upd_ne (ne_of_none q1 n1), upd_ne c, upd_ne (ne_of_none q1 hl)]; exact q1
  refine ⟨_, rfl, a, rfl, ⟨xs, SqL.except A0.gr.hh nax hS⟩, for_list (K := K) (a := a) (xs := xs) (fun i σ H2 => ∃ (v : Option V) (G : Hp) (lv : List V) (kv : List (Key × V)) (dl ks vs : List D), σ = [some (.ref x), some (.ref a), v] ∧ SigAt K x dx H G1 H2 G l n lv kv dl ks vs ∧ FiX K E x H G1 (sigL chk (rows.drop i) dl ks vs) (fun d H' G' => Dp K G' (.ref x) d → Q .non H'))
    ⟨none, G1, [], [], [], [], [], rfl, A0, by rw [List.drop_zero]; exact fi⟩ (fun i σ H2 _ ⟨v, G, lv, kv, dl, ks, vs, _, A, _⟩ => SqL.except A.gr.hh nax hS) ?_ ?_⟩
  · rintro i y σ H2 hi ⟨v, G, lv, kv, dl, ks, vs, rfl, A, fi⟩
    obtain ⟨row, hrow, hy1⟩ := dp.get hi
    have hil : i < rows.length := (List.getElem?_eq_some_iff.mp hrow).1
    have ed : rows.drop i = row :: rows.drop (i + 1) := by
      rw [List.drop_eq_getElem_cons hil]
      rw [List.getElem?_eq_getElem hil] at hrow
      rw [Option.some.inj hrow]
    rw [ed] at fi
    have x1 : ∃ o, H x = some o := ⟨_, hx⟩
    have hy : Dp K G y row := hy1.up A.gr.gg
    unfold sigL at fi
    -- check_symbol(row, list(self.numbers))
    refine ⟨y, rfl, _, rfl, x, _, dx, _, _, rfl, A.ob, cl, nn, lk_numbers _ _, n, kv, rfl, .inl A.hn, fun p np => ?_⟩
    have gp := Grow.laid (o := .lst (kv.map fun kv => kV kv.1)) A.gr.gh np
    have np' : G p = none := A.gr.gh.free np
    refine ⟨upd G p (.lst (kv.map fun kv => kV kv.1)), [row, .lst ks], gp.gh, .cons (hy.up (same_upd np')) (.cons (.lst upd_same (A.dk.up (same_upd np'))) .nil), rfl, ?_⟩
    cases qc : chk [row, .lst ks] with
    | bot => rw [qc] at fi; exact False.elim fi
    | xc c ns fs =>
      rw [qc] at fi
      exact fun od H' G' g xd => fi od H' G' (A.grow x1 (gp.trans g)).gr xd
    | ok d =>
      rw [qc, Rs.bind_ok] at fi
      intro H3 G3 g3 _ _
      have A3 := A.grow x1 (gp.trans g3)
      have hy3 : Dp K G3 y row := hy.up (gp.trans g3).gg
      -- self.numbers[row[0]] = len(self.listed)
      refine ⟨_, rfl, x, _, dx, _, _, rfl, A3.ob, cl, nl, lk_listed _ _, _, lv.length, rfl, .inl ⟨lv, SqL.of A3.hl, rfl⟩, _, rfl, x, _, dx, _, _, rfl, A3.ob, cl, nn, lk_numbers _ _, [.no, .no, .dt row], G3, A3.gr.gh, rowRep hy3, ?_⟩
      show Fi K E H3 G3 (gIx row (.int 0)) _
      cases q0 : gIx row (.int 0) with
      | bot => rw [q0] at fi; exact False.elim fi
      | xc c ns fs => rw [q0] at fi; exact fun od H' G' g xd => fi od H' G' (A3.grow x1 g).gr xd
      | ok nme =>
        rw [q0, Rs.bind_ok] at fi
        intro H4 G4 g4 w hw
        have A4 := A3.grow x1 g4
        cases qk : nme.key with
        | none => rw [qk] at fi; exact False.elim fi
        | some k =>
          rw [qk] at fi
          dsimp only at fi
          cases ql : lookD ks vs k with
          | some _ => rw [ql] at fi; exact False.elim fi
          | none =>
            rw [ql] at fi
            dsimp only at fi
            have ew := hw.keyV qk
            subst ew
            have vnone : valV kv k = none := (look_val A4.dk A4.dv).2 ql
            -- what the rest of the row is
            cases q1 : gIx row (.int 1) with
            | bot => rw [q1] at fi; exact False.elim fi
            | xc c ns fs => exact False.elim (by
                have z : ∀ (y : D), gIx row (.int 1) ≠ .xc c ns fs := by
                  intro _; unfold gIx atD; split <;> (try split) <;> (try split) <;> simp
                exact z .non q1)
            | ok a1 =>
              rw [q1, Rs.bind_ok] at fi
              cases q2 : gIx row (.int 2) with
              | bot => rw [q2] at fi; exact False.elim fi
              | xc c ns fs => exact False.elim (by
                  have z : ∀ (y : D), gIx row (.int 2) ≠ .xc c ns fs := by
                    intro _; unfold gIx atD; split <;> (try split) <;> (try split) <;> simp
                  exact z .non q2)
              | ok a2 =>
                rw [q2, Rs.bind_ok] at fi
                cases q3 : gIx row (.int 3) with
                | bot => rw [q3] at fi; exact False.elim fi
                | xc c ns fs => exact False.elim (by
                    have z : ∀ (y : D), gIx row (.int 3) ≠ .xc c ns fs := by
                      intro _; unfold gIx atD; split <;> (try split) <;> (try split) <;> simp
                    exact z .non q3)
                | ok a3 =>
                  rw [q3, Rs.bind_ok] at fi
                  cases q4 : cTuple [a3] with
                  | bot => rw [q4] at fi; exact False.elim fi
                  | xc c ns fs => exact False.elim (by
                      have z : ∀ (y : D), cTuple [a3] ≠ .xc c ns fs := by
                        intro _; unfold cTuple; split <;> simp
                      exact z .non q4)
                  | ok t =>
                    rw [q4, Rs.bind_ok] at fi
                    by_cases hc : dl.length < 1000 ∧ ks.length < 1000
                    · rw [if_pos hc] at fi
                      have lk : kv.length = ks.length := by have := A4.dk.length; rwa [List.length_map] at this
                      have ll : lv.length = dl.length := A4.dl.length
                      refine ⟨n, _, rfl, .inl ⟨kv, k, A4.hn, rfl, by rw [sizeLine_eq]; omega, rfl⟩, ?_⟩
                      rw [putK_new _ vnone]
                      have A5 := A4.putN (k := k) (v := .int lv.length) (dk := nme) (dv := .int lv.length) hw (.int _)
                      have hy5 : Dp K G4 y row := hy3.up g4.gg
                      -- self.listed.append(..)
                      refine ⟨_, rfl, x, _, dx, _, _, rfl, A5.ob, cl, nl, lk_listed _ _, .inl ⟨rfl, _, SqL.of A5.hl⟩, [.no, .no, .dt row], G4, A5.gr.gh, rowRep hy5, ?_⟩
                      have ev : dTup (dCons (dRow 0) (dCons (dRow 1) (dCons (dRow 2) (dCons (dCall cTuple (dCons (dRow 3) dNil)) dNil)))) [.no, .no, .dt row] = .ok (.tup [nme, a1, a2, t]) := by
                        have r0 : dRow 0 [.no, .no, .dt row] = .ok nme := q0
                        have r1 : dRow 1 [.no, .no, .dt row] = .ok a1 := q1
                        have r2 : dRow 2 [.no, .no, .dt row] = .ok a2 := q2
                        have r3 : dRow 3 [.no, .no, .dt row] = .ok a3 := q3
                        simp [dTup, dCons, dCall, dNil, r0, r1, r2, r3, q4]
                      rw [ev]
                      intro H6 G6 g6 z hz
                      have A6 := A5.grow x1 g6
                      refine ⟨l, lv, z, rfl, rfl, A6.hl, by rw [sizeLine_eq]; omega, ?_⟩
                      have A7 := A6.putL hz
                      refine ⟨_, G6, _, _, _, _, _, rfl, A7, ?_⟩
                      rw [ll]; exact fi
                    · rw [if_neg hc] at fi; exact False.elim fi
  · rintro σ H2 ⟨v, G, lv, kv, dl, ks, vs, rfl, A, fi⟩
    obtain ⟨G', gx, hd⟩ := A.done
    have e : rows.drop xs.length = [] := by rw [dp.length, List.drop_length]
    rw [e] at fi
    exact fi H2 G' gx hd
end KD

/-! KD7: Signature(..), owned lists by list(..), clear. -/
namespace KD
open PySem L2
section
variable {X : Cx} {E : XK} {e : Expr} {es : List Expr} {fs : Ev → Rs (List D)} {fa : Ev → Rs D} {pos p : Pos} {st : Stmt}
def mkS (chk : List D → Rs D) : D → Rs D
  | .lst rows => sigD chk rows
  | _ => .bot
def dMakeS (chk : List D → Rs D) (f : Ev → Rs D) : Ev → Rs D := fun ρ => (f ρ).bind (mkS chk)
theorem FiX.out {K : PySem.W.Frag} {E : XK} {x dx C : Addr} {H1 G1 : Hp} {r : Rs D} {Q : VK} (nx : H1 x = none) (nd : H1 dx = none) (ne : dx ≠ x) (fi : Fi K E H1 G1 r (fun d H' G' => ∀ v, Dp K G' v d → Q v H')) :
    FiX K E x (upd (upd H1 dx (.own x)) x (.ins C dx [])) G1 r (fun d H' G' => Dp K G' (.ref x) d → V.non = .non ∧ Q (.ref x) H') := by
  cases r with
  | ok d => exact fun H' G' gx hd => ⟨rfl, fi H' G' (gx.out nx nd ne) _ hd⟩
  | xc c n f => exact fun od H' G' gx hd => fi od H' G' (gx.out nx nd ne) hd
  | bot => exact fi
theorem de_makeS {CX : CXT} {k : Nat} {f : Addr} {fd : FuncData} {ps : List Str} {chk : List D → Rs D} (M : Mk X.K (He.ga X.K "Signature") f) (F : FnOk X.prog X.w X.K X.mg X.base CX k f fd ps (spS X.K chk)) (hr : Room (k + 1) X.A) (hm : X.mg "Signature" = some (.ref (He.ga X.K "Signature"))) (hb : Binds X.K fd ps []) (hx : Passes CX X E)
    (ha : DE X E e fa) (hg : Gl X "Signature" := by rfl) (he : starEach [e] X.env = [(false, eval e X.env)] := by rfl) (hpl : (backTo pos (starEach [] X.env)).any (·.1) = false := by rfl) :
    DE X E (.Call (.Name "Signature" p) [e] [] pos) (dMakeS chk fa) := by
  refine peI (pe_make M F hr hg hm hb .nil hx (pa_cons ha pa_nil (by rw [he]; rfl)) (by decide) (by rw [he]; rfl) hpl) fun σ H Q ⟨ρ, G, s, r, fi⟩ => ?_
  refine ⟨ρ, G, s, r, fi.bind.imp fun d H1 G1 g1 fi1 v hv x dx nx nd ne => ?_⟩
  cases hv with
  | @lst a xs rows h1 h2 =>
    have hH := g1.gh _ _ h1
    have nax : a ≠ x := ne_of_none hH nx
    refine ⟨x, dx, a, xs, G1, rows, rfl, upd_same, ?_, nax, made_same nx nd g1.gh, made_none nx g1.gh, h2, FiX.out nx nd ne fi1⟩
    exact SqL.of (by rw [upd_ne nax, upd_ne (ne_of_none hH nd)]; exact hH)
  | _ => exact False.elim fi1
def dMakeSO (chk : List D → Rs D) (i : Nat) : Ev → Rs D := fun ρ => match ρ[i]? with
  | some (.ol rows) => sigD chk rows
  | _ => .bot
theorem de_makeSO {CX : CXT} {k i : Nat} {f : Addr} {fd : FuncData} {ps : List Str} {chk : List D → Rs D} (M : Mk X.K (He.ga X.K "Signature") f) (F : FnOk X.prog X.w X.K X.mg X.base CX k f fd ps (spS X.K chk)) (hr : Room (k + 1) X.A) (hm : X.mg "Signature" = some (.ref (He.ga X.K "Signature"))) (hb : Binds X.K fd ps []) (hx : Passes CX X E)
    (ha : PE X e (tVar i)) (hg : Gl X "Signature" := by rfl) (he : starEach [e] X.env = [(false, eval e X.env)] := by rfl) (hpl : (backTo pos (starEach [] X.env)).any (·.1) = false := by rfl) :
    DE X E (.Call (.Name "Signature" p) [e] [] pos) (dMakeSO chk i) := by
  refine peI (pe_make M F hr hg hm hb .nil hx (pa_cons ha pa_nil (by rw [he]; rfl)) (by decide) (by rw [he]; rfl) hpl) fun σ H Q ⟨ρ, G, s, r, fi⟩ => ?_
  unfold dMakeSO at fi
  split at fi
  · rename_i rows q
    obtain ⟨a, vs, e, hH, nG, dp⟩ := r.ol q
    refine ⟨_, e, fun x dx nx nd ne => ?_⟩
    have nax : a ≠ x := ne_of_none hH nx
    refine ⟨x, dx, a, vs, G, rows, rfl, upd_same, ?_, nax, made_same nx nd s, made_none nx s, dp, FiX.out nx nd ne fi⟩
    exact SqL.of (by rw [upd_ne nax, upd_ne (ne_of_none hH nd)]; exact hH)
  · exact False.elim fi
/-! ### x = list(e), owned; x.clear() -/
theorem At.newOlx {K : PySem.W.Frag} {H0 G0 H G : Hp} {σ : L2.St} {ρ : Ev} (a : At K H0 G0 H G σ ρ) {i : Nat} {p : Addr} {vs : List V} {xs : List D} (n : H p = none) (dp : DpAll K G vs xs) : At K H0 G0 (upd H p (.lst vs)) G (σ.set i (some (.ref p))) (ρ.set i (.ol xs)) := by
  have g := Grow.beside (o := .lst vs) a.gr.gh n
  have a' := a.grow g
  refine ⟨a'.gr, a'.rep.set ⟨p, vs, rfl, upd_same, a.gr.gh.free n, dp⟩ fun b _ e j t _ h1 h2 h3 => ?_, fun j s b h1 h2 h3 => ?_⟩
  · cases e
    obtain ⟨⟨u, hu⟩, _⟩ := a.rep.addr h1 h2 h3
    rw [n] at hu; cases hu
  · by_cases hj : i = j
    · subst hj
      have hi : i < σ.length := by have := (List.getElem?_eq_some_iff.mp h3).1; simpa using this
      rw [List.getElem?_set_self hi] at h3; cases h3
      exact a.gr.hh.free n
    · rw [List.getElem?_set_ne hj] at h1 h3; exact a.own j s b h1 h2 h3
def seqOf : D → Option (List D)
  | .lst xs => some xs
  | .tup xs => some xs
  | _ => none
def sLst (i : Nat) (f : Ev → Rs D) : Ev → SR := fun ρ => (f ρ).sr fun d => match seqOf d with
  | some xs => .nx (ρ.set i (.ol xs))
  | none => .bot
abbrev rListOf (K : PySem.W.Frag) : List V → Hp → VK → Prop := fun xs H Q => ∃ p ys, xs = [.ref p] ∧ (SqL K H p ys ∨ SqT K H p ys) ∧ ∀ l, H l = none → Q (.ref l) (upd H l (.lst ys))
theorem ds_lst {i : Nat} (h : PS X st (tAsg (tCB (rListOf X.K) (tCons (tD X.K E fa) tNil)) (gName i))) : DS X E st (sLst i fa) := by
  refine psI h fun D σ H ⟨H0, G0, ρ, G, at_, fi⟩ => ?_
  refine ⟨ρ, G, at_.gr.gh, at_.rep, (fi.sr at_).imp fun d H1 G1 g1 ⟨a1, fi1⟩ v hv => ?_⟩
  cases hv with
  | lst h1 h2 => exact ⟨_, _, rfl, .inl (SqL.of (g1.gh _ _ h1)), fun l nl => fi1 _ _ G1 (Same.refl _) (a1.newOlx nl h2)⟩
  | tup h1 h2 => exact ⟨_, _, rfl, .inr (KD.SqT.mono g1.gh h1), fun l nl => fi1 _ _ G1 (Same.refl _) (a1.newOlx nl h2)⟩
  | _ => exact False.elim fi1
def sClear (i : Nat) : Ev → SR := fun ρ => match ρ[i]? with
  | some (.ol _) => .nx (ρ.set i (.ol []))
  | _ => .bot
theorem ds_clear {i : Nat} (h : PS X st (tDrop (tBM0 X.K "list" rClear (tVar i)))) : DS X E st (sClear i) := by
  refine psI h fun D σ H ⟨H0, G0, ρ, G, at_, fi⟩ => ?_
  unfold sClear at fi
  split at fi
  · rename_i xs q
    obtain ⟨a, vs, e, hH, nG, dp⟩ := at_.rep.ol q
    refine ⟨_, e, .inl ⟨rfl, _, SqL.of hH⟩, a, vs, rfl, rfl, hH, ?_⟩
    exact fi σ _ G (Same.refl _) (at_.put q rfl e ⟨a, [], rfl, upd_same, nG, .nil⟩)
  · exact False.elim fi
end
/-- Signature.__init__ keeps its promise -/
def SigF (P : Program) (w : World) (K : PySem.W.Frag) (mg : Str → Option Value) (base : Heap) (k : Nat) (chk : List D → Rs D) : Prop :=
  ∃ fd ps, FnOk P w K mg base (L2.CX P w) k (He.ma K (He.ga K "Signature") "__init__") fd ps (spS K chk) ∧ Binds K fd ps []
section
variable {X : Cx} {E : XK} {e : Expr} {fa : Ev → Rs D} {pos p : Pos}
theorem de_makeSF {k : Nat} {chk : List D → Rs D} (F : SigF X.prog X.w X.K X.mg X.base k chk) (M : Mk X.K (He.ga X.K "Signature") (He.ma X.K (He.ga X.K "Signature") "__init__")) (hr : Room (k + 1) X.A) (hm : X.mg "Signature" = some (.ref (He.ga X.K "Signature"))) (hx : Passes (L2.CX X.prog X.w) X E)
    (ha : DE X E e fa) (hg : Gl X "Signature" := by rfl) (he : starEach [e] X.env = [(false, eval e X.env)] := by rfl) (hpl : (backTo pos (starEach [] X.env)).any (·.1) = false := by rfl) :
    DE X E (.Call (.Name "Signature" p) [e] [] pos) (dMakeS chk fa) := by
  obtain ⟨fd, ps, a, b⟩ := F
  exact de_makeS M a hr hm b hx ha hg he hpl
theorem de_makeSFO {k i : Nat} {chk : List D → Rs D} (F : SigF X.prog X.w X.K X.mg X.base k chk) (M : Mk X.K (He.ga X.K "Signature") (He.ma X.K (He.ga X.K "Signature") "__init__")) (hr : Room (k + 1) X.A) (hm : X.mg "Signature" = some (.ref (He.ga X.K "Signature"))) (hx : Passes (L2.CX X.prog X.w) X E)
    (ha : PE X e (tVar i)) (hg : Gl X "Signature" := by rfl) (he : starEach [e] X.env = [(false, eval e X.env)] := by rfl) (hpl : (backTo pos (starEach [] X.env)).any (·.1) = false := by rfl) :
    DE X E (.Call (.Name "Signature" p) [e] [] pos) (dMakeSO chk i) := by
  obtain ⟨fd, ps, a, b⟩ := F
  exact de_makeSO M a hr hm b hx ha hg he hpl
end
end KD

/-! KD8: the law's end. -/
namespace KD
open PySem L2
/-! ### products by written numbers -/
theorem mul_48271 (i : Int) : okMul i 48271 = true := okMul_r i (by decide)
theorem mul_7919 (i : Int) : okMul i 7919 = true := okMul_r i (by decide)
theorem mul_69621 (i : Int) : okMul i 69621 = true := okMul_r i (by decide)
theorem mul_5 (i : Int) : okMul 5 i = true := okMul_l i (by decide)
theorem pow_18 : gPow (.int 10) (.int 18) = .ok (.int 1000000000000000000) := by
  have h : okPow 10 18 = true := by decide
  simp [gPow, h]
theorem dp_ints' {K : PySem.W.Frag} {G : Hp} : ∀ ns : List Int, DpAll K G (ns.map V.int) (ns.map D.int)
  | [] => .nil
  | n :: ns => .cons (.int n) (dp_ints' ns)
theorem law_end {l : PySem.W.OpenLaw} {n k : Nat} {q : Program} {loose : List Str} {XP : (Str → Option Value) → Heap → Prop} {YP : World → Heap → Prop} {d : DefRec} {x : Str}
    (hn : l.most = some n) (hn2 : n ≤ sizeLine) (hdf : d.params.defaults = []) (hr : Room k callerA)
    (F : ∀ (w : World) (mg : Str → Option Value) (fa : Addr) (h : Heap), YP w h → h.Ns mainGlobals mg → mg d.name = some (.ref fa) →
      ∃ (K : PySem.W.Frag) (fd : FuncData) (g : List D → Rs D), K.In h ∧ (∀ (s : Shared) (u : Value), BindsTo s fd ⟨[u], []⟩ [(x, u)]) ∧
        (∀ ns : List Int, ns.length ≤ n → g [.fls (ns.map D.int)] = .ok (.bl true)) ∧
        ∀ base : Heap, K.In base → base.Ns mainGlobals mg → FnOk l.prog w K mg base (L2.CX l.prog w) k fa fd [x] (spD K 1 g)) :
    PySem.W.WalkO q loose XP YP l.row.toRowW d [] (fun f vs => PySem.call f vs) := by
  refine Att.attach_call hn hdf fun w s₀ s₁ mg mb fa o pm cd doc a vs ns G Y ho hd hcd hmg hobj hints hlen hg => ?_
  obtain ⟨K, fd, g, KX, hb, hg1, hF⟩ := F w mg fa _ Y G.T.g hmg
  refine law_call KX G.T.g G.T.b G.T.builtins G.T.nolimit hg hobj hints (Nat.le_trans hlen hn2) hr hF hb (fun H hO hS => ?_) fun H e s' ⟨_, _, _, _, _, _, _, _, _, _, _, _, z⟩ => z
  refine ⟨H, [.fls (ns.map D.int)], Same.refl _, .cons (.fls hS (dp_ints' ns)) .nil, rfl, ?_⟩
  rw [hg1 ns hlen]
  intro H' G' _ v hv
  cases hv
  rfl
end KD

/-! KD9: walking lists, tuples and texts by one rule. -/
namespace L2
open PySem PySem.Spec PyProof.Rows
def iSeq (K : PySem.W.Frag) (tl : TE) : TI := fun σ H R => tl σ H fun x H1 =>
  (∃ a, x = .ref a ∧ (∃ xs, SqL K H1 a xs) ∧ R (Itl K a) H1) ∨ (∃ a, x = .ref a ∧ (∃ xs, SqT K H1 a xs) ∧ R (Itt K a) H1) ∨ ∃ z, x = .str z ∧ R (Its z) H1
theorem pi_seq {X : Cx} {tg l : Expr} {tl : TE} (hl : PE X l tl) : PI X tg l (iSeq X.K tl) := by
  refine ⟨fun pins s σ H R I h => ?_⟩
  refine thn (hl.run pins s σ H _ I h) fun v s1 ⟨x, H1, I1, r1, q1⟩ => ?_
  rcases q1 with ⟨a, e, ⟨xs, hq⟩, q⟩ | ⟨a, e, ⟨xs, hq⟩, q⟩ | ⟨z, e, q⟩
  · subst e
    cases r1
    obtain ⟨its, rv, p, hz⟩ := I1.list hq
    refine wpAny_pyIter_list p.isList ?_
    refine ⟨s1.heap.objs.size, [s1.heap.objs.size], _, _, H1, rfl, I1.kept (t' := s1.toks) fun b o e => Heap.get?_push_of_some _ e, turn_list a _, ⟨_, Heap.get?_push_size _ rfl, rfl, rfl⟩, fun b hb => ?_, q⟩
    have e : b = s1.heap.objs.size := by simpa using hb
    subst e
    exact I1.fpOk (Nat.le_refl _) (I1.hok.fresh (Nat.le_refl _))
  · subst e
    cases r1
    obtain ⟨its, rv, p, hz⟩ := I1.tuple hq
    refine wpAny_pyIter_tuple (show s1.heap.IsTuple a its.toArray from p) ?_
    refine ⟨s1.heap.objs.size, [s1.heap.objs.size], _, _, H1, rfl, I1.kept (t' := s1.toks) fun b o e => Heap.get?_push_of_some _ e, turn_tuple a _, ⟨_, Heap.get?_push_size _ rfl, rfl, rfl⟩, fun b hb => ?_, q⟩
    have e : b = s1.heap.objs.size := by simpa using hb
    subst e
    exact I1.fpOk (Nat.le_refl _) (I1.hok.fresh (Nat.le_refl _))
  · subst e
    obtain ⟨t, rfl⟩ := r1
    cases ha : z.cps.all (· < 128)
    · exact wpAny_pyIter_wide ha (pi_one (tk := s1.toks) I1 _ (turn_str _ z t "str_iterator" (.inr rfl)) ⟨_, Heap.get?_push_size _ rfl, rfl, rfl⟩ q)
    · exact wpAny_pyIter_ascii ha (pi_one (tk := s1.toks) I1 _ (turn_str _ z t "str_ascii_iterator" (.inl rfl)) ⟨_, Heap.get?_push_size _ rfl, rfl, rfl⟩ q)
end L2
namespace KD
open PySem L2
def asSeq : D → Rs (List D)
  | .lst xs => .ok xs
  | .fls xs => .ok xs
  | .tup xs => .ok xs
  | .str z => .ok (signs z)
  | _ => .bot
def dItA (f : Ev → Rs D) : Ev → Rs (List D) := fun ρ => (f ρ).bind asSeq
theorem di_seq {X : Cx} {E : XK} {tg e : Expr} {fa : Ev → Rs D} (h : DE X E e fa) : DI X E tg e (dItA fa) := by
  refine piI (pi_seq h) fun σ H R ⟨ρ, G, s, r, fi⟩ => ?_
  refine ⟨ρ, G, s, r, fi.bind.imp fun d H1 G1 g1 fi1 v hv => ?_⟩
  cases hv with
  | lst h1 h2 => exact .inl ⟨_, rfl, ⟨_, SqL.of (g1.gh _ _ h1)⟩, fi1.now g1.gh _ (itD_list (SqL.of h1) h2)⟩
  | fls h1 h2 => exact .inl ⟨_, rfl, ⟨_, g1.gh.seq h1⟩, fi1.now g1.gh _ (itD_list h1 h2)⟩
  | tup h1 h2 => exact .inr (.inl ⟨_, rfl, ⟨_, KD.SqT.mono g1.gh h1⟩, fi1.now g1.gh _ (itD_tup h1 h2)⟩)
  | str z hz => exact .inr (.inr ⟨z, rfl, fi1.now g1.gh _ (itD_str hz)⟩)
  | _ => exact False.elim fi1
/-! ### comprehensions and loops, as functions of lists -/
theorem compL_map {t : D → Ev → Option Ev} {c : Ev → Rs Bool} {f : Ev → Rs D} {ρ : Ev} (h : D → D) : ∀ ds : List D, (∀ d ∈ ds, ∃ ρ', t d ρ = some ρ' ∧ c ρ' = .ok true ∧ f ρ' = .ok (h d)) → compL t c f ρ ds = .ok (ds.map h)
  | [], _ => rfl
  | d :: ds, hs => by
    obtain ⟨ρ', e1, e2, e3⟩ := hs d List.mem_cons_self
    have ih := compL_map (t := t) (c := c) (f := f) (ρ := ρ) h ds fun d hd => hs d (List.mem_cons_of_mem _ hd)
    unfold compL
    rw [e1]
    simp [e2, e3, ih]
theorem compL_filter {t : D → Ev → Option Ev} {c : Ev → Rs Bool} {f : Ev → Rs D} {ρ : Ev} (p : D → Bool) (h : D → D) : ∀ ds : List D, (∀ d ∈ ds, ∃ ρ', t d ρ = some ρ' ∧ c ρ' = .ok (p d) ∧ (p d = true → f ρ' = .ok (h d))) → compL t c f ρ ds = .ok ((ds.filter p).map h)
  | [], _ => rfl
  | d :: ds, hs => by
    obtain ⟨ρ', e1, e2, e3⟩ := hs d List.mem_cons_self
    have ih := compL_filter (t := t) (c := c) (f := f) (ρ := ρ) p h ds fun d hd => hs d (List.mem_cons_of_mem _ hd)
    unfold compL
    rw [e1]
    cases q : p d with
    | true => simp [e2, e3 q, ih, q]
    | false => simp [e2, ih, q]
theorem forL_ind {t : D → Ev → Option Ev} {wp : List Nat} {body : Ev → SR} (P : Nat → Ev → Prop) : ∀ (ds : List D) (ρ : Ev) (i : Nat), P i ρ →
    (∀ j d ρ, ds[j]? = some d → P (i + j) ρ → ∃ ρ' ρ2, t d ρ = some ρ' ∧ (body ρ' = .nx ρ2 ∨ body ρ' = .ct ρ2) ∧ P (i + j + 1) (wipeE wp ρ2)) → ∃ ρ', forL t wp body ds ρ = .nx ρ' ∧ P (i + ds.length) ρ'
  | [], ρ, i, h0, _ => ⟨ρ, rfl, h0⟩
  | d :: ds, ρ, i, h0, hs => by
    obtain ⟨ρ', ρ2, e1, e2, h1⟩ := hs 0 d ρ rfl h0
    obtain ⟨ρ3, e3, h3⟩ := forL_ind P ds (wipeE wp ρ2) (i + 1) h1 (fun j d ρ hd hp => by
      obtain ⟨a, b, q1, q2, q3⟩ := hs (j + 1) d ρ (by simpa using hd) (by rw [show i + (j + 1) = i + 1 + j by omega]; exact hp)
      exact ⟨a, b, q1, q2, by rw [show i + 1 + j + 1 = i + (j + 1) + 1 by omega]; exact q3⟩)
    refine ⟨ρ3, ?_, by rw [List.length_cons, show i + (ds.length + 1) = i + 1 + ds.length by omega]; exact h3⟩
    unfold forL
    rw [e1]
    rcases e2 with e2 | e2 <;> (dsimp only; rw [e2]; exact e3)
/-- a loop that carries a state s, by its function -/
theorem forL_fold {S : Type} {t : D → Ev → Option Ev} {wp : List Nat} {body : Ev → SR} (enc : S → Ev) (step : S → D → S) : ∀ (ds : List D) (s : S),
    (∀ s d, d ∈ ds → ∃ ρ' ρ2, t d (enc s) = some ρ' ∧ (body ρ' = .nx ρ2 ∨ body ρ' = .ct ρ2) ∧ wipeE wp ρ2 = enc (step s d)) → forL t wp body ds (enc s) = .nx (enc (ds.foldl step s))
  | [], s, _ => rfl
  | d :: ds, s, hs => by
    obtain ⟨ρ', ρ2, e1, e2, e3⟩ := hs s d List.mem_cons_self
    have ih := forL_fold enc step ds (step s d) fun s d hd => hs s d (List.mem_cons_of_mem _ hd)
    unfold forL
    rw [e1, List.foldl_cons]
    rcases e2 with e2 | e2 <;> (dsimp only; rw [e2]; dsimp only; rw [e3]; exact ih)
/-- a loop whose body does nothing but may return -/
theorem forL_same {t : D → Ev → Option Ev} {wp : List Nat} {body : Ev → SR} {ρ : Ev} : ∀ (ds : List D),
    (∀ d ∈ ds, ∃ ρ' ρ2, t d ρ = some ρ' ∧ (body ρ' = .nx ρ2 ∨ body ρ' = .ct ρ2) ∧ wipeE wp ρ2 = ρ) → forL t wp body ds ρ = .nx ρ
  | [], _ => rfl
  | d :: ds, hs => by
    obtain ⟨ρ', ρ2, e1, e2, e3⟩ := hs d List.mem_cons_self
    have ih := forL_same (t := t) (wp := wp) (body := body) (ρ := ρ) ds fun d hd => hs d (List.mem_cons_of_mem _ hd)
    unfold forL
    rw [e1]
    rcases e2 with e2 | e2 <;> (dsimp only; rw [e2]; dsimp only; rw [e3]; exact ih)
end KD

/-! KP1: plain facts of data operations: indices, texts by their codes. -/
namespace KD
open PySem L2
theorem atI_of {α : Type} {xs : List α} {i : Int} (h0 : 0 ≤ i) (h1 : i < xs.length) : atI xs i = some (xs[i.toNat]'(by omega)) := by
  have e : i = (i.toNat : Int) := by omega
  have h2 : xs[i.toNat]? = some (xs[i.toNat]'(by omega)) := List.getElem?_eq_getElem (by omega)
  have h3 := atI_nat h2
  rw [← e] at h3
  exact h3
theorem atI_cast {α : Type} {xs : List α} {k : Nat} (h : k < xs.length) : atI xs (k : Int) = some xs[k] := atI_nat (by simp [h])
theorem atI_map {α β : Type} (f : α → β) {xs : List α} {i : Int} {x : α} (h : atI xs i = some x) : atI (xs.map f) i = some (f x) := by
  unfold atI at h ⊢
  rw [List.length_map]
  cases q : ixN xs.length i with
  | none => rw [q] at h; cases h
  | some j =>
    rw [q] at h
    have h' : xs[j]? = some x := h
    show (xs.map f)[j]? = some (f x)
    rw [List.getElem?_map, h']; rfl
/-- a text by its codes -/
def sO (l : List Nat) : Str := ⟨l.toArray⟩
theorem sO_inj {a b : List Nat} (h : sO a = sO b) : a = b := by
  have : a.toArray = b.toArray := congrArg Str.cps h
  simpa using this
theorem sO_cps (l : List Nat) : (sO l).cps.toList = l := by simp [sO]
theorem sO_of (x : Str) : x = sO x.cps.toList := by cases x; simp [sO]
theorem sO_len (l : List Nat) : (sO l).length = l.length := by
  show l.toArray.size = l.length
  simp
theorem sO_app (a b : List Nat) : sO a ++ sO b = sO (a ++ b) := by
  show (⟨a.toArray ++ b.toArray⟩ : Str) = ⟨(a ++ b).toArray⟩
  simp
theorem sO_beq (a b : List Nat) : (sO a == sO b) = (a == b) := by
  by_cases h : a = b
  · subst h; simp
  · have : sO a ≠ sO b := fun e => h (sO_inj e)
    rw [beq_eq_false_iff_ne.mpr this, beq_eq_false_iff_ne.mpr h]
theorem line1000 : 1000 ≤ sizeLine := by rw [sizeLine_eq]; decide
theorem gAdd_sO (a b : List Nat) (h : a.length + b.length ≤ 1000) : gAdd (.str (sO a)) (.str (sO b)) = .ok (.str (sO (a ++ b))) := by
  have : (sO a).length + (sO b).length ≤ sizeLine := by rw [sO_len, sO_len]; exact Nat.le_trans h line1000
  simp [gAdd, this, sO_app]
theorem gMul_sO (a : List Nat) (n : Int) (h0 : 0 ≤ n) (h1 : n ≤ 1000) (h2 : a.length ≤ 1000) : gMul (.str (sO a)) (.int n) = .ok (.str (sO (List.replicate n.toNat a).flatten)) := by
  have : (sO a).length ≤ 1000 := by rw [sO_len]; exact h2
  have e : (sO a).cps.toList = a := sO_cps a
  unfold gMul
  dsimp only
  rw [if_pos ⟨h0, h1, this⟩, e]
  rfl
theorem flat1 (c n : Nat) : (List.replicate n [c]).flatten = List.replicate n c := by
  induction n with
  | zero => rfl
  | succ n ih => rw [List.replicate_succ, List.flatten_cons, ih, List.replicate_succ]; rfl
theorem gIx_sO (l : List Nat) (i : Int) (h : l.length ≤ 1000) (h0 : 0 ≤ i) (h1 : i < l.length) : gIx (.str (sO l)) (.int i) = .ok (.str (sO [l[i.toNat]'(by omega)])) := by
  have h2 : (sO l).length ≤ 1000 := by rw [sO_len]; exact h
  simp only [gIx, h2, if_true, sO_cps, atI_of h0 h1]
  rfl
theorem sO_ok {l : List Nat} : PyData.strOk (sO l) = true ↔ ∀ c ∈ l, c < 0x110000 := by rw [strOk_iff, sO_cps]
theorem signs_sO (l : List Nat) : signs (sO l) = l.map fun c => .str (sO [c]) := by simp [signs, sO]
theorem eqD_sO (a b : List Nat) : eqD (.str (sO a)) (.str (sO b)) = (a == b) := by
  show PyData.eqv (.str (sO a)) (.str (sO b)) = _
  rw [PyData.eqv]
  exact sO_beq a b
theorem eqD_int (i j : Int) : eqD (.int i) (.int j) = (i == j) := by
  show PyData.eqv (.int i) (.int j) = _
  rw [PyData.eqv]
theorem asRng_nat (c : Nat) (h : c < 1000000000) : asRng (.int (c : Int)) = .ok (rngD 0 c) := by
  have h1 : -1000000000 < (c : Int) ∧ (c : Int) < 1000000000 := by omega
  unfold asRng
  dsimp only
  rw [if_pos h1, Int.toNat_natCast]
theorem len_rng (lo : Int) (n : Nat) : (rngD lo n).length = n := rngD_length lo n
theorem mem_rng {lo : Int} {n : Nat} {d : D} (h : d ∈ rngD lo n) : ∃ k : Nat, k < n ∧ d = .int (lo + k) := by
  unfold rngD at h
  obtain ⟨k, hk, rfl⟩ := List.mem_map.mp h
  exact ⟨k, List.mem_range.mp hk, rfl⟩
theorem mem_rng0 {n : Nat} {d : D} (h : d ∈ rngD 0 n) : ∃ k : Nat, k < n ∧ d = .int (k : Int) := by
  obtain ⟨k, hk, rfl⟩ := mem_rng h
  exact ⟨k, hk, by rw [Int.zero_add]⟩
theorem nodup_lt : ∀ (n : Nat) (l : List Nat), l.Nodup → (∀ x ∈ l, x < n) → l.length ≤ n
  | 0, l, _, h => by
    cases l with
    | nil => exact Nat.le_refl _
    | cons a l => exact absurd (h a List.mem_cons_self) (Nat.not_lt_zero _)
  | n + 1, l, nd, h => by
    have ih := nodup_lt n (l.erase n) (nd.erase n) fun x hx => by
      have := (nd.mem_erase_iff).mp hx
      have := h x this.2
      omega
    by_cases hn : n ∈ l
    · rw [List.length_erase_of_mem hn] at ih; omega
    · rw [List.erase_of_not_mem hn] at ih; omega
theorem map_rng {β : Type} (f : D → β) (n : Nat) : (rngD 0 n).map f = (List.range n).map fun k : Nat => f (.int (k : Int)) := by
  simp [rngD, Function.comp_def]
theorem cutD_all (xs : List D) : cutD xs none none = xs := by
  simp [cutD, HT.sIx_none]
theorem cutD_to (xs : List D) (k : Nat) : cutD xs none (some (k : Int)) = xs.take k := by
  unfold cutD
  rw [HT.sIx_none, HT.sIx_nat]
  simp only [List.drop_zero, Nat.sub_zero]
  by_cases h : k ≤ xs.length
  · rw [Nat.min_eq_left h]
  · rw [Nat.min_eq_right (by omega), List.take_length, List.take_of_length_le (by omega)]
theorem cutD_from (xs : List D) (k : Nat) : cutD xs (some (k : Int)) none = xs.drop k := by
  unfold cutD
  rw [HT.sIx_none, HT.sIx_nat]
  by_cases h : k ≤ xs.length
  · rw [Nat.min_eq_left h, List.take_of_length_le (by simp)]
  · rw [Nat.min_eq_right (by omega), List.drop_length, List.drop_of_length_le (by omega)]
    simp
mutual
theorem eqv_self : ∀ d : D, d.plain = true → PyData.eqv d.py d.py = true
  | .non, _ => by simp [D.py, PyData.eqv]
  | .bl b, _ => by simp [D.py, PyData.eqv]
  | .int i, _ => by simp [D.py, PyData.eqv]
  | .str x, _ => by simp [D.py, PyData.eqv]
  | .tup xs, h => by
    have := eqv_selfs xs (by simpa [D.plain] using h)
    simp [D.py, PyData.eqv, this]
  | .lst xs, h => by
    have := eqv_selfs xs (by simpa [D.plain] using h)
    simp [D.py, PyData.eqv, this]
  | .fls xs, h => by
    have := eqv_selfs xs (by simpa [D.plain] using h)
    simp [D.py, PyData.eqv, this]
  | .dic _ _, h => by simp [D.plain] at h
  | .ob _ _ _, h => by simp [D.plain] at h
theorem eqv_selfs : ∀ ds : List D, D.plains ds = true → PyData.eqvAll (D.pys ds) (D.pys ds) = true
  | [], _ => by simp [D.pys, PyData.eqvAll]
  | d :: ds, h => by
    have h' : d.plain = true ∧ D.plains ds = true := by simpa [D.plains] using h
    simp [D.pys, PyData.eqvAll, eqv_self d h'.1, eqv_selfs ds h'.2]
end
theorem eqD_self (d : D) (h : d.plain = true) : eqD d d = true := eqv_self d h
/-! ### one statement after another -/
section
variable {ρ ρ' : Ev} {f : Ev → Rs D} {g a b : Ev → SR} {c : Ev → Rs Bool} {i : Nat} {d : D}
theorem seq_nx (h : a ρ = .nx ρ') : sSeq a g ρ = g ρ' := by unfold sSeq; rw [h]; rfl
theorem seq_rt (h : a ρ = .rt d) : sSeq a g ρ = .rt d := by unfold sSeq; rw [h]; rfl
theorem seq_set (h : f ρ = .ok d) : sSeq (sSet i f) g ρ = g (ρ.set i (.dt d)) := by unfold sSeq sSet; rw [h]; rfl
theorem seq_ifT (h : c ρ = .ok true) : sSeq (sIf c a b) g ρ = (a ρ).seq g := by unfold sSeq sIf; rw [h]; rfl
theorem seq_ifF (h : c ρ = .ok false) : sSeq (sIf c a b) g ρ = (b ρ).seq g := by unfold sSeq sIf; rw [h]; rfl
theorem seq_skip (h : c ρ = .ok false) : sSeq (sIf c a sNil) g ρ = g ρ := by unfold sSeq sIf; rw [h]; rfl
theorem seq_new : sSeq (sNew i) g ρ = g (ρ.set i (.ol [])) := rfl
theorem seq_for {it : Ev → Rs (List D)} {t : D → Ev → Option Ev} {wp : List Nat} {ds : List D} (h : it ρ = .ok ds) (h2 : forL t wp a ds ρ = .nx ρ') : sSeq (sFor it t wp a) g ρ = g ρ' := by
  unfold sSeq sFor; rw [h]; show (forL t wp a ds ρ).seq g = _; rw [h2]; rfl
theorem ret_ok (h : f ρ = .ok d) : sRet f ρ = .rt d := by unfold sRet; rw [h]; rfl
end
end KD

/-! KD10: order of nested tuples, list.index, owned lists read in place, fresh owned lists, recursion. -/
namespace KD
open PySem L2
/-! ### nested order -/
mutual
def ltP : PyData → PyData → Bool
  | .int i, .int j => decide (i < j)
  | .tuple xs, .tuple ys => ltPs xs ys
  | _, _ => false
def ltPs : List PyData → List PyData → Bool
  | [], ys => decide (0 < ys.length)
  | _ :: _, [] => false
  | x :: xs, y :: ys => if PyData.eqv x y = true then ltPs xs ys else ltP x y
end
mutual
def ltOk : PyData → PyData → Bool
  | .int _, .int _ => true
  | .tuple xs, .tuple ys => ltOks xs ys
  | _, _ => false
def ltOks : List PyData → List PyData → Bool
  | [], _ => true
  | _ :: _, [] => true
  | x :: xs, y :: ys => ltOk x y && ltOks xs ys
end
theorem lexAt_shift (e r : Nat → Bool) (z : Bool) : ∀ (k i : Nat), Ob.lexAt e r z (i + 1) k = Ob.lexAt (fun j => e (j + 1)) (fun j => r (j + 1)) z i k
  | 0, i => rfl
  | k + 1, i => by
    rw [Ob.lexAt_succ, Ob.lexAt_succ, lexAt_shift e r z k (i + 1)]
theorem lex_ltPs : ∀ (xs ys : List PyData), Ob.lexAt (SeqAt.pairEq xs ys) (fun j => ltP (xs.getD j .none) (ys.getD j .none)) (decide (xs.length < ys.length)) 0 (min xs.length ys.length) = ltPs xs ys
  | [], ys => by simp [Ob.lexAt, ltPs]
  | x :: xs, [] => by simp [Ob.lexAt, ltPs]
  | x :: xs, y :: ys => by
    have ih := lex_ltPs xs ys
    have e1 : min (x :: xs).length (y :: ys).length = min xs.length ys.length + 1 := by simp [Nat.succ_min_succ]
    rw [e1, Ob.lexAt_succ, lexAt_shift]
    have e2 : decide ((x :: xs).length < (y :: ys).length) = decide (xs.length < ys.length) := by simp
    rw [e2]
    have e3 : SeqAt.pairEq (x :: xs) (y :: ys) 0 = PyData.eqv x y := rfl
    rw [e3, ltPs]
    have e4 : (fun j => SeqAt.pairEq (x :: xs) (y :: ys) (j + 1)) = SeqAt.pairEq xs ys := rfl
    have e5 : (fun j => (fun j => ltP ((x :: xs).getD j .none) ((y :: ys).getD j .none)) (j + 1)) = fun j => ltP (xs.getD j .none) (ys.getD j .none) := rfl
    rw [e4, e5, ih]
    rfl
mutual
theorem rc_ltP : ∀ (d e : PyData) (A : Around) (s : Shared) (a b : Value) (as bs : List Addr), Reads s.heap a d as → Reads s.heap b e bs → d.canLay0 = true → e.canLay0 = true → ltOk d e = true → A.units + d.depth < cLine → Ob.RcOp .Lt A s a b (ltP d e)
  | .int i, e, A, s, a, b, as, bs, ra, rb, ha, hb, ho, hu => by
    cases rb <;> first | (simp [ltOk] at ho; done) | skip
    cases ra
    exact Ob.RcOp.lt_int _ _ _ _
  | .tuple xs, e, A, s, a, b, as, bs, ra, rb, ha, hb, ho, hu => by
    cases rb <;> first | (simp [ltOk] at ho; done) | skip
    rename_i l o vs n ys h1 h2 h3 h4
    cases ra with
    | tuple k1 k2 k3 k4 =>
      rename_i l' o' vs' n'
      have hl := SeqAt.ReadsAll.length xs vs'.toList _ k4
      have hl2 := SeqAt.ReadsAll.length ys vs.toList _ h4
      have hd : A.units + 1 + PyData.depthAll xs < cLine := by
        have : (PyData.tuple xs).depth = PyData.depthAll xs + 1 := by simp [PyData.depth]
        omega
      have g1 : ltP (.tuple xs) (.tuple ys) = ltPs xs ys := by simp [ltP]
      have ho' : ltOks xs ys = true := by simpa [ltOk] using ho
      have ha' : PyData.canLayAll0 xs = true := by simpa [PyData.canLay0] using ha
      have hb' : PyData.canLayAll0 ys = true := by simpa [PyData.canLay0] using hb
      rw [g1, ← lex_ltPs xs ys, ← hl, ← hl2]
      have R := Ob.RcOp.tuples_lt (A := A) (s := s) (items := vs') (items2 := vs) (e := SeqAt.pairEq xs ys) (r := fun j => ltP (xs.getD j .none) (ys.getD j .none)) ⟨_, k1, k2, _, k3⟩ ⟨_, h1, h2, _, h3⟩ (by omega)
        (fun j j1 j2 => by
          have := SeqAt.eqAt_readsAll xs ys A.in1 s vs'.toList vs.toList _ _ k4 h4 ha' hb' (by show A.units + 1 + _ < cLine; omega) j (by simpa using j1) (by simpa using j2)
          simpa using this)
        (fun j j1 j2 _ => by
          have := rc_ltPs xs ys A.in1 s vs'.toList vs.toList _ _ k4 h4 ha' hb' ho' hd j (by simpa using j1) (by simpa using j2)
          simpa using this)
      simpa using R
  | .none, e, A, s, a, b, as, bs, ra, rb, ha, hb, ho, hu => by simp [ltOk] at ho
  | .bool _, e, A, s, a, b, as, bs, ra, rb, ha, hb, ho, hu => by simp [ltOk] at ho
  | .str _, e, A, s, a, b, as, bs, ra, rb, ha, hb, ho, hu => by simp [ltOk] at ho
  | .list _, e, A, s, a, b, as, bs, ra, rb, ha, hb, ho, hu => by simp [ltOk] at ho
  | .dict _, e, A, s, a, b, as, bs, ra, rb, ha, hb, ho, hu => by simp [ltOk] at ho
theorem rc_ltPs : ∀ (xs ys : List PyData) (A : Around) (s : Shared) (vs ws : List Value) (as bs : List Addr), ReadsAll s.heap vs xs as → ReadsAll s.heap ws ys bs → PyData.canLayAll0 xs = true → PyData.canLayAll0 ys = true → ltOks xs ys = true → A.units + PyData.depthAll xs < cLine →
    ∀ j (h1 : j < vs.length) (h2 : j < ws.length), Ob.RcOp .Lt A s vs[j] ws[j] (ltP (xs.getD j .none) (ys.getD j .none))
  | [], _, _, _, _, _, _, _, ra, _, _, _, _, _, j, h1, _ => by cases ra; exact absurd h1 (Nat.not_lt_zero _)
  | _ :: _, [], _, _, _, _, _, _, _, rb, _, _, _, _, j, _, h2 => by cases rb; exact absurd h2 (Nat.not_lt_zero _)
  | x :: xs, y :: ys, A, s, _, _, _, _, ra, rb, ha, hb, ho, hu, j, h1, h2 => by
    have ha' : x.canLay0 = true ∧ PyData.canLayAll0 xs = true := by simpa [PyData.canLayAll0] using ha
    have hb' : y.canLay0 = true ∧ PyData.canLayAll0 ys = true := by simpa [PyData.canLayAll0] using hb
    have ho' : ltOk x y = true ∧ ltOks xs ys = true := by simpa [ltOks] using ho
    have hd : PyData.depthAll (x :: xs) = max x.depth (PyData.depthAll xs) := by simp [PyData.depthAll]
    have m1 := Nat.le_max_left x.depth (PyData.depthAll xs)
    have m2 := Nat.le_max_right x.depth (PyData.depthAll xs)
    cases ra with
    | cons r rs =>
      cases rb with
      | cons r' rs' =>
        cases j with
        | zero => exact rc_ltP x y A s _ _ _ _ r r' ha'.1 hb'.1 ho'.1 (by omega)
        | succ j => exact rc_ltPs xs ys A s _ _ _ _ rs rs' ha'.2 hb'.2 ho'.2 (by omega) j (Nat.lt_of_succ_lt_succ h1) (Nat.lt_of_succ_lt_succ h2)
end
/-- <, of ints and of nested tuples -/
def gLtT (x y : D) : Rs D := match x, y with
  | .int i, .int j => .ok (.bl (decide (i < j)))
  | x, y => if x.plain && y.plain && decide (x.dep ≤ 190) && ltOk x.py y.py then .ok (.bl (ltP x.py y.py)) else .bot
theorem dd_ltT {X : Cx} (hu : X.A.units + 200 < cLine) : OpDD X (compareOp .Lt) gLtT := by
  refine ⟨fun x y H Q => ∃ d e, L2.Dp X.K H x d ∧ L2.Dp X.K H y e ∧ d.canLay0 = true ∧ e.canLay0 = true ∧ d.depth ≤ 190 ∧ ltOk d e = true ∧ Q (.bl (ltP d e)) H, ?_, fun E G H x y dx dy Q s hx hy fi => ?_⟩
  · intro pins st σ H x y v u Q I rx ry h
    obtain ⟨d, e, hd, he, sd, se, sm, so, q⟩ := h
    obtain ⟨as, r1⟩ := Dp.reads I d x v hd rx
    obtain ⟨bs, r2⟩ := Dp.reads I e y u he ry
    have z : wpAny (model X.prog X.w) X.A (compareOp .Lt v u) (EP X pins σ Q) X.xe st := rc_ltP d e X.A st v u as bs r1 r2 sd se so (by omega) X.prog X.w X.xe (EP X pins σ Q) ⟨.bl _, H, I, rfl, q⟩
    exact z
  · have fi2 : Fi X.K E H G (if dx.plain && dy.plain && decide (dx.dep ≤ 190) && ltOk dx.py dy.py then .ok (.bl (ltP dx.py dy.py)) else .bot) (fun d H' G' => ∀ v, Dp X.K G' v d → Q v H') := by
      unfold gLtT at fi
      split at fi
      · rename_i i j
        have : (D.plain (.int i) && D.plain (.int j) && decide (D.dep (.int i) ≤ 190) && ltOk (D.py (.int i)) (D.py (.int j))) = true := by simp [D.plain, D.dep, D.py, ltOk]
        rw [if_pos this]
        have e : ltP (D.py (.int i)) (D.py (.int j)) = decide (i < j) := by simp [D.py, ltP]
        rw [e]; exact fi
      · exact fi
    by_cases c : (dx.plain && dy.plain && decide (dx.dep ≤ 190) && ltOk dx.py dy.py) = true
    · rw [if_pos c] at fi2
      have c' : ((dx.plain = true ∧ dy.plain = true) ∧ dx.dep ≤ 190) ∧ ltOk dx.py dy.py = true := by simpa using c
      obtain ⟨a1, a2, a3⟩ := Dp.pyD dx x c'.1.1.1 hx
      obtain ⟨b1, b2, b3⟩ := Dp.pyD dy y c'.1.1.2 hy
      exact ⟨_, _, hDp_up s _ _ a1, hDp_up s _ _ b1, a2, b2, by omega, c'.2, fi0 s fi2 (.bl _)⟩
    · rw [if_neg c] at fi2; exact False.elim fi2
end KD

/-! KD11: owned lists read in place, fresh owned lists, list.index, methods without arguments, recursion. -/
namespace KD
open PySem L2
section
variable {K : PySem.W.Frag} {G H : Hp} {σ : L2.St} {ρ : Ev}
theorem Rep.frz' (s : Same G H) (r : Rep K G H σ ρ) (i : Nat) : ∃ G', Same G G' ∧ Same G' H ∧ Rep K G' H σ (KD.frz i ρ) := by
  have a : At K (fun _ => none) (fun _ => none) H G σ ρ := ⟨⟨(fun _ _ h => by cases h), (fun _ _ h => by cases h), s, (fun _ _ _ => Or.inr rfl)⟩, r, fun _ _ _ _ _ _ => rfl⟩
  obtain ⟨G', sg, a'⟩ := a.frz i
  exact ⟨G', sg, a'.gr.gh, a'.rep⟩
end
def D.flat : D → Bool
  | .non => true
  | .bl _ => true
  | .int _ => true
  | .str _ => true
  | _ => false
theorem Dp.flatUp {K : PySem.W.Frag} {G G' : Hp} {v : V} {d : D} (f : d.flat = true) (h : Dp K G v d) : Dp K G' v d := by
  cases h with
  | non => exact .non
  | bl b => exact .bl b
  | int i => exact .int i
  | str x hx => exact .str x hx
  | _ => cases f
def flatR (r : Rs D) : Rs D := r.nox.bind fun d => if d.flat = true then .ok d else .bot
def dTmp (i : Nat) (f : Ev → Rs D) : Ev → Rs D := fun ρ => flatR (f (frz i ρ))
def dtTmp (i : Nat) (f : Ev → Rs Bool) : Ev → Rs Bool := fun ρ => (f (frz i ρ)).nox
section
variable {X : Cx} {E : XK} {e a b : Expr} {es : List Expr} {fa fb : Ev → Rs D} {fs : Ev → Rs (List D)} {ft : Ev → Rs Bool} {pos p p2 : Pos} {st : Stmt}
theorem Grow.back {G G1 G2 H H2 : Hp} (s : Same G G1) (g : Grow H G1 H2 G2) : Grow H G H2 G := ⟨g.hh, Same.refl _, (s.trans g.gg).trans g.gh, fun _ _ h => .inl h⟩
theorem de_tmp (i : Nat) (h : DE X E e fa) : DE X E e (dTmp i fa) := by
  refine peI h fun σ H Q ⟨ρ, G, s, r, fi⟩ => ?_
  obtain ⟨G', s1, s2, r2⟩ := r.frz' s i
  refine ⟨_, G', s2, r2, ?_⟩
  unfold dTmp flatR at fi
  cases q : fa (frz i ρ) with
  | ok d =>
    rw [q] at fi
    by_cases c : d.flat = true
    · have fi' : Fi X.K E H G (.ok d) (fun d H' G' => ∀ v, Dp X.K G' v d → Q v H') := by
        have e : ((Rs.ok d).nox.bind fun d => if d.flat = true then Rs.ok d else .bot) = .ok d := by rw [Rs.nox_ok, Rs.bind_ok, if_pos c]
        rw [e] at fi; exact fi
      exact fun H' G2 g v hv => fi' H' G (Grow.back s1 g) v (hv.flatUp c)
    · have e : ((Rs.ok d).nox.bind fun d => if d.flat = true then Rs.ok d else .bot) = .bot := by rw [Rs.nox_ok, Rs.bind_ok, if_neg c]
      rw [e] at fi; exact False.elim fi
  | xc c n f => rw [q] at fi; exact False.elim fi
  | bot => rw [q] at fi; exact False.elim fi
theorem dt_tmp (i : Nat) (h : DT X E e ft) : DT X E e (dtTmp i ft) := by
  refine ptI h fun σ H Q ⟨ρ, G, s, r, fi⟩ => ?_
  obtain ⟨G', s1, s2, r2⟩ := r.frz' s i
  refine ⟨_, G', s2, r2, ?_⟩
  unfold dtTmp at fi
  cases q : ft (frz i ρ) with
  | ok d =>
    rw [q] at fi
    exact fun H' G2 g => fi H' G (Grow.back s1 g)
  | xc c n f => rw [q] at fi; exact False.elim fi
  | bot => rw [q] at fi; exact False.elim fi
/-- x[e], x owned or data -/
def dIxO (i : Nat) (fb : Ev → Rs D) : Ev → Rs D := fun ρ => match ρ[i]? with
  | some (.ol xs) => (fb ρ).bind (gIx (.lst xs))
  | some (.dt d) => (fb ρ).bind (gIx d)
  | _ => .bot
theorem de_ixO {i : Nat} (hu : X.A.units + 1 < cLine) (ha : PE X a (tVar i)) (hb : DE X E b fb) (hs : PlainIx b) : DE X E (.Subscript a b pos) (dIxO i fb) := by
  obtain ⟨r, ho, hg⟩ := ixd (X := X) hu
  refine peI (pe_ix (ix_seq.or ho) ha hb hs) fun σ H Q ⟨ρ, G, s, rp, fi⟩ => ?_
  unfold dIxO at fi
  split at fi
  · rename_i xs q
    obtain ⟨l, vs, e1, e2, e3, e4⟩ := rp.ol q
    refine ⟨_, e1, ρ, G, s, rp, fi.bind.imp fun y H2 G2 g2 fi2 w hw => ?_⟩
    cases hw <;> try exact False.elim fi2
    rename_i j
    unfold gIx atD at fi2
    dsimp only at fi2
    cases z : atI xs j with
    | none => rw [z] at fi2; exact False.elim fi2
    | some d =>
      rw [z] at fi2
      obtain ⟨v, z1, z2⟩ := atI_dp e4 z
      exact .inl (.inl ⟨_, _, _, v, rfl, rfl, SqL.of (g2.hh _ _ e2), z1, fi0 g2.gh fi2 (z2.up g2.gg)⟩)
  · rename_i d q
    obtain ⟨v, h1, h2⟩ := rp.dt q
    refine ⟨v, h1, ρ, G, s, rp, fi.bind.imp fun y H2 G2 g2 fi2 w hw => ?_⟩
    exact .inr (hg E G2 H2 v w d y Q g2.gh (h2.up g2.gg) hw fi2)
  · exact False.elim fi
/-- len(x), x owned or data -/
def dLenX (i : Nat) : Ev → Rs D := fun ρ => match ρ[i]? with
  | some (.ol xs) => .ok (.int xs.length)
  | some (.dt d) => cLen [d]
  | _ => .bot
theorem de_lenX {i : Nat} {x : Str} {p1 p2 : Pos} (hg : Gl X "len") (hm : X.mg "len" = none) (hv : PE X (.Name x p2) (tVar i)) (hs : starEach [.Name x p2] X.env = [(false, eval (.Name x p2) X.env)] := by rfl)
    (hpl : (backTo pos (starEach [] X.env)).any (·.1) = false := by rfl) : DE X E (.Call (.Name "len" p1) [.Name x p2] [] pos) (dLenX i) := by
  obtain ⟨r2, hr2, hq⟩ := cd_len (X := X)
  refine peI (pe_callB (id := "len") (call_len.or hr2) hg hm PySem.boot_len (pa_cons hv pa_nil (by rw [hs]; rfl)) (by decide) (by decide) (by rw [hs]; rfl) hpl) fun σ H Q ⟨ρ, G, s, r, fi⟩ => ?_
  unfold dLenX at fi
  split at fi
  · rename_i xs q
    obtain ⟨a, vs, e, hH, nG, dp⟩ := r.ol q
    exact ⟨_, e, .inl ⟨_, vs.length, rfl, .inl ⟨_, SqL.of hH, rfl⟩, by rw [dp.length]; exact fi0 s fi (.int _)⟩⟩
  · rename_i d q
    obtain ⟨v, h1, h2⟩ := r.dt q
    exact ⟨v, h1, .inr (hq E G H [v] [d] Q s (.cons h2 .nil) fi)⟩
  · exact False.elim fi
/-! ### fresh lists -/
def tFr (K : PySem.W.Frag) (E : XK) (f : Ev → Rs (List D)) : TE := fun σ H Q => tG K E f (fun xs H' G' => ∀ vs, DpAll K G' vs xs → ∀ l, H' l = none → Q (.ref l) (upd H' l (.lst vs))) σ H
def sOwn (i : Nat) (f : Ev → Rs (List D)) : Ev → SR := fun ρ => (f ρ).sr fun xs => .nx (ρ.set i (.ol xs))
theorem ds_own {i : Nat} {f : Ev → Rs (List D)} (h : PS X st (tAsg (tFr X.K E f) (gName i))) : DS X E st (sOwn i f) := by
  refine psI h fun D σ H ⟨H0, G0, ρ, G, at_, fi⟩ => ?_
  exact ⟨ρ, G, at_.gr.gh, at_.rep, (fi.sr at_).imp fun d H1 G1 g1 ⟨a1, fi1⟩ vs hv l nl => fi1 _ _ G1 (Same.refl _) (a1.newOlx nl hv)⟩
def dFrL (fs : Ev → Rs (List D)) : Ev → Rs (List D) := fun ρ => (fs ρ).bind fun xs => if xs.length ≤ 1000 then .ok xs else .bot
theorem fr_lst (h : DA X E es fs) : PE X (.List es pos) (tFr X.K E (dFrL fs)) := by
  refine peI (pe_lst h) fun σ H Q ⟨ρ, G, s, r, fi⟩ => ?_
  refine ⟨ρ, G, s, r, fi.bind.imp fun ds H1 G1 g1 fi1 vs hvs => ?_⟩
  have l := hvs.length
  by_cases c : ds.length ≤ 1000
  · rw [if_pos c] at fi1
    exact ⟨le_line (by omega), fun p np => fi1 _ _ (Grow.refl g1.gh) vs hvs p np⟩
  · rw [if_neg c] at fi1; exact False.elim fi1
def slL (x : D) (lo hi : Option Int) : Rs (List D) := match x with
  | .lst xs => .ok (cutD xs lo hi)
  | _ => .bot
def dFrS (f : Ev → Rs D) (l h : Ev → Rs (Option Int)) : Ev → Rs (List D) := fun ρ => (f ρ).bind fun x => (l ρ).bind fun lo => (h ρ).bind fun hi => slL x lo hi
theorem fr_slice {lo hi : Option Expr} {l h : Ev → Rs (Option Int)} {p2 : Pos} (he : DE X E e fa) (hl : DO X E lo l) (hh : DO X E hi h) : PE X (.Subscript e (.Slice lo hi none p2) pos) (tFr X.K E (dFrS fa l h)) := by
  refine peI (pe_slice sl_list he hl hh) fun σ H Q ⟨ρ, G, s, r, fi⟩ => ?_
  refine ⟨ρ, G, s, r, fi.bind.imp fun x H1 G1 g1 fi1 v hv => ?_⟩
  refine ⟨ρ, G1, g1.gh, r.grow g1, fi1.bind.imp fun lo H2 G2 g2 fi2 => ?_⟩
  refine ⟨ρ, G2, g2.gh, (r.grow g1).grow g2, fi2.bind.imp fun hi H3 G3 g3 fi3 => ?_⟩
  have gg := g2.trans g3
  cases hv with
  | lst h1 h2 =>
    refine ⟨_, _, rfl, SqL.of (g3.gh _ _ (gg.gg _ _ h1)), fun p np => ?_⟩
    exact fi3 _ _ (Grow.refl g3.gh) _ (cut_dp (h2.up gg.gg) _ _) p np
  | _ => exact False.elim fi3
def addL (x y : D) : Rs (List D) := match x, y with
  | .lst a, .lst b => if a.length + b.length ≤ sizeLine then .ok (a ++ b) else .bot
  | _, _ => .bot
def dFrA (f g : Ev → Rs D) : Ev → Rs (List D) := fun ρ => (f ρ).bind fun x => (g ρ).bind fun y => addL x y
theorem fr_add (ha : DE X E a fa) (hb : DE X E b fb) : PE X (.BinOp a .Add b pos) (tFr X.K E (dFrA fa fb)) := by
  refine peI (pe_op op_cat ha hb) fun σ H Q ⟨ρ, G, s, r, fi⟩ => ?_
  refine ⟨ρ, G, s, r, fi.bind.imp fun x H1 G1 g1 fi1 v hv => ?_⟩
  refine ⟨ρ, G1, g1.gh, r.grow g1, fi1.bind.imp fun y H2 G2 g2 fi2 w hw => ?_⟩
  cases hv <;> cases hw <;> try exact False.elim fi2
  rename_i a xs ds h1 h2 b ys es h3 h4
  unfold addL at fi2
  dsimp only at fi2
  by_cases c : ds.length + es.length ≤ sizeLine
  · rw [if_pos c] at fi2
    have l1 := h2.length; have l2 := h4.length
    exact ⟨_, _, _, _, rfl, rfl, g2.gh _ _ (g2.gg _ _ h1), g2.gh _ _ h3, by omega, fun p np => fi2 _ _ (Grow.refl g2.gh) _ ((h2.up g2.gg).append h4) p np⟩
  · rw [if_neg c] at fi2; exact False.elim fi2
/-! ### l.index(x) -/
def gIndex (l x : D) : Rs D := match l with
  | .lst ys => if D.plains ys && x.plain && decide (D.deps ys ≤ 60) && decide (x.dep ≤ 60) then (match ys.findIdx? (fun z => eqD z x) with | some j => .ok (.int j) | none => .bot) else .bot
  | _ => .bot
def dIndex (f g : Ev → Rs D) : Ev → Rs D := fun ρ => (f ρ).bind fun l => match l with
  | .lst ys => (g ρ).bind (gIndex (.lst ys))
  | _ => .bot
theorem pys_get : ∀ (ys : List D) (j : Nat), (D.pys ys)[j]? = (ys[j]?).map D.py
  | [], j => by simp [D.pys]
  | y :: ys, 0 => by simp [D.pys]
  | y :: ys, j + 1 => by simp [D.pys, pys_get ys j]
theorem de_index {o : Expr} {apos : Pos} (hu : X.A.units + 65 < cLine) (ho : DE X E o fa) (ha : DE X E e fb)
    (hbase : attributeBase o "index" X.env (eval o X.env) = eval o X.env := by rfl)
    (hfew : ((backTo pos (starEach [e] X.env)).all (fun x => !x.1) && (backToKw pos (keywordEach [] X.env)).all (fun x => x.1.isSome)
      && decide ([e].length + ([] : List Keyword).length + (if ([] : List Keyword).isEmpty then 0 else 1) < 30)) = true := by rfl)
    (hline : (apos.endLine == pos.line) = true := by rfl) (hs : starEach [e] X.env = (false, eval e X.env) :: starEach [] X.env := by rfl) (hplain : (backTo pos (starEach [] X.env)).any (·.1) = false := by rfl) :
    DE X E (.Call (.Attribute o "index" apos) [e] [] pos) (dIndex fa fb) := by
  refine peI (pe_bm PySem.F.plainAttrs_list PySem.F.slot_list_index PySem.F.type_list_index (mt_indexD hu) ho (pa_cons ha pa_nil hs) hbase hfew hline hs hplain) fun σ H Q ⟨ρ, G, s, r, fi⟩ => ?_
  refine ⟨ρ, G, s, r, fi.bind.imp fun l H1 G1 g1 fi1 v hv => ?_⟩
  cases hv with
  | @lst a xs ys h1 h2 =>
    refine ⟨.inl ⟨rfl, _, SqL.of (g1.gh _ _ h1)⟩, ρ, G1, g1.gh, r.grow g1, fi1.bind.imp fun x H2 G2 g2 fi2 w hw => ?_⟩
    unfold gIndex at fi2
    dsimp only at fi2
    by_cases c : (D.plains ys && x.plain && decide (D.deps ys ≤ 60) && decide (x.dep ≤ 60)) = true
    · rw [if_pos c] at fi2
      have c' : ((D.plains ys = true ∧ x.plain = true) ∧ D.deps ys ≤ 60) ∧ x.dep ≤ 60 := by simpa using c
      cases q : ys.findIdx? (fun z => eqD z x) with
      | none => rw [q] at fi2; exact False.elim fi2
      | some j =>
        rw [q] at fi2
        obtain ⟨a1, a2, a3⟩ := Dp.pyD x w c'.1.1.2 hw
        obtain ⟨b1, b2, b3⟩ := DpAll.pyD ys _ c'.1.1.1 (h2.up g2.gg)
        obtain ⟨q1, q2, q3⟩ := List.findIdx?_eq_some_iff_getElem.mp q
        refine ⟨a, w, x.py, D.pys ys, j, (ys[j]).py, rfl, rfl, .lst (SqL.of (g2.gh _ _ (g2.gg _ _ h1))) (hDpAll_up g2.gh _ _ b1), hDp_up g2.gh _ _ a1, ?_, ?_, ?_, q2, ?_, fi0 g2.gh fi2 (.int _)⟩
        · have : (PyData.list (D.pys ys)).depth = PyData.depthAll (D.pys ys) + 1 := by simp [PyData.depth]
          have h3 : (PyData.list (D.pys ys)).canLay0 = true := by simpa [PyData.canLay0] using b2
          unfold SeqAt.shaped
          rw [h3, decide_eq_true (by omega)]; rfl
        · unfold SeqAt.shaped
          rw [a2, decide_eq_true (by omega)]; rfl
        · rw [pys_get, List.getElem?_eq_getElem q1]; rfl
        · intro m z' hm hz
          rw [pys_get] at hz
          have hml : m < ys.length := by omega
          rw [List.getElem?_eq_getElem hml] at hz
          have hz' : (ys[m]).py = z' := Option.some.inj hz
          subst hz'
          have := q3 m hm
          simpa [eqD] using this
    · rw [if_neg c] at fi2; exact False.elim fi2
  | _ => exact False.elim fi1
theorem de_meth0F {k n : Nat} {c m : Str} {g : List D → Rs D} {o : Expr} {apos : Pos} {pl : Sem Bool} (F : FnD X.prog X.w X.K X.mg X.base k (mAd c m) n g) (hr : Room k X.A) (cl : Cls X.K (He.ga X.K c)) (hm : Meth X.K (He.ga X.K c) m (He.ma X.K (He.ga X.K c) m)) (hx : Passes (L2.CX X.prog X.w) X E) (he : DE X E o fa)
    (ht : eval (.Call (.Attribute o m apos) [] [] pos) X.env = (do
      let ov ← eval o X.env
      standAt apos.atName
      let (f, first) ← holding [ov] (getMethod ov m pl)
      callWith pos f first (backTo pos (starEach [] X.env)) (backToKw pos (keywordEach [] X.env))) := by rfl) :
    DE X E (.Call (.Attribute o m apos) [] [] pos) (dMeth c m n g fa dNil) := by
  obtain ⟨fd, ps, a, b, _⟩ := F
  exact de_meth0 (pl := pl) he cl hm a hr b hx ht
end
section
variable {P : Program} {w : World} {K : PySem.W.Frag} {mg : Str → Option Value} {base : Heap}
/-- recursion: nothing is told at 0 -/
def fuel (F : (List D → Rs D) → List D → Rs D) : Nat → List D → Rs D
  | 0 => fun _ => .bot
  | n + 1 => F (fuel F n)
theorem dss_never {X : Cx} {E : XK} {body : List Stmt} : DSs X E body (fun _ => .bot) := ⟨fun pins s σ H D I ⟨H0, G0, ρ, G, a, fi⟩ => False.elim fi⟩
theorem fnD_bot {d : DefP} {N ps : List Str} {fd : FuncData} (F : FunD K d.name d.qual d.params d.body d.scope [] (d.kws K) (d.ad K) fd) (S : FnScope N ps d.scope)
    (hbd : ∀ (dV kV doc pm : Value) (an : Option Addr) (cdv ct : Value) (us : List Value), us.length = ps.length → bindArgs (PySem.W.fnOf d.name d.qual d.params d.body d.scope .none kV doc pm an cdv ct) ⟨us, []⟩ = pure (ps.zip us)) (k : Nat) :
    FnD P w K mg base (k + 1) d.ad ps.length (fun _ => .bot) :=
  (fnD_of (k := k) (b := fun _ => .bot) F S hbd fun cdv A outer s H E hr => dss_never).imp fun ds hl h => (h rfl).elim
theorem fuelOk {ad : PySem.W.Frag → Addr} {j n : Nat} {Fb : (List D → Rs D) → List D → Rs D} (h0 : FnD P w K mg base j ad n (fun _ => .bot)) (hs : ∀ (k : Nat) (g : List D → Rs D), j ≤ k → FnD P w K mg base k ad n g → FnD P w K mg base (k + 1) ad n (Fb g)) :
    ∀ m : Nat, FnD P w K mg base (j + m) ad n (fuel Fb m)
  | 0 => h0
  | m + 1 => hs (j + m) _ (Nat.le_add_right _ _) (fuelOk h0 hs m)
end
end KD
namespace KD
open PySem L2
theorem u65 {k : Nat} {A : Around} (hr : Room k A) : A.units + 65 < cLine := by have := hr.un; omega
end KD

/-! KP2: what a denotation answers, as a calculus of what must hold ahead. -/
namespace KD
open PySem L2
@[irreducible] def Ok {α : Type} (r : Rs α) (P : α → Prop) : Prop := match r with
  | .ok a => P a
  | _ => False
theorem Ok.imp {α : Type} {r : Rs α} {P Q : α → Prop} (h : Ok r Q) (k : ∀ a, Q a → P a) : Ok r P := by
  with_unfolding_all
    cases r with
    | ok a => exact k a h
    | xc c n f => exact h
    | bot => exact h
theorem Ok.ex {α : Type} {r : Rs α} {P : α → Prop} (h : Ok r P) : ∃ a, r = .ok a ∧ P a := by
  with_unfolding_all
    cases r with
    | ok a => exact ⟨a, rfl, h⟩
    | xc c n f => exact False.elim h
    | bot => exact False.elim h
theorem Ok.of {α : Type} {r : Rs α} {P : α → Prop} {a : α} (e : r = .ok a) (h : P a) : Ok r P := by with_unfolding_all (rw [e]; exact h)
theorem Ok.eq {α : Type} {r : Rs α} {a : α} (h : Ok r (fun x => x = a)) : r = .ok a := by
  with_unfolding_all
    obtain ⟨b, e, rfl⟩ := h.ex
    exact e
@[irreducible] def Wp (r : SR) (N : Ev → Prop) (R : D → Prop) : Prop := match r with
  | .nx ρ => N ρ
  | .rt d => R d
  | _ => False
theorem Wp.imp {r : SR} {N N' : Ev → Prop} {R R' : D → Prop} (h : Wp r N R) (k : ∀ ρ, N ρ → N' ρ) (l : ∀ d, R d → R' d) : Wp r N' R' := by
  with_unfolding_all
    cases r with
    | nx ρ => exact k ρ h
    | rt d => exact l d h
    | _ => exact h
section
variable {α β : Type} {P : D → Prop} {Q : List D → Prop} {B : Bool → Prop} {ρ : Ev} {fa fb : Ev → Rs D} {fs : Ev → Rs (List D)} {ft fu : Ev → Rs Bool} {N : Ev → Prop} {R : D → Prop} {f g h : Ev → SR} {i : Nat}
theorem ok_ok {a : α} {P : α → Prop} : Ok (.ok a) P = P a := by with_unfolding_all exact (rfl)
theorem ok_bot {P : α → Prop} : Ok (.bot) P = False := by with_unfolding_all exact (rfl)
theorem ok_bind {r : Rs α} {k : α → Rs β} {P : β → Prop} : Ok (r.bind k) P = Ok r (fun a => Ok (k a) P) := by with_unfolding_all (cases r <;> rfl)
theorem ok_nox {r : Rs α} {P : α → Prop} : Ok r.nox P = Ok r P := by with_unfolding_all (cases r <;> rfl)
theorem ok_ite {c : Prop} [Decidable c] {a : α} {P : α → Prop} : Ok (if c then .ok a else .bot) P = (c ∧ P a) := by
  with_unfolding_all
    by_cases h : c
    · rw [if_pos h]; exact propext ⟨fun q => ⟨h, q⟩, fun q => q.2⟩
    · rw [if_neg h]; exact propext ⟨fun q => False.elim q, fun q => (h q.1).elim⟩
theorem ok_iteR {c : Prop} [Decidable c] {r : Rs α} {P : α → Prop} : Ok (if c then r else .bot) P = (c ∧ Ok r P) := by
  with_unfolding_all
    by_cases h : c
    · rw [if_pos h]; exact propext ⟨fun q => ⟨h, q⟩, fun q => q.2⟩
    · rw [if_neg h]; exact propext ⟨fun q => False.elim q, fun q => (h q.1).elim⟩
theorem ok_dOp {g : D → D → Rs D} : Ok (dOp g fa fb ρ) P = Ok (fa ρ) fun x => Ok (fb ρ) fun y => Ok (g x y) P := by with_unfolding_all (unfold dOp; simp only [ok_bind])
theorem ok_dC {d : D} : Ok (dC d ρ) P = P d := by with_unfolding_all exact (rfl)
theorem ok_dVar0 {d : D} : Ok (dVar 0 (.dt d :: ρ)) P = P d := by with_unfolding_all exact (rfl)
theorem ok_dVarS {s : Sl} : Ok (dVar (i + 1) (s :: ρ)) P = Ok (dVar i ρ) P := by with_unfolding_all (unfold dVar; rw [List.getElem?_cons_succ])
theorem ok_dNil : Ok (dNil ρ) Q = Q [] := by with_unfolding_all exact (rfl)
theorem ok_dCons : Ok (dCons fa fs ρ) Q = Ok (fa ρ) fun x => Ok (fs ρ) fun xs => Q (x :: xs) := by with_unfolding_all (unfold dCons; simp only [ok_bind, ok_ok])
theorem ok_dCall {g : List D → Rs D} : Ok (dCall g fs ρ) P = Ok (fs ρ) fun ds => Ok (g ds) P := by with_unfolding_all (unfold dCall; simp only [ok_bind])
theorem ok_dCallN {n : Nat} {g : List D → Rs D} : Ok (dCallN n g fs ρ) P = Ok (fs ρ) fun ds => ds.length = n ∧ Ok (g ds) P := by with_unfolding_all (unfold dCallN; simp only [ok_bind, ok_iteR])
theorem ok_dTup : Ok (dTup fs ρ) P = Ok (fs ρ) fun xs => xs.length ≤ 1000 ∧ P (.tup xs) := by with_unfolding_all (unfold dTup; simp only [ok_bind, ok_ite])
theorem ok_dLst : Ok (dLst fs ρ) P = Ok (fs ρ) fun xs => xs.length ≤ 1000 ∧ P (.lst xs) := by with_unfolding_all (unfold dLst; simp only [ok_bind, ok_ite])
theorem ok_dFrL : Ok (dFrL fs ρ) Q = Ok (fs ρ) fun xs => xs.length ≤ 1000 ∧ Q xs := by with_unfolding_all (unfold dFrL; simp only [ok_bind, ok_ite])
theorem ok_dTest : Ok (dTest fa ρ) B = Ok (fa ρ) fun d => Ok (asB d) B := by with_unfolding_all (unfold dTest; simp only [ok_bind])
theorem ok_dTru : Ok (dTru fa ρ) B = Ok (fa ρ) fun d => Ok (truD d) B := by with_unfolding_all (unfold dTru; simp only [ok_bind])
theorem ok_asB {b : Bool} : Ok (asB (.bl b)) B = B b := by with_unfolding_all exact (rfl)
theorem ok_truB {b : Bool} : Ok (truD (.bl b)) B = B b := by with_unfolding_all exact (rfl)
theorem ok_dAnd : Ok (dAnd ft fu ρ) B = Ok (ft ρ) fun b => (b = true → Ok (fu ρ) B) ∧ (b = false → B false) := by
  with_unfolding_all
    unfold dAnd
    rw [ok_bind]
    congr 1; funext b
    cases b <;> simp [ok_ok]
theorem ok_dOr : Ok (dOr ft fu ρ) B = Ok (ft ρ) fun b => (b = true → B true) ∧ (b = false → Ok (fu ρ) B) := by
  with_unfolding_all
    unfold dOr
    rw [ok_bind]
    congr 1; funext b
    cases b <;> simp [ok_ok]
theorem ok_dNot : Ok (dNot ft ρ) B = Ok (ft ρ) fun b => B (!b) := by with_unfolding_all (unfold dNot; simp only [ok_bind, ok_ok])
theorem ok_dSl {l h : Ev → Rs (Option Int)} : Ok (dSl fa l h ρ) P = Ok (fa ρ) fun x => Ok (l ρ) fun lo => Ok (h ρ) fun hi => Ok (gSl x lo hi) P := by with_unfolding_all (unfold dSl; simp only [ok_bind])
theorem ok_dFrS {l h : Ev → Rs (Option Int)} : Ok (dFrS fa l h ρ) Q = Ok (fa ρ) fun x => Ok (l ρ) fun lo => Ok (h ρ) fun hi => Ok (slL x lo hi) Q := by with_unfolding_all (unfold dFrS; simp only [ok_bind])
theorem ok_dFrA : Ok (dFrA fa fb ρ) Q = Ok (fa ρ) fun x => Ok (fb ρ) fun y => Ok (addL x y) Q := by with_unfolding_all (unfold dFrA; simp only [ok_bind])
theorem ok_slL {xs : List D} {lo hi : Option Int} : Ok (slL (.lst xs) lo hi) Q = Q (cutD xs lo hi) := by with_unfolding_all exact (rfl)
theorem ok_addL {a b : List D} : Ok (addL (.lst a) (.lst b)) Q = (a.length + b.length ≤ sizeLine ∧ Q (a ++ b)) := by with_unfolding_all (unfold addL; simp only [ok_ite])
theorem ok_dPart {O : Option Int → Prop} : Ok (dPart fa ρ) O = Ok (fa ρ) fun d => Ok (asI d) O := by with_unfolding_all (unfold dPart; simp only [ok_bind])
theorem ok_asI {O : Option Int → Prop} {j : Int} : Ok (asI (.int j)) O = O (some j) := by with_unfolding_all exact (rfl)
theorem ok_dNoP {O : Option Int → Prop} : Ok (dNoP ρ) O = O none := by with_unfolding_all exact (rfl)
theorem ok_slLst {xs : List D} {lo hi : Option Int} : Ok (gSl (.lst xs) lo hi) P = P (.lst (cutD xs lo hi)) := by with_unfolding_all exact (rfl)
theorem ok_slTup {xs : List D} {lo hi : Option Int} : Ok (gSl (.tup xs) lo hi) P = P (.tup (cutD xs lo hi)) := by with_unfolding_all exact (rfl)
section
variable {a b : Int} {x y z u : D} {xs ys : List D}
theorem ok_add : Ok (gAdd (.int a) (.int b)) P = P (.int (a + b)) := by with_unfolding_all exact (rfl)
theorem ok_addT : Ok (gAdd (.tup xs) (.tup ys)) P = (xs.length + ys.length ≤ sizeLine ∧ P (.tup (xs ++ ys))) := by with_unfolding_all (unfold gAdd; simp only [ok_ite])
theorem ok_addLs : Ok (gAdd (.lst xs) (.lst ys)) P = (xs.length + ys.length ≤ sizeLine ∧ P (.lst (xs ++ ys))) := by with_unfolding_all (unfold gAdd; simp only [ok_ite])
theorem ok_sub : Ok (gSub (.int a) (.int b)) P = P (.int (a - b)) := by with_unfolding_all exact (rfl)
theorem ok_mul : Ok (gMul (.int a) (.int b)) P = (okMul a b = true ∧ P (.int (a * b))) := by with_unfolding_all (unfold gMul; simp only [ok_ite])
theorem ok_div : Ok (gDiv (.int a) (.int b)) P = ((0 < b ∧ b < 1073741824) ∧ P (.int (a / b))) := by with_unfolding_all (unfold gDiv; simp only [ok_ite])
theorem ok_mod : Ok (gMod (.int a) (.int b)) P = (0 < b ∧ P (.int (a % b))) := by with_unfolding_all (unfold gMod; simp only [ok_ite])
theorem ok_lt : Ok (gLt (.int a) (.int b)) P = P (.bl (decide (a < b))) := by with_unfolding_all exact (rfl)
theorem ok_le : Ok (gLe (.int a) (.int b)) P = P (.bl (decide (a ≤ b))) := by with_unfolding_all exact (rfl)
theorem ok_gt : Ok (gGt (.int a) (.int b)) P = P (.bl (decide (b < a))) := by with_unfolding_all exact (rfl)
theorem ok_ge : Ok (gGe (.int a) (.int b)) P = P (.bl (decide (b ≤ a))) := by with_unfolding_all exact (rfl)
theorem ok_eqI : Ok (gEq (.int a) (.int b)) P = P (.bl (decide (a = b))) := by
  with_unfolding_all
    have e : eqOk (.int a) (.int b) = true := rfl
    unfold gEq
    rw [if_pos e, eqD_int]
    rfl
theorem ok_neI : Ok (gNe (.int a) (.int b)) P = P (.bl (!decide (a = b))) := by
  with_unfolding_all
    have e : eqOk (.int a) (.int b) = true := rfl
    unfold gNe
    rw [if_pos e, eqD_int]
    rfl
theorem ok_eq : Ok (gEq x y) P = (eqOk x y = true ∧ P (.bl (eqD x y))) := by with_unfolding_all (unfold gEq; simp only [ok_ite])
theorem ok_ne : Ok (gNe x y) P = (eqOk x y = true ∧ P (.bl (!eqD x y))) := by with_unfolding_all (unfold gNe; simp only [ok_ite])
theorem ok_inL : Ok (gIn x (.lst ys)) P = (inOk x ys = true ∧ P (.bl (ys.any fun z => eqD z x))) := by with_unfolding_all (unfold gIn; simp only [ok_ite])
theorem ok_inT : Ok (gIn x (.tup ys)) P = (inOk x ys = true ∧ P (.bl (ys.any fun z => eqD z x))) := by with_unfolding_all (unfold gIn; simp only [ok_ite])
theorem ok_notInL : Ok (gNotIn x (.lst ys)) P = (inOk x ys = true ∧ P (.bl (!ys.any fun z => eqD z x))) := by with_unfolding_all (unfold gNotIn; rw [ok_bind, ok_inL]; simp only [ok_ok])
theorem ok_notInT : Ok (gNotIn x (.tup ys)) P = (inOk x ys = true ∧ P (.bl (!ys.any fun z => eqD z x))) := by with_unfolding_all (unfold gNotIn; rw [ok_bind, ok_inT]; simp only [ok_ok])
theorem ok_atD : Ok (atD xs a) P = ∃ d, atI xs a = some d ∧ P d := by
  with_unfolding_all
    unfold atD
    cases q : atI xs a with
    | none => exact propext ⟨fun z => False.elim z, fun ⟨d, e, _⟩ => (by cases e)⟩
    | some d => exact propext ⟨fun z => ⟨d, rfl, z⟩, fun ⟨d', e, p⟩ => (by cases e; exact p)⟩
theorem ok_ixL : Ok (gIx (.lst xs) (.int a)) P = ∃ d, atI xs a = some d ∧ P d := by with_unfolding_all exact (ok_atD)
theorem ok_ixT : Ok (gIx (.tup xs) (.int a)) P = ∃ d, atI xs a = some d ∧ P d := by with_unfolding_all exact (ok_atD)
theorem ok_t0 : Ok (gIx (.tup (x :: xs)) (.int 0)) P = P x := by with_unfolding_all (rw [ok_ixT, show atI (x :: xs) 0 = some x from atI_cast (k := 0) (by simp)]; simp)
theorem ok_t1 : Ok (gIx (.tup (x :: y :: xs)) (.int 1)) P = P y := by with_unfolding_all (rw [ok_ixT, show atI (x :: y :: xs) 1 = some y from atI_cast (k := 1) (by simp)]; simp)
theorem ok_t2 : Ok (gIx (.tup (x :: y :: z :: xs)) (.int 2)) P = P z := by with_unfolding_all (rw [ok_ixT, show atI (x :: y :: z :: xs) 2 = some z from atI_cast (k := 2) (by simp)]; simp)
theorem ok_t3 : Ok (gIx (.tup (x :: y :: z :: u :: xs)) (.int 3)) P = P u := by with_unfolding_all (rw [ok_ixT, show atI (x :: y :: z :: u :: xs) 3 = some u from atI_cast (k := 3) (by simp)]; simp)
theorem ok_l0 : Ok (gIx (.lst (x :: xs)) (.int 0)) P = P x := by with_unfolding_all (rw [ok_ixL, show atI (x :: xs) 0 = some x from atI_cast (k := 0) (by simp)]; simp)
theorem ok_lenL : Ok (cLen [.lst xs]) P = P (.int xs.length) := by with_unfolding_all exact (rfl)
theorem ok_lenT : Ok (cLen [.tup xs]) P = P (.int xs.length) := by with_unfolding_all exact (rfl)
theorem ok_lenF : Ok (cLen [.fls xs]) P = P (.int xs.length) := by with_unfolding_all exact (rfl)
theorem ok_int : Ok (cInt [.int a]) P = P (.int a) := by with_unfolding_all exact (rfl)
theorem ok_tupL : Ok (cTuple [.lst xs]) P = P (.tup xs) := by with_unfolding_all exact (rfl)
theorem ok_tupT : Ok (cTuple [.tup xs]) P = P (.tup xs) := by with_unfolding_all exact (rfl)
theorem ok_lstL : Ok (cList [.lst xs]) P = P (.lst xs) := by with_unfolding_all exact (rfl)
theorem ok_lstT : Ok (cList [.tup xs]) P = P (.lst xs) := by with_unfolding_all exact (rfl)
theorem ok_sum : Ok (cSum [.lst xs]) P = ∃ ns, asInts xs = some ns ∧ P (.int ns.sum) := by
  with_unfolding_all
    have e0 : cSum [.lst xs] = (match asInts xs with | some ns => .ok (.int ns.sum) | none => .bot) := rfl
    rw [e0]
    cases q : asInts xs with
    | none => exact propext ⟨fun z => False.elim z, fun ⟨d, e, _⟩ => (by cases e)⟩
    | some d => exact propext ⟨fun z => ⟨d, rfl, z⟩, fun ⟨d', e, p⟩ => (by cases e; exact p)⟩
theorem ok_itR : Ok (dItR fa ρ) Q = Ok (fa ρ) fun d => Ok (asRng d) Q := by with_unfolding_all (unfold dItR; simp only [ok_bind])
theorem ok_rng : Ok (asRng (.int a)) Q = ((-1000000000 < a ∧ a < 1000000000) ∧ Q (rngD 0 a.toNat)) := by with_unfolding_all (unfold asRng; simp only [ok_ite])
theorem ok_itA : Ok (dItA fa ρ) Q = Ok (fa ρ) fun d => Ok (asSeq d) Q := by with_unfolding_all (unfold dItA; simp only [ok_bind])
theorem ok_seqL : Ok (asSeq (.lst xs)) Q = Q xs := by with_unfolding_all exact (rfl)
theorem ok_seqT : Ok (asSeq (.tup xs)) Q = Q xs := by with_unfolding_all exact (rfl)
end
/-- a slot's data -/
def slP (s : Option Sl) (k : D → Prop) : Prop := match s with
  | some (.ol xs) => k (.lst xs)
  | some (.dt d) => k d
  | _ => False
theorem slP_ol {xs : List D} {k : D → Prop} : slP (some (.ol xs)) k = k (.lst xs) := rfl
theorem slP_dt {d : D} {k : D → Prop} : slP (some (.dt d)) k = k d := rfl
def slO (s : Option Sl) (k : List D → Prop) : Prop := match s with
  | some (.ol xs) => k xs
  | _ => False
theorem slO_ol {xs : List D} {k : List D → Prop} : slO (some (.ol xs)) k = k xs := rfl
theorem ok_dIxO : Ok (dIxO i fa ρ) P = slP ρ[i]? fun d => Ok (fa ρ) fun y => Ok (gIx d y) P := by
  with_unfolding_all
    unfold dIxO slP
    cases q : ρ[i]? with
    | none => rfl
    | some s => cases s <;> simp only [ok_bind] <;> rfl
theorem ok_dLenX : Ok (dLenX i ρ) P = slP ρ[i]? fun d => Ok (cLen [d]) P := by
  with_unfolding_all
    unfold dLenX slP
    cases q : ρ[i]? with
    | none => rfl
    | some s => cases s <;> rfl
theorem ok_dtTmp : Ok (dtTmp i ft ρ) B = Ok (ft (frz i ρ)) B := by with_unfolding_all (unfold dtTmp; rw [ok_nox])
theorem ok_dIsi {T : String} : Ok (dIsi T fa ρ) P = Ok (fa ρ) fun d => Ok (isiD T d) P := by with_unfolding_all (unfold dIsi; simp only [ok_bind])
theorem ok_dMeth {c m : Str} {n : Nat} {g : List D → Rs D} : Ok (dMeth c m n g fa fs ρ) P = Ok (fa ρ) fun x => Ok (gSelf c m x) fun x => Ok (fs ρ) fun ds => ds.length + 1 = n ∧ Ok (g (x :: ds)) P := by with_unfolding_all (unfold dMeth; simp only [ok_bind, ok_iteR])
theorem ok_dFld {c m : Str} : Ok (dFld c m fa ρ) P = Ok (fa ρ) fun x => Ok (gFld c m x) P := by with_unfolding_all (unfold dFld; simp only [ok_bind])
theorem ok_dIndex : Ok (dIndex fa fb ρ) P = Ok (fa ρ) fun l => match l with | .lst ys => Ok (fb ρ) fun x => Ok (gIndex (.lst ys) x) P | _ => False := by
  with_unfolding_all
    unfold dIndex
    rw [ok_bind]
    congr 1; funext l
    cases l <;> simp only [ok_bind] <;> rfl
/-! ### statements -/
theorem wp_seq (hh : Wp (f ρ) (fun ρ' => Wp (g ρ') N R) R) : Wp (sSeq f g ρ) N R := by
  with_unfolding_all
    unfold sSeq
    cases q : f ρ <;> rw [q] at hh <;> exact hh
theorem wp_set (hh : Ok (fa ρ) fun d => N (ρ.set i (.dt d))) : Wp (sSet i fa ρ) N R := by
  with_unfolding_all
    obtain ⟨d, e, q⟩ := hh.ex
    unfold sSet; rw [e]; exact q
theorem wp_ret (hh : Ok (fa ρ) R) : Wp (sRet fa ρ) N R := by
  with_unfolding_all
    obtain ⟨d, e, q⟩ := hh.ex
    unfold sRet; rw [e]; exact q
theorem wp_expr (hh : Ok (fa ρ) fun _ => N ρ) : Wp (sExpr fa ρ) N R := by
  with_unfolding_all
    obtain ⟨d, e, q⟩ := hh.ex
    unfold sExpr; rw [e]; exact q
theorem wp_nil (hh : N ρ) : Wp (sNil ρ) N R := by with_unfolding_all exact (hh)
theorem wp_new (hh : N (ρ.set i (.ol []))) : Wp (sNew i ρ) N R := by with_unfolding_all exact (hh)
theorem wp_own (hh : Ok (fs ρ) fun xs => N (ρ.set i (.ol xs))) : Wp (sOwn i fs ρ) N R := by
  with_unfolding_all
    obtain ⟨d, e, q⟩ := hh.ex
    unfold sOwn; rw [e]; exact q
theorem wp_app (hh : slO ρ[i]? fun xs => Ok (fa ρ) fun d => xs.length < 1000000 ∧ N (ρ.set i (.ol (xs ++ [d])))) : Wp (sApp i fa ρ) N R := by
  with_unfolding_all
    unfold sApp
    unfold slO at hh
    split at hh
    · rename_i xs q
      obtain ⟨d, e, l, z⟩ := hh.ex
      simp only [q, e, Rs.sr_ok]
      rw [if_pos l]; exact z
    · exact False.elim hh
theorem wp_unp {is : List Nat} (hh : Ok (fa ρ) fun d => ∃ ρ', tgT is d ρ = some ρ' ∧ N ρ') : Wp (sUnp is fa ρ) N R := by
  with_unfolding_all
    obtain ⟨d, e, ρ', t, z⟩ := hh.ex
    unfold sUnp; rw [e, Rs.sr_ok, t]; exact z
theorem wp_if (hh : Ok (ft ρ) fun b => (b = true → Wp (f ρ) N R) ∧ (b = false → Wp (g ρ) N R)) : Wp (sIf ft f g ρ) N R := by
  with_unfolding_all
    obtain ⟨b, e, h1, h2⟩ := hh.ex
    unfold sIf; rw [e, Rs.sr_ok]
    cases b with
    | true => rw [if_pos rfl]; exact h1 rfl
    | false => rw [if_neg (by simp)]; exact h2 rfl
theorem wp_forL {t : D → Ev → Option Ev} {wp : List Nat} {body : Ev → SR} (I : Nat → Ev → Prop) : ∀ (ds : List D) (ρ : Ev) (j : Nat), I j ρ →
    (∀ k d ρ, ds[k]? = some d → I (j + k) ρ → ∃ ρ', t d ρ = some ρ' ∧ Wp (body ρ') (fun ρ2 => I (j + k + 1) (wipeE wp ρ2)) R) → (∀ ρ, I (j + ds.length) ρ → N ρ) → Wp (forL t wp body ds ρ) N R
  | [], ρ, j, h0, _, hN => by with_unfolding_all exact hN ρ h0
  | d :: ds, ρ, j, h0, hs, hN => by
    obtain ⟨ρ', e1, e2⟩ := hs 0 d ρ rfl h0
    unfold forL
    rw [e1]
    dsimp only
    cases q : body ρ' with
    | nx ρ2 =>
      rw [q] at e2
      refine wp_forL I ds (wipeE wp ρ2) (j + 1) (by with_unfolding_all exact e2) (fun k d ρ hd hp => ?_) (fun ρ h => hN ρ (by rw [List.length_cons, show j + (ds.length + 1) = j + 1 + ds.length by omega]; exact h))
      obtain ⟨a, q1, q2⟩ := hs (k + 1) d ρ (by simpa using hd) (by rw [show j + (k + 1) = j + 1 + k by omega]; exact hp)
      exact ⟨a, q1, by rw [show j + 1 + k + 1 = j + (k + 1) + 1 by omega]; exact q2⟩
    | rt d => rw [q] at e2; with_unfolding_all exact e2
    | _ => rw [q] at e2; with_unfolding_all exact False.elim e2
theorem wp_for {it : Ev → Rs (List D)} {t : D → Ev → Option Ev} {wp : List Nat} {body : Ev → SR} (I : Nat → Ev → Prop)
    (hh : Ok (it ρ) fun ds => I 0 ρ ∧ (∀ k d ρ, ds[k]? = some d → I k ρ → ∃ ρ', t d ρ = some ρ' ∧ Wp (body ρ') (fun ρ2 => I (k + 1) (wipeE wp ρ2)) R) ∧ ∀ ρ, I ds.length ρ → N ρ) : Wp (sFor it t wp body ρ) N R := by
  with_unfolding_all
    obtain ⟨ds, e, h0, hs, hN⟩ := hh.ex
    unfold sFor
    rw [e, Rs.sr_ok]
    exact wp_forL I ds ρ 0 h0 (fun k d ρ hd hp => by simpa using hs k d ρ hd (by simpa using hp)) (fun ρ h => hN ρ (by simpa using h))
/-- a comprehension by a function -/
theorem ok_compM {vs : List Nat} {it : Ev → Rs (List D)} {t : D → Ev → Option Ev} (h : D → D)
    (hh : Ok (it ρ) fun ds => ds.length ≤ 1000000 ∧ (∀ d ∈ ds, ∃ ρ', t d (wipeE vs ρ) = some ρ' ∧ ft ρ' = .ok true ∧ Ok (fa ρ') (fun x => x = h d)) ∧ P (.lst (ds.map h))) : Ok (dComp vs it t ft fa ρ) P := by
  with_unfolding_all
    obtain ⟨ds, e, hl, hs, hp⟩ := hh.ex
    unfold dComp
    rw [e, Rs.bind_ok, if_pos hl, compL_map h ds (fun d hd => by
      obtain ⟨ρ', e1, e2, e3⟩ := hs d hd
      exact ⟨ρ', e1, e2, e3.eq⟩)]
    exact hp
theorem ok_compF {vs : List Nat} {it : Ev → Rs (List D)} {t : D → Ev → Option Ev} (p : D → Bool) (h : D → D)
    (hh : Ok (it ρ) fun ds => ds.length ≤ 1000000 ∧ (∀ d ∈ ds, ∃ ρ', t d (wipeE vs ρ) = some ρ' ∧ Ok (ft ρ') (fun b => b = p d) ∧ (p d = true → Ok (fa ρ') (fun x => x = h d))) ∧ P (.lst ((ds.filter p).map h))) : Ok (dComp vs it t ft fa ρ) P := by
  with_unfolding_all
    obtain ⟨ds, e, hl, hs, hp⟩ := hh.ex
    unfold dComp
    rw [e, Rs.bind_ok, if_pos hl, compL_filter p h ds (fun d hd => by
      obtain ⟨ρ', e1, e2, e3⟩ := hs d hd
      exact ⟨ρ', e1, e2.eq, fun q => (e3 q).eq⟩)]
    exact hp
/-- each element has a property -/
theorem compL_all {t : D → Ev → Option Ev} {c : Ev → Rs Bool} {f : Ev → Rs D} {ρ : Ev} (J : D → D → Prop) : ∀ ds : List D, (∀ d ∈ ds, ∃ ρ', t d ρ = some ρ' ∧ c ρ' = .ok true ∧ Ok (f ρ') (J d)) → ∃ ys : List D, compL t c f ρ ds = .ok ys ∧ ys.length = ds.length ∧ ∀ (k : Nat) (x y : D), ds[k]? = some x → ys[k]? = some y → J x y
  | [], _ => ⟨[], rfl, rfl, fun k x y h => by simp at h⟩
  | d :: ds, hs => by
    obtain ⟨ρ', e1, e2, e3⟩ := hs d List.mem_cons_self
    obtain ⟨y, e4, e5⟩ := e3.ex
    obtain ⟨ys, q1, q2, q3⟩ := compL_all (t := t) (c := c) (f := f) (ρ := ρ) J ds fun d hd => hs d (List.mem_cons_of_mem _ hd)
    refine ⟨y :: ys, ?_, by simp [q2], fun k x z h1 h2 => ?_⟩
    · unfold compL
      rw [e1]
      simp [e2, e4, q1]
    · cases k with
      | zero => simp at h1 h2; subst h1 h2; exact e5
      | succ k => exact q3 k x z (by simpa using h1) (by simpa using h2)
theorem ok_compA {vs : List Nat} {it : Ev → Rs (List D)} {t : D → Ev → Option Ev} (J : D → D → Prop)
    (hh : Ok (it ρ) fun ds => ds.length ≤ 1000000 ∧ (∀ d ∈ ds, ∃ ρ', t d (wipeE vs ρ) = some ρ' ∧ ft ρ' = .ok true ∧ Ok (fa ρ') (J d)) ∧ ∀ ys : List D, ys.length = ds.length → (∀ (k : Nat) (x y : D), ds[k]? = some x → ys[k]? = some y → J x y) → P (.lst ys)) : Ok (dComp vs it t ft fa ρ) P := by
  with_unfolding_all
    obtain ⟨ds, e, hl, hs, hp⟩ := hh.ex
    obtain ⟨ys, q1, q2, q3⟩ := compL_all J ds hs
    unfold dComp
    rw [e, Rs.bind_ok, if_pos hl, q1]
    exact hp ys q2 q3
theorem ok_run {n : Nat} {ds : List D} (hh : Wp (f (ev0 n ds)) (fun _ => P .non) P) : Ok (runD n f ds) P := by
  with_unfolding_all
    unfold runD
    cases q : f (ev0 n ds) <;> rw [q] at hh <;> first | exact hh | exact False.elim hh
end
end KD

/-! KP3: the calculus over natural numbers and names. -/
namespace KD
open PySem L2
def nmD (l : List Nat) : D := .str (sO l)
def natD (i : Nat) : D := .int (i : Int)
/-- a - b -/
def subD (a b : Nat) : D := .int ((a : Int) - (b : Int))
theorem subD_le {a b : Nat} (h : b ≤ a) : subD a b = natD (a - b) := by
  unfold subD natD
  congr 1
  omega
section
variable {P : D → Prop} {Q : List D → Prop} {B : Bool → Prop} {ρ : Ev} {a b c n : Nat} {x y : D} {xs ys : List D} {l m : List Nat}
theorem nC {i : Int} (h : 0 ≤ i) : Ok (dC (.int i) ρ) P = P (natD i.toNat) := by
  with_unfolding_all
    unfold natD
    rw [Int.toNat_of_nonneg h]
    rfl
theorem nAdd : Ok (gAdd (natD a) (natD b)) P = P (natD (a + b)) := by with_unfolding_all exact (rfl)
theorem nSub : Ok (gSub (natD a) (natD b)) P = P (subD a b) := by with_unfolding_all exact (rfl)
theorem nMul : Ok (gMul (natD a) (natD b)) P = ((a < 2 ^ 64 ∨ b < 2 ^ 64) ∧ P (natD (a * b))) := by
  with_unfolding_all
    unfold natD
    rw [ok_mul]
    have e : (okMul (a : Int) (b : Int) = true) = (a < 2 ^ 64 ∨ b < 2 ^ 64) := by
      rw [okMul_iff]
      apply propext
      constructor
      · intro h; omega
      · intro h; omega
    rw [e, Int.natCast_mul]
theorem nDiv : Ok (gDiv (natD a) (natD b)) P = ((0 < b ∧ b < 1073741824) ∧ P (natD (a / b))) := by
  with_unfolding_all
    unfold natD
    rw [ok_div, Int.natCast_ediv]
    have e : ((0 : Int) < (b : Int) ∧ (b : Int) < 1073741824) = (0 < b ∧ b < 1073741824) := by apply propext; omega
    rw [e]
theorem nMod : Ok (gMod (natD a) (natD b)) P = (0 < b ∧ P (natD (a % b))) := by
  with_unfolding_all
    unfold natD
    rw [ok_mod, Int.natCast_emod]
    have e : ((0 : Int) < (b : Int)) = (0 < b) := by apply propext; omega
    rw [e]
theorem nLt : Ok (gLt (natD a) (natD b)) P = P (.bl (decide (a < b))) := by with_unfolding_all (unfold natD; rw [ok_lt]; congr 2; exact decide_eq_decide.mpr (by omega))
theorem nLe : Ok (gLe (natD a) (natD b)) P = P (.bl (decide (a ≤ b))) := by with_unfolding_all (unfold natD; rw [ok_le]; congr 2; exact decide_eq_decide.mpr (by omega))
theorem nGt : Ok (gGt (natD a) (natD b)) P = P (.bl (decide (b < a))) := by with_unfolding_all (unfold natD; rw [ok_gt]; congr 2; exact decide_eq_decide.mpr (by omega))
theorem nGe : Ok (gGe (natD a) (natD b)) P = P (.bl (decide (b ≤ a))) := by with_unfolding_all (unfold natD; rw [ok_ge]; congr 2; exact decide_eq_decide.mpr (by omega))
theorem nEq : Ok (gEq (natD a) (natD b)) P = P (.bl (decide (a = b))) := by with_unfolding_all (unfold natD; rw [ok_eqI]; congr 2; exact decide_eq_decide.mpr (by omega))
theorem nNe : Ok (gNe (natD a) (natD b)) P = P (.bl (!decide (a = b))) := by with_unfolding_all (unfold natD; rw [ok_neI]; congr 3; exact decide_eq_decide.mpr (by omega))
theorem nmEq : Ok (gEq (nmD l) (nmD m)) P = P (.bl (decide (l = m))) := by
  with_unfolding_all
    rw [ok_eq]
    have e : eqOk (nmD l) (nmD m) = true := rfl
    unfold nmD
    rw [eqD_sO]
    have e2 : (l == m) = decide (l = m) := by by_cases h : l = m <;> simp [h]
    rw [e2]
    exact propext ⟨fun z => z.2, fun z => ⟨e, z⟩⟩
theorem nIxL : Ok (gIx (.lst xs) (natD a)) P = ∃ d, xs[a]? = some d ∧ P d := by
  with_unfolding_all
    unfold natD
    rw [ok_ixL]
    have e : atI xs (a : Int) = xs[a]? := by
      by_cases h : a < xs.length
      · rw [atI_cast h, List.getElem?_eq_getElem h]
      · rw [List.getElem?_eq_none (by omega)]
        unfold atI ixN
        simp
        omega
    rw [e]
theorem nIxT : Ok (gIx (.tup xs) (natD a)) P = ∃ d, xs[a]? = some d ∧ P d := by
  with_unfolding_all
    have e : gIx (.tup xs) (natD a) = gIx (.lst xs) (natD a) := rfl
    rw [e, nIxL]
theorem nT0 : Ok (gIx (.tup (x :: xs)) (natD 0)) P = P x := by with_unfolding_all (rw [nIxT]; simp)
theorem nT1 {x0 : D} : Ok (gIx (.tup (x0 :: x :: xs)) (natD 1)) P = P x := by with_unfolding_all (rw [nIxT]; simp)
theorem nT2 {x0 x1 : D} : Ok (gIx (.tup (x0 :: x1 :: x :: xs)) (natD 2)) P = P x := by with_unfolding_all (rw [nIxT]; simp)
theorem nT3 {x0 x1 x2 : D} : Ok (gIx (.tup (x0 :: x1 :: x2 :: x :: xs)) (natD 3)) P = P x := by with_unfolding_all (rw [nIxT]; simp)
theorem nT4 {x0 x1 x2 x3 : D} : Ok (gIx (.tup (x0 :: x1 :: x2 :: x3 :: x :: xs)) (natD 4)) P = P x := by with_unfolding_all (rw [nIxT]; simp)
theorem nIxM {α : Type} {f : α → D} {zs : List α} : Ok (gIx (.lst (zs.map f)) (natD a)) P = ∃ z, zs[a]? = some z ∧ P (f z) := by
  with_unfolding_all
    rw [nIxL]
    apply propext
    constructor
    · rintro ⟨d, h, p⟩
      rw [List.getElem?_map] at h
      cases q : zs[a]? with
      | none => rw [q] at h; cases h
      | some z => rw [q] at h; cases h; exact ⟨z, rfl, p⟩
    · rintro ⟨z, h, p⟩
      exact ⟨f z, by rw [List.getElem?_map, h]; rfl, p⟩
theorem nIxMT {α : Type} {f : α → D} {zs : List α} : Ok (gIx (.tup (zs.map f)) (natD a)) P = ∃ z, zs[a]? = some z ∧ P (f z) := by
  with_unfolding_all
    have e : gIx (.tup (zs.map f)) (natD a) = gIx (.lst (zs.map f)) (natD a) := rfl
    rw [e, nIxM]
theorem nLenL : Ok (cLen [.lst xs]) P = P (natD xs.length) := by with_unfolding_all exact (rfl)
theorem nLenT : Ok (cLen [.tup xs]) P = P (natD xs.length) := by with_unfolding_all exact (rfl)
theorem nLenF : Ok (cLen [.fls xs]) P = P (natD xs.length) := by with_unfolding_all exact (rfl)
theorem nInt : Ok (cInt [natD a]) P = P (natD a) := by with_unfolding_all exact (rfl)
theorem nAsI {O : Option Int → Prop} : Ok (asI (natD a)) O = O (some (a : Int)) := by with_unfolding_all exact (rfl)
theorem nRng : Ok (asRng (natD a)) Q = (a < 1000000000 ∧ Q ((List.range a).map natD)) := by
  with_unfolding_all
    unfold natD
    rw [ok_rng]
    have e : (-1000000000 < (a : Int) ∧ (a : Int) < 1000000000) = (a < 1000000000) := by apply propext; omega
    have e2 : rngD 0 ((a : Int).toNat) = (List.range a).map (fun i : Nat => D.int (i : Int)) := by
      unfold rngD
      simp
    rw [e, e2]
theorem cutD_nn (xs : List D) (i j : Nat) : cutD xs (some (i : Int)) (some (j : Int)) = (xs.drop i).take (j - i) := by
  unfold cutD
  rw [HT.sIx_nat, HT.sIx_nat]
  by_cases h : i ≤ xs.length
  · rw [Nat.min_eq_left h]
    by_cases h2 : j ≤ xs.length
    · rw [Nat.min_eq_left h2]
    · rw [Nat.min_eq_right (by omega), List.take_of_length_le (by simp), List.take_of_length_le (by simp; omega)]
  · rw [Nat.min_eq_right (show xs.length ≤ i by omega), List.drop_length, List.drop_of_length_le (show xs.length ≤ i by omega)]
    simp
theorem cut_to : cutD xs none (some (a : Int)) = xs.take a := cutD_to xs a
theorem cut_from : cutD xs (some (a : Int)) none = xs.drop a := cutD_from xs a
theorem frz_ol : frz 0 (.ol xs :: ρ) = .dt (.lst xs) :: ρ := rfl
theorem frz_dt : frz 0 (.dt x :: ρ) = .dt x :: ρ := rfl
theorem frz_no : frz 0 (.no :: ρ) = .no :: ρ := rfl
theorem frz_S {s : Sl} : frz (a + 1) (s :: ρ) = s :: frz a ρ := by
  unfold frz
  rw [List.getElem?_cons_succ]
  cases ρ[a]? with
  | none => rfl
  | some s' => cases s' <;> rfl
theorem wp_cut {f g : Ev → SR} {N : Ev → Prop} {R : D → Prop} (M : Ev → Prop) (h1 : Wp (f ρ) M R) (h2 : ∀ ρ, M ρ → Wp (g ρ) N R) : Wp (sSeq f g ρ) N R := by with_unfolding_all exact (wp_seq (h1.imp h2 fun _ h => h))
theorem ok_dCb {b : Bool} : Ok (dC (.bl b) ρ) P = P (.bl b) := by with_unfolding_all exact (rfl)
theorem ok_dCs {b : Str} : Ok (dC (.str b) ρ) P = P (.str b) := by with_unfolding_all exact (rfl)
theorem ok_dCn : Ok (dC .non ρ) P = P .non := by with_unfolding_all exact (rfl)
end
-- what an expression answers
end KD
open PySem L2 KD
local macro_rules
  | `(tactic| array_get_dec) => `(tactic| try simp -implicitDefEqProofs only [ok_ok, ok_dOp, nC, ok_dCb, ok_dCs, ok_dCn, ok_dVar0, ok_dVarS, ok_dNil, ok_dCons, ok_dCall, ok_dCallN, ok_dTup, ok_dLst, ok_dFrL, ok_dTest, ok_dTru, ok_asB, ok_truB, ok_dAnd, ok_dOr, ok_dNot, ok_dSl, ok_dFrS, ok_dFrA, ok_slL, ok_addL, ok_dPart, nAsI, ok_dNoP, ok_slLst, ok_slTup,
  nAdd, ok_addT, ok_addLs, nSub, nMul, nDiv, nMod, nLt, nLe, nGt, nGe, nEq, nNe, nmEq, nT0, nT1, nT2, nT3, nT4, nLenL, nLenT, nLenF, nInt, ok_tupL, ok_tupT, ok_lstL, ok_lstT, ok_itR, nRng, ok_itA, ok_seqL, ok_seqT, ok_dIxO, ok_dLenX, slP_ol, slP_dt, slO_ol, ok_dtTmp, cut_to, cut_from, cutD_nn, cutD_all,
  List.getElem?_cons_zero, List.getElem?_cons_succ, List.set_cons_zero, List.set_cons_succ, List.length_cons, List.length_nil, List.length_map, List.length_range, frz_ol, frz_dt, frz_no, frz_S, Nat.reduceAdd, Nat.reduceLeDiff, Nat.reduceLT, Nat.reduceMul, Int.reduceLE, Int.reduceToNat, true_and, and_true, Nat.zero_add, List.map_cons, List.map_nil])
namespace KD
-- the slots
end KD
open PySem L2 KD
local macro_rules
  | `(tactic| array_mem_dec) => `(tactic| try simp -implicitDefEqProofs only [List.getElem?_cons_zero, List.getElem?_cons_succ, List.set_cons_zero, List.set_cons_succ, wipeE, frz_ol, frz_dt, frz_no, frz_S, ev0, List.map_cons, List.map_nil, List.length_cons, List.length_nil, List.cons_append, List.nil_append, Nat.reduceAdd, Nat.reduceSub, Nat.zero_add, List.replicate_succ, List.replicate_zero])
namespace KD
end KD
namespace KD
open PySem L2
theorem asInts_nat : ∀ zs : List Nat, asInts (zs.map natD) = some (zs.map fun z : Nat => (z : Int))
  | [] => rfl
  | z :: zs => by
    have ih := asInts_nat zs
    rw [List.map_cons, List.map_cons]
    show (asInts (zs.map natD)).map _ = _
    rw [ih]
    rfl
theorem sum_cast : ∀ zs : List Nat, (zs.map fun z : Nat => (z : Int)).sum = ((zs.sum : Nat) : Int)
  | [] => rfl
  | z :: zs => by rw [List.map_cons, List.sum_cons, List.sum_cons, sum_cast zs, Int.natCast_add]
theorem nSum {P : D → Prop} {zs : List Nat} : Ok (cSum [.lst (zs.map natD)]) P = P (natD zs.sum) := by
  with_unfolding_all
    rw [ok_sum, asInts_nat]
    unfold natD
    rw [← sum_cast]
    exact propext ⟨fun ⟨ns, e, p⟩ => by cases e; exact p, fun p => ⟨_, rfl, p⟩⟩
theorem unmap {α : Type} {f : α → D} {C : α → Prop} : ∀ {ys : List D}, (∀ y ∈ ys, ∃ p, C p ∧ y = f p) → ∃ ps : List α, ys = ps.map f ∧ ps.length = ys.length ∧ ∀ p ∈ ps, C p
  | [], _ => ⟨[], rfl, rfl, by simp⟩
  | y :: ys, h => by
    obtain ⟨p, hp, rfl⟩ := h y List.mem_cons_self
    obtain ⟨ps, rfl, hl, hs⟩ := unmap (ys := ys) fun y hy => h y (List.mem_cons_of_mem _ hy)
    refine ⟨p :: ps, rfl, by simp, fun q hq => ?_⟩
    rcases List.mem_cons.mp hq with e | e
    · subst e; exact hp
    · exact hs q e
theorem cons_of {x : D} {xs : List D} : [x] ++ xs = x :: xs := rfl
theorem line_ok {n : Nat} (h : n ≤ 1000) : n ≤ sizeLine := le_line h
end KD

namespace KL
open PySem L2 KD
def topS (i : Nat) : Stmt := PySem.Challenge.pw_keptkinds_k04_order_of_terms.main.body.getD i (.Pass ⟨0, 0, 0, 0⟩)
abbrev s_l_cell : Stmt := topS 11
def d_l_cell : DefP := ⟨(gAd "_law_cell"), "_law_cell", "_law_cell", defArgs s_l_cell, defBody s_l_cell, defScope s_l_cell, [], []⟩
abbrev s_l_numbers : Stmt := topS 12
def d_l_numbers : DefP := ⟨(gAd "_law_numbers"), "_law_numbers", "_law_numbers", defArgs s_l_numbers, defBody s_l_numbers, defScope s_l_numbers, [], []⟩
abbrev s_l_names : Stmt := topS 13
def d_l_names : DefP := ⟨(gAd "_law_names"), "_law_names", "_law_names", defArgs s_l_names, defBody s_l_names, defScope s_l_names, [], []⟩
abbrev s_l_turn : Stmt := topS 14
def d_l_turn : DefP := ⟨(gAd "_law_turn"), "_law_turn", "_law_turn", defArgs s_l_turn, defBody s_l_turn, defScope s_l_turn, [], []⟩
abbrev s_l_symbols : Stmt := topS 15
def d_l_symbols : DefP := ⟨(gAd "_law_symbols"), "_law_symbols", "_law_symbols", defArgs s_l_symbols, defBody s_l_symbols, defScope s_l_symbols, [], []⟩
abbrev s_l_lows : Stmt := topS 16
def d_l_lows : DefP := ⟨(gAd "_law_lows"), "_law_lows", "_law_lows", defArgs s_l_lows, defBody s_l_lows, defScope s_l_lows, [], []⟩
abbrev s_l_entries : Stmt := topS 17
def d_l_entries : DefP := ⟨(gAd "_law_entries"), "_law_entries", "_law_entries", defArgs s_l_entries, defBody s_l_entries, defScope s_l_entries, [], []⟩
abbrev s_l_count : Stmt := topS 18
def d_l_count : DefP := ⟨(gAd "_law_count"), "_law_count", "_law_count", defArgs s_l_count, defBody s_l_count, defScope s_l_count, [], []⟩
abbrev s_l_rule : Stmt := topS 19
def d_l_rule : DefP := ⟨(gAd "_law_rule"), "_law_rule", "_law_rule", defArgs s_l_rule, defBody s_l_rule, defScope s_l_rule, [], []⟩
abbrev s_l_rules : Stmt := topS 20
def d_l_rules : DefP := ⟨(gAd "_law_rules"), "_law_rules", "_law_rules", defArgs s_l_rules, defBody s_l_rules, defScope s_l_rules, [], []⟩
abbrev s_l_random : Stmt := topS 21
def d_l_random : DefP := ⟨(gAd "_law_random"), "_law_random", "_law_random", defArgs s_l_random, defBody s_l_random, defScope s_l_random, [], []⟩
abbrev s_l_up : Stmt := topS 22
def d_l_up : DefP := ⟨(gAd "_law_up"), "_law_up", "_law_up", defArgs s_l_up, defBody s_l_up, defScope s_l_up, [], []⟩
abbrev s_l_combine : Stmt := topS 23
def d_l_combine : DefP := ⟨(gAd "_law_combine"), "_law_combine", "_law_combine", defArgs s_l_combine, defBody s_l_combine, defScope s_l_combine, [], []⟩
abbrev s_l_fitting : Stmt := topS 24
def d_l_fitting : DefP := ⟨(gAd "_law_fitting"), "_law_fitting", "_law_fitting", defArgs s_l_fitting, defBody s_l_fitting, defScope s_l_fitting, [], []⟩
abbrev s_l_term : Stmt := topS 25
def d_l_term : DefP := ⟨(gAd "_law_term"), "_law_term", "_law_term", defArgs s_l_term, defBody s_l_term, defScope s_l_term, [], []⟩
abbrev s_l_way : Stmt := topS 26
def d_l_way : DefP := ⟨(gAd "_law_way"), "_law_way", "_law_way", defArgs s_l_way, defBody s_l_way, defScope s_l_way, [], []⟩
abbrev s_l_put : Stmt := topS 27
def d_l_put : DefP := ⟨(gAd "_law_put"), "_law_put", "_law_put", defArgs s_l_put, defBody s_l_put, defScope s_l_put, [], []⟩
abbrev s_l_rank : Stmt := topS 28
def d_l_rank : DefP := ⟨(gAd "_law_rank"), "_law_rank", "_law_rank", defArgs s_l_rank, defBody s_l_rank, defScope s_l_rank, [], []⟩
abbrev s_l_other : Stmt := topS 29
def d_l_other : DefP := ⟨(gAd "_law_other"), "_law_other", "_law_other", defArgs s_l_other, defBody s_l_other, defScope s_l_other, [], []⟩
abbrev s_is_name : Stmt := topS 7
def d_is_name : DefP := ⟨(gAd "is_name"), "is_name", "is_name", defArgs s_is_name, defBody s_is_name, defScope s_is_name, [], []⟩
abbrev s_check_symbol : Stmt := topS 8
def d_check_symbol : DefP := ⟨(gAd "check_symbol"), "check_symbol", "check_symbol", defArgs s_check_symbol, defBody s_check_symbol, defScope s_check_symbol, [], []⟩
abbrev s_signature_init : Stmt := inClass (topS 9) 0
def d_signature_init : DefP := ⟨mAd "Signature" "__init__", "__init__", "Signature.__init__", defArgs s_signature_init, defBody s_signature_init, defScope s_signature_init, [], []⟩
abbrev s_signature_number : Stmt := inClass (topS 9) 2
def d_signature_number : DefP := ⟨(mAd "Signature" "number"), "number", "Signature.number", defArgs s_signature_number, defBody s_signature_number, defScope s_signature_number, [], []⟩
abbrev s_signature_places : Stmt := inClass (topS 9) 3
def d_signature_places : DefP := ⟨(mAd "Signature" "places"), "places", "Signature.places", defArgs s_signature_places, defBody s_signature_places, defScope s_signature_places, [], []⟩
abbrev s_signature_size : Stmt := inClass (topS 9) 6
def d_signature_size : DefP := ⟨(mAd "Signature" "size"), "size", "Signature.size", defArgs s_signature_size, defBody s_signature_size, defScope s_signature_size, [], []⟩
abbrev s_signature_rank : Stmt := inClass (topS 9) 7
def d_signature_rank : DefP := ⟨(mAd "Signature" "rank"), "rank", "Signature.rank", defArgs s_signature_rank, defBody s_signature_rank, defScope s_signature_rank, [], []⟩
abbrev s_signature_precedes : Stmt := inClass (topS 9) 8
def d_signature_precedes : DefP := ⟨(mAd "Signature" "precedes"), "precedes", "Signature.precedes", defArgs s_signature_precedes, defBody s_signature_precedes, defScope s_signature_precedes, [], []⟩
abbrev s_law : Stmt := topS 30
def d_law : DefP := ⟨(gAd "law"), "law", "law", defArgs s_law, defBody s_law, defScope s_law, [], []⟩
def fa : List Fb := [.fa (.glo "law"), .fa (.free "len"), .fa (.glo "_law_cell"), .fa (.free "int"), .fa (.free "range"), .fa (.glo "_law_names"), .fa (.glo "_law_turn"), .fa (.free "tuple"), .fa (.free "isinstance"), .fa (.free "str"), .fa (.glo "_law_count"), .fa (.free "sum"), .fa (.glo "_law_numbers"), .fa (.glo "_law_rule"), .fa (.glo "_law_symbols"), .fa (.glo "_law_entries"), .fa (.glo "_law_rules"), .fa (.glo "_law_lows"), .fa (.glo "_law_up"), .fa (.glo "_law_combine"), .fa (.glo "_law_fitting"), .fa (.glo "_law_put"), .fa (.glo "_law_rank"), .fa (.glo "_law_term"), .fa (.glo "_law_way"), .fa (.str "LETTERS" "abcdefghijklmnopqrstuvwxyz"), .fa (.glo "is_name"), .fa (.cls "Signature"), .fa (.noat "Signature" "listed"), .fa (.noat "Signature" "numbers"), .fa (.glo "check_symbol"), .fa (.free "list"), .fa (.meth "Signature" "number"), .fa (.meth "Signature" "places"), .fa (.meth "Signature" "size"), .fa (.meth "Signature" "rank"), .fa (.glo "_law_random"), .fa (.mkr "Signature"), .fa (.glo "Signature"), .fa (.glo "_law_other"), .fa (.meth "Signature" "precedes"), .fa (.free "bool")]
def fn : List DefP := [d_l_cell, d_l_numbers, d_l_names, d_l_turn, d_l_symbols, d_l_lows, d_l_entries, d_l_count, d_l_rule, d_l_rules, d_l_random, d_l_up, d_l_combine, d_l_fitting, d_l_term, d_l_way, d_l_put, d_l_rank, d_l_other, d_is_name, d_check_symbol, d_signature_init, d_signature_number, d_signature_places, d_signature_size, d_signature_rank, d_signature_precedes, d_law]
abbrev N_l_cell : List Str := ["_law_script", "_law_k"]
theorem sc_l_cell : FnScope N_l_cell ["_law_script", "_law_k"] (defScope s_l_cell) := ⟨rfl, rfl, rfl, by decide +kernel, rfl, by decide +kernel, by decide +kernel⟩
def b_l_cell : Ev → SR := sSeq (sIf (dTest (dOp gLt (dVar 1) (dCall cLen (dCons (dVar 0) (dNil))))) (sRet (dOp gIx (dVar 0) (dVar 1))) (sNil)) (sRet (dC (.int 0)))
def den_l_cell : List D → Rs D := runD 2 b_l_cell
theorem ok_l_cell {P : Program} {w : World} {K : PySem.W.Frag} {mg : Str → Option Value} {base : Heap} (T : Tx fa fn K mg) : FnD P w K mg base 1 (gAd "_law_cell") 2 den_l_cell := by
  obtain ⟨fd, F⟩ := T.c.def_ 0 (d := d_l_cell) (by rfl)
  refine fnD_of (d := d_l_cell) (k := 0) F sc_l_cell (fun _ _ _ _ _ _ _ us hl => match us, hl with | [_, _], _ => rfl) (fun cdv A outer s H E hr => ?_)
  have nd := sc_l_cell.nd
  have hu := u200 hr
  have hu1 := u1 hr
  have hx : Passes (L2.CX P w) (cxOf (L2.CX P w) P w K mg base N_l_cell "_law_cell" (defScope s_l_cell) ((gAd "_law_cell") K) cdv A outer s H E) E := passes_call (takes_of rfl rfl rfl rfl) (fun _ _ _ _ h => h)
  have ho : PassesOwn (model P w) (cxOf (L2.CX P w) P w K mg base N_l_cell "_law_cell" (defScope s_l_cell) ((gAd "_law_cell") K) cdv A outer s H E).A (cxOf (L2.CX P w) P w K mg base N_l_cell "_law_cell" (defScope s_l_cell) ((gAd "_law_cell") K) cdv A outer s H E).env (cxOf (L2.CX P w) P w K mg base N_l_cell "_law_cell" (defScope s_l_cell) ((gAd "_law_cell") K) cdv A outer s H E).xe := passes_of rfl
  exact (ds_cons (ds_if (dt_cmp dd_lt0 (de_var (pv 1)) (de_callB cd_len (by rfl) (T.free 1) PySem.boot_len (da_cons (de_var (pv 0)) da_nil)) (nomark _)) (ds_one (ds_ret (de_ix (ixd hu1) (de_var (pv 0)) (de_var (pv 1)) (fun _ _ => rfl)))) ds_nil) (ds_one (ds_ret de_int)))
abbrev N_l_numbers : List Str := ["_law_script", "_law_k", "_law_count_here", "_law_cell_here", "_law_state", "_law_rest", "_law_numbers_here", "_law_at"]
theorem sc_l_numbers : FnScope N_l_numbers ["_law_script", "_law_k", "_law_count_here"] (defScope s_l_numbers) := ⟨rfl, rfl, rfl, by decide +kernel, rfl, by decide +kernel, by decide +kernel⟩
def lb_l_numbers_1 : Ev → SR := sSeq (sSet 4 (dOp gMod (dCall cInt (dCons (dOp gAdd (dOp gMul (dVar 4) (dC (.int 48271))) (dC (.int 11))) (dNil))) (dC (.int 2147483647)))) (sIf (dTest (dOp gGt (dVar 5) (dC (.int 0)))) (sSeq (sApp 6 (dOp gMod (dCall cInt (dCons (dVar 5) (dNil))) (dC (.int 5040)))) (sSet 5 (dOp gDiv (dVar 5) (dC (.int 5040))))) (sApp 6 (dOp gMod (dCall cInt (dCons (dOp gDiv (dOp gMod (dCall cInt (dCons (dOp gMul (dOp gDiv (dVar 4) (dC (.int 7))) (dC (.int 69621))) (dNil))) (dC (.int 2147483629))) (dC (.int 64))) (dNil))) (dC (.int 5040)))))
def b_l_numbers : Ev → SR := sSeq (sSet 3 (dCallN 2 den_l_cell (dCons (dVar 0) (dCons (dVar 1) (dNil))))) (sSeq (sSet 4 (dOp gMod (dCall cInt (dCons (dOp gAdd (dOp gAdd (dOp gMul (dVar 3) (dC (.int 48271))) (dOp gMul (dVar 1) (dC (.int 7919)))) (dC (.int 12345))) (dNil))) (dC (.int 2147483647)))) (sSeq (sSet 5 (dC (.int 0))) (sSeq (sIf (dTest (dOp gGe (dVar 3) (dOp gPow (dC (.int 10)) (dC (.int 18))))) (sSet 5 (dVar 3)) (sNil)) (sSeq (sNew 6) (sSeq (sFor (dItR (dVar 2)) (tgN 7) [7] lb_l_numbers_1) ((fun ρ => (sRet (dVar 6)) (frz 6 ρ))))))))
def den_l_numbers : List D → Rs D := runD 8 b_l_numbers
theorem ok_l_numbers {P : Program} {w : World} {K : PySem.W.Frag} {mg : Str → Option Value} {base : Heap} (T : Tx fa fn K mg) (F_l_cell : FnD P w K mg base 1 (gAd "_law_cell") 2 den_l_cell) : FnD P w K mg base 2 (gAd "_law_numbers") 3 den_l_numbers := by
  obtain ⟨fd, F⟩ := T.c.def_ 1 (d := d_l_numbers) (by rfl)
  refine fnD_of (d := d_l_numbers) (k := 1) F sc_l_numbers (fun _ _ _ _ _ _ _ us hl => match us, hl with | [_, _, _], _ => rfl) (fun cdv A outer s H E hr => ?_)
  have nd := sc_l_numbers.nd
  have hu := u200 hr
  have hu1 := u1 hr
  have hx : Passes (L2.CX P w) (cxOf (L2.CX P w) P w K mg base N_l_numbers "_law_numbers" (defScope s_l_numbers) ((gAd "_law_numbers") K) cdv A outer s H E) E := passes_call (takes_of rfl rfl rfl rfl) (fun _ _ _ _ h => h)
  have ho : PassesOwn (model P w) (cxOf (L2.CX P w) P w K mg base N_l_numbers "_law_numbers" (defScope s_l_numbers) ((gAd "_law_numbers") K) cdv A outer s H E).A (cxOf (L2.CX P w) P w K mg base N_l_numbers "_law_numbers" (defScope s_l_numbers) ((gAd "_law_numbers") K) cdv A outer s H E).env (cxOf (L2.CX P w) P w K mg base N_l_numbers "_law_numbers" (defScope s_l_numbers) ((gAd "_law_numbers") K) cdv A outer s H E).xe := passes_of rfl
  exact (ds_cons (ds_set (ps_set (i := 3) nd rfl (by first | exact Or.inl rfl | exact Or.inr rfl) (de_callF F_l_cell (hr.mono (by decide)) (T.glo 2) hx (da_cons (de_var (pv 0)) (da_cons (de_var (pv 1)) da_nil))))) (ds_cons (ds_set (ps_set (i := 4) nd rfl (by first | exact Or.inl rfl | exact Or.inr rfl) (de_op dd_mod (de_callTy cd_int (by rfl) (T.free 3) PyProof.Rows.boot_int (da_cons (de_op dd_add (de_op dd_add (de_op dd_mul (de_var (pv 3)) de_int) (de_op dd_mul (de_var (pv 1)) de_int)) de_int) da_nil)) de_int))) (ds_cons (ds_set (ps_set (i := 5) nd rfl (by first | exact Or.inl rfl | exact Or.inr rfl) de_int)) (ds_cons (ds_if (dt_cmp dd_ge (de_var (pv 3)) (de_op dd_pow de_int de_int) (nomark _)) (ds_one (ds_set (ps_set (i := 5) nd rfl (by first | exact Or.inl rfl | exact Or.inr rfl) (de_var (pv 3))))) ds_nil) (ds_cons (ds_new (ps_set (i := 6) nd rfl (by first | exact Or.inl rfl | exact Or.inr rfl) (pe_lst pa_nil))) (ds_cons (ds_for [7] (tg_name (i := 7) (vs := [7]) (by decide)) (ps_for ho rfl (di_rng (by rfl) (T.free 4) (de_var (pv 2))) (pg_name (i := 7) nd rfl (by first | exact Or.inl rfl | exact Or.inr rfl)) (ds_cons (ds_set (ps_set (i := 4) nd rfl (by first | exact Or.inl rfl | exact Or.inr rfl) (de_op dd_mod (de_callTy cd_int (by rfl) (T.free 3) PyProof.Rows.boot_int (da_cons (de_op dd_add (de_op dd_mul (de_var (pv 4)) de_int) de_int) da_nil)) de_int))) (ds_one (ds_if (dt_cmp dd_gt (de_var (pv 5)) de_int (nomark _)) (ds_cons (ds_app (ps_expr (pe_bm PySem.F.plainAttrs_list PySem.F.slot_list_append PySem.F.type_list_append mt_append (pv 6) (pa_cons (de_op dd_mod (de_callTy cd_int (by rfl) (T.free 3) PyProof.Rows.boot_int (da_cons (de_var (pv 5)) da_nil)) de_int) pa_nil)))) (ds_one (ds_set (ps_set (i := 5) nd rfl (by first | exact Or.inl rfl | exact Or.inr rfl) (de_op dd_div (de_var (pv 5)) de_int))))) (ds_one (ds_app (ps_expr (pe_bm PySem.F.plainAttrs_list PySem.F.slot_list_append PySem.F.type_list_append mt_append (pv 6) (pa_cons (de_op dd_mod (de_callTy cd_int (by rfl) (T.free 3) PyProof.Rows.boot_int (da_cons (de_op dd_div (de_op dd_mod (de_callTy cd_int (by rfl) (T.free 3) PyProof.Rows.boot_int (da_cons (de_op dd_mul (de_op dd_div (de_var (pv 4)) de_int) de_int) da_nil)) de_int) de_int) da_nil)) de_int) pa_nil)))))))))) (ds_frz 6 (ds_one (ds_ret (de_var (pv 6)))))))))))
abbrev N_l_names : List Str := ["_law_number", "_law_count_here", "_law_letters", "_law_place", "_law_some", "_law_alike", "_law_longer", "_law_shorter", "_law_k", "_law_letter"]
theorem sc_l_names : FnScope N_l_names ["_law_number", "_law_count_here"] (defScope s_l_names) := ⟨rfl, rfl, rfl, by decide +kernel, rfl, by decide +kernel, by decide +kernel⟩
def cc_l_names_1 : Ev → Rs D := dOp gIx (dVar 2) (dOp gMod (dCall cInt (dCons (dOp gAdd (dOp gDiv (dVar 0) (dC (.int 32))) (dOp gMul (dC (.int 5)) (dVar 8))) (dNil))) (dC (.int 26)))
def cc_l_names_2 : Ev → Rs D := dOp gAdd (dOp gAdd (dOp gMul (dC (.str "o")) (dVar 3)) (dVar 9)) (dOp gMul (dC (.str "o")) (dOp gSub (dC (.int 7)) (dVar 3)))
def cc_l_names_3 : Ev → Rs D := dOp gMul (dOp gIx (dVar 4) (dC (.int 0))) (dOp gAdd (dVar 8) (dC (.int 1)))
def cc_l_names_4 : Ev → Rs D := dOp gMul (dOp gIx (dVar 4) (dC (.int 0))) (dOp gSub (dVar 1) (dVar 8))
def b_l_names : Ev → SR := sSeq (sSet 2 (dC (.str "etaoinshrdlucmfwypvbgkjqxz"))) (sSeq (sSet 3 (dOp gMod (dCall cInt (dCons (dOp gDiv (dVar 0) (dC (.int 4))) (dNil))) (dC (.int 8)))) (sSeq (sSet 4 (dComp [8] (dItR (dVar 1)) (tgN 8) (fun _ => .ok true) (cc_l_names_1))) (sSeq (sSet 5 (dComp [9] (dItA (dVar 4)) (tgN 9) (fun _ => .ok true) (cc_l_names_2))) (sSeq (sSet 6 (dComp [8] (dItR (dVar 1)) (tgN 8) (fun _ => .ok true) (cc_l_names_3))) (sSeq (sSet 7 (dComp [8] (dItR (dVar 1)) (tgN 8) (fun _ => .ok true) (cc_l_names_4))) (sRet (dOp gIx (dLst (dCons (dVar 4) (dCons (dVar 5) (dCons (dVar 6) (dCons (dVar 7) (dNil)))))) (dOp gMod (dCall cInt (dCons (dVar 0) (dNil))) (dC (.int 4))))))))))
def den_l_names : List D → Rs D := runD 10 b_l_names
theorem ok_l_names {P : Program} {w : World} {K : PySem.W.Frag} {mg : Str → Option Value} {base : Heap} (T : Tx fa fn K mg) : FnD P w K mg base 1 (gAd "_law_names") 2 den_l_names := by
  obtain ⟨fd, F⟩ := T.c.def_ 2 (d := d_l_names) (by rfl)
  refine fnD_of (d := d_l_names) (k := 0) F sc_l_names (fun _ _ _ _ _ _ _ us hl => match us, hl with | [_, _], _ => rfl) (fun cdv A outer s H E hr => ?_)
  have nd := sc_l_names.nd
  have hu := u200 hr
  have hu1 := u1 hr
  have hx : Passes (L2.CX P w) (cxOf (L2.CX P w) P w K mg base N_l_names "_law_names" (defScope s_l_names) ((gAd "_law_names") K) cdv A outer s H E) E := passes_call (takes_of rfl rfl rfl rfl) (fun _ _ _ _ h => h)
  have ho : PassesOwn (model P w) (cxOf (L2.CX P w) P w K mg base N_l_names "_law_names" (defScope s_l_names) ((gAd "_law_names") K) cdv A outer s H E).A (cxOf (L2.CX P w) P w K mg base N_l_names "_law_names" (defScope s_l_names) ((gAd "_law_names") K) cdv A outer s H E).env (cxOf (L2.CX P w) P w K mg base N_l_names "_law_names" (defScope s_l_names) ((gAd "_law_names") K) cdv A outer s H E).xe := passes_of rfl
  exact (ds_cons (ds_set (ps_set (i := 2) nd rfl (by first | exact Or.inl rfl | exact Or.inr rfl) de_str)) (ds_cons (ds_set (ps_set (i := 3) nd rfl (by first | exact Or.inl rfl | exact Or.inr rfl) (de_op dd_mod (de_callTy cd_int (by rfl) (T.free 3) PyProof.Rows.boot_int (da_cons (de_op dd_div (de_var (pv 0)) de_int) da_nil)) de_int))) (ds_cons (ds_set (ps_set (i := 4) nd rfl (by first | exact Or.inl rfl | exact Or.inr rfl) (de_lc (tg_name (i := 8) (vs := [8]) (by decide)) (pe_lc (own := [("_law_k", 8)])  rfl nd (di_rng (by rfl) (T.free 4) (de_var (pv 1))) (blkOk_by (own := [("_law_k", 8)]) (N := N_l_names) (sc := defScope s_l_names) (by decide +kernel)) (fun _ _ _ _ _ => pg_name (i := 8) nd rfl (by first | exact Or.inl rfl | exact Or.inr rfl)) (fun _ _ _ _ _ => dts_nil) (fun _ _ _ _ _ => (de_ix (ixd hu1) (de_var (pv 2)) (de_op dd_mod (de_callTy cd_int (by rfl) (T.free 3) PyProof.Rows.boot_int (da_cons (de_op dd_add (de_op dd_div (de_var (pv 0)) de_int) (de_op dd_mul de_int (de_var (pv 8)))) da_nil)) de_int) (fun _ _ => rfl))))))) (ds_cons (ds_setLc (tg_name (i := 9) (vs := [9]) (by decide)) (ps_setLc (i := 5) (own := [("_law_letter", 9)])  rfl nd rfl rfl (sw_true rfl rfl rfl (by decide +kernel)) (di_seq (de_var (pv 4))) (blkOk_by (own := [("_law_letter", 9)]) (N := N_l_names) (sc := defScope s_l_names) (by decide +kernel)) (fun _ _ _ _ _ => pg_name (i := 9) nd rfl (by first | exact Or.inl rfl | exact Or.inr rfl)) (fun _ _ _ _ _ => dts_nil) (fun _ _ _ _ _ => (de_op dd_add (de_op dd_add (de_op dd_mul de_str (de_var (pv 3))) (de_var (pv 9))) (de_op dd_mul de_str (de_op dd_sub de_int (de_var (pv 3)))))))) (ds_cons (ds_setLc (tg_name (i := 8) (vs := [8]) (by decide)) (ps_setLc (i := 6) (own := [("_law_k", 8)])  rfl nd rfl rfl (sw_true rfl rfl rfl (by decide +kernel)) (di_rng (by rfl) (T.free 4) (de_var (pv 1))) (blkOk_by (own := [("_law_k", 8)]) (N := N_l_names) (sc := defScope s_l_names) (by decide +kernel)) (fun _ _ _ _ _ => pg_name (i := 8) nd rfl (by first | exact Or.inl rfl | exact Or.inr rfl)) (fun _ _ _ _ _ => dts_nil) (fun _ _ _ _ _ => (de_op dd_mul (de_ix (ixd hu1) (de_var (pv 4)) de_int (fun _ _ => rfl)) (de_op dd_add (de_var (pv 8)) de_int))))) (ds_cons (ds_setLc (tg_name (i := 8) (vs := [8]) (by decide)) (ps_setLc (i := 7) (own := [("_law_k", 8)])  rfl nd rfl rfl (sw_true rfl rfl rfl (by decide +kernel)) (di_rng (by rfl) (T.free 4) (de_var (pv 1))) (blkOk_by (own := [("_law_k", 8)]) (N := N_l_names) (sc := defScope s_l_names) (by decide +kernel)) (fun _ _ _ _ _ => pg_name (i := 8) nd rfl (by first | exact Or.inl rfl | exact Or.inr rfl)) (fun _ _ _ _ _ => dts_nil) (fun _ _ _ _ _ => (de_op dd_mul (de_ix (ixd hu1) (de_var (pv 4)) de_int (fun _ _ => rfl)) (de_op dd_sub (de_var (pv 1)) (de_var (pv 8))))))) (ds_one (ds_ret (de_ix (ixd hu1) (de_lst (da_cons (de_var (pv 4)) (da_cons (de_var (pv 5)) (da_cons (de_var (pv 6)) (da_cons (de_var (pv 7)) da_nil))))) (de_op dd_mod (de_callTy cd_int (by rfl) (T.free 3) PyProof.Rows.boot_int (da_cons (de_var (pv 0)) da_nil)) de_int) (fun _ _ => rfl))))))))))
abbrev N_l_turn : List Str := ["_law_number", "_law_limit", "_law_turns", "_law_at"]
theorem sc_l_turn : FnScope N_l_turn ["_law_number", "_law_limit"] (defScope s_l_turn) := ⟨rfl, rfl, rfl, by decide +kernel, rfl, by decide +kernel, by decide +kernel⟩
def ct_l_turn_1 : Ev → Rs Bool := dTest (dOp gLt (dVar 3) (dVar 1))
def cc_l_turn_1 : Ev → Rs D := dVar 3
def b_l_turn : Ev → SR := sSeq (sSet 2 (dLst (dCons (dLst (dCons (dC (.int 0)) (dCons (dC (.int 1)) (dCons (dC (.int 2)) (dNil))))) (dCons (dLst (dCons (dC (.int 0)) (dCons (dC (.int 2)) (dCons (dC (.int 1)) (dNil))))) (dCons (dLst (dCons (dC (.int 1)) (dCons (dC (.int 0)) (dCons (dC (.int 2)) (dNil))))) (dCons (dLst (dCons (dC (.int 1)) (dCons (dC (.int 2)) (dCons (dC (.int 0)) (dNil))))) (dCons (dLst (dCons (dC (.int 2)) (dCons (dC (.int 0)) (dCons (dC (.int 1)) (dNil))))) (dCons (dLst (dCons (dC (.int 2)) (dCons (dC (.int 1)) (dCons (dC (.int 0)) (dNil))))) (dNil))))))))) (sRet (dComp [3] (dItA (dOp gIx (dVar 2) (dOp gMod (dCall cInt (dCons (dVar 0) (dNil))) (dC (.int 6))))) (tgN 3) (ct_l_turn_1) (cc_l_turn_1)))
def den_l_turn : List D → Rs D := runD 4 b_l_turn
theorem ok_l_turn {P : Program} {w : World} {K : PySem.W.Frag} {mg : Str → Option Value} {base : Heap} (T : Tx fa fn K mg) : FnD P w K mg base 1 (gAd "_law_turn") 2 den_l_turn := by
  obtain ⟨fd, F⟩ := T.c.def_ 3 (d := d_l_turn) (by rfl)
  refine fnD_of (d := d_l_turn) (k := 0) F sc_l_turn (fun _ _ _ _ _ _ _ us hl => match us, hl with | [_, _], _ => rfl) (fun cdv A outer s H E hr => ?_)
  have nd := sc_l_turn.nd
  have hu := u200 hr
  have hu1 := u1 hr
  have hx : Passes (L2.CX P w) (cxOf (L2.CX P w) P w K mg base N_l_turn "_law_turn" (defScope s_l_turn) ((gAd "_law_turn") K) cdv A outer s H E) E := passes_call (takes_of rfl rfl rfl rfl) (fun _ _ _ _ h => h)
  have ho : PassesOwn (model P w) (cxOf (L2.CX P w) P w K mg base N_l_turn "_law_turn" (defScope s_l_turn) ((gAd "_law_turn") K) cdv A outer s H E).A (cxOf (L2.CX P w) P w K mg base N_l_turn "_law_turn" (defScope s_l_turn) ((gAd "_law_turn") K) cdv A outer s H E).env (cxOf (L2.CX P w) P w K mg base N_l_turn "_law_turn" (defScope s_l_turn) ((gAd "_law_turn") K) cdv A outer s H E).xe := passes_of rfl
  exact (ds_cons (ds_set (ps_set (i := 2) nd rfl (by first | exact Or.inl rfl | exact Or.inr rfl) (de_lst (da_cons (de_lst (da_cons de_int (da_cons de_int (da_cons de_int da_nil)))) (da_cons (de_lst (da_cons de_int (da_cons de_int (da_cons de_int da_nil)))) (da_cons (de_lst (da_cons de_int (da_cons de_int (da_cons de_int da_nil)))) (da_cons (de_lst (da_cons de_int (da_cons de_int (da_cons de_int da_nil)))) (da_cons (de_lst (da_cons de_int (da_cons de_int (da_cons de_int da_nil)))) (da_cons (de_lst (da_cons de_int (da_cons de_int (da_cons de_int da_nil)))) da_nil))))))))) (ds_one (ds_ret (de_lc (tg_name (i := 3) (vs := [3]) (by decide)) (pe_lc (own := [("_law_at", 3)])  rfl nd (di_seq (de_ix (ixd hu1) (de_var (pv 2)) (de_op dd_mod (de_callTy cd_int (by rfl) (T.free 3) PyProof.Rows.boot_int (da_cons (de_var (pv 0)) da_nil)) de_int) (fun _ _ => rfl))) (blkOk_by (own := [("_law_at", 3)]) (N := N_l_turn) (sc := defScope s_l_turn) (by decide +kernel)) (fun _ _ _ _ _ => pg_name (i := 3) nd rfl (by first | exact Or.inl rfl | exact Or.inr rfl)) (fun _ _ _ _ _ => dts_one (dt_cmp dd_lt0 (de_var (pv 3)) (de_var (pv 1)) (nomark _))) (fun _ _ _ _ _ => (de_var (pv 3))))))))
abbrev N_l_symbols : List Str := ["_law_numbers_here", "_law_count_here", "_law_names_here", "_law_rows", "_law_k", "_law_number", "_law_places", "_law_done", "_law_order"]
theorem sc_l_symbols : FnScope N_l_symbols ["_law_numbers_here"] (defScope s_l_symbols) := ⟨rfl, rfl, rfl, by decide +kernel, rfl, by decide +kernel, by decide +kernel⟩
def lb_l_symbols_1 : Ev → SR := sSeq (sSet 5 (dOp gIx (dVar 0) (dOp gAdd (dC (.int 2)) (dVar 4)))) (sSeq (sSet 6 (dOp gIx (dLst (dCons (dC (.int 0)) (dCons (dC (.int 1)) (dCons (dC (.int 2)) (dCons (dC (.int 2)) (dCons (dC (.int 1)) (dCons (dC (.int 0)) (dCons (dC (.int 3)) (dNil))))))))) (dOp gMod (dCall cInt (dCons (dVar 5) (dNil))) (dC (.int 7))))) (sSeq (sSet 7 (dOp gEq (dOp gMod (dCall cInt (dCons (dOp gDiv (dVar 5) (dC (.int 7))) (dNil))) (dC (.int 2))) (dC (.int 0)))) (sSeq (sIf (dTest (dOp gEq (dVar 4) (dC (.int 0)))) (sSeq (sSet 6 (dC (.int 0))) (sSet 7 (dOp gGt (dOp gMod (dCall cInt (dCons (dOp gDiv (dVar 5) (dC (.int 7))) (dNil))) (dC (.int 8))) (dC (.int 0))))) (sNil)) (sSeq (sSet 8 (dSl (dCallN 2 den_l_turn (dCons (dOp gDiv (dVar 5) (dC (.int 14))) (dCons (dVar 6) (dNil)))) (dNoP) (dPart (dOp gMod (dCall cInt (dCons (dOp gDiv (dVar 5) (dC (.int 84))) (dNil))) (dOp gAdd (dVar 6) (dC (.int 1))))))) (sApp 3 (dTup (dCons (dOp gIx (dVar 2) (dVar 4)) (dCons (dVar 6) (dCons (dVar 7) (dCons (dCall cTuple (dCons (dVar 8) (dNil))) (dNil)))))))))))
def b_l_symbols : Ev → SR := sSeq (sSet 1 (dOp gAdd (dC (.int 2)) (dOp gMod (dCall cInt (dCons (dOp gIx (dVar 0) (dC (.int 0))) (dNil))) (dC (.int 4))))) (sSeq (sSet 2 (dCallN 2 den_l_names (dCons (dOp gIx (dVar 0) (dC (.int 1))) (dCons (dVar 1) (dNil))))) (sSeq (sNew 3) (sSeq (sFor (dItR (dVar 1)) (tgN 4) [4, 5, 6, 7, 8] lb_l_symbols_1) ((fun ρ => (sRet (dVar 3)) (frz 3 ρ))))))
def den_l_symbols : List D → Rs D := runD 9 b_l_symbols
theorem ok_l_symbols {P : Program} {w : World} {K : PySem.W.Frag} {mg : Str → Option Value} {base : Heap} (T : Tx fa fn K mg) (F_l_names : FnD P w K mg base 1 (gAd "_law_names") 2 den_l_names) (F_l_turn : FnD P w K mg base 1 (gAd "_law_turn") 2 den_l_turn) : FnD P w K mg base 2 (gAd "_law_symbols") 1 den_l_symbols := by
  obtain ⟨fd, F⟩ := T.c.def_ 4 (d := d_l_symbols) (by rfl)
  refine fnD_of (d := d_l_symbols) (k := 1) F sc_l_symbols (fun _ _ _ _ _ _ _ us hl => match us, hl with | [_], _ => rfl) (fun cdv A outer s H E hr => ?_)
  have nd := sc_l_symbols.nd
  have hu := u200 hr
  have hu1 := u1 hr
  have hx : Passes (L2.CX P w) (cxOf (L2.CX P w) P w K mg base N_l_symbols "_law_symbols" (defScope s_l_symbols) ((gAd "_law_symbols") K) cdv A outer s H E) E := passes_call (takes_of rfl rfl rfl rfl) (fun _ _ _ _ h => h)
  have ho : PassesOwn (model P w) (cxOf (L2.CX P w) P w K mg base N_l_symbols "_law_symbols" (defScope s_l_symbols) ((gAd "_law_symbols") K) cdv A outer s H E).A (cxOf (L2.CX P w) P w K mg base N_l_symbols "_law_symbols" (defScope s_l_symbols) ((gAd "_law_symbols") K) cdv A outer s H E).env (cxOf (L2.CX P w) P w K mg base N_l_symbols "_law_symbols" (defScope s_l_symbols) ((gAd "_law_symbols") K) cdv A outer s H E).xe := passes_of rfl
  exact (ds_cons (ds_set (ps_set (i := 1) nd rfl (by first | exact Or.inl rfl | exact Or.inr rfl) (de_op dd_add de_int (de_op dd_mod (de_callTy cd_int (by rfl) (T.free 3) PyProof.Rows.boot_int (da_cons (de_ix (ixd hu1) (de_var (pv 0)) de_int (fun _ _ => rfl)) da_nil)) de_int)))) (ds_cons (ds_set (ps_set (i := 2) nd rfl (by first | exact Or.inl rfl | exact Or.inr rfl) (de_callF F_l_names (hr.mono (by decide)) (T.glo 5) hx (da_cons (de_ix (ixd hu1) (de_var (pv 0)) de_int (fun _ _ => rfl)) (da_cons (de_var (pv 1)) da_nil))))) (ds_cons (ds_new (ps_set (i := 3) nd rfl (by first | exact Or.inl rfl | exact Or.inr rfl) (pe_lst pa_nil))) (ds_cons (ds_for [4, 5, 6, 7, 8] (tg_name (i := 4) (vs := [4]) (by decide)) (ps_for ho rfl (di_rng (by rfl) (T.free 4) (de_var (pv 1))) (pg_name (i := 4) nd rfl (by first | exact Or.inl rfl | exact Or.inr rfl)) (ds_cons (ds_set (ps_set (i := 5) nd rfl (by first | exact Or.inl rfl | exact Or.inr rfl) (de_ix (ixd hu1) (de_var (pv 0)) (de_op dd_add de_int (de_var (pv 4))) (fun _ _ => rfl)))) (ds_cons (ds_set (ps_set (i := 6) nd rfl (by first | exact Or.inl rfl | exact Or.inr rfl) (de_ix (ixd hu1) (de_lst (da_cons de_int (da_cons de_int (da_cons de_int (da_cons de_int (da_cons de_int (da_cons de_int (da_cons de_int da_nil)))))))) (de_op dd_mod (de_callTy cd_int (by rfl) (T.free 3) PyProof.Rows.boot_int (da_cons (de_var (pv 5)) da_nil)) de_int) (fun _ _ => rfl)))) (ds_cons (ds_set (ps_set (i := 7) nd rfl (by first | exact Or.inl rfl | exact Or.inr rfl) (de_cmp (dd_eq hu) (de_op dd_mod (de_callTy cd_int (by rfl) (T.free 3) PyProof.Rows.boot_int (da_cons (de_op dd_div (de_var (pv 5)) de_int) da_nil)) de_int) de_int (nomark _)))) (ds_cons (ds_if (dt_cmp (dd_eq hu) (de_var (pv 4)) de_int (nomark _)) (ds_cons (ds_set (ps_set (i := 6) nd rfl (by first | exact Or.inl rfl | exact Or.inr rfl) de_int)) (ds_one (ds_set (ps_set (i := 7) nd rfl (by first | exact Or.inl rfl | exact Or.inr rfl) (de_cmp dd_gt (de_op dd_mod (de_callTy cd_int (by rfl) (T.free 3) PyProof.Rows.boot_int (da_cons (de_op dd_div (de_var (pv 5)) de_int) da_nil)) de_int) de_int (nomark _)))))) ds_nil) (ds_cons (ds_set (ps_set (i := 8) nd rfl (by first | exact Or.inl rfl | exact Or.inr rfl) (de_slice (de_callF F_l_turn (hr.mono (by decide)) (T.glo 6) hx (da_cons (de_op dd_div (de_var (pv 5)) de_int) (da_cons (de_var (pv 6)) da_nil))) do_none (do_some (de_op dd_mod (de_callTy cd_int (by rfl) (T.free 3) PyProof.Rows.boot_int (da_cons (de_op dd_div (de_var (pv 5)) de_int) da_nil)) (de_op dd_add (de_var (pv 6)) de_int)))))) (ds_one (ds_app (ps_expr (pe_bm PySem.F.plainAttrs_list PySem.F.slot_list_append PySem.F.type_list_append mt_append (pv 3) (pa_cons (de_tup (da_cons (de_ix (ixd hu1) (de_var (pv 2)) (de_var (pv 4)) (fun _ _ => rfl)) (da_cons (de_var (pv 6)) (da_cons (de_var (pv 7)) (da_cons (de_callTy cd_tuple (by rfl) (T.free 7) PyProof.Rows.boot_tuple (da_cons (de_var (pv 8)) da_nil)) da_nil))))) pa_nil)))))))))))) (ds_frz 3 (ds_one (ds_ret (de_var (pv 3)))))))))
abbrev N_l_lows : List Str := ["_law_number", "_law_kinds", "_law_turn_here", "_law_pairs", "_law_k", "_law_j"]
theorem sc_l_lows : FnScope N_l_lows ["_law_number", "_law_kinds"] (defScope s_l_lows) := ⟨rfl, rfl, rfl, by decide +kernel, rfl, by decide +kernel, by decide +kernel⟩
def lb_l_lows_1 : Ev → SR := sIf (dTest (dOp gEq (dOp gMod (dCall cInt (dCons (dOp gDiv (dVar 0) (dOp gIx (dLst (dCons (dC (.int 6)) (dCons (dC (.int 12)) (dCons (dC (.int 24)) (dNil))))) (dOp gSub (dOp gAdd (dVar 4) (dVar 5)) (dC (.int 1))))) (dNil))) (dC (.int 2))) (dC (.int 1)))) (sApp 3 (dTup (dCons (dOp gIx (dVar 1) (dOp gIx (dVar 2) (dVar 5))) (dCons (dOp gIx (dVar 1) (dOp gIx (dVar 2) (dVar 4))) (dNil))))) (sNil)
def lb_l_lows_2 : Ev → SR := sFor (dItR (dVar 4)) (tgN 5) [5] lb_l_lows_1
def cc_l_lows_1 : Ev → Rs D := dIxO 3 (dOp gSub (dOp gSub (dLenX 3) (dC (.int 1))) (dVar 4))
def b_l_lows : Ev → SR := sSeq (sSet 2 (dCallN 2 den_l_turn (dCons (dVar 0) (dCons (dCall cLen (dCons (dVar 1) (dNil))) (dNil))))) (sSeq (sNew 3) (sSeq (sFor (dItR (dCall cLen (dCons (dVar 2) (dNil)))) (tgN 4) [] lb_l_lows_2) (sSeq (sIf (dTest (dOp gEq (dOp gMod (dCall cInt (dCons (dOp gDiv (dVar 0) (dC (.int 48))) (dNil))) (dC (.int 2))) (dC (.int 1)))) (sSet 3 (dComp [4] (dItR (dLenX 3)) (tgN 4) (fun _ => .ok true) (cc_l_lows_1))) (sNil)) ((fun ρ => (sRet (dVar 3)) (frz 3 ρ))))))
def den_l_lows : List D → Rs D := runD 6 b_l_lows
theorem ok_l_lows {P : Program} {w : World} {K : PySem.W.Frag} {mg : Str → Option Value} {base : Heap} (T : Tx fa fn K mg) (F_l_turn : FnD P w K mg base 1 (gAd "_law_turn") 2 den_l_turn) : FnD P w K mg base 2 (gAd "_law_lows") 2 den_l_lows := by
  obtain ⟨fd, F⟩ := T.c.def_ 5 (d := d_l_lows) (by rfl)
  refine fnD_of (d := d_l_lows) (k := 1) F sc_l_lows (fun _ _ _ _ _ _ _ us hl => match us, hl with | [_, _], _ => rfl) (fun cdv A outer s H E hr => ?_)
  have nd := sc_l_lows.nd
  have hu := u200 hr
  have hu1 := u1 hr
  have hx : Passes (L2.CX P w) (cxOf (L2.CX P w) P w K mg base N_l_lows "_law_lows" (defScope s_l_lows) ((gAd "_law_lows") K) cdv A outer s H E) E := passes_call (takes_of rfl rfl rfl rfl) (fun _ _ _ _ h => h)
  have ho : PassesOwn (model P w) (cxOf (L2.CX P w) P w K mg base N_l_lows "_law_lows" (defScope s_l_lows) ((gAd "_law_lows") K) cdv A outer s H E).A (cxOf (L2.CX P w) P w K mg base N_l_lows "_law_lows" (defScope s_l_lows) ((gAd "_law_lows") K) cdv A outer s H E).env (cxOf (L2.CX P w) P w K mg base N_l_lows "_law_lows" (defScope s_l_lows) ((gAd "_law_lows") K) cdv A outer s H E).xe := passes_of rfl
  exact (ds_cons (ds_set (ps_set (i := 2) nd rfl (by first | exact Or.inl rfl | exact Or.inr rfl) (de_callF F_l_turn (hr.mono (by decide)) (T.glo 6) hx (da_cons (de_var (pv 0)) (da_cons (de_callB cd_len (by rfl) (T.free 1) PySem.boot_len (da_cons (de_var (pv 1)) da_nil)) da_nil))))) (ds_cons (ds_new (ps_set (i := 3) nd rfl (by first | exact Or.inl rfl | exact Or.inr rfl) (pe_lst pa_nil))) (ds_cons (ds_for [] (tg_name (i := 4) (vs := [4]) (by decide)) (ps_for ho rfl (di_rng (by rfl) (T.free 4) (de_callB cd_len (by rfl) (T.free 1) PySem.boot_len (da_cons (de_var (pv 2)) da_nil))) (pg_name (i := 4) nd rfl (by first | exact Or.inl rfl | exact Or.inr rfl)) (ds_one (ds_for [5] (tg_name (i := 5) (vs := [5]) (by decide)) (ps_for ho rfl (di_rng (by rfl) (T.free 4) (de_var (pv 4))) (pg_name (i := 5) nd rfl (by first | exact Or.inl rfl | exact Or.inr rfl)) (ds_one (ds_if (dt_cmp (dd_eq hu) (de_op dd_mod (de_callTy cd_int (by rfl) (T.free 3) PyProof.Rows.boot_int (da_cons (de_op dd_div (de_var (pv 0)) (de_ix (ixd hu1) (de_lst (da_cons de_int (da_cons de_int (da_cons de_int da_nil)))) (de_op dd_sub (de_op dd_add (de_var (pv 4)) (de_var (pv 5))) de_int) (fun _ _ => rfl))) da_nil)) de_int) de_int (nomark _)) (ds_one (ds_app (ps_expr (pe_bm PySem.F.plainAttrs_list PySem.F.slot_list_append PySem.F.type_list_append mt_append (pv 3) (pa_cons (de_tup (da_cons (de_ix (ixd hu1) (de_var (pv 1)) (de_ix (ixd hu1) (de_var (pv 2)) (de_var (pv 5)) (fun _ _ => rfl)) (fun _ _ => rfl)) (da_cons (de_ix (ixd hu1) (de_var (pv 1)) (de_ix (ixd hu1) (de_var (pv 2)) (de_var (pv 4)) (fun _ _ => rfl)) (fun _ _ => rfl)) da_nil))) pa_nil))))) ds_nil))))))) (ds_cons (ds_if (dt_cmp (dd_eq hu) (de_op dd_mod (de_callTy cd_int (by rfl) (T.free 3) PyProof.Rows.boot_int (da_cons (de_op dd_div (de_var (pv 0)) de_int) da_nil)) de_int) de_int (nomark _)) (ds_one (ds_set (ps_set (i := 3) nd rfl (by first | exact Or.inl rfl | exact Or.inr rfl) (de_lc (tg_name (i := 4) (vs := [4]) (by decide)) (pe_lc (own := [("_law_k", 4)])  rfl nd (di_rng (by rfl) (T.free 4) (de_lenX (by rfl) (T.free 1) (pv 3))) (blkOk_by (own := [("_law_k", 4)]) (N := N_l_lows) (sc := defScope s_l_lows) (by decide +kernel)) (fun _ _ _ _ _ => pg_name (i := 4) nd rfl (by first | exact Or.inl rfl | exact Or.inr rfl)) (fun _ _ _ _ _ => dts_nil) (fun _ _ _ _ _ => (de_ixO hu1 (pv 3) (de_op dd_sub (de_op dd_sub (de_lenX (by rfl) (T.free 1) (pv 3)) de_int) (de_var (pv 4))) (fun _ _ => rfl)))))))) ds_nil) (ds_frz 3 (ds_one (ds_ret (de_var (pv 3)))))))))
abbrev N_l_entries : List Str := ["_law_rows", "_law_kinds", "_law_numbers_here", "_law_told", "_law_k", "_law_number", "_law_row", "_law_parts", "_law_kind", "_law_j"]
theorem sc_l_entries : FnScope N_l_entries ["_law_rows", "_law_kinds", "_law_numbers_here"] (defScope s_l_entries) := ⟨rfl, rfl, rfl, by decide +kernel, rfl, by decide +kernel, by decide +kernel⟩
def cc_l_entries_1 : Ev → Rs D := dOp gIx (dVar 1) (dOp gMod (dOp gMod (dCall cInt (dCons (dOp gDiv (dVar 5) (dOp gIx (dLst (dCons (dC (.int 1)) (dCons (dC (.int 3)) (dCons (dC (.int 9)) (dNil))))) (dVar 9))) (dNil))) (dC (.int 3))) (dCall cLen (dCons (dVar 1) (dNil))))
def lb_l_entries_1 : Ev → SR := sSeq (sSet 5 (dOp gIx (dVar 2) (dVar 4))) (sSeq (sSet 6 (dOp gIx (dVar 0) (dOp gMod (dCall cInt (dCons (dOp gDiv (dVar 5) (dC (.int 81))) (dNil))) (dCall cLen (dCons (dVar 0) (dNil)))))) (sSeq (sIf (dTest (dOp gLt (dVar 4) (dCall cLen (dCons (dVar 0) (dNil))))) (sSet 6 (dOp gIx (dVar 0) (dVar 4))) (sNil)) (sSeq (sSet 7 (dComp [9] (dItR (dOp gIx (dVar 6) (dC (.int 1)))) (tgN 9) (fun _ => .ok true) (cc_l_entries_1))) (sSeq (sSet 8 (dOp gIx (dVar 1) (dOp gMod (dOp gMod (dCall cInt (dCons (dOp gDiv (dVar 5) (dC (.int 27))) (dNil))) (dC (.int 3))) (dCall cLen (dCons (dVar 1) (dNil)))))) (sIf (dOr (dTest (dOp gEq (dVar 4) (dC (.int 0)))) (dOr (dTest (dOp gGe (dVar 4) (dCall cLen (dCons (dVar 0) (dNil))))) (dTest (dOp gGt (dOp gMod (dCall cInt (dCons (dOp gDiv (dVar 5) (dC (.int 81))) (dNil))) (dC (.int 6))) (dC (.int 0)))))) (sApp 3 (dTup (dCons (dOp gIx (dVar 6) (dC (.int 0))) (dCons (dCall cTuple (dCons (dVar 7) (dNil))) (dCons (dVar 8) (dNil)))))) (sNil))))))
def b_l_entries : Ev → SR := sSeq (sNew 3) (sSeq (sFor (dItR (dCall cLen (dCons (dVar 2) (dNil)))) (tgN 4) [4, 5, 6, 7, 8] lb_l_entries_1) ((fun ρ => (sRet (dVar 3)) (frz 3 ρ))))
def den_l_entries : List D → Rs D := runD 10 b_l_entries
theorem ok_l_entries {P : Program} {w : World} {K : PySem.W.Frag} {mg : Str → Option Value} {base : Heap} (T : Tx fa fn K mg) : FnD P w K mg base 1 (gAd "_law_entries") 3 den_l_entries := by
  obtain ⟨fd, F⟩ := T.c.def_ 6 (d := d_l_entries) (by rfl)
  refine fnD_of (d := d_l_entries) (k := 0) F sc_l_entries (fun _ _ _ _ _ _ _ us hl => match us, hl with | [_, _, _], _ => rfl) (fun cdv A outer s H E hr => ?_)
  have nd := sc_l_entries.nd
  have hu := u200 hr
  have hu1 := u1 hr
  have hx : Passes (L2.CX P w) (cxOf (L2.CX P w) P w K mg base N_l_entries "_law_entries" (defScope s_l_entries) ((gAd "_law_entries") K) cdv A outer s H E) E := passes_call (takes_of rfl rfl rfl rfl) (fun _ _ _ _ h => h)
  have ho : PassesOwn (model P w) (cxOf (L2.CX P w) P w K mg base N_l_entries "_law_entries" (defScope s_l_entries) ((gAd "_law_entries") K) cdv A outer s H E).A (cxOf (L2.CX P w) P w K mg base N_l_entries "_law_entries" (defScope s_l_entries) ((gAd "_law_entries") K) cdv A outer s H E).env (cxOf (L2.CX P w) P w K mg base N_l_entries "_law_entries" (defScope s_l_entries) ((gAd "_law_entries") K) cdv A outer s H E).xe := passes_of rfl
  exact (ds_cons (ds_new (ps_set (i := 3) nd rfl (by first | exact Or.inl rfl | exact Or.inr rfl) (pe_lst pa_nil))) (ds_cons (ds_for [4, 5, 6, 7, 8] (tg_name (i := 4) (vs := [4]) (by decide)) (ps_for ho rfl (di_rng (by rfl) (T.free 4) (de_callB cd_len (by rfl) (T.free 1) PySem.boot_len (da_cons (de_var (pv 2)) da_nil))) (pg_name (i := 4) nd rfl (by first | exact Or.inl rfl | exact Or.inr rfl)) (ds_cons (ds_set (ps_set (i := 5) nd rfl (by first | exact Or.inl rfl | exact Or.inr rfl) (de_ix (ixd hu1) (de_var (pv 2)) (de_var (pv 4)) (fun _ _ => rfl)))) (ds_cons (ds_set (ps_set (i := 6) nd rfl (by first | exact Or.inl rfl | exact Or.inr rfl) (de_ix (ixd hu1) (de_var (pv 0)) (de_op dd_mod (de_callTy cd_int (by rfl) (T.free 3) PyProof.Rows.boot_int (da_cons (de_op dd_div (de_var (pv 5)) de_int) da_nil)) (de_callB cd_len (by rfl) (T.free 1) PySem.boot_len (da_cons (de_var (pv 0)) da_nil))) (fun _ _ => rfl)))) (ds_cons (ds_if (dt_cmp dd_lt0 (de_var (pv 4)) (de_callB cd_len (by rfl) (T.free 1) PySem.boot_len (da_cons (de_var (pv 0)) da_nil)) (nomark _)) (ds_one (ds_set (ps_set (i := 6) nd rfl (by first | exact Or.inl rfl | exact Or.inr rfl) (de_ix (ixd hu1) (de_var (pv 0)) (de_var (pv 4)) (fun _ _ => rfl))))) ds_nil) (ds_cons (ds_setLc (tg_name (i := 9) (vs := [9]) (by decide)) (ps_setLc (i := 7) (own := [("_law_j", 9)])  rfl nd rfl rfl (sw_true rfl rfl rfl (by decide +kernel)) (di_rng (by rfl) (T.free 4) (de_ix (ixd hu1) (de_var (pv 6)) de_int (fun _ _ => rfl))) (blkOk_by (own := [("_law_j", 9)]) (N := N_l_entries) (sc := defScope s_l_entries) (by decide +kernel)) (fun _ _ _ _ _ => pg_name (i := 9) nd rfl (by first | exact Or.inl rfl | exact Or.inr rfl)) (fun _ _ _ _ _ => dts_nil) (fun _ _ _ _ _ => (de_ix (ixd hu1) (de_var (pv 1)) (de_op dd_mod (de_op dd_mod (de_callTy cd_int (by rfl) (T.free 3) PyProof.Rows.boot_int (da_cons (de_op dd_div (de_var (pv 5)) (de_ix (ixd hu1) (de_lst (da_cons de_int (da_cons de_int (da_cons de_int da_nil)))) (de_var (pv 9)) (fun _ _ => rfl))) da_nil)) de_int) (de_callB cd_len (by rfl) (T.free 1) PySem.boot_len (da_cons (de_var (pv 1)) da_nil))) (fun _ _ => rfl))))) (ds_cons (ds_set (ps_set (i := 8) nd rfl (by first | exact Or.inl rfl | exact Or.inr rfl) (de_ix (ixd hu1) (de_var (pv 1)) (de_op dd_mod (de_op dd_mod (de_callTy cd_int (by rfl) (T.free 3) PyProof.Rows.boot_int (da_cons (de_op dd_div (de_var (pv 5)) de_int) da_nil)) de_int) (de_callB cd_len (by rfl) (T.free 1) PySem.boot_len (da_cons (de_var (pv 1)) da_nil))) (fun _ _ => rfl)))) (ds_one (ds_if (PW.pt (dw_or (dt_cmp (dd_eq hu) (de_var (pv 4)) de_int (nomark _)) (dw_or (dt_cmp dd_ge (de_var (pv 4)) (de_callB cd_len (by rfl) (T.free 1) PySem.boot_len (da_cons (de_var (pv 0)) da_nil)) (nomark _)) (dw_or1 (dt_cmp dd_gt (de_op dd_mod (de_callTy cd_int (by rfl) (T.free 3) PyProof.Rows.boot_int (da_cons (de_op dd_div (de_var (pv 5)) de_int) da_nil)) de_int) de_int (nomark _)))))) (ds_one (ds_app (ps_expr (pe_bm PySem.F.plainAttrs_list PySem.F.slot_list_append PySem.F.type_list_append mt_append (pv 3) (pa_cons (de_tup (da_cons (de_ix (ixd hu1) (de_var (pv 6)) de_int (fun _ _ => rfl)) (da_cons (de_callTy cd_tuple (by rfl) (T.free 7) PyProof.Rows.boot_tuple (da_cons (de_var (pv 7)) da_nil)) (da_cons (de_var (pv 8)) da_nil)))) pa_nil))))) ds_nil))))))))) (ds_frz 3 (ds_one (ds_ret (de_var (pv 3)))))))
abbrev N_l_count : List Str := ["_law_side", "_law_part"]
theorem sc_l_count : FnScope N_l_count ["_law_side"] (defScope s_l_count) := ⟨rfl, rfl, rfl, by decide +kernel, rfl, by decide +kernel, by decide +kernel⟩
def cc_l_count_1 (r : List D → Rs D) : Ev → Rs D := dCallN 1 r (dCons (dVar 1) (dNil))
def b_l_count (r : List D → Rs D) : Ev → SR := sSeq (sIf (dTru (dIsi "str" (dVar 0))) (sRet (dC (.int 1))) (sNil)) (sRet (dOp gAdd (dC (.int 1)) (dCall cSum (dCons (dComp [1] (dItA (dSl (dVar 0) (dPart (dC (.int 1))) (dNoP))) (tgN 1) (fun _ => .ok true) ((cc_l_count_1 r))) (dNil)))))
def den_l_count : Nat → List D → Rs D := fuel (fun r => runD 2 (b_l_count r))
theorem ok_l_count {P : Program} {w : World} {K : PySem.W.Frag} {mg : Str → Option Value} {base : Heap} (T : Tx fa fn K mg) : FnD P w K mg base 71 (gAd "_law_count") 1 (den_l_count 70) := by
  obtain ⟨fd, F⟩ := T.c.def_ 7 (d := d_l_count) (by rfl)
  refine fuelOk (j := 1) (ad := (gAd "_law_count")) (fnD_bot (d := d_l_count) F sc_l_count (fun _ _ _ _ _ _ _ us hl => match us, hl with | [_], _ => rfl) 0) (fun k r hk F_l_count => ?_) 70
  refine fnD_of (d := d_l_count) (k := k) F sc_l_count (fun _ _ _ _ _ _ _ us hl => match us, hl with | [_], _ => rfl) (fun cdv A outer s H E hr => ?_)
  have nd := sc_l_count.nd
  have hu := u200 hr
  have hu1 := u1 hr
  have hx : Passes (L2.CX P w) (cxOf (L2.CX P w) P w K mg base N_l_count "_law_count" (defScope s_l_count) ((gAd "_law_count") K) cdv A outer s H E) E := passes_call (takes_of rfl rfl rfl rfl) (fun _ _ _ _ h => h)
  have ho : PassesOwn (model P w) (cxOf (L2.CX P w) P w K mg base N_l_count "_law_count" (defScope s_l_count) ((gAd "_law_count") K) cdv A outer s H E).A (cxOf (L2.CX P w) P w K mg base N_l_count "_law_count" (defScope s_l_count) ((gAd "_law_count") K) cdv A outer s H E).env (cxOf (L2.CX P w) P w K mg base N_l_count "_law_count" (defScope s_l_count) ((gAd "_law_count") K) cdv A outer s H E).xe := passes_of rfl
  exact (ds_cons (ds_if (dt_tru (de_isi (T := "str") rfl (T.free 8) (de_var (pv 0)) (pe_bltn (by rfl) (T.free 9) PyProof.Rows.boot_str rfl)) (by intro _; rfl)) (ds_one (ds_ret de_int)) ds_nil) (ds_one (ds_ret (de_op dd_add de_int (de_callB (cd_sum rfl) (by rfl) (T.free 11) PyProof.Rows.boot_sum (da_cons (de_lc (tg_name (i := 1) (vs := [1]) (by decide)) (pe_lc (own := [("_law_part", 1)])  rfl nd (di_seq (de_slice (de_var (pv 0)) (do_some de_int) do_none)) (blkOk_by (own := [("_law_part", 1)]) (N := N_l_count) (sc := defScope s_l_count) (by decide +kernel)) (fun _ _ _ _ _ => pg_name (i := 1) nd rfl (by first | exact Or.inl rfl | exact Or.inr rfl)) (fun _ _ _ _ _ => dts_nil) (fun _ _ _ _ _ => (de_callF F_l_count (hr.mono (by omega)) (T.glo 10) passL (da_cons (de_var (pv 1)) da_nil))))) da_nil))))))
abbrev N_l_rule : List Str := ["_law_rows", "_law_head", "_law_numbers_here", "_law_variables", "_law_left", "_law_used", "_law_place", "_law_row", "_law_pool", "_law_number", "_law_parts", "_law_made", "_law_right", "_law_j"]
theorem sc_l_rule : FnScope N_l_rule ["_law_rows", "_law_head", "_law_numbers_here", "_law_variables"] (defScope s_l_rule) := ⟨rfl, rfl, rfl, by decide +kernel, rfl, by decide +kernel, by decide +kernel⟩
def lb_l_rule_1 : Ev → SR := sSeq (sSet 7 (dOp gIx (dVar 0) (dOp gMod (dCall cInt (dCons (dOp gDiv (dOp gIx (dVar 2) (dVar 6)) (dC (.int 2))) (dNil))) (dCall cLen (dCons (dVar 0) (dNil)))))) (sIf (dAnd (dTest (dOp gEq (dOp gMod (dCall cInt (dCons (dOp gIx (dVar 2) (dVar 6)) (dNil))) (dC (.int 2))) (dC (.int 0)))) (dTest (dOp gLe (dOp gSub (dOp gAdd (dOp gAdd (dVar 5) (dOp gIx (dVar 7) (dC (.int 1)))) (dOp gIx (dVar 1) (dC (.int 1)))) (dVar 6)) (dC (.int 5))))) (sSeq (sApp 4 (dCall cTuple (dCons (dOp gAdd (dLst (dCons (dOp gIx (dVar 7) (dC (.int 0))) (dNil))) (dSl (dVar 3) (dPart (dVar 5)) (dPart (dOp gAdd (dVar 5) (dOp gIx (dVar 7) (dC (.int 1))))))) (dNil)))) (sSet 5 (dOp gAdd (dVar 5) (dOp gIx (dVar 7) (dC (.int 1)))))) (sSeq (sApp 4 (dOp gIx (dVar 3) (dVar 5))) (sSet 5 (dOp gAdd (dVar 5) (dC (.int 1))))))
def cc_l_rule_1 : Ev → Rs D := dIxO 8 (dOp gMod (dOp gMod (dCall cInt (dCons (dOp gDiv (dVar 9) (dOp gIx (dLst (dCons (dC (.int 5)) (dCons (dC (.int 40)) (dCons (dC (.int 320)) (dNil))))) (dVar 13))) (dNil))) (dC (.int 8))) (dLenX 8))
def lb_l_rule_2 : Ev → SR := sSeq (sSet 7 (dOp gIx (dVar 0) (dOp gMod (dOp gMod (dCall cInt (dCons (dVar 9) (dNil))) (dC (.int 5))) (dCall cLen (dCons (dVar 0) (dNil)))))) (sSeq (sSet 10 (dComp [13] (dItR (dOp gIx (dVar 7) (dC (.int 1)))) (tgN 13) (fun _ => .ok true) (cc_l_rule_1))) (sSeq (sSet 11 (dCall cTuple (dCons (dOp gAdd (dLst (dCons (dOp gIx (dVar 7) (dC (.int 0))) (dNil))) (dVar 10)) (dNil)))) (sIf (dTest (dOp gLe (dCallN 1 (den_l_count 70) (dCons (dVar 11) (dNil))) (dC (.int 9)))) (sApp 8 (dVar 11)) (sNil))))
def b_l_rule : Ev → SR := sSeq (sOwn 4 (dFrL (dCons (dOp gIx (dVar 1) (dC (.int 0))) (dNil)))) (sSeq (sSet 5 (dC (.int 0))) (sSeq (sFor (dItR (dOp gIx (dVar 1) (dC (.int 1)))) (tgN 6) [6] lb_l_rule_1) (sSeq (sOwn 8 (dFrA (dSl (dVar 3) (dNoP) (dPart (dVar 5))) (dLst (dCons (dTup (dCons (dOp gIx (dOp gIx (dVar 0) (dC (.int 0))) (dC (.int 0))) (dNil))) (dNil))))) (sSeq (sFor (dItA (dSl (dVar 2) (dPart (dC (.int 3))) (dPart (dC (.int 6))))) (tgN 9) [9, 10, 11] lb_l_rule_2) (sSeq (sSet 12 (dIxO 8 (dOp gSub (dLenX 8) (dC (.int 1))))) (sSeq (sIf (dTest (dOp gEq (dOp gMod (dCall cInt (dCons (dOp gIx (dVar 2) (dC (.int 6))) (dNil))) (dC (.int 2))) (dC (.int 0)))) (sSet 12 (dIxO 8 (dOp gMod (dCall cInt (dCons (dOp gDiv (dOp gIx (dVar 2) (dC (.int 6))) (dC (.int 2))) (dNil))) (dLenX 8)))) (sNil)) ((fun ρ => (sRet (dTup (dCons (dCall cTuple (dCons (dVar 4) (dNil))) (dCons (dVar 12) (dNil))))) (frz 4 ρ)))))))))
def den_l_rule : List D → Rs D := runD 14 b_l_rule
theorem ok_l_rule {P : Program} {w : World} {K : PySem.W.Frag} {mg : Str → Option Value} {base : Heap} (T : Tx fa fn K mg) (F_l_count : FnD P w K mg base 71 (gAd "_law_count") 1 (den_l_count 70)) : FnD P w K mg base 72 (gAd "_law_rule") 4 den_l_rule := by
  obtain ⟨fd, F⟩ := T.c.def_ 8 (d := d_l_rule) (by rfl)
  refine fnD_of (d := d_l_rule) (k := 71) F sc_l_rule (fun _ _ _ _ _ _ _ us hl => match us, hl with | [_, _, _, _], _ => rfl) (fun cdv A outer s H E hr => ?_)
  have nd := sc_l_rule.nd
  have hu := u200 hr
  have hu1 := u1 hr
  have hx : Passes (L2.CX P w) (cxOf (L2.CX P w) P w K mg base N_l_rule "_law_rule" (defScope s_l_rule) ((gAd "_law_rule") K) cdv A outer s H E) E := passes_call (takes_of rfl rfl rfl rfl) (fun _ _ _ _ h => h)
  have ho : PassesOwn (model P w) (cxOf (L2.CX P w) P w K mg base N_l_rule "_law_rule" (defScope s_l_rule) ((gAd "_law_rule") K) cdv A outer s H E).A (cxOf (L2.CX P w) P w K mg base N_l_rule "_law_rule" (defScope s_l_rule) ((gAd "_law_rule") K) cdv A outer s H E).env (cxOf (L2.CX P w) P w K mg base N_l_rule "_law_rule" (defScope s_l_rule) ((gAd "_law_rule") K) cdv A outer s H E).xe := passes_of rfl
  exact (ds_cons (ds_own (ps_set (i := 4) nd rfl (by first | exact Or.inl rfl | exact Or.inr rfl) (fr_lst (da_cons (de_ix (ixd hu1) (de_var (pv 1)) de_int (fun _ _ => rfl)) da_nil)))) (ds_cons (ds_set (ps_set (i := 5) nd rfl (by first | exact Or.inl rfl | exact Or.inr rfl) de_int)) (ds_cons (ds_for [6] (tg_name (i := 6) (vs := [6]) (by decide)) (ps_for ho rfl (di_rng (by rfl) (T.free 4) (de_ix (ixd hu1) (de_var (pv 1)) de_int (fun _ _ => rfl))) (pg_name (i := 6) nd rfl (by first | exact Or.inl rfl | exact Or.inr rfl)) (ds_cons (ds_set (ps_set (i := 7) nd rfl (by first | exact Or.inl rfl | exact Or.inr rfl) (de_ix (ixd hu1) (de_var (pv 0)) (de_op dd_mod (de_callTy cd_int (by rfl) (T.free 3) PyProof.Rows.boot_int (da_cons (de_op dd_div (de_ix (ixd hu1) (de_var (pv 2)) (de_var (pv 6)) (fun _ _ => rfl)) de_int) da_nil)) (de_callB cd_len (by rfl) (T.free 1) PySem.boot_len (da_cons (de_var (pv 0)) da_nil))) (fun _ _ => rfl)))) (ds_one (ds_if (PW.pt (dw_and (dt_cmp (dd_eq hu) (de_op dd_mod (de_callTy cd_int (by rfl) (T.free 3) PyProof.Rows.boot_int (da_cons (de_ix (ixd hu1) (de_var (pv 2)) (de_var (pv 6)) (fun _ _ => rfl)) da_nil)) de_int) de_int (nomark _)) (dw_and1 (dt_cmp dd_le (de_op dd_sub (de_op dd_add (de_op dd_add (de_var (pv 5)) (de_ix (ixd hu1) (de_var (pv 7)) de_int (fun _ _ => rfl))) (de_ix (ixd hu1) (de_var (pv 1)) de_int (fun _ _ => rfl))) (de_var (pv 6))) de_int (nomark _))))) (ds_cons (ds_app (ps_expr (pe_bm PySem.F.plainAttrs_list PySem.F.slot_list_append PySem.F.type_list_append mt_append (pv 4) (pa_cons (de_callTy cd_tuple (by rfl) (T.free 7) PyProof.Rows.boot_tuple (da_cons (de_op dd_add (de_lst (da_cons (de_ix (ixd hu1) (de_var (pv 7)) de_int (fun _ _ => rfl)) da_nil)) (de_slice (de_var (pv 3)) (do_some (de_var (pv 5))) (do_some (de_op dd_add (de_var (pv 5)) (de_ix (ixd hu1) (de_var (pv 7)) de_int (fun _ _ => rfl)))))) da_nil)) pa_nil)))) (ds_one (ds_set (ps_set (i := 5) nd rfl (by first | exact Or.inl rfl | exact Or.inr rfl) (de_op dd_add (de_var (pv 5)) (de_ix (ixd hu1) (de_var (pv 7)) de_int (fun _ _ => rfl))))))) (ds_cons (ds_app (ps_expr (pe_bm PySem.F.plainAttrs_list PySem.F.slot_list_append PySem.F.type_list_append mt_append (pv 4) (pa_cons (de_ix (ixd hu1) (de_var (pv 3)) (de_var (pv 5)) (fun _ _ => rfl)) pa_nil)))) (ds_one (ds_set (ps_set (i := 5) nd rfl (by first | exact Or.inl rfl | exact Or.inr rfl) (de_op dd_add (de_var (pv 5)) de_int)))))))))) (ds_cons (ds_own (ps_set (i := 8) nd rfl (by first | exact Or.inl rfl | exact Or.inr rfl) (fr_add (de_slice (de_var (pv 3)) do_none (do_some (de_var (pv 5)))) (de_lst (da_cons (de_tup (da_cons (de_ix (ixd hu1) (de_ix (ixd hu1) (de_var (pv 0)) de_int (fun _ _ => rfl)) de_int (fun _ _ => rfl)) da_nil)) da_nil))))) (ds_cons (ds_for [9, 10, 11] (tg_name (i := 9) (vs := [9]) (by decide)) (ps_for ho rfl (di_seq (de_slice (de_var (pv 2)) (do_some de_int) (do_some de_int))) (pg_name (i := 9) nd rfl (by first | exact Or.inl rfl | exact Or.inr rfl)) (ds_cons (ds_set (ps_set (i := 7) nd rfl (by first | exact Or.inl rfl | exact Or.inr rfl) (de_ix (ixd hu1) (de_var (pv 0)) (de_op dd_mod (de_op dd_mod (de_callTy cd_int (by rfl) (T.free 3) PyProof.Rows.boot_int (da_cons (de_var (pv 9)) da_nil)) de_int) (de_callB cd_len (by rfl) (T.free 1) PySem.boot_len (da_cons (de_var (pv 0)) da_nil))) (fun _ _ => rfl)))) (ds_cons (ds_setLc (tg_name (i := 13) (vs := [13]) (by decide)) (ps_setLc (i := 10) (own := [("_law_j", 13)])  rfl nd rfl rfl (sw_true rfl rfl rfl (by decide +kernel)) (di_rng (by rfl) (T.free 4) (de_ix (ixd hu1) (de_var (pv 7)) de_int (fun _ _ => rfl))) (blkOk_by (own := [("_law_j", 13)]) (N := N_l_rule) (sc := defScope s_l_rule) (by decide +kernel)) (fun _ _ _ _ _ => pg_name (i := 13) nd rfl (by first | exact Or.inl rfl | exact Or.inr rfl)) (fun _ _ _ _ _ => dts_nil) (fun _ _ _ _ _ => (de_ixO hu1 (pv 8) (de_op dd_mod (de_op dd_mod (de_callTy cd_int (by rfl) (T.free 3) PyProof.Rows.boot_int (da_cons (de_op dd_div (de_var (pv 9)) (de_ix (ixd hu1) (de_lst (da_cons de_int (da_cons de_int (da_cons de_int da_nil)))) (de_var (pv 13)) (fun _ _ => rfl))) da_nil)) de_int) (de_lenX (by rfl) (T.free 1) (pv 8))) (fun _ _ => rfl))))) (ds_cons (ds_set (ps_set (i := 11) nd rfl (by first | exact Or.inl rfl | exact Or.inr rfl) (de_callTy cd_tuple (by rfl) (T.free 7) PyProof.Rows.boot_tuple (da_cons (de_op dd_add (de_lst (da_cons (de_ix (ixd hu1) (de_var (pv 7)) de_int (fun _ _ => rfl)) da_nil)) (de_var (pv 10))) da_nil)))) (ds_one (ds_if (dt_cmp dd_le (de_callF F_l_count (hr.mono (by decide)) (T.glo 10) hx (da_cons (de_var (pv 11)) da_nil)) de_int (nomark _)) (ds_one (ds_app (ps_expr (pe_bm PySem.F.plainAttrs_list PySem.F.slot_list_append PySem.F.type_list_append mt_append (pv 8) (pa_cons (de_var (pv 11)) pa_nil))))) ds_nil))))))) (ds_cons (ds_set (ps_set (i := 12) nd rfl (by first | exact Or.inl rfl | exact Or.inr rfl) (de_ixO hu1 (pv 8) (de_op dd_sub (de_lenX (by rfl) (T.free 1) (pv 8)) de_int) (fun _ _ => rfl)))) (ds_cons (ds_if (dt_cmp (dd_eq hu) (de_op dd_mod (de_callTy cd_int (by rfl) (T.free 3) PyProof.Rows.boot_int (da_cons (de_ix (ixd hu1) (de_var (pv 2)) de_int (fun _ _ => rfl)) da_nil)) de_int) de_int (nomark _)) (ds_one (ds_set (ps_set (i := 12) nd rfl (by first | exact Or.inl rfl | exact Or.inr rfl) (de_ixO hu1 (pv 8) (de_op dd_mod (de_callTy cd_int (by rfl) (T.free 3) PyProof.Rows.boot_int (da_cons (de_op dd_div (de_ix (ixd hu1) (de_var (pv 2)) de_int (fun _ _ => rfl)) de_int) da_nil)) (de_lenX (by rfl) (T.free 1) (pv 8))) (fun _ _ => rfl))))) ds_nil) (ds_frz 4 (ds_one (ds_ret (de_tup (da_cons (de_callTy cd_tuple (by rfl) (T.free 7) PyProof.Rows.boot_tuple (da_cons (de_var (pv 4)) da_nil)) (da_cons (de_var (pv 12)) da_nil)))))))))))))
abbrev N_l_rules : List Str := ["_law_rows", "_law_script", "_law_k", "_law_working", "_law_numbers_here", "_law_variables", "_law_told", "_law_at", "_law_mine", "_law_head", "_law_row"]
theorem sc_l_rules : FnScope N_l_rules ["_law_rows", "_law_script", "_law_k"] (defScope s_l_rules) := ⟨rfl, rfl, rfl, by decide +kernel, rfl, by decide +kernel, by decide +kernel⟩
def ct_l_rules_1 : Ev → Rs Bool := dNot (dTru (dOp gIx (dVar 10) (dC (.int 2))))
def cc_l_rules_1 : Ev → Rs D := dVar 10
def lb_l_rules_1 : Ev → SR := sSeq (sSet 8 (dSl (dVar 4) (dPart (dOp gAdd (dC (.int 2)) (dOp gMul (dC (.int 8)) (dVar 7)))) (dPart (dOp gAdd (dC (.int 10)) (dOp gMul (dC (.int 8)) (dVar 7)))))) (sSeq (sSet 9 (dOp gIx (dVar 3) (dOp gMod (dCall cInt (dCons (dVar 7) (dNil))) (dCall cLen (dCons (dVar 3) (dNil)))))) (sSeq (sIf (dTest (dOp gEq (dOp gMod (dCall cInt (dCons (dOp gIx (dVar 8) (dC (.int 0))) (dNil))) (dC (.int 3))) (dC (.int 2)))) (sSet 9 (dOp gIx (dVar 3) (dOp gMod (dCall cInt (dCons (dOp gDiv (dOp gIx (dVar 8) (dC (.int 0))) (dC (.int 3))) (dNil))) (dCall cLen (dCons (dVar 3) (dNil)))))) (sNil)) (sApp 6 (dCallN 4 den_l_rule (dCons (dVar 0) (dCons (dVar 9) (dCons (dSl (dVar 8) (dPart (dC (.int 1))) (dNoP)) (dCons (dVar 5) (dNil)))))))))
def b_l_rules : Ev → SR := sSeq (sSet 3 (dComp [10] (dItA (dVar 0)) (tgN 10) (ct_l_rules_1) (cc_l_rules_1))) (sSeq (sSet 4 (dCallN 3 den_l_numbers (dCons (dVar 1) (dCons (dVar 2) (dCons (dC (.int 26)) (dNil)))))) (sSeq (sSet 5 (dCallN 2 den_l_names (dCons (dOp gIx (dVar 4) (dC (.int 0))) (dCons (dC (.int 4)) (dNil))))) (sSeq (sNew 6) (sSeq (sIf (dTest (dOp gGt (dCall cLen (dCons (dVar 3) (dNil))) (dC (.int 0)))) (sFor (dItR (dOp gMod (dCall cInt (dCons (dOp gIx (dVar 4) (dC (.int 1))) (dNil))) (dC (.int 4)))) (tgN 7) [7, 8, 9] lb_l_rules_1) (sNil)) ((fun ρ => (sRet (dVar 6)) (frz 6 ρ)))))))
def den_l_rules : List D → Rs D := runD 11 b_l_rules
theorem ok_l_rules {P : Program} {w : World} {K : PySem.W.Frag} {mg : Str → Option Value} {base : Heap} (T : Tx fa fn K mg) (F_l_numbers : FnD P w K mg base 2 (gAd "_law_numbers") 3 den_l_numbers) (F_l_names : FnD P w K mg base 1 (gAd "_law_names") 2 den_l_names) (F_l_rule : FnD P w K mg base 72 (gAd "_law_rule") 4 den_l_rule) : FnD P w K mg base 73 (gAd "_law_rules") 3 den_l_rules := by
  obtain ⟨fd, F⟩ := T.c.def_ 9 (d := d_l_rules) (by rfl)
  refine fnD_of (d := d_l_rules) (k := 72) F sc_l_rules (fun _ _ _ _ _ _ _ us hl => match us, hl with | [_, _, _], _ => rfl) (fun cdv A outer s H E hr => ?_)
  have nd := sc_l_rules.nd
  have hu := u200 hr
  have hu1 := u1 hr
  have hx : Passes (L2.CX P w) (cxOf (L2.CX P w) P w K mg base N_l_rules "_law_rules" (defScope s_l_rules) ((gAd "_law_rules") K) cdv A outer s H E) E := passes_call (takes_of rfl rfl rfl rfl) (fun _ _ _ _ h => h)
  have ho : PassesOwn (model P w) (cxOf (L2.CX P w) P w K mg base N_l_rules "_law_rules" (defScope s_l_rules) ((gAd "_law_rules") K) cdv A outer s H E).A (cxOf (L2.CX P w) P w K mg base N_l_rules "_law_rules" (defScope s_l_rules) ((gAd "_law_rules") K) cdv A outer s H E).env (cxOf (L2.CX P w) P w K mg base N_l_rules "_law_rules" (defScope s_l_rules) ((gAd "_law_rules") K) cdv A outer s H E).xe := passes_of rfl
  exact (ds_cons (ds_setLc (tg_name (i := 10) (vs := [10]) (by decide)) (ps_setLc (i := 3) (own := [("_law_row", 10)])  rfl nd rfl rfl (sw_true rfl rfl rfl (by decide +kernel)) (di_seq (de_var (pv 0))) (blkOk_by (own := [("_law_row", 10)]) (N := N_l_rules) (sc := defScope s_l_rules) (by decide +kernel)) (fun _ _ _ _ _ => pg_name (i := 10) nd rfl (by first | exact Or.inl rfl | exact Or.inr rfl)) (fun _ _ _ _ _ => dts_one (dt_not (dt_tru (de_ix (ixd hu1) (de_var (pv 10)) de_int (fun _ _ => rfl)) (by intro _; rfl)))) (fun _ _ _ _ _ => (de_var (pv 10))))) (ds_cons (ds_set (ps_set (i := 4) nd rfl (by first | exact Or.inl rfl | exact Or.inr rfl) (de_callF F_l_numbers (hr.mono (by decide)) (T.glo 12) hx (da_cons (de_var (pv 1)) (da_cons (de_var (pv 2)) (da_cons de_int da_nil)))))) (ds_cons (ds_set (ps_set (i := 5) nd rfl (by first | exact Or.inl rfl | exact Or.inr rfl) (de_callF F_l_names (hr.mono (by decide)) (T.glo 5) hx (da_cons (de_ix (ixd hu1) (de_var (pv 4)) de_int (fun _ _ => rfl)) (da_cons de_int da_nil))))) (ds_cons (ds_new (ps_set (i := 6) nd rfl (by first | exact Or.inl rfl | exact Or.inr rfl) (pe_lst pa_nil))) (ds_cons (ds_if (dt_cmp dd_gt (de_callB cd_len (by rfl) (T.free 1) PySem.boot_len (da_cons (de_var (pv 3)) da_nil)) de_int (nomark _)) (ds_one (ds_for [7, 8, 9] (tg_name (i := 7) (vs := [7]) (by decide)) (ps_for ho rfl (di_rng (by rfl) (T.free 4) (de_op dd_mod (de_callTy cd_int (by rfl) (T.free 3) PyProof.Rows.boot_int (da_cons (de_ix (ixd hu1) (de_var (pv 4)) de_int (fun _ _ => rfl)) da_nil)) de_int)) (pg_name (i := 7) nd rfl (by first | exact Or.inl rfl | exact Or.inr rfl)) (ds_cons (ds_set (ps_set (i := 8) nd rfl (by first | exact Or.inl rfl | exact Or.inr rfl) (de_slice (de_var (pv 4)) (do_some (de_op dd_add de_int (de_op dd_mul de_int (de_var (pv 7))))) (do_some (de_op dd_add de_int (de_op dd_mul de_int (de_var (pv 7)))))))) (ds_cons (ds_set (ps_set (i := 9) nd rfl (by first | exact Or.inl rfl | exact Or.inr rfl) (de_ix (ixd hu1) (de_var (pv 3)) (de_op dd_mod (de_callTy cd_int (by rfl) (T.free 3) PyProof.Rows.boot_int (da_cons (de_var (pv 7)) da_nil)) (de_callB cd_len (by rfl) (T.free 1) PySem.boot_len (da_cons (de_var (pv 3)) da_nil))) (fun _ _ => rfl)))) (ds_cons (ds_if (dt_cmp (dd_eq hu) (de_op dd_mod (de_callTy cd_int (by rfl) (T.free 3) PyProof.Rows.boot_int (da_cons (de_ix (ixd hu1) (de_var (pv 8)) de_int (fun _ _ => rfl)) da_nil)) de_int) de_int (nomark _)) (ds_one (ds_set (ps_set (i := 9) nd rfl (by first | exact Or.inl rfl | exact Or.inr rfl) (de_ix (ixd hu1) (de_var (pv 3)) (de_op dd_mod (de_callTy cd_int (by rfl) (T.free 3) PyProof.Rows.boot_int (da_cons (de_op dd_div (de_ix (ixd hu1) (de_var (pv 8)) de_int (fun _ _ => rfl)) de_int) da_nil)) (de_callB cd_len (by rfl) (T.free 1) PySem.boot_len (da_cons (de_var (pv 3)) da_nil))) (fun _ _ => rfl))))) ds_nil) (ds_one (ds_app (ps_expr (pe_bm PySem.F.plainAttrs_list PySem.F.slot_list_append PySem.F.type_list_append mt_append (pv 6) (pa_cons (de_callF F_l_rule (hr.mono (by decide)) (T.glo 13) hx (da_cons (de_var (pv 0)) (da_cons (de_var (pv 9)) (da_cons (de_slice (de_var (pv 8)) (do_some de_int) do_none) (da_cons (de_var (pv 5)) da_nil))))) pa_nil))))))))))) ds_nil) (ds_frz 6 (ds_one (ds_ret (de_var (pv 6))))))))))
abbrev N_l_random : List Str := ["_law_script", "_law_k", "_law_limit", "_law_first", "_law_rows", "_law_kinds", "_law_second", "_law_told"]
theorem sc_l_random : FnScope N_l_random ["_law_script", "_law_k", "_law_limit"] (defScope s_l_random) := ⟨rfl, rfl, rfl, by decide +kernel, rfl, by decide +kernel, by decide +kernel⟩
def b_l_random : Ev → SR := sSeq (sSet 3 (dCallN 3 den_l_numbers (dCons (dVar 0) (dCons (dVar 1) (dCons (dC (.int 12)) (dNil)))))) (sSeq (sSet 4 (dCallN 1 den_l_symbols (dCons (dVar 3) (dNil)))) (sSeq (sSet 5 (dCallN 2 den_l_names (dCons (dOp gIx (dVar 3) (dC (.int 8))) (dCons (dOp gAdd (dC (.int 1)) (dOp gMod (dCall cInt (dCons (dOp gIx (dVar 3) (dC (.int 9))) (dNil))) (dVar 2))) (dNil))))) (sSeq (sSet 6 (dCallN 3 den_l_numbers (dCons (dVar 0) (dCons (dOp gAdd (dVar 1) (dC (.int 1))) (dCons (dC (.int 9)) (dNil)))))) (sSeq (sSet 7 (dCallN 3 den_l_entries (dCons (dVar 4) (dCons (dVar 5) (dCons (dSl (dVar 6) (dNoP) (dPart (dOp gAdd (dCall cLen (dCons (dVar 4) (dNil))) (dOp gMod (dCall cInt (dCons (dOp gIx (dVar 3) (dC (.int 11))) (dNil))) (dC (.int 4)))))) (dNil)))))) (sRet (dTup (dCons (dVar 4) (dCons (dVar 5) (dCons (dCallN 2 den_l_lows (dCons (dOp gIx (dVar 3) (dC (.int 10))) (dCons (dVar 5) (dNil)))) (dCons (dVar 7) (dCons (dCallN 3 den_l_rules (dCons (dVar 4) (dCons (dVar 0) (dCons (dOp gAdd (dVar 1) (dC (.int 2))) (dNil))))) (dNil))))))))))))
def den_l_random : List D → Rs D := runD 8 b_l_random
theorem ok_l_random {P : Program} {w : World} {K : PySem.W.Frag} {mg : Str → Option Value} {base : Heap} (T : Tx fa fn K mg) (F_l_numbers : FnD P w K mg base 2 (gAd "_law_numbers") 3 den_l_numbers) (F_l_symbols : FnD P w K mg base 2 (gAd "_law_symbols") 1 den_l_symbols) (F_l_names : FnD P w K mg base 1 (gAd "_law_names") 2 den_l_names) (F_l_entries : FnD P w K mg base 1 (gAd "_law_entries") 3 den_l_entries) (F_l_rules : FnD P w K mg base 73 (gAd "_law_rules") 3 den_l_rules) (F_l_lows : FnD P w K mg base 2 (gAd "_law_lows") 2 den_l_lows) : FnD P w K mg base 74 (gAd "_law_random") 3 den_l_random := by
  obtain ⟨fd, F⟩ := T.c.def_ 10 (d := d_l_random) (by rfl)
  refine fnD_of (d := d_l_random) (k := 73) F sc_l_random (fun _ _ _ _ _ _ _ us hl => match us, hl with | [_, _, _], _ => rfl) (fun cdv A outer s H E hr => ?_)
  have nd := sc_l_random.nd
  have hu := u200 hr
  have hu1 := u1 hr
  have hx : Passes (L2.CX P w) (cxOf (L2.CX P w) P w K mg base N_l_random "_law_random" (defScope s_l_random) ((gAd "_law_random") K) cdv A outer s H E) E := passes_call (takes_of rfl rfl rfl rfl) (fun _ _ _ _ h => h)
  have ho : PassesOwn (model P w) (cxOf (L2.CX P w) P w K mg base N_l_random "_law_random" (defScope s_l_random) ((gAd "_law_random") K) cdv A outer s H E).A (cxOf (L2.CX P w) P w K mg base N_l_random "_law_random" (defScope s_l_random) ((gAd "_law_random") K) cdv A outer s H E).env (cxOf (L2.CX P w) P w K mg base N_l_random "_law_random" (defScope s_l_random) ((gAd "_law_random") K) cdv A outer s H E).xe := passes_of rfl
  exact (ds_cons (ds_set (ps_set (i := 3) nd rfl (by first | exact Or.inl rfl | exact Or.inr rfl) (de_callF F_l_numbers (hr.mono (by decide)) (T.glo 12) hx (da_cons (de_var (pv 0)) (da_cons (de_var (pv 1)) (da_cons de_int da_nil)))))) (ds_cons (ds_set (ps_set (i := 4) nd rfl (by first | exact Or.inl rfl | exact Or.inr rfl) (de_callF F_l_symbols (hr.mono (by decide)) (T.glo 14) hx (da_cons (de_var (pv 3)) da_nil)))) (ds_cons (ds_set (ps_set (i := 5) nd rfl (by first | exact Or.inl rfl | exact Or.inr rfl) (de_callF F_l_names (hr.mono (by decide)) (T.glo 5) hx (da_cons (de_ix (ixd hu1) (de_var (pv 3)) de_int (fun _ _ => rfl)) (da_cons (de_op dd_add de_int (de_op dd_mod (de_callTy cd_int (by rfl) (T.free 3) PyProof.Rows.boot_int (da_cons (de_ix (ixd hu1) (de_var (pv 3)) de_int (fun _ _ => rfl)) da_nil)) (de_var (pv 2)))) da_nil))))) (ds_cons (ds_set (ps_set (i := 6) nd rfl (by first | exact Or.inl rfl | exact Or.inr rfl) (de_callF F_l_numbers (hr.mono (by decide)) (T.glo 12) hx (da_cons (de_var (pv 0)) (da_cons (de_op dd_add (de_var (pv 1)) de_int) (da_cons de_int da_nil)))))) (ds_cons (ds_set (ps_set (i := 7) nd rfl (by first | exact Or.inl rfl | exact Or.inr rfl) (de_callF F_l_entries (hr.mono (by decide)) (T.glo 15) hx (da_cons (de_var (pv 4)) (da_cons (de_var (pv 5)) (da_cons (de_slice (de_var (pv 6)) do_none (do_some (de_op dd_add (de_callB cd_len (by rfl) (T.free 1) PySem.boot_len (da_cons (de_var (pv 4)) da_nil)) (de_op dd_mod (de_callTy cd_int (by rfl) (T.free 3) PyProof.Rows.boot_int (da_cons (de_ix (ixd hu1) (de_var (pv 3)) de_int (fun _ _ => rfl)) da_nil)) de_int)))) da_nil)))))) (ds_one (ds_ret (de_tup (da_cons (de_var (pv 4)) (da_cons (de_var (pv 5)) (da_cons (de_callF F_l_lows (hr.mono (by decide)) (T.glo 17) hx (da_cons (de_ix (ixd hu1) (de_var (pv 3)) de_int (fun _ _ => rfl)) (da_cons (de_var (pv 5)) da_nil))) (da_cons (de_var (pv 7)) (da_cons (de_callF F_l_rules (hr.mono (by decide)) (T.glo 16) hx (da_cons (de_var (pv 4)) (da_cons (de_var (pv 0)) (da_cons (de_op dd_add (de_var (pv 1)) de_int) da_nil)))) da_nil)))))))))))))
abbrev N_l_up : List Str := ["_law_tables", "_law_kind", "_law_found", "_law_turn_here", "_law_pair", "_law_name"]
theorem sc_l_up : FnScope N_l_up ["_law_tables", "_law_kind"] (defScope s_l_up) := ⟨rfl, rfl, rfl, by decide +kernel, rfl, by decide +kernel, by decide +kernel⟩
def lb_l_up_1 : Ev → SR := sIf (dtTmp 2 (dAnd (dTest (dOp gIn (dOp gIx (dVar 4) (dC (.int 0))) (dVar 2))) (dTest (dOp gNotIn (dOp gIx (dVar 4) (dC (.int 1))) (dVar 2))))) (sApp 2 (dOp gIx (dVar 4) (dC (.int 1)))) (sNil)
def lb_l_up_2 : Ev → SR := sFor (dItA (dOp gIx (dVar 0) (dC (.int 2)))) (tgN 4) [4] lb_l_up_1
def ct_l_up_1 : Ev → Rs Bool := dTest (dOp gIn (dVar 5) (dVar 2))
def cc_l_up_1 : Ev → Rs D := dVar 5
def b_l_up : Ev → SR := sSeq (sOwn 2 (dFrL (dCons (dVar 1) (dNil)))) (sSeq (sFor (dItA (dOp gIx (dVar 0) (dC (.int 1)))) (tgN 3) [3] lb_l_up_2) ((fun ρ => (sRet (dComp [5] (dItA (dOp gIx (dVar 0) (dC (.int 1)))) (tgN 5) (ct_l_up_1) (cc_l_up_1))) (frz 2 ρ))))
def den_l_up : List D → Rs D := runD 6 b_l_up
theorem ok_l_up {P : Program} {w : World} {K : PySem.W.Frag} {mg : Str → Option Value} {base : Heap} (T : Tx fa fn K mg) : FnD P w K mg base 1 (gAd "_law_up") 2 den_l_up := by
  obtain ⟨fd, F⟩ := T.c.def_ 11 (d := d_l_up) (by rfl)
  refine fnD_of (d := d_l_up) (k := 0) F sc_l_up (fun _ _ _ _ _ _ _ us hl => match us, hl with | [_, _], _ => rfl) (fun cdv A outer s H E hr => ?_)
  have nd := sc_l_up.nd
  have hu := u200 hr
  have hu1 := u1 hr
  have hx : Passes (L2.CX P w) (cxOf (L2.CX P w) P w K mg base N_l_up "_law_up" (defScope s_l_up) ((gAd "_law_up") K) cdv A outer s H E) E := passes_call (takes_of rfl rfl rfl rfl) (fun _ _ _ _ h => h)
  have ho : PassesOwn (model P w) (cxOf (L2.CX P w) P w K mg base N_l_up "_law_up" (defScope s_l_up) ((gAd "_law_up") K) cdv A outer s H E).A (cxOf (L2.CX P w) P w K mg base N_l_up "_law_up" (defScope s_l_up) ((gAd "_law_up") K) cdv A outer s H E).env (cxOf (L2.CX P w) P w K mg base N_l_up "_law_up" (defScope s_l_up) ((gAd "_law_up") K) cdv A outer s H E).xe := passes_of rfl
  exact (ds_cons (ds_own (ps_set (i := 2) nd rfl (by first | exact Or.inl rfl | exact Or.inr rfl) (fr_lst (da_cons (de_var (pv 1)) da_nil)))) (ds_cons (ds_for [3] (tg_name (i := 3) (vs := [3]) (by decide)) (ps_for ho rfl (di_seq (de_ix (ixd hu1) (de_var (pv 0)) de_int (fun _ _ => rfl))) (pg_name (i := 3) nd rfl (by first | exact Or.inl rfl | exact Or.inr rfl)) (ds_one (ds_for [4] (tg_name (i := 4) (vs := [4]) (by decide)) (ps_for ho rfl (di_seq (de_ix (ixd hu1) (de_var (pv 0)) de_int (fun _ _ => rfl))) (pg_name (i := 4) nd rfl (by first | exact Or.inl rfl | exact Or.inr rfl)) (ds_one (ds_if (dt_tmp 2 (PW.pt (dw_and (dt_cmp (dd_in hu) (de_ix (ixd hu1) (de_var (pv 4)) de_int (fun _ _ => rfl)) (de_var (pv 2)) (by rfl)) (dw_and1 (dt_cmp (dd_notIn hu) (de_ix (ixd hu1) (de_var (pv 4)) de_int (fun _ _ => rfl)) (de_var (pv 2)) (by rfl)))))) (ds_one (ds_app (ps_expr (pe_bm PySem.F.plainAttrs_list PySem.F.slot_list_append PySem.F.type_list_append mt_append (pv 2) (pa_cons (de_ix (ixd hu1) (de_var (pv 4)) de_int (fun _ _ => rfl)) pa_nil))))) ds_nil))))))) (ds_frz 2 (ds_one (ds_ret (de_lc (tg_name (i := 5) (vs := [5]) (by decide)) (pe_lc (own := [("_law_name", 5)])  rfl nd (di_seq (de_ix (ixd hu1) (de_var (pv 0)) de_int (fun _ _ => rfl))) (blkOk_by (own := [("_law_name", 5)]) (N := N_l_up) (sc := defScope s_l_up) (by decide +kernel)) (fun _ _ _ _ _ => pg_name (i := 5) nd rfl (by first | exact Or.inl rfl | exact Or.inr rfl)) (fun _ _ _ _ _ => dts_one (dt_cmp (dd_in hu) (de_var (pv 5)) (de_var (pv 2)) (by rfl))) (fun _ _ _ _ _ => (de_var (pv 5))))))))))
abbrev N_l_combine : List Str := ["_law_tables", "_law_name", "_law_sets", "_law_found", "_law_entry", "_law_fitting_here", "_law_at", "_law_kind"]
theorem sc_l_combine : FnScope N_l_combine ["_law_tables", "_law_name", "_law_sets"] (defScope s_l_combine) := ⟨rfl, rfl, rfl, by decide +kernel, rfl, by decide +kernel, by decide +kernel⟩
def ct_l_combine_1 : Ev → Rs Bool := dAnd (dTest (dOp gEq (dOp gIx (dVar 4) (dC (.int 0))) (dVar 1))) (dTest (dOp gIn (dOp gIx (dOp gIx (dVar 4) (dC (.int 1))) (dVar 6)) (dOp gIx (dVar 2) (dVar 6))))
def cc_l_combine_1 : Ev → Rs D := dVar 6
def lb_l_combine_1 : Ev → SR := sSeq (sSet 5 (dComp [6] (dItR (dCall cLen (dCons (dOp gIx (dVar 4) (dC (.int 1))) (dNil)))) (tgN 6) (ct_l_combine_1) (cc_l_combine_1))) (sIf (dAnd (dTest (dOp gEq (dOp gIx (dVar 4) (dC (.int 0))) (dVar 1))) (dTest (dOp gEq (dCall cLen (dCons (dVar 5) (dNil))) (dCall cLen (dCons (dOp gIx (dVar 4) (dC (.int 1))) (dNil)))))) (sSet 3 (dOp gAdd (dVar 3) (dCallN 2 den_l_up (dCons (dVar 0) (dCons (dOp gIx (dVar 4) (dC (.int 2))) (dNil)))))) (sNil))
def ct_l_combine_2 : Ev → Rs Bool := dTest (dOp gIn (dVar 7) (dVar 3))
def cc_l_combine_2 : Ev → Rs D := dVar 7
def b_l_combine : Ev → SR := sSeq (sSet 3 (dLst (dNil))) (sSeq (sFor (dItA (dOp gIx (dVar 0) (dC (.int 3)))) (tgN 4) [4, 5] lb_l_combine_1) (sRet (dCall cTuple (dCons (dComp [7] (dItA (dOp gIx (dVar 0) (dC (.int 1)))) (tgN 7) (ct_l_combine_2) (cc_l_combine_2)) (dNil)))))
def den_l_combine : List D → Rs D := runD 8 b_l_combine
theorem ok_l_combine {P : Program} {w : World} {K : PySem.W.Frag} {mg : Str → Option Value} {base : Heap} (T : Tx fa fn K mg) (F_l_up : FnD P w K mg base 1 (gAd "_law_up") 2 den_l_up) : FnD P w K mg base 2 (gAd "_law_combine") 3 den_l_combine := by
  obtain ⟨fd, F⟩ := T.c.def_ 12 (d := d_l_combine) (by rfl)
  refine fnD_of (d := d_l_combine) (k := 1) F sc_l_combine (fun _ _ _ _ _ _ _ us hl => match us, hl with | [_, _, _], _ => rfl) (fun cdv A outer s H E hr => ?_)
  have nd := sc_l_combine.nd
  have hu := u200 hr
  have hu1 := u1 hr
  have hx : Passes (L2.CX P w) (cxOf (L2.CX P w) P w K mg base N_l_combine "_law_combine" (defScope s_l_combine) ((gAd "_law_combine") K) cdv A outer s H E) E := passes_call (takes_of rfl rfl rfl rfl) (fun _ _ _ _ h => h)
  have ho : PassesOwn (model P w) (cxOf (L2.CX P w) P w K mg base N_l_combine "_law_combine" (defScope s_l_combine) ((gAd "_law_combine") K) cdv A outer s H E).A (cxOf (L2.CX P w) P w K mg base N_l_combine "_law_combine" (defScope s_l_combine) ((gAd "_law_combine") K) cdv A outer s H E).env (cxOf (L2.CX P w) P w K mg base N_l_combine "_law_combine" (defScope s_l_combine) ((gAd "_law_combine") K) cdv A outer s H E).xe := passes_of rfl
  exact (ds_cons (ds_set (ps_set (i := 3) nd rfl (by first | exact Or.inl rfl | exact Or.inr rfl) (de_lst da_nil))) (ds_cons (ds_for [4, 5] (tg_name (i := 4) (vs := [4]) (by decide)) (ps_for ho rfl (di_seq (de_ix (ixd hu1) (de_var (pv 0)) de_int (fun _ _ => rfl))) (pg_name (i := 4) nd rfl (by first | exact Or.inl rfl | exact Or.inr rfl)) (ds_cons (ds_setLc (tg_name (i := 6) (vs := [6]) (by decide)) (ps_setLc (i := 5) (own := [("_law_at", 6)])  rfl nd rfl rfl (sw_true rfl rfl rfl (by decide +kernel)) (di_rng (by rfl) (T.free 4) (de_callB cd_len (by rfl) (T.free 1) PySem.boot_len (da_cons (de_ix (ixd hu1) (de_var (pv 4)) de_int (fun _ _ => rfl)) da_nil))) (blkOk_by (own := [("_law_at", 6)]) (N := N_l_combine) (sc := defScope s_l_combine) (by decide +kernel)) (fun _ _ _ _ _ => pg_name (i := 6) nd rfl (by first | exact Or.inl rfl | exact Or.inr rfl)) (fun _ _ _ _ _ => dts_one (PW.pt (dw_and (dt_cmp (dd_eq hu) (de_ix (ixd hu1) (de_var (pv 4)) de_int (fun _ _ => rfl)) (de_var (pv 1)) (nomark _)) (dw_and1 (dt_cmp (dd_in hu) (de_ix (ixd hu1) (de_ix (ixd hu1) (de_var (pv 4)) de_int (fun _ _ => rfl)) (de_var (pv 6)) (fun _ _ => rfl)) (de_ix (ixd hu1) (de_var (pv 2)) (de_var (pv 6)) (fun _ _ => rfl)) (by rfl)))))) (fun _ _ _ _ _ => (de_var (pv 6))))) (ds_one (ds_if (PW.pt (dw_and (dt_cmp (dd_eq hu) (de_ix (ixd hu1) (de_var (pv 4)) de_int (fun _ _ => rfl)) (de_var (pv 1)) (nomark _)) (dw_and1 (dt_cmp (dd_eq hu) (de_callB cd_len (by rfl) (T.free 1) PySem.boot_len (da_cons (de_var (pv 5)) da_nil)) (de_callB cd_len (by rfl) (T.free 1) PySem.boot_len (da_cons (de_ix (ixd hu1) (de_var (pv 4)) de_int (fun _ _ => rfl)) da_nil)) (nomark _))))) (ds_one (ds_set (ps_set (i := 3) nd rfl (by first | exact Or.inl rfl | exact Or.inr rfl) (de_op dd_add (de_var (pv 3)) (de_callF F_l_up (hr.mono (by decide)) (T.glo 18) hx (da_cons (de_var (pv 0)) (da_cons (de_ix (ixd hu1) (de_var (pv 4)) de_int (fun _ _ => rfl)) da_nil))))))) ds_nil))))) (ds_one (ds_ret (de_callTy cd_tuple (by rfl) (T.free 7) PyProof.Rows.boot_tuple (da_cons (de_lc (tg_name (i := 7) (vs := [7]) (by decide)) (pe_lc (own := [("_law_kind", 7)])  rfl nd (di_seq (de_ix (ixd hu1) (de_var (pv 0)) de_int (fun _ _ => rfl))) (blkOk_by (own := [("_law_kind", 7)]) (N := N_l_combine) (sc := defScope s_l_combine) (by decide +kernel)) (fun _ _ _ _ _ => pg_name (i := 7) nd rfl (by first | exact Or.inl rfl | exact Or.inr rfl)) (fun _ _ _ _ _ => dts_one (dt_cmp (dd_in hu) (de_var (pv 7)) (de_var (pv 3)) (by rfl))) (fun _ _ _ _ _ => (de_var (pv 7))))) da_nil))))))
abbrev N_l_fitting : List Str := ["_law_tables", "_law_stack", "_law_number", "_law_count_here", "_law_free", "_law_small", "_law_at", "_law_row", "_law_kinds", "_law_pair"]
theorem sc_l_fitting : FnScope N_l_fitting ["_law_tables", "_law_stack", "_law_number"] (defScope s_l_fitting) := ⟨rfl, rfl, rfl, by decide +kernel, rfl, by decide +kernel, by decide +kernel⟩
def cc_l_fitting_1 : Ev → Rs D := dOp gIx (dVar 9) (dC (.int 1))
def lb_l_fitting_1 : Ev → SR := sSeq (sSet 7 (dOp gIx (dOp gIx (dVar 0) (dC (.int 0))) (dOp gMod (dCall cInt (dCons (dOp gAdd (dOp gMod (dCall cInt (dCons (dVar 2) (dNil))) (dC (.int 6))) (dVar 6)) (dNil))) (dVar 3)))) (sIf (dAnd (dTest (dOp gLe (dOp gIx (dVar 7) (dC (.int 1))) (dCall cLen (dCons (dVar 1) (dNil))))) (dOr (dTest (dOp gGt (dOp gIx (dVar 7) (dC (.int 1))) (dC (.int 0)))) (dOr (dTru (dVar 5)) (dOr (dTru (dVar 4)) (dTest (dOp gGe (dVar 6) (dVar 3))))))) (sSeq (sSet 8 (dCallN 3 den_l_combine (dCons (dVar 0) (dCons (dOp gIx (dVar 7) (dC (.int 0))) (dCons (dComp [9] (dItA (dSl (dVar 1) (dPart (dOp gSub (dCall cLen (dCons (dVar 1) (dNil))) (dOp gIx (dVar 7) (dC (.int 1))))) (dNoP))) (tgN 9) (fun _ => .ok true) (cc_l_fitting_1)) (dNil)))))) (sIf (dOr (dTest (dOp gNe (dVar 8) (dTup (dNil)))) (dTru (dVar 4))) (sRet (dTup (dCons (dVar 7) (dCons (dVar 8) (dNil))))) (sNil))) (sNil))
def b_l_fitting : Ev → SR := sSeq (sSet 3 (dCall cLen (dCons (dOp gIx (dVar 0) (dC (.int 0))) (dNil)))) (sSeq (sSet 4 (dOp gEq (dOp gMod (dCall cInt (dCons (dOp gDiv (dVar 2) (dC (.int 6))) (dNil))) (dC (.int 5))) (dC (.int 0)))) (sSeq (sSet 5 (dOp gEq (dOp gMod (dCall cInt (dCons (dOp gDiv (dVar 2) (dC (.int 30))) (dNil))) (dC (.int 3))) (dC (.int 0)))) (sSeq (sFor (dItR (dOp gMul (dC (.int 2)) (dVar 3))) (tgN 6) [6, 7] lb_l_fitting_1) (sRet (dTup (dCons (dOp gIx (dOp gIx (dVar 0) (dC (.int 0))) (dC (.int 0))) (dCons (dCallN 3 den_l_combine (dCons (dVar 0) (dCons (dOp gIx (dOp gIx (dOp gIx (dVar 0) (dC (.int 0))) (dC (.int 0))) (dC (.int 0))) (dCons (dLst (dNil)) (dNil))))) (dNil))))))))
def den_l_fitting : List D → Rs D := runD 10 b_l_fitting
theorem ok_l_fitting {P : Program} {w : World} {K : PySem.W.Frag} {mg : Str → Option Value} {base : Heap} (T : Tx fa fn K mg) (F_l_combine : FnD P w K mg base 2 (gAd "_law_combine") 3 den_l_combine) : FnD P w K mg base 3 (gAd "_law_fitting") 3 den_l_fitting := by
  obtain ⟨fd, F⟩ := T.c.def_ 13 (d := d_l_fitting) (by rfl)
  refine fnD_of (d := d_l_fitting) (k := 2) F sc_l_fitting (fun _ _ _ _ _ _ _ us hl => match us, hl with | [_, _, _], _ => rfl) (fun cdv A outer s H E hr => ?_)
  have nd := sc_l_fitting.nd
  have hu := u200 hr
  have hu1 := u1 hr
  have hx : Passes (L2.CX P w) (cxOf (L2.CX P w) P w K mg base N_l_fitting "_law_fitting" (defScope s_l_fitting) ((gAd "_law_fitting") K) cdv A outer s H E) E := passes_call (takes_of rfl rfl rfl rfl) (fun _ _ _ _ h => h)
  have ho : PassesOwn (model P w) (cxOf (L2.CX P w) P w K mg base N_l_fitting "_law_fitting" (defScope s_l_fitting) ((gAd "_law_fitting") K) cdv A outer s H E).A (cxOf (L2.CX P w) P w K mg base N_l_fitting "_law_fitting" (defScope s_l_fitting) ((gAd "_law_fitting") K) cdv A outer s H E).env (cxOf (L2.CX P w) P w K mg base N_l_fitting "_law_fitting" (defScope s_l_fitting) ((gAd "_law_fitting") K) cdv A outer s H E).xe := passes_of rfl
  exact (ds_cons (ds_set (ps_set (i := 3) nd rfl (by first | exact Or.inl rfl | exact Or.inr rfl) (de_callB cd_len (by rfl) (T.free 1) PySem.boot_len (da_cons (de_ix (ixd hu1) (de_var (pv 0)) de_int (fun _ _ => rfl)) da_nil)))) (ds_cons (ds_set (ps_set (i := 4) nd rfl (by first | exact Or.inl rfl | exact Or.inr rfl) (de_cmp (dd_eq hu) (de_op dd_mod (de_callTy cd_int (by rfl) (T.free 3) PyProof.Rows.boot_int (da_cons (de_op dd_div (de_var (pv 2)) de_int) da_nil)) de_int) de_int (nomark _)))) (ds_cons (ds_set (ps_set (i := 5) nd rfl (by first | exact Or.inl rfl | exact Or.inr rfl) (de_cmp (dd_eq hu) (de_op dd_mod (de_callTy cd_int (by rfl) (T.free 3) PyProof.Rows.boot_int (da_cons (de_op dd_div (de_var (pv 2)) de_int) da_nil)) de_int) de_int (nomark _)))) (ds_cons (ds_for [6, 7] (tg_name (i := 6) (vs := [6]) (by decide)) (ps_for ho rfl (di_rng (by rfl) (T.free 4) (de_op dd_mul de_int (de_var (pv 3)))) (pg_name (i := 6) nd rfl (by first | exact Or.inl rfl | exact Or.inr rfl)) (ds_cons (ds_set (ps_set (i := 7) nd rfl (by first | exact Or.inl rfl | exact Or.inr rfl) (de_ix (ixd hu1) (de_ix (ixd hu1) (de_var (pv 0)) de_int (fun _ _ => rfl)) (de_op dd_mod (de_callTy cd_int (by rfl) (T.free 3) PyProof.Rows.boot_int (da_cons (de_op dd_add (de_op dd_mod (de_callTy cd_int (by rfl) (T.free 3) PyProof.Rows.boot_int (da_cons (de_var (pv 2)) da_nil)) de_int) (de_var (pv 6))) da_nil)) (de_var (pv 3))) (fun _ _ => rfl)))) (ds_one (ds_if (PW.pt (dw_and (dt_cmp dd_le (de_ix (ixd hu1) (de_var (pv 7)) de_int (fun _ _ => rfl)) (de_callB cd_len (by rfl) (T.free 1) PySem.boot_len (da_cons (de_var (pv 1)) da_nil)) (nomark _)) (dw_and1 (PW.pt (dw_or (dt_cmp dd_gt (de_ix (ixd hu1) (de_var (pv 7)) de_int (fun _ _ => rfl)) de_int (nomark _)) (dw_or (dt_tru (de_var (pv 5)) (by intro _; rfl)) (dw_or (dt_tru (de_var (pv 4)) (by intro _; rfl)) (dw_or1 (dt_cmp dd_ge (de_var (pv 6)) (de_var (pv 3)) (nomark _)))))))))) (ds_cons (ds_set (ps_set (i := 8) nd rfl (by first | exact Or.inl rfl | exact Or.inr rfl) (de_callF F_l_combine (hr.mono (by decide)) (T.glo 19) hx (da_cons (de_var (pv 0)) (da_cons (de_ix (ixd hu1) (de_var (pv 7)) de_int (fun _ _ => rfl)) (da_cons (de_lc (tg_name (i := 9) (vs := [9]) (by decide)) (pe_lc (own := [("_law_pair", 9)])  rfl nd (di_seq (de_slice (de_var (pv 1)) (do_some (de_op dd_sub (de_callB cd_len (by rfl) (T.free 1) PySem.boot_len (da_cons (de_var (pv 1)) da_nil)) (de_ix (ixd hu1) (de_var (pv 7)) de_int (fun _ _ => rfl)))) do_none)) (blkOk_by (own := [("_law_pair", 9)]) (N := N_l_fitting) (sc := defScope s_l_fitting) (by decide +kernel)) (fun _ _ _ _ _ => pg_name (i := 9) nd rfl (by first | exact Or.inl rfl | exact Or.inr rfl)) (fun _ _ _ _ _ => dts_nil) (fun _ _ _ _ _ => (de_ix (ixd hu1) (de_var (pv 9)) de_int (fun _ _ => rfl))))) da_nil)))))) (ds_one (ds_if (PW.pt (dw_or (dt_cmp (dd_ne hu) (de_var (pv 8)) (de_tup da_nil) (nomark _)) (dw_or1 (dt_tru (de_var (pv 4)) (by intro _; rfl))))) (ds_one (ds_ret (de_tup (da_cons (de_var (pv 7)) (da_cons (de_var (pv 8)) da_nil))))) ds_nil))) ds_nil))))) (ds_one (ds_ret (de_tup (da_cons (de_ix (ixd hu1) (de_ix (ixd hu1) (de_var (pv 0)) de_int (fun _ _ => rfl)) de_int (fun _ _ => rfl)) (da_cons (de_callF F_l_combine (hr.mono (by decide)) (T.glo 19) hx (da_cons (de_var (pv 0)) (da_cons (de_ix (ixd hu1) (de_ix (ixd hu1) (de_ix (ixd hu1) (de_var (pv 0)) de_int (fun _ _ => rfl)) de_int (fun _ _ => rfl)) de_int (fun _ _ => rfl)) (da_cons (de_lst da_nil) da_nil)))) da_nil)))))))))
abbrev N_l_term : List Str := ["_law_tables", "_law_numbers_here", "_law_stack", "_law_number", "_law_row", "_law_kinds", "_law_pair", "_law_parts", "_law_best"]
theorem sc_l_term : FnScope N_l_term ["_law_tables", "_law_numbers_here"] (defScope s_l_term) := ⟨rfl, rfl, rfl, by decide +kernel, rfl, by decide +kernel, by decide +kernel⟩
def cc_l_term_1 : Ev → Rs D := dOp gIx (dVar 6) (dC (.int 0))
def lb_l_term_1 : Ev → SR := (fun ρ => (sSeq (sUnp [4, 5] (dCallN 3 den_l_fitting (dCons (dVar 0) (dCons (dVar 2) (dCons (dVar 3) (dNil)))))) ((fun ρ => (sSeq (sSet 7 (dComp [6] (dItA (dSl (dVar 2) (dPart (dOp gSub (dLenX 2) (dOp gIx (dVar 4) (dC (.int 1))))) (dNoP))) (tgN 6) (fun _ => .ok true) (cc_l_term_1))) ((fun ρ => (sSeq (sOwn 2 (dFrS (dVar 2) (dNoP) (dPart (dOp gSub (dLenX 2) (dOp gIx (dVar 4) (dC (.int 1))))))) (sApp 2 (dTup (dCons (dCall cTuple (dCons (dOp gAdd (dLst (dCons (dOp gIx (dVar 4) (dC (.int 0))) (dNil))) (dVar 7)) (dNil))) (dCons (dVar 5) (dNil)))))) (frz 2 ρ)))) (frz 2 ρ)))) (frz 2 ρ))
def lb_l_term_2 : Ev → SR := sIf (dTest (dOp gGt (dCallN 1 (den_l_count 70) (dCons (dOp gIx (dVar 6) (dC (.int 0))) (dNil))) (dCallN 1 (den_l_count 70) (dCons (dVar 8) (dNil))))) (sSet 8 (dOp gIx (dVar 6) (dC (.int 0)))) (sNil)
def b_l_term : Ev → SR := sSeq (sNew 2) (sSeq (sFor (dItA (dVar 1)) (tgN 3) [3, 4, 5, 7] lb_l_term_1) (sSeq (sSet 8 (dOp gIx (dIxO 2 (dC (.int 0))) (dC (.int 0)))) ((fun ρ => (sSeq (sFor (dItA (dVar 2)) (tgN 6) [] lb_l_term_2) (sRet (dVar 8))) (frz 2 ρ)))))
def den_l_term : List D → Rs D := runD 9 b_l_term
theorem ok_l_term {P : Program} {w : World} {K : PySem.W.Frag} {mg : Str → Option Value} {base : Heap} (T : Tx fa fn K mg) (F_l_fitting : FnD P w K mg base 3 (gAd "_law_fitting") 3 den_l_fitting) (F_l_count : FnD P w K mg base 71 (gAd "_law_count") 1 (den_l_count 70)) : FnD P w K mg base 72 (gAd "_law_term") 2 den_l_term := by
  obtain ⟨fd, F⟩ := T.c.def_ 14 (d := d_l_term) (by rfl)
  refine fnD_of (d := d_l_term) (k := 71) F sc_l_term (fun _ _ _ _ _ _ _ us hl => match us, hl with | [_, _], _ => rfl) (fun cdv A outer s H E hr => ?_)
  have nd := sc_l_term.nd
  have hu := u200 hr
  have hu1 := u1 hr
  have hx : Passes (L2.CX P w) (cxOf (L2.CX P w) P w K mg base N_l_term "_law_term" (defScope s_l_term) ((gAd "_law_term") K) cdv A outer s H E) E := passes_call (takes_of rfl rfl rfl rfl) (fun _ _ _ _ h => h)
  have ho : PassesOwn (model P w) (cxOf (L2.CX P w) P w K mg base N_l_term "_law_term" (defScope s_l_term) ((gAd "_law_term") K) cdv A outer s H E).A (cxOf (L2.CX P w) P w K mg base N_l_term "_law_term" (defScope s_l_term) ((gAd "_law_term") K) cdv A outer s H E).env (cxOf (L2.CX P w) P w K mg base N_l_term "_law_term" (defScope s_l_term) ((gAd "_law_term") K) cdv A outer s H E).xe := passes_of rfl
  exact (ds_cons (ds_new (ps_set (i := 2) nd rfl (by first | exact Or.inl rfl | exact Or.inr rfl) (pe_lst pa_nil))) (ds_cons (ds_for [3, 4, 5, 7] (tg_name (i := 3) (vs := [3]) (by decide)) (ps_for ho rfl (di_seq (de_var (pv 1))) (pg_name (i := 3) nd rfl (by first | exact Or.inl rfl | exact Or.inr rfl)) (ds_frz 2 (ds_cons (ds_unp (is := [4, 5]) (ps_asg (de_callF F_l_fitting (hr.mono (by decide)) (T.glo 20) hx (da_cons (de_var (pv 0)) (da_cons (de_var (pv 2)) (da_cons (de_var (pv 3)) da_nil)))) (pg_tup (by rfl) (pgs_cons (pg_name (i := 4) nd rfl (by first | exact Or.inl rfl | exact Or.inr rfl)) (pgs_cons (pg_name (i := 5) nd rfl (by first | exact Or.inl rfl | exact Or.inr rfl)) pgs_nil))))) (ds_frz 2 (ds_cons (ds_setLc (tg_name (i := 6) (vs := [6]) (by decide)) (ps_setLc (i := 7) (own := [("_law_pair", 6)])  rfl nd rfl rfl (sw_true rfl rfl rfl (by decide +kernel)) (di_seq (de_slice (de_var (pv 2)) (do_some (de_op dd_sub (de_lenX (by rfl) (T.free 1) (pv 2)) (de_ix (ixd hu1) (de_var (pv 4)) de_int (fun _ _ => rfl)))) do_none)) (blkOk_by (own := [("_law_pair", 6)]) (N := N_l_term) (sc := defScope s_l_term) (by decide +kernel)) (fun _ _ _ _ _ => pg_name (i := 6) nd rfl (by first | exact Or.inl rfl | exact Or.inr rfl)) (fun _ _ _ _ _ => dts_nil) (fun _ _ _ _ _ => (de_ix (ixd hu1) (de_var (pv 6)) de_int (fun _ _ => rfl))))) (ds_frz 2 (ds_cons (ds_own (ps_set (i := 2) nd rfl (by first | exact Or.inl rfl | exact Or.inr rfl) (fr_slice (de_var (pv 2)) do_none (do_some (de_op dd_sub (de_lenX (by rfl) (T.free 1) (pv 2)) (de_ix (ixd hu1) (de_var (pv 4)) de_int (fun _ _ => rfl))))))) (ds_one (ds_app (ps_expr (pe_bm PySem.F.plainAttrs_list PySem.F.slot_list_append PySem.F.type_list_append mt_append (pv 2) (pa_cons (de_tup (da_cons (de_callTy cd_tuple (by rfl) (T.free 7) PyProof.Rows.boot_tuple (da_cons (de_op dd_add (de_lst (da_cons (de_ix (ixd hu1) (de_var (pv 4)) de_int (fun _ _ => rfl)) da_nil)) (de_var (pv 7))) da_nil)) (da_cons (de_var (pv 5)) da_nil))) pa_nil))))))))))))) (ds_cons (ds_set (ps_set (i := 8) nd rfl (by first | exact Or.inl rfl | exact Or.inr rfl) (de_ix (ixd hu1) (de_ixO hu1 (pv 2) de_int (fun _ _ => rfl)) de_int (fun _ _ => rfl)))) (ds_frz 2 (ds_cons (ds_for [] (tg_name (i := 6) (vs := [6]) (by decide)) (ps_for ho rfl (di_seq (de_var (pv 2))) (pg_name (i := 6) nd rfl (by first | exact Or.inl rfl | exact Or.inr rfl)) (ds_one (ds_if (dt_cmp dd_gt (de_callF F_l_count (hr.mono (by decide)) (T.glo 10) hx (da_cons (de_ix (ixd hu1) (de_var (pv 6)) de_int (fun _ _ => rfl)) da_nil)) (de_callF F_l_count (hr.mono (by decide)) (T.glo 10) hx (da_cons (de_var (pv 8)) da_nil)) (nomark _)) (ds_one (ds_set (ps_set (i := 8) nd rfl (by first | exact Or.inl rfl | exact Or.inr rfl) (de_ix (ixd hu1) (de_var (pv 6)) de_int (fun _ _ => rfl))))) ds_nil)))) (ds_one (ds_ret (de_var (pv 8)))))))))
abbrev N_l_way : List Str := ["_law_term_here", "_law_numbers_here", "_law_path", "_law_number", "_law_place"]
theorem sc_l_way : FnScope N_l_way ["_law_term_here", "_law_numbers_here"] (defScope s_l_way) := ⟨rfl, rfl, rfl, by decide +kernel, rfl, by decide +kernel, by decide +kernel⟩
def lb_l_way_1 : Ev → SR := sSeq (sIf (dOr (dTest (dOp gEq (dCall cLen (dCons (dVar 0) (dNil))) (dC (.int 1)))) (dTest (dOp gEq (dOp gMod (dCall cInt (dCons (dVar 3) (dNil))) (dC (.int 5))) (dC (.int 0))))) (sRet (dVar 2)) (sNil)) (sSeq (sSet 4 (dOp gMod (dCall cInt (dCons (dOp gDiv (dVar 3) (dC (.int 5))) (dNil))) (dOp gSub (dCall cLen (dCons (dVar 0) (dNil))) (dC (.int 1))))) (sSeq (sSet 2 (dOp gAdd (dVar 2) (dTup (dCons (dVar 4) (dNil))))) (sSet 0 (dOp gIx (dVar 0) (dOp gAdd (dC (.int 1)) (dVar 4))))))
def b_l_way : Ev → SR := sSeq (sSet 2 (dTup (dNil))) (sSeq (sFor (dItA (dVar 1)) (tgN 3) [3, 4] lb_l_way_1) (sRet (dVar 2)))
def den_l_way : List D → Rs D := runD 5 b_l_way
theorem ok_l_way {P : Program} {w : World} {K : PySem.W.Frag} {mg : Str → Option Value} {base : Heap} (T : Tx fa fn K mg) : FnD P w K mg base 1 (gAd "_law_way") 2 den_l_way := by
  obtain ⟨fd, F⟩ := T.c.def_ 15 (d := d_l_way) (by rfl)
  refine fnD_of (d := d_l_way) (k := 0) F sc_l_way (fun _ _ _ _ _ _ _ us hl => match us, hl with | [_, _], _ => rfl) (fun cdv A outer s H E hr => ?_)
  have nd := sc_l_way.nd
  have hu := u200 hr
  have hu1 := u1 hr
  have hx : Passes (L2.CX P w) (cxOf (L2.CX P w) P w K mg base N_l_way "_law_way" (defScope s_l_way) ((gAd "_law_way") K) cdv A outer s H E) E := passes_call (takes_of rfl rfl rfl rfl) (fun _ _ _ _ h => h)
  have ho : PassesOwn (model P w) (cxOf (L2.CX P w) P w K mg base N_l_way "_law_way" (defScope s_l_way) ((gAd "_law_way") K) cdv A outer s H E).A (cxOf (L2.CX P w) P w K mg base N_l_way "_law_way" (defScope s_l_way) ((gAd "_law_way") K) cdv A outer s H E).env (cxOf (L2.CX P w) P w K mg base N_l_way "_law_way" (defScope s_l_way) ((gAd "_law_way") K) cdv A outer s H E).xe := passes_of rfl
  exact (ds_cons (ds_set (ps_set (i := 2) nd rfl (by first | exact Or.inl rfl | exact Or.inr rfl) (de_tup da_nil))) (ds_cons (ds_for [3, 4] (tg_name (i := 3) (vs := [3]) (by decide)) (ps_for ho rfl (di_seq (de_var (pv 1))) (pg_name (i := 3) nd rfl (by first | exact Or.inl rfl | exact Or.inr rfl)) (ds_cons (ds_if (PW.pt (dw_or (dt_cmp (dd_eq hu) (de_callB cd_len (by rfl) (T.free 1) PySem.boot_len (da_cons (de_var (pv 0)) da_nil)) de_int (nomark _)) (dw_or1 (dt_cmp (dd_eq hu) (de_op dd_mod (de_callTy cd_int (by rfl) (T.free 3) PyProof.Rows.boot_int (da_cons (de_var (pv 3)) da_nil)) de_int) de_int (nomark _))))) (ds_one (ds_ret (de_var (pv 2)))) ds_nil) (ds_cons (ds_set (ps_set (i := 4) nd rfl (by first | exact Or.inl rfl | exact Or.inr rfl) (de_op dd_mod (de_callTy cd_int (by rfl) (T.free 3) PyProof.Rows.boot_int (da_cons (de_op dd_div (de_var (pv 3)) de_int) da_nil)) (de_op dd_sub (de_callB cd_len (by rfl) (T.free 1) PySem.boot_len (da_cons (de_var (pv 0)) da_nil)) de_int)))) (ds_cons (ds_set (ps_set (i := 2) nd rfl (by first | exact Or.inl rfl | exact Or.inr rfl) (de_op dd_add (de_var (pv 2)) (de_tup (da_cons (de_var (pv 4)) da_nil))))) (ds_one (ds_set (ps_set (i := 0) nd rfl (by first | exact Or.inl rfl | exact Or.inr rfl) (de_ix (ixd hu1) (de_var (pv 0)) (de_op dd_add de_int (de_var (pv 4))) (fun _ _ => rfl)))))))))) (ds_one (ds_ret (de_var (pv 2))))))
abbrev N_l_put : List Str := ["_law_term_here", "_law_path", "_law_part", "_law_at"]
theorem sc_l_put : FnScope N_l_put ["_law_term_here", "_law_path", "_law_part"] (defScope s_l_put) := ⟨rfl, rfl, rfl, by decide +kernel, rfl, by decide +kernel, by decide +kernel⟩
def b_l_put (r : List D → Rs D) : Ev → SR := sSeq (sIf (dTest (dOp gEq (dVar 1) (dTup (dNil)))) (sRet (dVar 2)) (sNil)) (sSeq (sSet 3 (dOp gAdd (dC (.int 1)) (dOp gIx (dVar 1) (dC (.int 0))))) (sRet (dOp gAdd (dOp gAdd (dSl (dVar 0) (dNoP) (dPart (dVar 3))) (dTup (dCons (dCallN 3 r (dCons (dOp gIx (dVar 0) (dVar 3)) (dCons (dSl (dVar 1) (dPart (dC (.int 1))) (dNoP)) (dCons (dVar 2) (dNil))))) (dNil)))) (dSl (dVar 0) (dPart (dOp gAdd (dVar 3) (dC (.int 1)))) (dNoP)))))
def den_l_put : Nat → List D → Rs D := fuel (fun r => runD 4 (b_l_put r))
theorem ok_l_put {P : Program} {w : World} {K : PySem.W.Frag} {mg : Str → Option Value} {base : Heap} (T : Tx fa fn K mg) : FnD P w K mg base 9 (gAd "_law_put") 3 (den_l_put 8) := by
  obtain ⟨fd, F⟩ := T.c.def_ 16 (d := d_l_put) (by rfl)
  refine fuelOk (j := 1) (ad := (gAd "_law_put")) (fnD_bot (d := d_l_put) F sc_l_put (fun _ _ _ _ _ _ _ us hl => match us, hl with | [_, _, _], _ => rfl) 0) (fun k r hk F_l_put => ?_) 8
  refine fnD_of (d := d_l_put) (k := k) F sc_l_put (fun _ _ _ _ _ _ _ us hl => match us, hl with | [_, _, _], _ => rfl) (fun cdv A outer s H E hr => ?_)
  have nd := sc_l_put.nd
  have hu := u200 hr
  have hu1 := u1 hr
  have hx : Passes (L2.CX P w) (cxOf (L2.CX P w) P w K mg base N_l_put "_law_put" (defScope s_l_put) ((gAd "_law_put") K) cdv A outer s H E) E := passes_call (takes_of rfl rfl rfl rfl) (fun _ _ _ _ h => h)
  have ho : PassesOwn (model P w) (cxOf (L2.CX P w) P w K mg base N_l_put "_law_put" (defScope s_l_put) ((gAd "_law_put") K) cdv A outer s H E).A (cxOf (L2.CX P w) P w K mg base N_l_put "_law_put" (defScope s_l_put) ((gAd "_law_put") K) cdv A outer s H E).env (cxOf (L2.CX P w) P w K mg base N_l_put "_law_put" (defScope s_l_put) ((gAd "_law_put") K) cdv A outer s H E).xe := passes_of rfl
  exact (ds_cons (ds_if (dt_cmp (dd_eq hu) (de_var (pv 1)) (de_tup da_nil) (nomark _)) (ds_one (ds_ret (de_var (pv 2)))) ds_nil) (ds_cons (ds_set (ps_set (i := 3) nd rfl (by first | exact Or.inl rfl | exact Or.inr rfl) (de_op dd_add de_int (de_ix (ixd hu1) (de_var (pv 1)) de_int (fun _ _ => rfl))))) (ds_one (ds_ret (de_op dd_add (de_op dd_add (de_slice (de_var (pv 0)) do_none (do_some (de_var (pv 3)))) (de_tup (da_cons (de_callF F_l_put (hr.mono (by omega)) (T.glo 21) hx (da_cons (de_ix (ixd hu1) (de_var (pv 0)) (de_var (pv 3)) (fun _ _ => rfl)) (da_cons (de_slice (de_var (pv 1)) (do_some de_int) do_none) (da_cons (de_var (pv 2)) da_nil)))) da_nil))) (de_slice (de_var (pv 0)) (do_some (de_op dd_add (de_var (pv 3)) de_int)) do_none))))))
abbrev N_l_rank : List Str := ["_law_tables", "_law_term_here", "_law_names_here", "_law_parts", "_law_row", "_law_part"]
theorem sc_l_rank : FnScope N_l_rank ["_law_tables", "_law_term_here"] (defScope s_l_rank) := ⟨rfl, rfl, rfl, by decide +kernel, rfl, by decide +kernel, by decide +kernel⟩
def cc_l_rank_1 (r : List D → Rs D) : Ev → Rs D := dOp gIx (dVar 4) (dC (.int 0))
def cc_l_rank_2 (r : List D → Rs D) : Ev → Rs D := dCallN 2 r (dCons (dVar 0) (dCons (dVar 5) (dNil)))
def cc_l_rank_3 (r : List D → Rs D) : Ev → Rs D := dOp gIx (dVar 5) (dC (.int 0))
def b_l_rank (r : List D → Rs D) : Ev → SR := sSeq (sSet 2 (dComp [4] (dItA (dOp gIx (dVar 0) (dC (.int 0)))) (tgN 4) (fun _ => .ok true) ((cc_l_rank_1 r)))) (sSeq (sSet 3 (dComp [5] (dItA (dSl (dVar 1) (dPart (dC (.int 1))) (dNoP))) (tgN 5) (fun _ => .ok true) ((cc_l_rank_2 r)))) (sRet (dTup (dCons (dOp gAdd (dC (.int 1)) (dCall cSum (dCons (dComp [5] (dItA (dVar 3)) (tgN 5) (fun _ => .ok true) ((cc_l_rank_3 r))) (dNil)))) (dCons (dIndex (dVar 2) (dOp gIx (dVar 1) (dC (.int 0)))) (dCons (dCall cTuple (dCons (dVar 3) (dNil))) (dNil)))))))
def den_l_rank : Nat → List D → Rs D := fuel (fun r => runD 6 (b_l_rank r))
theorem ok_l_rank {P : Program} {w : World} {K : PySem.W.Frag} {mg : Str → Option Value} {base : Heap} (T : Tx fa fn K mg) : FnD P w K mg base 71 (gAd "_law_rank") 2 (den_l_rank 70) := by
  obtain ⟨fd, F⟩ := T.c.def_ 17 (d := d_l_rank) (by rfl)
  refine fuelOk (j := 1) (ad := (gAd "_law_rank")) (fnD_bot (d := d_l_rank) F sc_l_rank (fun _ _ _ _ _ _ _ us hl => match us, hl with | [_, _], _ => rfl) 0) (fun k r hk F_l_rank => ?_) 70
  refine fnD_of (d := d_l_rank) (k := k) F sc_l_rank (fun _ _ _ _ _ _ _ us hl => match us, hl with | [_, _], _ => rfl) (fun cdv A outer s H E hr => ?_)
  have nd := sc_l_rank.nd
  have hu := u200 hr
  have hu1 := u1 hr
  have hx : Passes (L2.CX P w) (cxOf (L2.CX P w) P w K mg base N_l_rank "_law_rank" (defScope s_l_rank) ((gAd "_law_rank") K) cdv A outer s H E) E := passes_call (takes_of rfl rfl rfl rfl) (fun _ _ _ _ h => h)
  have ho : PassesOwn (model P w) (cxOf (L2.CX P w) P w K mg base N_l_rank "_law_rank" (defScope s_l_rank) ((gAd "_law_rank") K) cdv A outer s H E).A (cxOf (L2.CX P w) P w K mg base N_l_rank "_law_rank" (defScope s_l_rank) ((gAd "_law_rank") K) cdv A outer s H E).env (cxOf (L2.CX P w) P w K mg base N_l_rank "_law_rank" (defScope s_l_rank) ((gAd "_law_rank") K) cdv A outer s H E).xe := passes_of rfl
  exact (ds_cons (ds_setLc (tg_name (i := 4) (vs := [4]) (by decide)) (ps_setLc (i := 2) (own := [("_law_row", 4)])  rfl nd rfl rfl (sw_true rfl rfl rfl (by decide +kernel)) (di_seq (de_ix (ixd hu1) (de_var (pv 0)) de_int (fun _ _ => rfl))) (blkOk_by (own := [("_law_row", 4)]) (N := N_l_rank) (sc := defScope s_l_rank) (by decide +kernel)) (fun _ _ _ _ _ => pg_name (i := 4) nd rfl (by first | exact Or.inl rfl | exact Or.inr rfl)) (fun _ _ _ _ _ => dts_nil) (fun _ _ _ _ _ => (de_ix (ixd hu1) (de_var (pv 4)) de_int (fun _ _ => rfl))))) (ds_cons (ds_setLc (tg_name (i := 5) (vs := [5]) (by decide)) (ps_setLc (i := 3) (own := [("_law_part", 5)])  rfl nd rfl rfl (sw_true rfl rfl rfl (by decide +kernel)) (di_seq (de_slice (de_var (pv 1)) (do_some de_int) do_none)) (blkOk_by (own := [("_law_part", 5)]) (N := N_l_rank) (sc := defScope s_l_rank) (by decide +kernel)) (fun _ _ _ _ _ => pg_name (i := 5) nd rfl (by first | exact Or.inl rfl | exact Or.inr rfl)) (fun _ _ _ _ _ => dts_nil) (fun _ _ _ _ _ => (de_callF F_l_rank (hr.mono (by omega)) (T.glo 22) passL (da_cons (de_var (pv 0)) (da_cons (de_var (pv 5)) da_nil)))))) (ds_one (ds_ret (de_tup (da_cons (de_op dd_add de_int (de_callB (cd_sum rfl) (by rfl) (T.free 11) PyProof.Rows.boot_sum (da_cons (de_lc (tg_name (i := 5) (vs := [5]) (by decide)) (pe_lc (own := [("_law_part", 5)])  rfl nd (di_seq (de_var (pv 3))) (blkOk_by (own := [("_law_part", 5)]) (N := N_l_rank) (sc := defScope s_l_rank) (by decide +kernel)) (fun _ _ _ _ _ => pg_name (i := 5) nd rfl (by first | exact Or.inl rfl | exact Or.inr rfl)) (fun _ _ _ _ _ => dts_nil) (fun _ _ _ _ _ => (de_ix (ixd hu1) (de_var (pv 5)) de_int (fun _ _ => rfl))))) da_nil))) (da_cons (de_index (u65 hr) (de_var (pv 2)) (de_ix (ixd hu1) (de_var (pv 1)) de_int (fun _ _ => rfl))) (da_cons (de_callTy cd_tuple (by rfl) (T.free 7) PyProof.Rows.boot_tuple (da_cons (de_var (pv 3)) da_nil)) da_nil))))))))
abbrev N_l_other : List Str := ["_law_tables", "_law_term_here", "_law_script", "_law_numbers_here", "_law_way_here", "_law_constants", "_law_part", "_law_place", "_law_made", "_law_row"]
theorem sc_l_other : FnScope N_l_other ["_law_tables", "_law_term_here", "_law_script", "_law_numbers_here"] (defScope s_l_other) := ⟨rfl, rfl, rfl, by decide +kernel, rfl, by decide +kernel, by decide +kernel⟩
def ct_l_other_1 : Ev → Rs Bool := dTest (dOp gEq (dOp gIx (dVar 9) (dC (.int 1))) (dC (.int 0)))
def cc_l_other_1 : Ev → Rs D := dVar 9
def lb_l_other_1 : Ev → SR := sSet 6 (dOp gIx (dVar 6) (dOp gAdd (dC (.int 1)) (dVar 7)))
def b_l_other : Ev → SR := sSeq (sSet 4 (dOp gMod (dCall cInt (dCons (dOp gIx (dVar 3) (dC (.int 0))) (dNil))) (dC (.int 4)))) (sSeq (sIf (dTest (dOp gEq (dVar 4) (dC (.int 0)))) (sRet (dCallN 2 den_l_term (dCons (dVar 0) (dCons (dCallN 3 den_l_numbers (dCons (dVar 2) (dCons (dC (.int 6)) (dCons (dOp gAdd (dC (.int 1)) (dOp gMod (dCall cInt (dCons (dOp gIx (dVar 3) (dC (.int 1))) (dNil))) (dC (.int 30)))) (dNil))))) (dNil))))) (sNil)) (sSeq (sIf (dTest (dOp gEq (dVar 4) (dC (.int 3)))) (sRet (dVar 1)) (sNil)) (sSeq (sSet 5 (dComp [9] (dItA (dOp gIx (dVar 0) (dC (.int 0)))) (tgN 9) (ct_l_other_1) (cc_l_other_1))) (sSeq (sSet 6 (dTup (dCons (dOp gIx (dOp gIx (dVar 5) (dOp gMod (dCall cInt (dCons (dOp gIx (dVar 3) (dC (.int 1))) (dNil))) (dCall cLen (dCons (dVar 5) (dNil))))) (dC (.int 0))) (dNil)))) (sSeq (sIf (dTest (dOp gEq (dVar 4) (dC (.int 2)))) (sSeq (sSet 6 (dVar 1)) (sFor (dItA (dCallN 2 den_l_way (dCons (dVar 1) (dCons (dSl (dVar 3) (dPart (dC (.int 2))) (dPart (dC (.int 5)))) (dNil))))) (tgN 7) [7] lb_l_other_1)) (sNil)) (sSeq (sSet 8 (dCallN 3 (den_l_put 8) (dCons (dVar 1) (dCons (dCallN 2 den_l_way (dCons (dVar 1) (dCons (dSl (dVar 3) (dPart (dC (.int 5))) (dPart (dC (.int 8)))) (dNil)))) (dCons (dVar 6) (dNil)))))) (sSeq (sIf (dTest (dOp gGt (dOp gIx (dCallN 2 (den_l_rank 70) (dCons (dVar 0) (dCons (dVar 8) (dNil)))) (dC (.int 0))) (dC (.int 60)))) (sRet (dVar 1)) (sNil)) (sRet (dVar 8)))))))))
def den_l_other : List D → Rs D := runD 10 b_l_other
theorem ok_l_other {P : Program} {w : World} {K : PySem.W.Frag} {mg : Str → Option Value} {base : Heap} (T : Tx fa fn K mg) (F_l_term : FnD P w K mg base 72 (gAd "_law_term") 2 den_l_term) (F_l_numbers : FnD P w K mg base 2 (gAd "_law_numbers") 3 den_l_numbers) (F_l_way : FnD P w K mg base 1 (gAd "_law_way") 2 den_l_way) (F_l_put : FnD P w K mg base 9 (gAd "_law_put") 3 (den_l_put 8)) (F_l_rank : FnD P w K mg base 71 (gAd "_law_rank") 2 (den_l_rank 70)) : FnD P w K mg base 73 (gAd "_law_other") 4 den_l_other := by
  obtain ⟨fd, F⟩ := T.c.def_ 18 (d := d_l_other) (by rfl)
  refine fnD_of (d := d_l_other) (k := 72) F sc_l_other (fun _ _ _ _ _ _ _ us hl => match us, hl with | [_, _, _, _], _ => rfl) (fun cdv A outer s H E hr => ?_)
  have nd := sc_l_other.nd
  have hu := u200 hr
  have hu1 := u1 hr
  have hx : Passes (L2.CX P w) (cxOf (L2.CX P w) P w K mg base N_l_other "_law_other" (defScope s_l_other) ((gAd "_law_other") K) cdv A outer s H E) E := passes_call (takes_of rfl rfl rfl rfl) (fun _ _ _ _ h => h)
  have ho : PassesOwn (model P w) (cxOf (L2.CX P w) P w K mg base N_l_other "_law_other" (defScope s_l_other) ((gAd "_law_other") K) cdv A outer s H E).A (cxOf (L2.CX P w) P w K mg base N_l_other "_law_other" (defScope s_l_other) ((gAd "_law_other") K) cdv A outer s H E).env (cxOf (L2.CX P w) P w K mg base N_l_other "_law_other" (defScope s_l_other) ((gAd "_law_other") K) cdv A outer s H E).xe := passes_of rfl
  exact (ds_cons (ds_set (ps_set (i := 4) nd rfl (by first | exact Or.inl rfl | exact Or.inr rfl) (de_op dd_mod (de_callTy cd_int (by rfl) (T.free 3) PyProof.Rows.boot_int (da_cons (de_ix (ixd hu1) (de_var (pv 3)) de_int (fun _ _ => rfl)) da_nil)) de_int))) (ds_cons (ds_if (dt_cmp (dd_eq hu) (de_var (pv 4)) de_int (nomark _)) (ds_one (ds_ret (de_callF F_l_term (hr.mono (by decide)) (T.glo 23) hx (da_cons (de_var (pv 0)) (da_cons (de_callF F_l_numbers (hr.mono (by decide)) (T.glo 12) hx (da_cons (de_var (pv 2)) (da_cons de_int (da_cons (de_op dd_add de_int (de_op dd_mod (de_callTy cd_int (by rfl) (T.free 3) PyProof.Rows.boot_int (da_cons (de_ix (ixd hu1) (de_var (pv 3)) de_int (fun _ _ => rfl)) da_nil)) de_int)) da_nil)))) da_nil))))) ds_nil) (ds_cons (ds_if (dt_cmp (dd_eq hu) (de_var (pv 4)) de_int (nomark _)) (ds_one (ds_ret (de_var (pv 1)))) ds_nil) (ds_cons (ds_setLc (tg_name (i := 9) (vs := [9]) (by decide)) (ps_setLc (i := 5) (own := [("_law_row", 9)])  rfl nd rfl rfl (sw_true rfl rfl rfl (by decide +kernel)) (di_seq (de_ix (ixd hu1) (de_var (pv 0)) de_int (fun _ _ => rfl))) (blkOk_by (own := [("_law_row", 9)]) (N := N_l_other) (sc := defScope s_l_other) (by decide +kernel)) (fun _ _ _ _ _ => pg_name (i := 9) nd rfl (by first | exact Or.inl rfl | exact Or.inr rfl)) (fun _ _ _ _ _ => dts_one (dt_cmp (dd_eq hu) (de_ix (ixd hu1) (de_var (pv 9)) de_int (fun _ _ => rfl)) de_int (nomark _))) (fun _ _ _ _ _ => (de_var (pv 9))))) (ds_cons (ds_set (ps_set (i := 6) nd rfl (by first | exact Or.inl rfl | exact Or.inr rfl) (de_tup (da_cons (de_ix (ixd hu1) (de_ix (ixd hu1) (de_var (pv 5)) (de_op dd_mod (de_callTy cd_int (by rfl) (T.free 3) PyProof.Rows.boot_int (da_cons (de_ix (ixd hu1) (de_var (pv 3)) de_int (fun _ _ => rfl)) da_nil)) (de_callB cd_len (by rfl) (T.free 1) PySem.boot_len (da_cons (de_var (pv 5)) da_nil))) (fun _ _ => rfl)) de_int (fun _ _ => rfl)) da_nil)))) (ds_cons (ds_if (dt_cmp (dd_eq hu) (de_var (pv 4)) de_int (nomark _)) (ds_cons (ds_set (ps_set (i := 6) nd rfl (by first | exact Or.inl rfl | exact Or.inr rfl) (de_var (pv 1)))) (ds_one (ds_for [7] (tg_name (i := 7) (vs := [7]) (by decide)) (ps_for ho rfl (di_seq (de_callF F_l_way (hr.mono (by decide)) (T.glo 24) hx (da_cons (de_var (pv 1)) (da_cons (de_slice (de_var (pv 3)) (do_some de_int) (do_some de_int)) da_nil)))) (pg_name (i := 7) nd rfl (by first | exact Or.inl rfl | exact Or.inr rfl)) (ds_one (ds_set (ps_set (i := 6) nd rfl (by first | exact Or.inl rfl | exact Or.inr rfl) (de_ix (ixd hu1) (de_var (pv 6)) (de_op dd_add de_int (de_var (pv 7))) (fun _ _ => rfl))))))))) ds_nil) (ds_cons (ds_set (ps_set (i := 8) nd rfl (by first | exact Or.inl rfl | exact Or.inr rfl) (de_callF F_l_put (hr.mono (by decide)) (T.glo 21) hx (da_cons (de_var (pv 1)) (da_cons (de_callF F_l_way (hr.mono (by decide)) (T.glo 24) hx (da_cons (de_var (pv 1)) (da_cons (de_slice (de_var (pv 3)) (do_some de_int) (do_some de_int)) da_nil))) (da_cons (de_var (pv 6)) da_nil)))))) (ds_cons (ds_if (dt_cmp dd_gt (de_ix (ixd hu1) (de_callF F_l_rank (hr.mono (by decide)) (T.glo 22) hx (da_cons (de_var (pv 0)) (da_cons (de_var (pv 8)) da_nil))) de_int (fun _ _ => rfl)) de_int (nomark _)) (ds_one (ds_ret (de_var (pv 1)))) ds_nil) (ds_one (ds_ret (de_var (pv 8))))))))))))
abbrev N_is_name : List Str := ["name", "char"]
theorem sc_is_name : FnScope N_is_name ["name"] (defScope s_is_name) := ⟨rfl, rfl, rfl, by decide +kernel, rfl, by decide +kernel, by decide +kernel⟩
def lb_is_name_1 : Ev → SR := sIf (dTest (dOp gNotIn (dVar 1) (dC (.str "abcdefghijklmnopqrstuvwxyz")))) (sRet (dC (.bl false))) (sNil)
def b_is_name : Ev → SR := sSeq (sIf (dOr (dNot (dTru (dIsi "str" (dVar 0)))) (dOr (dTest (dOp gLt (dCall cLen (dCons (dVar 0) (dNil))) (dC (.int 1)))) (dTest (dOp gGt (dCall cLen (dCons (dVar 0) (dNil))) (dC (.int 8)))))) (sRet (dC (.bl false))) (sNil)) (sSeq (sFor (dItA (dVar 0)) (tgN 1) [1] lb_is_name_1) (sRet (dC (.bl true))))
def den_is_name : List D → Rs D := runD 2 b_is_name
theorem ok_is_name {P : Program} {w : World} {K : PySem.W.Frag} {mg : Str → Option Value} {base : Heap} (T : Tx fa fn K mg) : FnD P w K mg base 1 (gAd "is_name") 1 den_is_name := by
  obtain ⟨fd, F⟩ := T.c.def_ 19 (d := d_is_name) (by rfl)
  refine fnD_of (d := d_is_name) (k := 0) F sc_is_name (fun _ _ _ _ _ _ _ us hl => match us, hl with | [_], _ => rfl) (fun cdv A outer s H E hr => ?_)
  have nd := sc_is_name.nd
  have hu := u200 hr
  have hu1 := u1 hr
  have hx : Passes (L2.CX P w) (cxOf (L2.CX P w) P w K mg base N_is_name "is_name" (defScope s_is_name) ((gAd "is_name") K) cdv A outer s H E) E := passes_call (takes_of rfl rfl rfl rfl) (fun _ _ _ _ h => h)
  have ho : PassesOwn (model P w) (cxOf (L2.CX P w) P w K mg base N_is_name "is_name" (defScope s_is_name) ((gAd "is_name") K) cdv A outer s H E).A (cxOf (L2.CX P w) P w K mg base N_is_name "is_name" (defScope s_is_name) ((gAd "is_name") K) cdv A outer s H E).env (cxOf (L2.CX P w) P w K mg base N_is_name "is_name" (defScope s_is_name) ((gAd "is_name") K) cdv A outer s H E).xe := passes_of rfl
  exact (ds_cons (ds_if (PW.pt (dw_or (dt_not (dt_tru (de_isi (T := "str") rfl (T.free 8) (de_var (pv 0)) (pe_bltn (by rfl) (T.free 9) PyProof.Rows.boot_str rfl)) (by intro _; rfl))) (dw_or (dt_cmp dd_lt0 (de_callB cd_len (by rfl) (T.free 1) PySem.boot_len (da_cons (de_var (pv 0)) da_nil)) de_int (nomark _)) (dw_or1 (dt_cmp dd_gt (de_callB cd_len (by rfl) (T.free 1) PySem.boot_len (da_cons (de_var (pv 0)) da_nil)) de_int (nomark _)))))) (ds_one (ds_ret de_bl)) ds_nil) (ds_cons (ds_for [1] (tg_name (i := 1) (vs := [1]) (by decide)) (ps_for ho rfl (di_seq (de_var (pv 0))) (pg_name (i := 1) nd rfl (by first | exact Or.inl rfl | exact Or.inr rfl)) (ds_one (ds_if (dt_cmp (dd_notIn hu) (de_var (pv 1)) (let ⟨t, ht⟩ := T.str 25; de_globS (x := "LETTERS") (pe_glob rfl ht ⟨t, rfl⟩) (by decide +kernel)) (by rfl)) (ds_one (ds_ret de_bl)) ds_nil)))) (ds_one (ds_ret de_bl))))
abbrev N_check_symbol : List Str := ["row", "names", "name", "places", "done", "order", "at"]
theorem sc_check_symbol : FnScope N_check_symbol ["row", "names"] (defScope s_check_symbol) := ⟨rfl, rfl, rfl, by decide +kernel, rfl, by decide +kernel, by decide +kernel⟩
def lb_check_symbol_1 : Ev → SR := sIf (dOr (dTest (dOp gLt (dOp gIx (dVar 5) (dVar 6)) (dC (.int 0)))) (dOr (dTest (dOp gGe (dOp gIx (dVar 5) (dVar 6)) (dVar 3))) (dTest (dOp gIn (dOp gIx (dVar 5) (dVar 6)) (dSl (dVar 5) (dNoP) (dPart (dVar 6))))))) ((fun _ => .bot)) (sNil)
def b_check_symbol : Ev → SR := sSeq (sUnp [2, 3, 4, 5] (dVar 0)) (sSeq (sIf (dOr (dNot (dTru (dCallN 1 den_is_name (dCons (dVar 2) (dNil))))) (dOr (dTest (dOp gIn (dVar 2) (dVar 1))) (dOr (dTest (dOp gLt (dVar 3) (dC (.int 0)))) (dTest (dOp gGt (dVar 3) (dC (.int 3))))))) ((fun _ => .bot)) (sNil)) (sFor (dItR (dCall cLen (dCons (dVar 5) (dNil)))) (tgN 6) [6] lb_check_symbol_1))
def den_check_symbol : List D → Rs D := runD 7 b_check_symbol
theorem ok_check_symbol {P : Program} {w : World} {K : PySem.W.Frag} {mg : Str → Option Value} {base : Heap} (T : Tx fa fn K mg) (F_is_name : FnD P w K mg base 1 (gAd "is_name") 1 den_is_name) : FnD P w K mg base 2 (gAd "check_symbol") 2 den_check_symbol := by
  obtain ⟨fd, F⟩ := T.c.def_ 20 (d := d_check_symbol) (by rfl)
  refine fnD_of (d := d_check_symbol) (k := 1) F sc_check_symbol (fun _ _ _ _ _ _ _ us hl => match us, hl with | [_, _], _ => rfl) (fun cdv A outer s H E hr => ?_)
  have nd := sc_check_symbol.nd
  have hu := u200 hr
  have hu1 := u1 hr
  have hx : Passes (L2.CX P w) (cxOf (L2.CX P w) P w K mg base N_check_symbol "check_symbol" (defScope s_check_symbol) ((gAd "check_symbol") K) cdv A outer s H E) E := passes_call (takes_of rfl rfl rfl rfl) (fun _ _ _ _ h => h)
  have ho : PassesOwn (model P w) (cxOf (L2.CX P w) P w K mg base N_check_symbol "check_symbol" (defScope s_check_symbol) ((gAd "check_symbol") K) cdv A outer s H E).A (cxOf (L2.CX P w) P w K mg base N_check_symbol "check_symbol" (defScope s_check_symbol) ((gAd "check_symbol") K) cdv A outer s H E).env (cxOf (L2.CX P w) P w K mg base N_check_symbol "check_symbol" (defScope s_check_symbol) ((gAd "check_symbol") K) cdv A outer s H E).xe := passes_of rfl
  exact (ds_cons (ds_unp (is := [2, 3, 4, 5]) (ps_asg (de_var (pv 0)) (pg_tup (by rfl) (pgs_cons (pg_name (i := 2) nd rfl (by first | exact Or.inl rfl | exact Or.inr rfl)) (pgs_cons (pg_name (i := 3) nd rfl (by first | exact Or.inl rfl | exact Or.inr rfl)) (pgs_cons (pg_name (i := 4) nd rfl (by first | exact Or.inl rfl | exact Or.inr rfl)) (pgs_cons (pg_name (i := 5) nd rfl (by first | exact Or.inl rfl | exact Or.inr rfl)) pgs_nil))))))) (ds_cons (ds_if (PW.pt (dw_or (dt_not (dt_tru (de_callF F_is_name (hr.mono (by decide)) (T.glo 26) hx (da_cons (de_var (pv 2)) da_nil)) (by intro _; rfl))) (dw_or (dt_cmp (dd_in hu) (de_var (pv 2)) (de_var (pv 1)) (by rfl)) (dw_or (dt_cmp dd_lt0 (de_var (pv 3)) de_int (nomark _)) (dw_or1 (dt_cmp dd_gt (de_var (pv 3)) de_int (nomark _))))))) (ds_one ds_never) ds_nil) (ds_one (ds_for [6] (tg_name (i := 6) (vs := [6]) (by decide)) (ps_for ho rfl (di_rng (by rfl) (T.free 4) (de_callB cd_len (by rfl) (T.free 1) PySem.boot_len (da_cons (de_var (pv 5)) da_nil))) (pg_name (i := 6) nd rfl (by first | exact Or.inl rfl | exact Or.inr rfl)) (ds_one (ds_if (PW.pt (dw_or (dt_cmp dd_lt0 (de_ix (ixd hu1) (de_var (pv 5)) (de_var (pv 6)) (fun _ _ => rfl)) de_int (nomark _)) (dw_or (dt_cmp dd_ge (de_ix (ixd hu1) (de_var (pv 5)) (de_var (pv 6)) (fun _ _ => rfl)) (de_var (pv 3)) (nomark _)) (dw_or1 (dt_cmp (dd_in hu) (de_ix (ixd hu1) (de_var (pv 5)) (de_var (pv 6)) (fun _ _ => rfl)) (de_slice (de_var (pv 5)) do_none (do_some (de_var (pv 6)))) (by rfl)))))) (ds_one ds_never) ds_nil)))))))
theorem sc_signature_init : FnScope ["self", "symbols", "row"] ["self", "symbols"] (defScope s_signature_init) := ⟨rfl, rfl, rfl, by decide +kernel, rfl, by decide +kernel, by decide +kernel⟩
theorem ok_sig {P : Program} {w : World} {K : PySem.W.Frag} {mg : Str → Option Value} {base : Heap} (T : Tx fa fn K mg) (F_check_symbol : FnD P w K mg base 2 (gAd "check_symbol") 2 den_check_symbol) : SigF P w K mg base 3 den_check_symbol := by
  obtain ⟨fd, F⟩ := T.c.def_ 21 (d := d_signature_init) (by rfl)
  refine ⟨fd, ["self", "symbols"], ?_, F.bindsN (ps := ["self", "symbols"]) fun kV doc pm an cdv ct us hl => match us, hl with | [_, _], _ => rfl⟩
  refine FunD.ok (k := 2) F sc_signature_init (fun vs H Q E h => ?_) (fun cdv A outer s H vs Q E hr h => ⟨t_sig K E den_check_symbol, ?_, pure_sig (T.cls 27) (T.noat 28) (T.noat 29) vs H Q E h⟩)
  · obtain ⟨x, dx, a, xs, G, rows, rfl, _⟩ := h; rfl
  · have nd := sc_signature_init.nd
    have hu1 := u1 hr
    have hx : Passes (L2.CX P w) (cxOf (L2.CX P w) P w K mg base ["self", "symbols", "row"] "Signature.__init__" (defScope s_signature_init) (mAd "Signature" "__init__" K) cdv A outer s H E) E := passes_call (takes_of rfl rfl rfl rfl) (fun _ _ _ _ h => h)
    have ho : PassesOwn (model P w) (cxOf (L2.CX P w) P w K mg base ["self", "symbols", "row"] "Signature.__init__" (defScope s_signature_init) (mAd "Signature" "__init__" K) cdv A outer s H E).A (cxOf (L2.CX P w) P w K mg base ["self", "symbols", "row"] "Signature.__init__" (defScope s_signature_init) (mAd "Signature" "__init__" K) cdv A outer s H E).env (cxOf (L2.CX P w) P w K mg base ["self", "symbols", "row"] "Signature.__init__" (defScope s_signature_init) (mAd "Signature" "__init__" K) cdv A outer s H E).xe := passes_of rfl
    obtain ⟨fdc, psc, Fc, bc, kc⟩ := F_check_symbol
    exact pss_cons (ps_fld (pv 0) (pe_lst pa_nil) rfl) (pss_cons (ps_fld (pv 0) pe_dnewK rfl) (pss_one (ps_for ho rfl (pi_list (pv 1)) (pg_name (i := 2) nd rfl (by first | exact Or.inl rfl | exact Or.inr rfl)) (pss_cons (ps_expr (pe_call Fc (hr.mono (by decide)) (by rfl) (T.glo 30) kc bc .nil hx (pa_cons (pv 2) (pa_cons (pe_callTy (call_listD rfl) (by rfl) (T.free 31) PyProof.Rows.boot_list (pa_cons (pe_fld (pv 0) rfl) pa_nil)) pa_nil)))) (pss_cons (ps_dput hu1 (pe_fld (pv 0) rfl) (de_ix (ixd hu1) (de_var (pv 2)) de_int (fun _ _ => rfl)) (pe_callB call_len (by rfl) (T.free 1) PySem.boot_len (pa_cons (pe_fld (pv 0) rfl) pa_nil)) rfl) (pss_one (ps_expr (pe_bm PySem.F.plainAttrs_list PySem.F.slot_list_append PySem.F.type_list_append mt_append (pe_fld (pv 0) rfl) (pa_cons (de_tup (da_cons (de_ix (ixd hu1) (de_var (pv 2)) de_int (fun _ _ => rfl)) (da_cons (de_ix (ixd hu1) (de_var (pv 2)) de_int (fun _ _ => rfl)) (da_cons (de_ix (ixd hu1) (de_var (pv 2)) de_int (fun _ _ => rfl)) (da_cons (de_callTy cd_tuple (by rfl) (T.free 7) PyProof.Rows.boot_tuple (da_cons (de_ix (ixd hu1) (de_var (pv 2)) de_int (fun _ _ => rfl)) da_nil)) da_nil))))) pa_nil)))))))))
abbrev N_signature_number : List Str := ["self", "name"]
theorem sc_signature_number : FnScope N_signature_number ["self", "name"] (defScope s_signature_number) := ⟨rfl, rfl, rfl, by decide +kernel, rfl, by decide +kernel, by decide +kernel⟩
def b_signature_number : Ev → SR := sSeq (sIf (dTest (dOp gNotIn (dVar 1) (dFld "Signature" "numbers" (dVar 0)))) ((fun _ => .bot)) (sNil)) (sRet (dOp gIx (dFld "Signature" "numbers" (dVar 0)) (dVar 1)))
def den_signature_number : List D → Rs D := runD 2 b_signature_number
theorem ok_signature_number {P : Program} {w : World} {K : PySem.W.Frag} {mg : Str → Option Value} {base : Heap} (T : Tx fa fn K mg) : FnD P w K mg base 1 (mAd "Signature" "number") 2 den_signature_number := by
  obtain ⟨fd, F⟩ := T.c.def_ 22 (d := d_signature_number) (by rfl)
  refine fnD_of (d := d_signature_number) (k := 0) F sc_signature_number (fun _ _ _ _ _ _ _ us hl => match us, hl with | [_, _], _ => rfl) (fun cdv A outer s H E hr => ?_)
  have nd := sc_signature_number.nd
  have hu := u200 hr
  have hu1 := u1 hr
  have hx : Passes (L2.CX P w) (cxOf (L2.CX P w) P w K mg base N_signature_number "Signature.number" (defScope s_signature_number) ((mAd "Signature" "number") K) cdv A outer s H E) E := passes_call (takes_of rfl rfl rfl rfl) (fun _ _ _ _ h => h)
  have ho : PassesOwn (model P w) (cxOf (L2.CX P w) P w K mg base N_signature_number "Signature.number" (defScope s_signature_number) ((mAd "Signature" "number") K) cdv A outer s H E).A (cxOf (L2.CX P w) P w K mg base N_signature_number "Signature.number" (defScope s_signature_number) ((mAd "Signature" "number") K) cdv A outer s H E).env (cxOf (L2.CX P w) P w K mg base N_signature_number "Signature.number" (defScope s_signature_number) ((mAd "Signature" "number") K) cdv A outer s H E).xe := passes_of rfl
  exact (ds_cons (ds_if (dt_cmp (dd_notIn hu) (de_var (pv 1)) (de_fld (c := "Signature") (T.cls 27) (T.noat 29) (de_var (pv 0))) (by rfl)) (ds_one ds_never) ds_nil) (ds_one (ds_ret (de_ix (ixd hu1) (de_fld (c := "Signature") (T.cls 27) (T.noat 29) (de_var (pv 0))) (de_var (pv 1)) (fun _ _ => rfl)))))
abbrev N_signature_places : List Str := ["self", "name"]
theorem sc_signature_places : FnScope N_signature_places ["self", "name"] (defScope s_signature_places) := ⟨rfl, rfl, rfl, by decide +kernel, rfl, by decide +kernel, by decide +kernel⟩
def b_signature_places : Ev → SR := sRet (dOp gIx (dOp gIx (dFld "Signature" "listed" (dVar 0)) (dMeth "Signature" "number" 2 den_signature_number (dVar 0) (dCons (dVar 1) (dNil)))) (dC (.int 1)))
def den_signature_places : List D → Rs D := runD 2 b_signature_places
theorem ok_signature_places {P : Program} {w : World} {K : PySem.W.Frag} {mg : Str → Option Value} {base : Heap} (T : Tx fa fn K mg) (F_signature_number : FnD P w K mg base 1 (mAd "Signature" "number") 2 den_signature_number) : FnD P w K mg base 2 (mAd "Signature" "places") 2 den_signature_places := by
  obtain ⟨fd, F⟩ := T.c.def_ 23 (d := d_signature_places) (by rfl)
  refine fnD_of (d := d_signature_places) (k := 1) F sc_signature_places (fun _ _ _ _ _ _ _ us hl => match us, hl with | [_, _], _ => rfl) (fun cdv A outer s H E hr => ?_)
  have nd := sc_signature_places.nd
  have hu := u200 hr
  have hu1 := u1 hr
  have hx : Passes (L2.CX P w) (cxOf (L2.CX P w) P w K mg base N_signature_places "Signature.places" (defScope s_signature_places) ((mAd "Signature" "places") K) cdv A outer s H E) E := passes_call (takes_of rfl rfl rfl rfl) (fun _ _ _ _ h => h)
  have ho : PassesOwn (model P w) (cxOf (L2.CX P w) P w K mg base N_signature_places "Signature.places" (defScope s_signature_places) ((mAd "Signature" "places") K) cdv A outer s H E).A (cxOf (L2.CX P w) P w K mg base N_signature_places "Signature.places" (defScope s_signature_places) ((mAd "Signature" "places") K) cdv A outer s H E).env (cxOf (L2.CX P w) P w K mg base N_signature_places "Signature.places" (defScope s_signature_places) ((mAd "Signature" "places") K) cdv A outer s H E).xe := passes_of rfl
  exact (ds_one (ds_ret (de_ix (ixd hu1) (de_ix (ixd hu1) (de_fld (c := "Signature") (T.cls 27) (T.noat 28) (de_var (pv 0))) (de_methF F_signature_number (hr.mono (by decide)) (T.cls 27) (T.meth 32) hx (de_var (pv 0)) (da_cons (de_var (pv 1)) da_nil)) (fun _ _ => rfl)) de_int (fun _ _ => rfl))))
abbrev N_signature_size : List Str := ["self", "term", "part"]
theorem sc_signature_size : FnScope N_signature_size ["self", "term"] (defScope s_signature_size) := ⟨rfl, rfl, rfl, by decide +kernel, rfl, by decide +kernel, by decide +kernel⟩
def cc_signature_size_1 (r : List D → Rs D) : Ev → Rs D := dMeth "Signature" "size" 2 r (dVar 0) (dCons (dVar 2) (dNil))
def b_signature_size (r : List D → Rs D) : Ev → SR := sSeq (sIf (dOr (dNot (dTru (dIsi "tuple" (dVar 1)))) (dOr (dTest (dOp gEq (dVar 1) (dTup (dNil)))) (dNot (dTru (dIsi "str" (dOp gIx (dVar 1) (dC (.int 0)))))))) ((fun _ => .bot)) (sNil)) (sSeq (sIf (dOr (dTest (dOp gNotIn (dOp gIx (dVar 1) (dC (.int 0))) (dFld "Signature" "numbers" (dVar 0)))) (dTest (dOp gNe (dCall cLen (dCons (dVar 1) (dNil))) (dOp gAdd (dC (.int 1)) (dMeth "Signature" "places" 2 den_signature_places (dVar 0) (dCons (dOp gIx (dVar 1) (dC (.int 0))) (dNil))))))) ((fun _ => .bot)) (sNil)) (sRet (dOp gAdd (dC (.int 1)) (dCall cSum (dCons (dComp [2] (dItA (dSl (dVar 1) (dPart (dC (.int 1))) (dNoP))) (tgN 2) (fun _ => .ok true) ((cc_signature_size_1 r))) (dNil))))))
def den_signature_size : Nat → List D → Rs D := fuel (fun r => runD 3 (b_signature_size r))
theorem ok_signature_size {P : Program} {w : World} {K : PySem.W.Frag} {mg : Str → Option Value} {base : Heap} (T : Tx fa fn K mg) (F_signature_places : FnD P w K mg base 2 (mAd "Signature" "places") 2 den_signature_places) : FnD P w K mg base 72 (mAd "Signature" "size") 2 (den_signature_size 70) := by
  obtain ⟨fd, F⟩ := T.c.def_ 24 (d := d_signature_size) (by rfl)
  refine fuelOk (j := 2) (ad := (mAd "Signature" "size")) (fnD_bot (d := d_signature_size) F sc_signature_size (fun _ _ _ _ _ _ _ us hl => match us, hl with | [_, _], _ => rfl) 1) (fun k r hk F_signature_size => ?_) 70
  refine fnD_of (d := d_signature_size) (k := k) F sc_signature_size (fun _ _ _ _ _ _ _ us hl => match us, hl with | [_, _], _ => rfl) (fun cdv A outer s H E hr => ?_)
  have nd := sc_signature_size.nd
  have hu := u200 hr
  have hu1 := u1 hr
  have hx : Passes (L2.CX P w) (cxOf (L2.CX P w) P w K mg base N_signature_size "Signature.size" (defScope s_signature_size) ((mAd "Signature" "size") K) cdv A outer s H E) E := passes_call (takes_of rfl rfl rfl rfl) (fun _ _ _ _ h => h)
  have ho : PassesOwn (model P w) (cxOf (L2.CX P w) P w K mg base N_signature_size "Signature.size" (defScope s_signature_size) ((mAd "Signature" "size") K) cdv A outer s H E).A (cxOf (L2.CX P w) P w K mg base N_signature_size "Signature.size" (defScope s_signature_size) ((mAd "Signature" "size") K) cdv A outer s H E).env (cxOf (L2.CX P w) P w K mg base N_signature_size "Signature.size" (defScope s_signature_size) ((mAd "Signature" "size") K) cdv A outer s H E).xe := passes_of rfl
  exact (ds_cons (ds_if (PW.pt (dw_or (dt_not (dt_tru (de_isi (T := "tuple") rfl (T.free 8) (de_var (pv 1)) (pe_bltn (by rfl) (T.free 7) PyProof.Rows.boot_tuple rfl)) (by intro _; rfl))) (dw_or (dt_cmp (dd_eq hu) (de_var (pv 1)) (de_tup da_nil) (nomark _)) (dw_or1 (dt_not (dt_tru (de_isi (T := "str") rfl (T.free 8) (de_ix (ixd hu1) (de_var (pv 1)) de_int (fun _ _ => rfl)) (pe_bltn (by rfl) (T.free 9) PyProof.Rows.boot_str rfl)) (by intro _; rfl))))))) (ds_one ds_never) ds_nil) (ds_cons (ds_if (PW.pt (dw_or (dt_cmp (dd_notIn hu) (de_ix (ixd hu1) (de_var (pv 1)) de_int (fun _ _ => rfl)) (de_fld (c := "Signature") (T.cls 27) (T.noat 29) (de_var (pv 0))) (by rfl)) (dw_or1 (dt_cmp (dd_ne hu) (de_callB cd_len (by rfl) (T.free 1) PySem.boot_len (da_cons (de_var (pv 1)) da_nil)) (de_op dd_add de_int (de_methF F_signature_places (hr.mono (by omega)) (T.cls 27) (T.meth 33) hx (de_var (pv 0)) (da_cons (de_ix (ixd hu1) (de_var (pv 1)) de_int (fun _ _ => rfl)) da_nil))) (nomark _))))) (ds_one ds_never) ds_nil) (ds_one (ds_ret (de_op dd_add de_int (de_callB (cd_sum rfl) (by rfl) (T.free 11) PyProof.Rows.boot_sum (da_cons (de_lc (tg_name (i := 2) (vs := [2]) (by decide)) (pe_lc (own := [("part", 2)])  rfl nd (di_seq (de_slice (de_var (pv 1)) (do_some de_int) do_none)) (blkOk_by (own := [("part", 2)]) (N := N_signature_size) (sc := defScope s_signature_size) (by decide +kernel)) (fun _ _ _ _ _ => pg_name (i := 2) nd rfl (by first | exact Or.inl rfl | exact Or.inr rfl)) (fun _ _ _ _ _ => dts_nil) (fun _ _ _ _ _ => (de_methF F_signature_size (hr.mono (by omega)) (T.cls 27) (T.meth 34) passL (de_var (pv 0)) (da_cons (de_var (pv 2)) da_nil))))) da_nil)))))))
abbrev N_signature_rank : List Str := ["self", "term", "parts", "part"]
theorem sc_signature_rank : FnScope N_signature_rank ["self", "term"] (defScope s_signature_rank) := ⟨rfl, rfl, rfl, by decide +kernel, rfl, by decide +kernel, by decide +kernel⟩
def cc_signature_rank_1 (r : List D → Rs D) : Ev → Rs D := dMeth "Signature" "rank" 2 r (dVar 0) (dCons (dVar 3) (dNil))
def cc_signature_rank_2 (r : List D → Rs D) : Ev → Rs D := dOp gIx (dVar 3) (dC (.int 0))
def b_signature_rank (r : List D → Rs D) : Ev → SR := sSeq (sSet 2 (dCall cTuple (dCons (dComp [3] (dItA (dSl (dVar 1) (dPart (dC (.int 1))) (dNoP))) (tgN 3) (fun _ => .ok true) ((cc_signature_rank_1 r))) (dNil)))) (sRet (dTup (dCons (dOp gAdd (dC (.int 1)) (dCall cSum (dCons (dComp [3] (dItA (dVar 2)) (tgN 3) (fun _ => .ok true) ((cc_signature_rank_2 r))) (dNil)))) (dCons (dMeth "Signature" "number" 2 den_signature_number (dVar 0) (dCons (dOp gIx (dVar 1) (dC (.int 0))) (dNil))) (dCons (dVar 2) (dNil))))))
def den_signature_rank : Nat → List D → Rs D := fuel (fun r => runD 4 (b_signature_rank r))
theorem ok_signature_rank {P : Program} {w : World} {K : PySem.W.Frag} {mg : Str → Option Value} {base : Heap} (T : Tx fa fn K mg) (F_signature_number : FnD P w K mg base 1 (mAd "Signature" "number") 2 den_signature_number) : FnD P w K mg base 71 (mAd "Signature" "rank") 2 (den_signature_rank 70) := by
  obtain ⟨fd, F⟩ := T.c.def_ 25 (d := d_signature_rank) (by rfl)
  refine fuelOk (j := 1) (ad := (mAd "Signature" "rank")) (fnD_bot (d := d_signature_rank) F sc_signature_rank (fun _ _ _ _ _ _ _ us hl => match us, hl with | [_, _], _ => rfl) 0) (fun k r hk F_signature_rank => ?_) 70
  refine fnD_of (d := d_signature_rank) (k := k) F sc_signature_rank (fun _ _ _ _ _ _ _ us hl => match us, hl with | [_, _], _ => rfl) (fun cdv A outer s H E hr => ?_)
  have nd := sc_signature_rank.nd
  have hu := u200 hr
  have hu1 := u1 hr
  have hx : Passes (L2.CX P w) (cxOf (L2.CX P w) P w K mg base N_signature_rank "Signature.rank" (defScope s_signature_rank) ((mAd "Signature" "rank") K) cdv A outer s H E) E := passes_call (takes_of rfl rfl rfl rfl) (fun _ _ _ _ h => h)
  have ho : PassesOwn (model P w) (cxOf (L2.CX P w) P w K mg base N_signature_rank "Signature.rank" (defScope s_signature_rank) ((mAd "Signature" "rank") K) cdv A outer s H E).A (cxOf (L2.CX P w) P w K mg base N_signature_rank "Signature.rank" (defScope s_signature_rank) ((mAd "Signature" "rank") K) cdv A outer s H E).env (cxOf (L2.CX P w) P w K mg base N_signature_rank "Signature.rank" (defScope s_signature_rank) ((mAd "Signature" "rank") K) cdv A outer s H E).xe := passes_of rfl
  exact (ds_cons (ds_set (ps_set (i := 2) nd rfl (by first | exact Or.inl rfl | exact Or.inr rfl) (de_callTy cd_tuple (by rfl) (T.free 7) PyProof.Rows.boot_tuple (da_cons (de_lc (tg_name (i := 3) (vs := [3]) (by decide)) (pe_lc (own := [("part", 3)])  rfl nd (di_seq (de_slice (de_var (pv 1)) (do_some de_int) do_none)) (blkOk_by (own := [("part", 3)]) (N := N_signature_rank) (sc := defScope s_signature_rank) (by decide +kernel)) (fun _ _ _ _ _ => pg_name (i := 3) nd rfl (by first | exact Or.inl rfl | exact Or.inr rfl)) (fun _ _ _ _ _ => dts_nil) (fun _ _ _ _ _ => (de_methF F_signature_rank (hr.mono (by omega)) (T.cls 27) (T.meth 35) passL (de_var (pv 0)) (da_cons (de_var (pv 3)) da_nil))))) da_nil)))) (ds_one (ds_ret (de_tup (da_cons (de_op dd_add de_int (de_callB (cd_sum rfl) (by rfl) (T.free 11) PyProof.Rows.boot_sum (da_cons (de_lc (tg_name (i := 3) (vs := [3]) (by decide)) (pe_lc (own := [("part", 3)])  rfl nd (di_seq (de_var (pv 2))) (blkOk_by (own := [("part", 3)]) (N := N_signature_rank) (sc := defScope s_signature_rank) (by decide +kernel)) (fun _ _ _ _ _ => pg_name (i := 3) nd rfl (by first | exact Or.inl rfl | exact Or.inr rfl)) (fun _ _ _ _ _ => dts_nil) (fun _ _ _ _ _ => (de_ix (ixd hu1) (de_var (pv 3)) de_int (fun _ _ => rfl))))) da_nil))) (da_cons (de_methF F_signature_number (hr.mono (by omega)) (T.cls 27) (T.meth 32) hx (de_var (pv 0)) (da_cons (de_ix (ixd hu1) (de_var (pv 1)) de_int (fun _ _ => rfl)) da_nil)) (da_cons (de_var (pv 2)) da_nil)))))))
abbrev N_signature_precedes : List Str := ["self", "first", "second"]
theorem sc_signature_precedes : FnScope N_signature_precedes ["self", "first", "second"] (defScope s_signature_precedes) := ⟨rfl, rfl, rfl, by decide +kernel, rfl, by decide +kernel, by decide +kernel⟩
def b_signature_precedes : Ev → SR := sSeq (sExpr (dMeth "Signature" "size" 2 (den_signature_size 70) (dVar 0) (dCons (dVar 1) (dNil)))) (sSeq (sExpr (dMeth "Signature" "size" 2 (den_signature_size 70) (dVar 0) (dCons (dVar 2) (dNil)))) (sRet (dOp gLtT (dMeth "Signature" "rank" 2 (den_signature_rank 70) (dVar 0) (dCons (dVar 1) (dNil))) (dMeth "Signature" "rank" 2 (den_signature_rank 70) (dVar 0) (dCons (dVar 2) (dNil))))))
def den_signature_precedes : List D → Rs D := runD 3 b_signature_precedes
theorem ok_signature_precedes {P : Program} {w : World} {K : PySem.W.Frag} {mg : Str → Option Value} {base : Heap} (T : Tx fa fn K mg) (F_signature_size : FnD P w K mg base 72 (mAd "Signature" "size") 2 (den_signature_size 70)) (F_signature_rank : FnD P w K mg base 71 (mAd "Signature" "rank") 2 (den_signature_rank 70)) : FnD P w K mg base 73 (mAd "Signature" "precedes") 3 den_signature_precedes := by
  obtain ⟨fd, F⟩ := T.c.def_ 26 (d := d_signature_precedes) (by rfl)
  refine fnD_of (d := d_signature_precedes) (k := 72) F sc_signature_precedes (fun _ _ _ _ _ _ _ us hl => match us, hl with | [_, _, _], _ => rfl) (fun cdv A outer s H E hr => ?_)
  have nd := sc_signature_precedes.nd
  have hu := u200 hr
  have hu1 := u1 hr
  have hx : Passes (L2.CX P w) (cxOf (L2.CX P w) P w K mg base N_signature_precedes "Signature.precedes" (defScope s_signature_precedes) ((mAd "Signature" "precedes") K) cdv A outer s H E) E := passes_call (takes_of rfl rfl rfl rfl) (fun _ _ _ _ h => h)
  have ho : PassesOwn (model P w) (cxOf (L2.CX P w) P w K mg base N_signature_precedes "Signature.precedes" (defScope s_signature_precedes) ((mAd "Signature" "precedes") K) cdv A outer s H E).A (cxOf (L2.CX P w) P w K mg base N_signature_precedes "Signature.precedes" (defScope s_signature_precedes) ((mAd "Signature" "precedes") K) cdv A outer s H E).env (cxOf (L2.CX P w) P w K mg base N_signature_precedes "Signature.precedes" (defScope s_signature_precedes) ((mAd "Signature" "precedes") K) cdv A outer s H E).xe := passes_of rfl
  exact (ds_cons (ds_expr (de_methF F_signature_size (hr.mono (by decide)) (T.cls 27) (T.meth 34) hx (de_var (pv 0)) (da_cons (de_var (pv 1)) da_nil))) (ds_cons (ds_expr (de_methF F_signature_size (hr.mono (by decide)) (T.cls 27) (T.meth 34) hx (de_var (pv 0)) (da_cons (de_var (pv 2)) da_nil))) (ds_one (ds_ret (de_cmp (dd_ltT hu) (de_methF F_signature_rank (hr.mono (by decide)) (T.cls 27) (T.meth 35) hx (de_var (pv 0)) (da_cons (de_var (pv 1)) da_nil)) (de_methF F_signature_rank (hr.mono (by decide)) (T.cls 27) (T.meth 35) hx (de_var (pv 0)) (da_cons (de_var (pv 2)) da_nil)) (nomark _))))))
abbrev N_law : List Str := ["_law_script", "_law_tables", "_law_signature", "_law_numbers_here", "_law_first", "_law_second", "_law_pair", "_law_told"]
theorem sc_law : FnScope N_law ["_law_script"] (defScope s_law) := ⟨rfl, rfl, rfl, by decide +kernel, rfl, by decide +kernel, by decide +kernel⟩
def lb_law_1 : Ev → SR := sSeq (sSet 7 (dMeth "Signature" "precedes" 3 den_signature_precedes (dVar 2) (dCons (dOp gIx (dVar 6) (dC (.int 0))) (dCons (dOp gIx (dVar 6) (dC (.int 1))) (dNil))))) (sIf (dOr (dNot (dTru (dIsi "bool" (dVar 7)))) (dTest (dOp gNe (dVar 7) (dOp gLtT (dCallN 2 (den_l_rank 70) (dCons (dVar 1) (dCons (dOp gIx (dVar 6) (dC (.int 0))) (dNil)))) (dCallN 2 (den_l_rank 70) (dCons (dVar 1) (dCons (dOp gIx (dVar 6) (dC (.int 1))) (dNil)))))))) (sRet (dC (.bl false))) (sNil))
def b_law : Ev → SR := sSeq (sSet 1 (dCallN 3 den_l_random (dCons (dVar 0) (dCons (dC (.int 0)) (dCons (dC (.int 2)) (dNil)))))) (sSeq (sSet 2 (dMakeS den_check_symbol (dCall cList (dCons (dOp gIx (dVar 1) (dC (.int 0))) (dNil))))) (sSeq (sSet 3 (dCallN 3 den_l_numbers (dCons (dVar 0) (dCons (dC (.int 4)) (dCons (dC (.int 9)) (dNil)))))) (sSeq (sSet 4 (dCallN 2 den_l_term (dCons (dVar 1) (dCons (dCallN 3 den_l_numbers (dCons (dVar 0) (dCons (dC (.int 5)) (dCons (dOp gAdd (dC (.int 1)) (dOp gMod (dCall cInt (dCons (dOp gIx (dVar 3) (dC (.int 8))) (dNil))) (dC (.int 30)))) (dNil))))) (dNil))))) (sSeq (sSet 5 (dCallN 4 den_l_other (dCons (dVar 1) (dCons (dVar 4) (dCons (dVar 0) (dCons (dVar 3) (dNil))))))) (sSeq (sFor (dItA (dLst (dCons (dTup (dCons (dVar 4) (dCons (dVar 5) (dNil)))) (dCons (dTup (dCons (dVar 5) (dCons (dVar 4) (dNil)))) (dCons (dTup (dCons (dVar 4) (dCons (dVar 4) (dNil)))) (dNil)))))) (tgN 6) [6, 7] lb_law_1) (sRet (dC (.bl true))))))))
def den_law : List D → Rs D := runD 8 b_law
theorem ok_law {P : Program} {w : World} {K : PySem.W.Frag} {mg : Str → Option Value} {base : Heap} (T : Tx fa fn K mg) (F_l_random : FnD P w K mg base 74 (gAd "_law_random") 3 den_l_random) (F_l_numbers : FnD P w K mg base 2 (gAd "_law_numbers") 3 den_l_numbers) (F_l_term : FnD P w K mg base 72 (gAd "_law_term") 2 den_l_term) (F_l_other : FnD P w K mg base 73 (gAd "_law_other") 4 den_l_other) (F_signature_precedes : FnD P w K mg base 73 (mAd "Signature" "precedes") 3 den_signature_precedes) (F_l_rank : FnD P w K mg base 71 (gAd "_law_rank") 2 (den_l_rank 70)) (F_sig : SigF P w K mg base 3 den_check_symbol) {fd : FuncData} (F : FunD K d_law.name d_law.qual d_law.params d_law.body d_law.scope [] (d_law.kws K) (d_law.ad K) fd) : FnOk P w K mg base (L2.CX P w) 75 (d_law.ad K) fd ["_law_script"] (spD K 1 den_law) := by
  refine fn_D (k := 74) F sc_law (fun cdv A outer s H E hr => ?_)
  have nd := sc_law.nd
  have hu := u200 hr
  have hu1 := u1 hr
  have hx : Passes (L2.CX P w) (cxOf (L2.CX P w) P w K mg base N_law "law" (defScope s_law) ((gAd "law") K) cdv A outer s H E) E := passes_call (takes_of rfl rfl rfl rfl) (fun _ _ _ _ h => h)
  have ho : PassesOwn (model P w) (cxOf (L2.CX P w) P w K mg base N_law "law" (defScope s_law) ((gAd "law") K) cdv A outer s H E).A (cxOf (L2.CX P w) P w K mg base N_law "law" (defScope s_law) ((gAd "law") K) cdv A outer s H E).env (cxOf (L2.CX P w) P w K mg base N_law "law" (defScope s_law) ((gAd "law") K) cdv A outer s H E).xe := passes_of rfl
  exact (ds_cons (ds_set (ps_set (i := 1) nd rfl (by first | exact Or.inl rfl | exact Or.inr rfl) (de_callF F_l_random (hr.mono (by decide)) (T.glo 36) hx (da_cons (de_var (pv 0)) (da_cons de_int (da_cons de_int da_nil)))))) (ds_cons (ds_set (ps_set (i := 2) nd rfl (by first | exact Or.inl rfl | exact Or.inr rfl) (de_makeSF F_sig (T.mkr 37) (hr.mono (by decide)) (T.glo 38) hx (de_callTy (cd_list rfl) (by rfl) (T.free 31) PyProof.Rows.boot_list (da_cons (de_ix (ixd hu1) (de_var (pv 1)) de_int (fun _ _ => rfl)) da_nil))))) (ds_cons (ds_set (ps_set (i := 3) nd rfl (by first | exact Or.inl rfl | exact Or.inr rfl) (de_callF F_l_numbers (hr.mono (by decide)) (T.glo 12) hx (da_cons (de_var (pv 0)) (da_cons de_int (da_cons de_int da_nil)))))) (ds_cons (ds_set (ps_set (i := 4) nd rfl (by first | exact Or.inl rfl | exact Or.inr rfl) (de_callF F_l_term (hr.mono (by decide)) (T.glo 23) hx (da_cons (de_var (pv 1)) (da_cons (de_callF F_l_numbers (hr.mono (by decide)) (T.glo 12) hx (da_cons (de_var (pv 0)) (da_cons de_int (da_cons (de_op dd_add de_int (de_op dd_mod (de_callTy cd_int (by rfl) (T.free 3) PyProof.Rows.boot_int (da_cons (de_ix (ixd hu1) (de_var (pv 3)) de_int (fun _ _ => rfl)) da_nil)) de_int)) da_nil)))) da_nil))))) (ds_cons (ds_set (ps_set (i := 5) nd rfl (by first | exact Or.inl rfl | exact Or.inr rfl) (de_callF F_l_other (hr.mono (by decide)) (T.glo 39) hx (da_cons (de_var (pv 1)) (da_cons (de_var (pv 4)) (da_cons (de_var (pv 0)) (da_cons (de_var (pv 3)) da_nil))))))) (ds_cons (ds_for [6, 7] (tg_name (i := 6) (vs := [6]) (by decide)) (ps_for ho rfl (di_seq (de_lst (da_cons (de_tup (da_cons (de_var (pv 4)) (da_cons (de_var (pv 5)) da_nil))) (da_cons (de_tup (da_cons (de_var (pv 5)) (da_cons (de_var (pv 4)) da_nil))) (da_cons (de_tup (da_cons (de_var (pv 4)) (da_cons (de_var (pv 4)) da_nil))) da_nil))))) (pg_name (i := 6) nd rfl (by first | exact Or.inl rfl | exact Or.inr rfl)) (ds_cons (ds_set (ps_set (i := 7) nd rfl (by first | exact Or.inl rfl | exact Or.inr rfl) (de_methF F_signature_precedes (hr.mono (by decide)) (T.cls 27) (T.meth 40) hx (de_var (pv 2)) (da_cons (de_ix (ixd hu1) (de_var (pv 6)) de_int (fun _ _ => rfl)) (da_cons (de_ix (ixd hu1) (de_var (pv 6)) de_int (fun _ _ => rfl)) da_nil))))) (ds_one (ds_if (PW.pt (dw_or (dt_not (dt_tru (de_isi (T := "bool") rfl (T.free 8) (de_var (pv 7)) (pe_bltn (by rfl) (T.free 41) PyProof.Rows.boot_bool rfl)) (by intro _; rfl))) (dw_or1 (dt_cmp (dd_ne hu) (de_var (pv 7)) (de_cmp (dd_ltT hu) (de_callF F_l_rank (hr.mono (by decide)) (T.glo 22) hx (da_cons (de_var (pv 1)) (da_cons (de_ix (ixd hu1) (de_var (pv 6)) de_int (fun _ _ => rfl)) da_nil))) (de_callF F_l_rank (hr.mono (by decide)) (T.glo 22) hx (da_cons (de_var (pv 1)) (da_cons (de_ix (ixd hu1) (de_var (pv 6)) de_int (fun _ _ => rfl)) da_nil))) (nomark _)) (nomark _))))) (ds_one (ds_ret de_bl)) ds_nil))))) (ds_one (ds_ret de_bl))))))))
end KL

namespace KL
open PySem L2 KD
/-! ### symbols -/
structure Sym where
  nm : List Nat
  pl : Nat
  dn : Bool
  od : List Nat
def Sym.d (s : Sym) : D := .tup [nmD s.nm, natD s.pl, .bl s.dn, .tup (s.od.map natD)]
def nameOk (l : List Nat) : Prop := 1 ≤ l.length ∧ l.length ≤ 8 ∧ ∀ c ∈ l, 97 ≤ c ∧ c ≤ 122
structure Sym.ok (s : Sym) : Prop where
  nm : nameOk s.nm
  pl : s.pl ≤ 3
  nd : s.od.Nodup
  lt : ∀ i ∈ s.od, i < s.pl
structure SigOk (ss : List Sym) : Prop where
  all : ∀ s ∈ ss, s.ok
  nd : (ss.map (·.nm)).Nodup
  len : ss.length ≤ 100
theorem letters_eq : (Str.ofString "abcdefghijklmnopqrstuvwxyz").cps.toList = List.range' 97 26 := by decide +kernel
theorem small_in {c : Nat} (h : 97 ≤ c ∧ c ≤ 122) : decide (c ∈ (Str.ofString "abcdefghijklmnopqrstuvwxyz").cps.toList) = true := by
  rw [letters_eq]
  apply decide_eq_true
  rw [List.mem_range'_1]
  omega
theorem notIn_small {c : Nat} (h : 97 ≤ c ∧ c ≤ 122) : gNotIn (.str (sO [c])) (.str "abcdefghijklmnopqrstuvwxyz") = .ok (.bl false) := by
  have e : gIn (.str (sO [c])) (.str "abcdefghijklmnopqrstuvwxyz") = .ok (.bl true) := by
    unfold gIn
    dsimp only
    rw [sO_cps]
    dsimp only
    rw [small_in h]
  unfold gNotIn
  rw [e]
  rfl
theorem isi_str (l : Str) : isiD "str" (.str l) = .ok (.bl true) := rfl
theorem den_isname {l : List Nat} (h : nameOk l) : den_is_name [nmD l] = .ok (.bl true) := by
  obtain ⟨h1, h2, h3⟩ := h
  have hl : (sO l).length = l.length := sO_len l
  have a1 : l.length ≤ 1000 := by omega
  have a2 : ¬ (l.length : Int) < 1 := by omega
  have a3 : ¬ (8 : Int) < (l.length : Int) := by omega
  have loop : forL (tgN 1) [1] lb_is_name_1 (signs (sO l)) [.dt (nmD l), .no] = .nx [.dt (nmD l), .no] := by
    rw [signs_sO]
    refine forL_same _ fun d hd => ?_
    obtain ⟨c, hc, rfl⟩ := List.mem_map.mp hd
    refine ⟨_, _, rfl, .inl (by simp -implicitDefEqProofs [lb_is_name_1, runD, ev0, sSeq, sNil, sIf, sSet, sRet, sRetN, sExpr, sNew, sApp, sLst, sClear, sFor, sUnp, dTest, dTru, dOp, dVar, dC, dNil, dCons, dCall, dCallN, dAnd, dOr, dNot, dAndV, dOrV, dNotV, dIsN, dNotN, dTup, dLst, dSl, dNoP, dPart, dItL, dItT, dItR, dItR2, dItS, dItA, asSeq, dComp, dIsi, dFld, dMeth, dProp, dNeg, dLenO, dMakeS, dMakeSO, asB, asI, asL, asT, truD, SR.fin, KD.frz, wipeE, tgN, tgT, setsE, gSelf, gCls, gFld, fldD, mkS, seqOf, Rs.nox, notIn_small (h3 c hc)]; rfl), rfl⟩
  have loop' : forL (tgN 1) [1] lb_is_name_1 (signs (sO l)) [.dt (.str (sO l)), .no] = .nx [.dt (.str (sO l)), .no] := loop
  simp -implicitDefEqProofs [den_is_name, b_is_name, nmD, runD, ev0, sSeq, sNil, sIf, sSet, sRet, sRetN, sExpr, sNew, sApp, sLst, sClear, sFor, sUnp, dTest, dTru, dOp, dVar, dC, dNil, dCons, dCall, dCallN, dAnd, dOr, dNot, dAndV, dOrV, dNotV, dIsN, dNotN, dTup, dLst, dSl, dNoP, dPart, dItL, dItT, dItR, dItR2, dItS, dItA, asSeq, dComp, dIsi, dFld, dMeth, dProp, dNeg, dLenO, dMakeS, dMakeSO, asB, asI, asL, asT, truD, SR.fin, KD.frz, wipeE, tgN, tgT, setsE, gSelf, gCls, gFld, fldD, mkS, seqOf, Rs.nox, gAdd, KD.gSub, gMul, gDiv, gMod, pow_18, mul_48271, mul_7919, mul_69621, mul_5, gLt, gLe, gGt, gGe, gIx, atD, cLen, cInt, cTuple, cList, gSl, gNeg, isi_str, hl, a1, a2, a3, loop']
theorem plain_nm (l : List Nat) : (nmD l).plain = true := rfl
theorem dep_nm (l : List Nat) : (nmD l).dep = 0 := rfl
theorem plains_nm : ∀ ls : List (List Nat), D.plains (ls.map nmD) = true
  | [] => rfl
  | l :: ls => by show ((nmD l).plain && D.plains (ls.map nmD)) = true; rw [plains_nm ls]; rfl
theorem plains_nat : ∀ ls : List Nat, D.plains (ls.map natD) = true
  | [] => rfl
  | l :: ls => by show ((natD l).plain && D.plains (ls.map natD)) = true; rw [plains_nat ls]; rfl
theorem deps_nat : ∀ ls : List Nat, D.deps (ls.map natD) = 0
  | [] => rfl
  | l :: ls => by show max (natD l).dep (D.deps (ls.map natD)) = 0; rw [deps_nat ls]; rfl
theorem in_nm (l : List Nat) (ls : List (List Nat)) : gIn (nmD l) (.lst (ls.map nmD)) = .ok (.bl (decide (l ∈ ls))) := by
  have h : inOk (nmD l) (ls.map nmD) = true := by simp [inOk, plain_nm, plains_nm, dep_nm]
  unfold gIn
  dsimp only
  rw [if_pos h]
  congr 2
  induction ls with
  | nil => rfl
  | cons a ls ih =>
    rw [List.map_cons, List.any_cons, ih (by simp [inOk, plain_nm, plains_nm, dep_nm])]
    have : eqD (nmD a) (nmD l) = (a == l) := eqD_sO a l
    rw [this]
    by_cases e : a = l
    · subst e; simp
    · have e' : ¬ l = a := fun q => e q.symm
      simp [e, e']
theorem eqD_nat (a b : Nat) : eqD (natD a) (natD b) = decide (a = b) := by
  show eqD (.int a) (.int b) = _
  rw [eqD_int]
  by_cases e : a = b
  · subst e; simp
  · rw [decide_eq_false e]; exact beq_eq_false_iff_ne.mpr (by omega)
theorem in_nat (i : Nat) (ls : List Nat) : gIn (natD i) (.tup (ls.map natD)) = .ok (.bl (decide (i ∈ ls))) := by
  have h : inOk (natD i) (ls.map natD) = true := by simp [inOk, natD, D.plain, plains_nat, D.dep]
  unfold gIn
  dsimp only
  rw [if_pos h]
  congr 2
  induction ls with
  | nil => rfl
  | cons a ls ih =>
    rw [List.map_cons, List.any_cons, ih (by simp [inOk, natD, D.plain, plains_nat, D.dep])]
    have : eqD (natD a) (natD i) = decide (a = i) := by
      show eqD (.int a) (.int i) = _
      rw [eqD_int]
      by_cases e : a = i
      · subst e; simp
      · have : ¬ (a : Int) = (i : Int) := by omega
        simp [e, this]
    rw [this]
    by_cases e : a = i
    · subst e; simp
    · have e' : ¬ i = a := fun q => e q.symm
      simp [e, e']
theorem take_nodup {l : List Nat} (h : l.Nodup) {k : Nat} (hk : k < l.length) : l[k] ∉ l.take k := by
  intro hm
  obtain ⟨j, hj, e⟩ := List.getElem_of_mem hm
  have hj' : j < k := by have := hj; simp at this; omega
  rw [List.getElem_take] at e
  have := (List.getElem_inj h).mp e
  omega
theorem den_check {s : Sym} (h : s.ok) {ns : List (List Nat)} (hn : s.nm ∉ ns) : den_check_symbol [s.d, .lst (ns.map nmD)] = .ok .non := by
  have e1 := den_isname h.nm
  have e2 := in_nm s.nm ns
  have e3 : decide (s.nm ∈ ns) = false := decide_eq_false hn
  have a1 : ¬ ((s.pl : Nat) : Int) < 0 := by omega
  have a2 : ¬ (3 : Int) < (s.pl : Int) := by have := h.pl; omega
  have hlen : s.od.length ≤ 3 := by
    have := nodup_lt s.pl s.od h.nd h.lt
    have := h.pl
    omega
  have rng : asRng (.int (s.od.length : Int)) = .ok (rngD 0 s.od.length) := asRng_nat _ (by omega)
  have loop : forL (tgN 6) [6] lb_check_symbol_1 (rngD 0 s.od.length) [.dt s.d, .dt (.lst (ns.map nmD)), .dt (nmD s.nm), .dt (natD s.pl), .dt (.bl s.dn), .dt (.tup (s.od.map natD)), .no] = .nx [.dt s.d, .dt (.lst (ns.map nmD)), .dt (nmD s.nm), .dt (natD s.pl), .dt (.bl s.dn), .dt (.tup (s.od.map natD)), .no] := by
    refine forL_same _ fun d hd => ?_
    obtain ⟨k, hk, rfl⟩ := mem_rng0 hd
    have x1 : gIx (.tup (s.od.map natD)) (.int k) = .ok (natD s.od[k]) := by
      unfold gIx atD
      dsimp only
      rw [atI_cast (by simpa using hk)]
      simp
    have x2 : gLt (natD s.od[k]) (.int 0) = .ok (.bl false) := by
      have : ¬ ((s.od[k] : Nat) : Int) < 0 := by omega
      simp [gLt, natD, this]
    have x3 : gGe (natD s.od[k]) (natD s.pl) = .ok (.bl false) := by
      have : s.od[k] < s.pl := h.lt _ (List.getElem_mem _)
      have : ¬ (s.pl : Int) ≤ (s.od[k] : Int) := by omega
      simp [gGe, natD, this]
    have x4 : gSl (.tup (s.od.map natD)) none (some (k : Int)) = .ok (.tup ((s.od.map natD).take k)) := by
      unfold gSl
      dsimp only
      rw [cutD_to]
    have x5 : gIn (natD s.od[k]) (.tup ((s.od.map natD).take k)) = .ok (.bl false) := by
      rw [← List.map_take, in_nat, decide_eq_false (take_nodup h.nd hk)]
    refine ⟨_, _, rfl, .inl (by simp -implicitDefEqProofs [lb_check_symbol_1, runD, ev0, sSeq, sNil, sIf, sSet, sRet, sRetN, sExpr, sNew, sApp, sLst, sClear, sFor, sUnp, dTest, dTru, dOp, dVar, dC, dNil, dCons, dCall, dCallN, dAnd, dOr, dNot, dAndV, dOrV, dNotV, dIsN, dNotN, dTup, dLst, dSl, dNoP, dPart, dItL, dItT, dItR, dItR2, dItS, dItA, asSeq, dComp, dIsi, dFld, dMeth, dProp, dNeg, dLenO, dMakeS, dMakeSO, asB, asI, asL, asT, truD, SR.fin, KD.frz, wipeE, tgN, tgT, setsE, gSelf, gCls, gFld, fldD, mkS, seqOf, Rs.nox, x1, x2, x3, x4, x5]; rfl), rfl⟩
  have x1 : gLt (natD s.pl) (.int 0) = .ok (.bl false) := by simp [gLt, natD, a1]
  have x2 : gGt (natD s.pl) (.int 3) = .ok (.bl false) := by simp [gGt, natD, a2]
  rw [show s.d = .tup [nmD s.nm, natD s.pl, .bl s.dn, .tup (s.od.map natD)] from rfl] at loop ⊢
  simp -implicitDefEqProofs [den_check_symbol, b_check_symbol, runD, ev0, sSeq, sNil, sIf, sSet, sRet, sRetN, sExpr, sNew, sApp, sLst, sClear, sFor, sUnp, dTest, dTru, dOp, dVar, dC, dNil, dCons, dCall, dCallN, dAnd, dOr, dNot, dAndV, dOrV, dNotV, dIsN, dNotN, dTup, dLst, dSl, dNoP, dPart, dItL, dItT, dItR, dItR2, dItS, dItA, asSeq, dComp, dIsi, dFld, dMeth, dProp, dNeg, dLenO, dMakeS, dMakeSO, asB, asI, asL, asT, truD, SR.fin, KD.frz, wipeE, tgN, tgT, setsE, gSelf, gCls, gFld, fldD, mkS, seqOf, Rs.nox, cLen, e1, e2, e3, x1, x2, rng, loop]
/-! ### Signature(rows), .symbols -/
def numsD (n : Nat) : List D := (List.range n).map natD
def sigO (ss : List Sym) : D := sigOb (ss.map Sym.d) (ss.map fun s => nmD s.nm) (numsD ss.length)
theorem look_none {l : List Nat} : ∀ {ns : List (List Nat)} {vs : List D}, l ∉ ns → lookD (ns.map nmD) vs (.inr (sO l)) = none
  | [], _, _ => rfl
  | a :: ns, [], _ => rfl
  | a :: ns, v :: vs, h => by
    have h1 : ¬ (nmD a).key = some (.inr (sO l)) := fun e => by
      have e2 : (some (Sum.inr (sO a)) : Option Key) = some (.inr (sO l)) := e
      have e3 := sO_inj (Sum.inr.inj (Option.some.inj e2))
      exact h (by rw [e3]; exact List.mem_cons_self)
    show (if (nmD a).key = some (.inr (sO l)) then some v else lookD (ns.map nmD) vs (.inr (sO l))) = none
    rw [if_neg h1]
    exact look_none fun q => h (List.mem_cons_of_mem _ q)
theorem sigL_step {chk : List D → Rs D} {row : D} {rows l ks vs : List D} {x n a b c t : D} {k : Key} (hc : chk [row, .lst ks] = .ok x) (h0 : gIx row (.int 0) = .ok n) (h1 : gIx row (.int 1) = .ok a) (h2 : gIx row (.int 2) = .ok b) (h3 : gIx row (.int 3) = .ok c) (ht : cTuple [c] = .ok t)
    (hk : n.key = some k) (hl : lookD ks vs k = none) (hb : l.length < 1000 ∧ ks.length < 1000) : sigL chk (row :: rows) l ks vs = sigL chk rows (l ++ [.tup [n, a, b, t]]) (ks ++ [n]) (vs ++ [.int l.length]) := by
  rw [sigL]
  rw [hc, Rs.bind_ok, h0, Rs.bind_ok, hk]
  dsimp only
  rw [hl]
  dsimp only
  rw [h1, Rs.bind_ok, h2, Rs.bind_ok, h3, Rs.bind_ok, ht, Rs.bind_ok, if_pos hb]
theorem sig_loop : ∀ (ss pre : List Sym), SigOk (pre ++ ss) → sigL den_check_symbol (ss.map Sym.d) (pre.map Sym.d) (pre.map fun s => nmD s.nm) (numsD pre.length) = .ok (sigO (pre ++ ss))
  | [], pre, _ => by rw [List.append_nil]; rfl
  | s :: ss, pre, h => by
    have hs : s.ok := h.all s (by simp)
    have hn : s.nm ∉ pre.map (·.nm) := by
      have := h.nd
      rw [List.map_append, List.nodup_append] at this
      intro q
      exact this.2.2 _ q s.nm (by simp) rfl
    have hc := den_check hs hn
    rw [List.map_map] at hc
    have hl := look_none (vs := numsD pre.length) hn
    rw [List.map_map] at hl
    have hlen := h.len
    simp only [List.length_append, List.length_cons] at hlen
    have b : (pre.map Sym.d).length < 1000 ∧ (pre.map fun s => nmD s.nm).length < 1000 := by simp; omega
    have ih := sig_loop ss (pre ++ [s]) (by rw [List.append_assoc]; exact h)
    rw [List.append_assoc, List.singleton_append] at ih
    rw [← ih]
    rw [List.map_cons]
    have hc' : den_check_symbol [s.d, .lst (pre.map fun s => nmD s.nm)] = .ok .non := hc
    have hl' : lookD (pre.map fun s => nmD s.nm) (numsD pre.length) (.inr (sO s.nm)) = none := hl
    rw [sigL_step hc' (n := nmD s.nm) (a := natD s.pl) (b := .bl s.dn) (c := .tup (s.od.map natD)) (t := .tup (s.od.map natD)) rfl rfl rfl rfl rfl rfl hl' b]
    congr 1
    · rw [List.map_append]; rfl
    · rw [List.map_append]; rfl
    · rw [List.length_append, numsD, List.length_map]
      show _ = (List.range (pre.length + 1)).map natD
      rw [List.range_succ, List.map_append]
      rfl
theorem den_sig {ss : List Sym} (h : SigOk ss) : sigD den_check_symbol (ss.map Sym.d) = .ok (sigO ss) := sig_loop ss [] h
theorem plain_sym (s : Sym) : s.d.plain = true := by
  simp [Sym.d, D.plain, D.plains, nmD, natD, plains_nat]
theorem dep_sym (s : Sym) : s.d.dep ≤ 2 := by
  simp [Sym.d, D.dep, D.deps, nmD, natD, deps_nat]
theorem Sym.ok.ol {s : Sym} (h : s.ok) : s.od.length ≤ 3 := by
  have := nodup_lt s.pl s.od h.nd h.lt
  have := h.pl
  omega
/-! ### the drawn rows -/
theorem turn_tab (t : Nat) (h : t < 6) : ∃ l : List Nat, (([[0, 1, 2], [0, 2, 1], [1, 0, 2], [1, 2, 0], [2, 0, 1], [2, 1, 0]] : List (List Nat))[t]?) = some l ∧ l.Nodup ∧ l.length = 3 := by
  match t, h with
  | 0, _ => exact ⟨_, rfl, by decide, rfl⟩
  | 1, _ => exact ⟨_, rfl, by decide, rfl⟩
  | 2, _ => exact ⟨_, rfl, by decide, rfl⟩
  | 3, _ => exact ⟨_, rfl, by decide, rfl⟩
  | 4, _ => exact ⟨_, rfl, by decide, rfl⟩
  | 5, _ => exact ⟨_, rfl, by decide, rfl⟩
theorem den_turn (n m : Nat) : ∃ l : List Nat, den_l_turn [natD n, natD m] = .ok (.lst (l.map natD)) ∧ l.Nodup ∧ ∀ i ∈ l, i < m := by
  obtain ⟨l, e, nd, hl⟩ := turn_tab (n % 6) (by omega)
  have x1 : gMod (natD n) (.int 6) = .ok (natD (n % 6)) := by simp [gMod, natD]
  have x2 : gIx (.lst [.lst [.int 0, .int 1, .int 2], .lst [.int 0, .int 2, .int 1], .lst [.int 1, .int 0, .int 2], .lst [.int 1, .int 2, .int 0], .lst [.int 2, .int 0, .int 1], .lst [.int 2, .int 1, .int 0]]) (natD (n % 6)) = .ok (.lst (l.map natD)) := by
    have h6 : n % 6 < 6 := by omega
    generalize n % 6 = t at *
    match t, h6 with
    | 0, _ => cases e; rfl
    | 1, _ => cases e; rfl
    | 2, _ => cases e; rfl
    | 3, _ => cases e; rfl
    | 4, _ => cases e; rfl
    | 5, _ => cases e; rfl
  have x3 : cInt [natD n] = .ok (natD n) := rfl
  refine ⟨l.filter fun i => decide (i < m), ?_, nd.filter _, fun i hi => by simpa using (List.mem_filter.mp hi).2⟩
  have x4 : compL (tgN 3) ct_l_turn_1 cc_l_turn_1 [.dt (natD n), .dt (natD m), .dt (.lst [.lst [.int 0, .int 1, .int 2], .lst [.int 0, .int 2, .int 1], .lst [.int 1, .int 0, .int 2], .lst [.int 1, .int 2, .int 0], .lst [.int 2, .int 0, .int 1], .lst [.int 2, .int 1, .int 0]]), .no] (l.map natD) = .ok ((l.filter fun i => decide (i < m)).map natD) := by
    rw [compL_filter (fun d => match d with | .int i => decide (i < m) | _ => false) (fun d => d)]
    · rw [List.map_id', List.filter_map]
      congr 2
      apply List.filter_congr
      intro i _
      show decide ((i : Int) < (m : Int)) = decide (i < m)
      simp
    · intro d hd
      obtain ⟨i, hi, rfl⟩ := List.mem_map.mp hd
      refine ⟨_, rfl, by simp -implicitDefEqProofs [ct_l_turn_1, runD, ev0, sSeq, sNil, sIf, sSet, sRet, sRetN, sExpr, sNew, sApp, sLst, sClear, sFor, sUnp, dTest, dTru, dOp, dVar, dC, dNil, dCons, dCall, dCallN, dAnd, dOr, dNot, dAndV, dOrV, dNotV, dIsN, dNotN, dTup, dLst, dSl, dNoP, dPart, dItL, dItT, dItR, dItR2, dItS, dItA, asSeq, dComp, dIsi, dFld, dMeth, dProp, dNeg, dLenO, dMakeS, dMakeSO, asB, asI, asL, asT, truD, SR.fin, KD.frz, wipeE, tgN, tgT, setsE, gSelf, gCls, gFld, fldD, mkS, seqOf, Rs.nox, gLt, natD], fun _ => rfl⟩
  have x5 : l.length ≤ 1000000 := by omega
  simp -implicitDefEqProofs [den_l_turn, b_l_turn, runD, ev0, sSeq, sNil, sIf, sSet, sRet, sRetN, sExpr, sNew, sApp, sLst, sClear, sFor, sUnp, dTest, dTru, dOp, dVar, dC, dNil, dCons, dCall, dCallN, dAnd, dOr, dNot, dAndV, dOrV, dNotV, dIsN, dNotN, dTup, dLst, dSl, dNoP, dPart, dItL, dItT, dItR, dItR2, dItS, dItA, asSeq, dComp, dIsi, dFld, dMeth, dProp, dNeg, dLenO, dMakeS, dMakeSO, asB, asI, asL, asT, truD, SR.fin, KD.frz, wipeE, tgN, tgT, setsE, gSelf, gCls, gFld, fldD, mkS, seqOf, Rs.nox, x1, x2, x3, x4, x5]
/-! ### names -/
def lt : List Nat := (Str.ofString "etaoinshrdlucmfwypvbgkjqxz").cps.toList
theorem lt_str : Str.ofString "etaoinshrdlucmfwypvbgkjqxz" = sO lt := sO_of _
theorem lt_len : lt.length = 26 := by decide +kernel
theorem lt_small : ∀ c ∈ lt, 97 ≤ c ∧ c ≤ 122 := by decide +kernel
theorem lt_nodup : lt.Nodup := by decide +kernel
theorem o_str : Str.ofString "o" = sO [111] := by decide +kernel
/-- the k-th letter -/
def lc (n k : Nat) : Nat := lt.getD ((n / 32 + 5 * k) % 26) 0
theorem lc_get (n k : Nat) : lt[(n / 32 + 5 * k) % 26]? = some (lc n k) := by
  have h : (n / 32 + 5 * k) % 26 < lt.length := by rw [lt_len]; omega
  unfold lc
  rw [List.getD_eq_getElem?_getD, List.getElem?_eq_getElem h]
  rfl
theorem lc_small (n k : Nat) : 97 ≤ lc n k ∧ lc n k ≤ 122 := lt_small _ (List.mem_of_getElem? (lc_get n k))
theorem lc_inj {n i j : Nat} (hi : i < 6) (hj : j < 6) (h : lc n i = lc n j) : i = j := by
  have a := lc_get n i
  have b := lc_get n j
  rw [h] at a
  obtain ⟨h1, e1⟩ := List.getElem?_eq_some_iff.mp a
  obtain ⟨h2, e2⟩ := List.getElem?_eq_some_iff.mp b
  have := (List.getElem_inj lt_nodup).mp (e1.trans e2.symm)
  omega
def nms (n c : Nat) : List (List Nat) := match n % 4 with
  | 0 => (List.range c).map fun k => [lc n k]
  | 1 => (List.range c).map fun k => List.replicate (n / 4 % 8) 111 ++ [lc n k] ++ List.replicate (7 - n / 4 % 8) 111
  | 2 => (List.range c).map fun k => List.replicate (k + 1) (lc n 0)
  | _ => (List.range c).map fun k => List.replicate (c - k) (lc n 0)
theorem nms_len (n c : Nat) : (nms n c).length = c := by
  unfold nms; split <;> simp
theorem nms_ok {n c : Nat} (hc : c ≤ 6) : ∀ l ∈ nms n c, nameOk l := by
  intro l hl
  have rep : ∀ {m k : Nat}, 1 ≤ m → m ≤ 8 → nameOk (List.replicate m (lc n k)) := fun {m k} h1 h2 => ⟨by simpa using h1, by simpa using h2, fun c hc => by rw [(List.mem_replicate.mp hc).2]; exact lc_small n k⟩
  unfold nms at hl
  split at hl
  · obtain ⟨k, hk, rfl⟩ := List.mem_map.mp hl
    exact ⟨by simp, by simp, fun c hc => by simp at hc; subst hc; exact lc_small n k⟩
  · obtain ⟨k, hk, rfl⟩ := List.mem_map.mp hl
    refine ⟨by simp; omega, by simp; omega, fun c hc => ?_⟩
    rcases List.mem_append.mp hc with hc | hc
    · rcases List.mem_append.mp hc with hc | hc
      · rw [(List.mem_replicate.mp hc).2]; decide
      · simp at hc; subst hc; exact lc_small n k
    · rw [(List.mem_replicate.mp hc).2]; decide
  · obtain ⟨k, hk, rfl⟩ := List.mem_map.mp hl
    have := List.mem_range.mp hk
    exact rep (by omega) (by omega)
  · obtain ⟨k, hk, rfl⟩ := List.mem_map.mp hl
    have := List.mem_range.mp hk
    exact rep (by omega) (by omega)
theorem nodup_map_range {β : Type} {f : Nat → β} {c : Nat} (h : ∀ i j, i < c → j < c → f i = f j → i = j) : ((List.range c).map f).Nodup := by
  rw [List.Nodup, List.pairwise_map]
  exact List.Pairwise.imp_of_mem (fun {a b} ha hb hab e => by
    have := h a b (List.mem_range.mp ha) (List.mem_range.mp hb) e
    omega) List.pairwise_lt_range
theorem nms_nodup {n c : Nat} (hc : c ≤ 6) : (nms n c).Nodup := by
  unfold nms
  split
  · exact nodup_map_range fun i j hi hj e => lc_inj (by omega) (by omega) (by simpa using e)
  · refine nodup_map_range fun i j hi hj e => lc_inj (n := n) (by omega) (by omega) ?_
    rw [List.append_assoc, List.append_assoc] at e
    have := List.append_cancel_left e
    simp at this
    exact this
  · refine nodup_map_range fun i j hi hj e => ?_
    have := congrArg List.length e
    simp at this
    exact this
  · refine nodup_map_range fun i j hi hj e => ?_
    have := congrArg List.length e
    simp at this
    omega
theorem den_names (n c : Nat) (hc : c ≤ 6) (h1 : 1 ≤ c) : den_l_names [natD n, natD c] = .ok (.lst ((nms n c).map nmD)) := by
  have a1 : (-1000000000 < (c : Int)) ∧ (c : Int) < 1000000000 := by omega
  have a2 : (c : Int).toNat = c := by omega
  have a3 : c ≤ 1000000 := by omega
  have v1 : (n : Int) / 4 % 8 = ((n / 4 % 8 : Nat) : Int) := by omega
  have cint : ∀ k : Nat, cInt [natD k] = .ok (natD k) := fun _ => rfl
  have g4 : gDiv (natD n) (.int 4) = .ok (natD (n / 4)) := by simp [gDiv, natD]
  have g8 : gMod (natD (n / 4)) (.int 8) = .ok (natD (n / 4 % 8)) := by simp [gMod, natD]
  have m4 : gMod (natD n) (.int 4) = .ok (natD (n % 4)) := by simp [gMod, natD]
  -- the letters
  have e1 : ∀ ρ : Ev, ρ = [.dt (natD n), .dt (natD c), .dt (.str "etaoinshrdlucmfwypvbgkjqxz"), .dt (natD (n / 4 % 8)), .no, .no, .no, .no, .no, .no] → compL (tgN 8) (fun _ => .ok true) cc_l_names_1 ρ (rngD 0 c) = .ok ((List.range c).map fun k => nmD [lc n k]) := by
    rintro _ rfl
    rw [compL_map (fun d => match d with | .int k => nmD [lc n k.toNat] | _ => .non), map_rng]
    · rfl
    · intro d hd
      obtain ⟨k, hk, rfl⟩ := mem_rng0 hd
      have x1 : gDiv (natD n) (.int 32) = .ok (natD (n / 32)) := by simp [gDiv, natD]
      have x2 : gMul (.int 5) (.int (k : Int)) = .ok (natD (5 * k)) := by simp [gMul, mul_5, natD]
      have x3 : gAdd (natD (n / 32)) (natD (5 * k)) = .ok (natD (n / 32 + 5 * k)) := by simp [gAdd, natD]
      have x4 : gMod (natD (n / 32 + 5 * k)) (.int 26) = .ok (natD ((n / 32 + 5 * k) % 26)) := by simp [gMod, natD]
      have x5 : gIx (.str "etaoinshrdlucmfwypvbgkjqxz") (natD ((n / 32 + 5 * k) % 26)) = .ok (nmD [lc n k]) := by
        rw [lt_str]
        have h26 : (n / 32 + 5 * k) % 26 < lt.length := by rw [lt_len]; omega
        show gIx (.str (sO lt)) (.int (((n / 32 + 5 * k) % 26 : Nat) : Int)) = _
        rw [gIx_sO _ _ (by rw [lt_len]; omega) (by omega) (by omega)]
        have e := lc_get n k
        rw [List.getElem?_eq_getElem h26] at e
        simp only [Int.toNat_natCast]
        rw [Option.some.inj e]
        rfl
      refine ⟨_, rfl, rfl, by simp -implicitDefEqProofs [cc_l_names_1, runD, ev0, sSeq, sNil, sIf, sSet, sRet, sRetN, sExpr, sNew, sApp, sLst, sClear, sFor, sUnp, dTest, dTru, dOp, dVar, dC, dNil, dCons, dCall, dCallN, dAnd, dOr, dNot, dAndV, dOrV, dNotV, dIsN, dNotN, dTup, dLst, dSl, dNoP, dPart, dItL, dItT, dItR, dItR2, dItS, dItA, asSeq, dComp, dIsi, dFld, dMeth, dProp, dNeg, dLenO, dMakeS, dMakeSO, asB, asI, asL, asT, truD, SR.fin, KD.frz, wipeE, tgN, tgT, setsE, gSelf, gCls, gFld, fldD, mkS, seqOf, Rs.nox, x1, x2, x3, cint, x4, x5]⟩
  have d1 := e1 _ rfl
  generalize hL : (List.range c).map (fun k => nmD [lc n k]) = L at d1
  have lL : L.length = c := by rw [← hL]; simp
  -- alike
  have x7 : n / 4 % 8 ≤ 7 := by omega
  have d2 : compL (tgN 9) (fun _ => .ok true) cc_l_names_2 [.dt (natD n), .dt (natD c), .dt (.str "etaoinshrdlucmfwypvbgkjqxz"), .dt (natD (n / 4 % 8)), .dt (.lst L), .no, .no, .no, .no, .no] L = .ok ((List.range c).map fun k => nmD (List.replicate (n / 4 % 8) 111 ++ [lc n k] ++ List.replicate (7 - n / 4 % 8) 111)) := by
    rw [compL_map (fun d => match d with | .str z => nmD (List.replicate (n / 4 % 8) 111 ++ z.cps.toList ++ List.replicate (7 - n / 4 % 8) 111) | _ => .non)]
    · rw [← hL, List.map_map]
      rfl
    · intro d hd
      rw [← hL] at hd
      obtain ⟨k, hk, rfl⟩ := List.mem_map.mp hd
      have y1 : gMul (.str "o") (natD (n / 4 % 8)) = .ok (nmD (List.replicate (n / 4 % 8) 111)) := by
        rw [o_str]
        show gMul (.str (sO [111])) (.int ((n / 4 % 8 : Nat) : Int)) = _
        rw [gMul_sO _ _ (by omega) (by omega) (by simp), flat1]; rfl
      have y2 : gAdd (nmD (List.replicate (n / 4 % 8) 111)) (nmD [lc n k]) = .ok (nmD (List.replicate (n / 4 % 8) 111 ++ [lc n k])) := gAdd_sO _ _ (by simp; omega)
      have y3 : gSub (.int 7) (natD (n / 4 % 8)) = .ok (natD (7 - n / 4 % 8)) := by simp [KD.gSub, natD]; omega
      have y4 : gMul (.str "o") (natD (7 - n / 4 % 8)) = .ok (nmD (List.replicate (7 - n / 4 % 8) 111)) := by
        rw [o_str]
        show gMul (.str (sO [111])) (.int ((7 - n / 4 % 8 : Nat) : Int)) = _
        rw [gMul_sO _ _ (by omega) (by omega) (by simp), flat1]; rfl
      have y5 : gAdd (nmD (List.replicate (n / 4 % 8) 111 ++ [lc n k])) (nmD (List.replicate (7 - n / 4 % 8) 111)) = .ok (nmD (List.replicate (n / 4 % 8) 111 ++ [lc n k] ++ List.replicate (7 - n / 4 % 8) 111)) := gAdd_sO _ _ (by simp; omega)
      refine ⟨_, rfl, rfl, by simp -implicitDefEqProofs [cc_l_names_2, runD, ev0, sSeq, sNil, sIf, sSet, sRet, sRetN, sExpr, sNew, sApp, sLst, sClear, sFor, sUnp, dTest, dTru, dOp, dVar, dC, dNil, dCons, dCall, dCallN, dAnd, dOr, dNot, dAndV, dOrV, dNotV, dIsN, dNotN, dTup, dLst, dSl, dNoP, dPart, dItL, dItT, dItR, dItR2, dItS, dItA, asSeq, dComp, dIsi, dFld, dMeth, dProp, dNeg, dLenO, dMakeS, dMakeSO, asB, asI, asL, asT, truD, SR.fin, KD.frz, wipeE, tgN, tgT, setsE, gSelf, gCls, gFld, fldD, mkS, seqOf, Rs.nox, y1, y2, y3, y4, y5]; rfl⟩
  generalize hL2 : (List.range c).map (fun k => nmD (List.replicate (n / 4 % 8) 111 ++ [lc n k] ++ List.replicate (7 - n / 4 % 8) 111)) = L2 at d2
  have first : gIx (.lst L) (.int 0) = .ok (nmD [lc n 0]) := by
    have h0 : L[0]? = some (nmD [lc n 0]) := by
      rw [← hL, List.getElem?_map, List.getElem?_range (by omega)]; rfl
    have := atI_nat h0
    unfold gIx atD
    dsimp only
    rw [show (0 : Int) = ((0 : Nat) : Int) from rfl, this]
  have d3 : compL (tgN 8) (fun _ => .ok true) cc_l_names_3 [.dt (natD n), .dt (natD c), .dt (.str "etaoinshrdlucmfwypvbgkjqxz"), .dt (natD (n / 4 % 8)), .dt (.lst L), .dt (.lst L2), .no, .no, .no, .no] (rngD 0 c) = .ok ((List.range c).map fun k => nmD (List.replicate (k + 1) (lc n 0))) := by
    rw [compL_map (fun d => match d with | .int k => nmD (List.replicate (k.toNat + 1) (lc n 0)) | _ => .non), map_rng]
    · rfl
    · intro d hd
      obtain ⟨k, hk, rfl⟩ := mem_rng0 hd
      have y1 : gAdd (.int (k : Int)) (.int 1) = .ok (natD (k + 1)) := by simp [gAdd, natD]
      have y2 : gMul (nmD [lc n 0]) (natD (k + 1)) = .ok (nmD (List.replicate (k + 1) (lc n 0))) := by
        show gMul (.str (sO [lc n 0])) (.int ((k + 1 : Nat) : Int)) = _
        rw [gMul_sO _ _ (by omega) (by omega) (by simp), flat1]; rfl
      refine ⟨_, rfl, rfl, by simp -implicitDefEqProofs [cc_l_names_3, runD, ev0, sSeq, sNil, sIf, sSet, sRet, sRetN, sExpr, sNew, sApp, sLst, sClear, sFor, sUnp, dTest, dTru, dOp, dVar, dC, dNil, dCons, dCall, dCallN, dAnd, dOr, dNot, dAndV, dOrV, dNotV, dIsN, dNotN, dTup, dLst, dSl, dNoP, dPart, dItL, dItT, dItR, dItR2, dItS, dItA, asSeq, dComp, dIsi, dFld, dMeth, dProp, dNeg, dLenO, dMakeS, dMakeSO, asB, asI, asL, asT, truD, SR.fin, KD.frz, wipeE, tgN, tgT, setsE, gSelf, gCls, gFld, fldD, mkS, seqOf, Rs.nox, first, y1, y2]⟩
  generalize hL3 : (List.range c).map (fun k => nmD (List.replicate (k + 1) (lc n 0))) = L3 at d3
  have d4 : compL (tgN 8) (fun _ => .ok true) cc_l_names_4 [.dt (natD n), .dt (natD c), .dt (.str "etaoinshrdlucmfwypvbgkjqxz"), .dt (natD (n / 4 % 8)), .dt (.lst L), .dt (.lst L2), .dt (.lst L3), .no, .no, .no] (rngD 0 c) = .ok ((List.range c).map fun k => nmD (List.replicate (c - k) (lc n 0))) := by
    rw [compL_map (fun d => match d with | .int k => nmD (List.replicate (c - k.toNat) (lc n 0)) | _ => .non), map_rng]
    · rfl
    · intro d hd
      obtain ⟨k, hk, rfl⟩ := mem_rng0 hd
      have y1 : gSub (natD c) (.int (k : Int)) = .ok (natD (c - k)) := by simp [KD.gSub, natD]; omega
      have y2 : gMul (nmD [lc n 0]) (natD (c - k)) = .ok (nmD (List.replicate (c - k) (lc n 0))) := by
        show gMul (.str (sO [lc n 0])) (.int ((c - k : Nat) : Int)) = _
        rw [gMul_sO _ _ (by omega) (by omega) (by simp), flat1]; rfl
      refine ⟨_, rfl, rfl, by simp -implicitDefEqProofs [cc_l_names_4, runD, ev0, sSeq, sNil, sIf, sSet, sRet, sRetN, sExpr, sNew, sApp, sLst, sClear, sFor, sUnp, dTest, dTru, dOp, dVar, dC, dNil, dCons, dCall, dCallN, dAnd, dOr, dNot, dAndV, dOrV, dNotV, dIsN, dNotN, dTup, dLst, dSl, dNoP, dPart, dItL, dItT, dItR, dItR2, dItS, dItA, asSeq, dComp, dIsi, dFld, dMeth, dProp, dNeg, dLenO, dMakeS, dMakeSO, asB, asI, asL, asT, truD, SR.fin, KD.frz, wipeE, tgN, tgT, setsE, gSelf, gCls, gFld, fldD, mkS, seqOf, Rs.nox, first, y1, y2]⟩
  generalize hL4 : (List.range c).map (fun k => nmD (List.replicate (c - k) (lc n 0))) = L4 at d4
  have last : gIx (.lst [.lst L, .lst L2, .lst L3, .lst L4]) (natD (n % 4)) = .ok (.lst ((nms n c).map nmD)) := by
    unfold nms
    have h4 : n % 4 < 4 := by omega
    generalize n % 4 = t at *
    match t, h4 with
    | 0, _ => simp only [List.map_map]; rw [← hL]; rfl
    | 1, _ => simp only [List.map_map]; rw [← hL2]; rfl
    | 2, _ => simp only [List.map_map]; rw [← hL3]; rfl
    | 3, _ => simp only [List.map_map]; rw [← hL4]; rfl
  have rn : asRng (natD c) = .ok (rngD 0 c) := asRng_nat c (by omega)
  have lr : (rngD 0 c).length ≤ 1000000 := by rw [rngD_length]; exact a3
  have lL' : L.length ≤ 1000000 := by omega
  show SR.fin (b_l_names [.dt (natD n), .dt (natD c), .no, .no, .no, .no, .no, .no, .no, .no]) = _
  unfold b_l_names
  rw [seq_set (d := .str "etaoinshrdlucmfwypvbgkjqxz") rfl]
  simp only [List.set_cons_zero, List.set_cons_succ]
  rw [seq_set (d := natD (n / 4 % 8)) (by simp -implicitDefEqProofs [runD, ev0, sSeq, sNil, sIf, sSet, sRet, sRetN, sExpr, sNew, sApp, sLst, sClear, sFor, sUnp, dTest, dTru, dOp, dVar, dC, dNil, dCons, dCall, dCallN, dAnd, dOr, dNot, dAndV, dOrV, dNotV, dIsN, dNotN, dTup, dLst, dSl, dNoP, dPart, dItL, dItT, dItR, dItR2, dItS, dItA, asSeq, dComp, dIsi, dFld, dMeth, dProp, dNeg, dLenO, dMakeS, dMakeSO, asB, asI, asL, asT, truD, SR.fin, KD.frz, wipeE, tgN, tgT, setsE, gSelf, gCls, gFld, fldD, mkS, seqOf, Rs.nox, cint, g4, g8])]
  simp only [List.set_cons_zero, List.set_cons_succ]
  rw [seq_set (d := .lst L) (by simp -implicitDefEqProofs [runD, ev0, sSeq, sNil, sIf, sSet, sRet, sRetN, sExpr, sNew, sApp, sLst, sClear, sFor, sUnp, dTest, dTru, dOp, dVar, dC, dNil, dCons, dCall, dCallN, dAnd, dOr, dNot, dAndV, dOrV, dNotV, dIsN, dNotN, dTup, dLst, dSl, dNoP, dPart, dItL, dItT, dItR, dItR2, dItS, dItA, asSeq, dComp, dIsi, dFld, dMeth, dProp, dNeg, dLenO, dMakeS, dMakeSO, asB, asI, asL, asT, truD, SR.fin, KD.frz, wipeE, tgN, tgT, setsE, gSelf, gCls, gFld, fldD, mkS, seqOf, Rs.nox, rn, lr, d1])]
  simp only [List.set_cons_zero, List.set_cons_succ]
  rw [seq_set (d := .lst L2) (by simp -implicitDefEqProofs [runD, ev0, sSeq, sNil, sIf, sSet, sRet, sRetN, sExpr, sNew, sApp, sLst, sClear, sFor, sUnp, dTest, dTru, dOp, dVar, dC, dNil, dCons, dCall, dCallN, dAnd, dOr, dNot, dAndV, dOrV, dNotV, dIsN, dNotN, dTup, dLst, dSl, dNoP, dPart, dItL, dItT, dItR, dItR2, dItS, dItA, asSeq, dComp, dIsi, dFld, dMeth, dProp, dNeg, dLenO, dMakeS, dMakeSO, asB, asI, asL, asT, truD, SR.fin, KD.frz, wipeE, tgN, tgT, setsE, gSelf, gCls, gFld, fldD, mkS, seqOf, Rs.nox, lL', d2])]
  simp only [List.set_cons_zero, List.set_cons_succ]
  rw [seq_set (d := .lst L3) (by simp -implicitDefEqProofs [runD, ev0, sSeq, sNil, sIf, sSet, sRet, sRetN, sExpr, sNew, sApp, sLst, sClear, sFor, sUnp, dTest, dTru, dOp, dVar, dC, dNil, dCons, dCall, dCallN, dAnd, dOr, dNot, dAndV, dOrV, dNotV, dIsN, dNotN, dTup, dLst, dSl, dNoP, dPart, dItL, dItT, dItR, dItR2, dItS, dItA, asSeq, dComp, dIsi, dFld, dMeth, dProp, dNeg, dLenO, dMakeS, dMakeSO, asB, asI, asL, asT, truD, SR.fin, KD.frz, wipeE, tgN, tgT, setsE, gSelf, gCls, gFld, fldD, mkS, seqOf, Rs.nox, rn, lr, d3])]
  simp only [List.set_cons_zero, List.set_cons_succ]
  rw [seq_set (d := .lst L4) (by simp -implicitDefEqProofs [runD, ev0, sSeq, sNil, sIf, sSet, sRet, sRetN, sExpr, sNew, sApp, sLst, sClear, sFor, sUnp, dTest, dTru, dOp, dVar, dC, dNil, dCons, dCall, dCallN, dAnd, dOr, dNot, dAndV, dOrV, dNotV, dIsN, dNotN, dTup, dLst, dSl, dNoP, dPart, dItL, dItT, dItR, dItR2, dItS, dItA, asSeq, dComp, dIsi, dFld, dMeth, dProp, dNeg, dLenO, dMakeS, dMakeSO, asB, asI, asL, asT, truD, SR.fin, KD.frz, wipeE, tgN, tgT, setsE, gSelf, gCls, gFld, fldD, mkS, seqOf, Rs.nox, rn, lr, d4])]
  simp only [List.set_cons_zero, List.set_cons_succ]
  rw [ret_ok (by simp -implicitDefEqProofs [runD, ev0, sSeq, sNil, sIf, sSet, sRet, sRetN, sExpr, sNew, sApp, sLst, sClear, sFor, sUnp, dTest, dTru, dOp, dVar, dC, dNil, dCons, dCall, dCallN, dAnd, dOr, dNot, dAndV, dOrV, dNotV, dIsN, dNotN, dTup, dLst, dSl, dNoP, dPart, dItL, dItT, dItR, dItR2, dItS, dItA, asSeq, dComp, dIsi, dFld, dMeth, dProp, dNeg, dLenO, dMakeS, dMakeSO, asB, asI, asL, asT, truD, SR.fin, KD.frz, wipeE, tgN, tgT, setsE, gSelf, gCls, gFld, fldD, mkS, seqOf, Rs.nox, cint, m4, last]; rfl)]
  rfl
/-! ### the drawn numbers -/
theorem den_cell (ns : List Int) (k : Nat) : den_l_cell [.fls (ns.map D.int), .int k] = .ok (.int (if h : k < ns.length then ns[k] else 0)) := by
  have at_map (h : k < ns.length) : atI (ns.map D.int) (k : Int) = some (.int ns[k]) := by
    apply atI_nat
    simp [h]
  by_cases h : k < ns.length
  · simp -implicitDefEqProofs [den_l_cell, b_l_cell, runD, ev0, sSeq, sNil, sIf, sSet, sRet, sRetN, sExpr, sNew, sApp, sLst, sClear, sFor, sUnp, dTest, dTru, dOp, dVar, dC, dNil, dCons, dCall, dCallN, dAnd, dOr, dNot, dAndV, dOrV, dNotV, dIsN, dNotN, dTup, dLst, dSl, dNoP, dPart, dItL, dItT, dItR, dItR2, dItS, dItA, asSeq, dComp, dIsi, dFld, dMeth, dProp, dNeg, dLenO, dMakeS, dMakeSO, asB, asI, asL, asT, truD, SR.fin, KD.frz, wipeE, tgN, tgT, setsE, gSelf, gCls, gFld, fldD, mkS, seqOf, Rs.nox, gAdd, KD.gSub, gMul, gDiv, gMod, pow_18, mul_48271, mul_7919, mul_69621, mul_5, gLt, gLe, gGt, gGe, gIx, atD, cLen, cInt, cTuple, cList, gSl, gNeg, h, at_map h]
  · simp -implicitDefEqProofs [den_l_cell, b_l_cell, runD, ev0, sSeq, sNil, sIf, sSet, sRet, sRetN, sExpr, sNew, sApp, sLst, sClear, sFor, sUnp, dTest, dTru, dOp, dVar, dC, dNil, dCons, dCall, dCallN, dAnd, dOr, dNot, dAndV, dOrV, dNotV, dIsN, dNotN, dTup, dLst, dSl, dNoP, dPart, dItL, dItT, dItR, dItR2, dItS, dItA, asSeq, dComp, dIsi, dFld, dMeth, dProp, dNeg, dLenO, dMakeS, dMakeSO, asB, asI, asL, asT, truD, SR.fin, KD.frz, wipeE, tgN, tgT, setsE, gSelf, gCls, gFld, fldD, mkS, seqOf, Rs.nox, gAdd, KD.gSub, gMul, gDiv, gMod, pow_18, mul_48271, mul_7919, mul_69621, mul_5, gLt, gLe, gGt, gGe, gIx, atD, cLen, cInt, cTuple, cList, gSl, gNeg, h]
theorem num_loop (ns : List Int) (k c cell st rest : Int) (m : Nat) (hc : m ≤ 1000) : ∃ ρ', forL (tgN 7) [7] lb_l_numbers_1 (rngD 0 m) [.dt (.fls (ns.map D.int)), .dt (.int k), .dt (.int c), .dt (.int cell), .dt (.int st), .dt (.int rest), .ol [], .no] = .nx ρ' ∧
      ∃ (nums : List Nat) (st' rest' : Int), ρ' = [.dt (.fls (ns.map D.int)), .dt (.int k), .dt (.int c), .dt (.int cell), .dt (.int st'), .dt (.int rest'), .ol (nums.map natD), .no] ∧ nums.length = 0 + (rngD 0 m).length := by
  refine forL_ind (fun i ρ => ∃ (nums : List Nat) (st' rest' : Int), ρ = [.dt (.fls (ns.map D.int)), .dt (.int k), .dt (.int c), .dt (.int cell), .dt (.int st'), .dt (.int rest'), .ol (nums.map natD), .no] ∧ nums.length = i) (rngD 0 m) _ 0 ⟨[], st, rest, rfl, rfl⟩ ?_
  rintro j d ρ hd ⟨nums, st', rest', rfl, hl⟩
  have hj : j < m := by have := (List.getElem?_eq_some_iff.mp hd).1; rwa [rngD_length] at this
  have hlen : nums.length < 1000000 := by omega
  have cst : ∀ z : Int, (natD (z % 5040).toNat) = .int (z % 5040) := fun z => by
    show D.int ((z % 5040).toNat : Int) = _
    congr 1
    have := Int.emod_nonneg z (show (5040 : Int) ≠ 0 by decide)
    omega
  by_cases hr : 0 < rest'
  · refine ⟨_, _, rfl, .inl (by simp -implicitDefEqProofs [lb_l_numbers_1, runD, ev0, sSeq, sNil, sIf, sSet, sRet, sRetN, sExpr, sNew, sApp, sLst, sClear, sFor, sUnp, dTest, dTru, dOp, dVar, dC, dNil, dCons, dCall, dCallN, dAnd, dOr, dNot, dAndV, dOrV, dNotV, dIsN, dNotN, dTup, dLst, dSl, dNoP, dPart, dItL, dItT, dItR, dItR2, dItS, dItA, asSeq, dComp, dIsi, dFld, dMeth, dProp, dNeg, dLenO, dMakeS, dMakeSO, asB, asI, asL, asT, truD, SR.fin, KD.frz, wipeE, tgN, tgT, setsE, gSelf, gCls, gFld, fldD, mkS, seqOf, Rs.nox, gAdd, KD.gSub, gMul, gDiv, gMod, pow_18, mul_48271, mul_7919, mul_69621, mul_5, gLt, gLe, gGt, gGe, gIx, atD, cLen, cInt, cTuple, cList, gSl, gNeg, hr, hlen]; rfl), nums ++ [(rest' % 5040).toNat], _, _, by simp [wipeE, cst]; exact ⟨rfl, rfl⟩, by simp [hl]⟩
  · refine ⟨_, _, rfl, .inl (by simp -implicitDefEqProofs [lb_l_numbers_1, runD, ev0, sSeq, sNil, sIf, sSet, sRet, sRetN, sExpr, sNew, sApp, sLst, sClear, sFor, sUnp, dTest, dTru, dOp, dVar, dC, dNil, dCons, dCall, dCallN, dAnd, dOr, dNot, dAndV, dOrV, dNotV, dIsN, dNotN, dTup, dLst, dSl, dNoP, dPart, dItL, dItT, dItR, dItR2, dItS, dItA, asSeq, dComp, dIsi, dFld, dMeth, dProp, dNeg, dLenO, dMakeS, dMakeSO, asB, asI, asL, asT, truD, SR.fin, KD.frz, wipeE, tgN, tgT, setsE, gSelf, gCls, gFld, fldD, mkS, seqOf, Rs.nox, gAdd, KD.gSub, gMul, gDiv, gMod, pow_18, mul_48271, mul_7919, mul_69621, mul_5, gLt, gLe, gGt, gGe, gIx, atD, cLen, cInt, cTuple, cList, gSl, gNeg, hr, hlen]; rfl), nums ++ [((_ : Int) % 5040).toNat], _, _, by simp [wipeE, cst]; exact ⟨rfl, rfl, rfl⟩, by simp [hl]⟩
theorem den_numbers (ns : List Int) (k : Nat) (c : Nat) (hc : c ≤ 1000) : ∃ nums : List Nat, den_l_numbers [.fls (ns.map D.int), natD k, natD c] = .ok (.lst (nums.map natD)) ∧ nums.length = c := by
  have hcell := den_cell ns k
  generalize (if h : k < ns.length then ns[k] else 0) = cell at hcell
  have rn : asRng (.int (c : Int)) = .ok (rngD 0 c) := asRng_nat c (by omega)
  by_cases hr : 1000000000000000000 ≤ cell
  · obtain ⟨ρ', e, nums, st', rest', rfl, hl⟩ := num_loop ns k c cell ((cell * 48271 + k * 7919 + 12345) % 2147483647) cell c hc
    rw [rngD_length] at hl
    refine ⟨nums, ?_, by omega⟩
    simp -implicitDefEqProofs [den_l_numbers, b_l_numbers, natD, runD, ev0, sSeq, sNil, sIf, sSet, sRet, sRetN, sExpr, sNew, sApp, sLst, sClear, sFor, sUnp, dTest, dTru, dOp, dVar, dC, dNil, dCons, dCall, dCallN, dAnd, dOr, dNot, dAndV, dOrV, dNotV, dIsN, dNotN, dTup, dLst, dSl, dNoP, dPart, dItL, dItT, dItR, dItR2, dItS, dItA, asSeq, dComp, dIsi, dFld, dMeth, dProp, dNeg, dLenO, dMakeS, dMakeSO, asB, asI, asL, asT, truD, SR.fin, KD.frz, wipeE, tgN, tgT, setsE, gSelf, gCls, gFld, fldD, mkS, seqOf, Rs.nox, gAdd, KD.gSub, gMul, gDiv, gMod, pow_18, mul_48271, mul_7919, mul_69621, mul_5, gLt, gLe, gGt, gGe, gIx, atD, cLen, cInt, cTuple, cList, gSl, gNeg, hcell, hr, rn, e]
  · obtain ⟨ρ', e, nums, st', rest', rfl, hl⟩ := num_loop ns k c cell ((cell * 48271 + k * 7919 + 12345) % 2147483647) 0 c hc
    rw [rngD_length] at hl
    refine ⟨nums, ?_, by omega⟩
    simp -implicitDefEqProofs [den_l_numbers, b_l_numbers, natD, runD, ev0, sSeq, sNil, sIf, sSet, sRet, sRetN, sExpr, sNew, sApp, sLst, sClear, sFor, sUnp, dTest, dTru, dOp, dVar, dC, dNil, dCons, dCall, dCallN, dAnd, dOr, dNot, dAndV, dOrV, dNotV, dIsN, dNotN, dTup, dLst, dSl, dNoP, dPart, dItL, dItT, dItR, dItR2, dItS, dItA, asSeq, dComp, dIsi, dFld, dMeth, dProp, dNeg, dLenO, dMakeS, dMakeSO, asB, asI, asL, asT, truD, SR.fin, KD.frz, wipeE, tgN, tgT, setsE, gSelf, gCls, gFld, fldD, mkS, seqOf, Rs.nox, gAdd, KD.gSub, gMul, gDiv, gMod, pow_18, mul_48271, mul_7919, mul_69621, mul_5, gLt, gLe, gGt, gGe, gIx, atD, cLen, cInt, cTuple, cList, gSl, gNeg, hcell, hr, rn, e]
/-! ### the drawn rows -/
theorem ix_nat {α : Type} (f : α → D) {xs : List α} {k : Nat} (h : k < xs.length) : gIx (.lst (xs.map f)) (natD k) = .ok (f xs[k]) := by
  unfold gIx atD natD
  dsimp only
  rw [atI_cast (by simpa using h)]
  simp
end KL

namespace KL
open PySem L2 KD
theorem rng_at {a k : Nat} {d : D} (h : ((List.range a).map natD)[k]? = some d) : k < a ∧ d = natD k := by
  rw [List.getElem?_map] at h
  by_cases hk : k < a
  · rw [List.getElem?_range hk] at h; cases h; exact ⟨hk, rfl⟩
  · rw [List.getElem?_eq_none (by simpa using hk)] at h; cases h
theorem rng_mem {a : Nat} {d : D} (h : d ∈ (List.range a).map natD) : ∃ k, k < a ∧ d = natD k := by
  obtain ⟨k, hk, rfl⟩ := List.mem_map.mp h
  exact ⟨k, by simpa using hk, rfl⟩
theorem at_lt {α : Type} {xs : List α} {k : Nat} (h : k < xs.length) : ∃ z, xs[k]? = some z ∧ z ∈ xs := ⟨xs[k], List.getElem?_eq_getElem h, List.getElem_mem h⟩
/-! ### rows -/
theorem ok_turn (n m : Nat) : Ok (den_l_turn [natD n, natD m]) fun d => ∃ l : List Nat, d = .lst (l.map natD) ∧ l.Nodup ∧ ∀ i ∈ l, i < m := by
  obtain ⟨l, e, h1, h2⟩ := den_turn n m
  exact Ok.of e ⟨l, rfl, h1, h2⟩
theorem tab7 (j : Nat) (h : j < 7) : ∃ p : Nat, p ≤ 3 ∧ ([natD 0, natD 1, natD 2, natD 2, natD 1, natD 0, natD 3] : List D)[j]? = some (natD p) := by
  match j, h with
  | 0, _ => exact ⟨0, by decide, rfl⟩
  | 1, _ => exact ⟨1, by decide, rfl⟩
  | 2, _ => exact ⟨2, by decide, rfl⟩
  | 3, _ => exact ⟨2, by decide, rfl⟩
  | 4, _ => exact ⟨1, by decide, rfl⟩
  | 5, _ => exact ⟨0, by decide, rfl⟩
  | 6, _ => exact ⟨3, by decide, rfl⟩
theorem ok_symbols (nums : List Nat) (h : 7 ≤ nums.length) : Ok (den_l_symbols [.lst (nums.map natD)]) fun d => ∃ ss : List Sym, d = .lst (ss.map Sym.d) ∧ SigOk ss ∧ 2 ≤ ss.length ∧ ss.length ≤ 5 ∧ ∃ s, ss[0]? = some s ∧ s.pl = 0 := by
  refine ok_run ?_
  unfold b_l_symbols
  array_mem_dec
  refine wp_seq (wp_set ?_)
  array_get_dec
  rw [nIxM]
  obtain ⟨n0, e0, _⟩ := at_lt (xs := nums) (k := 0) (by omega)
  refine ⟨n0, e0, ?_⟩
  array_get_dec
  generalize hc : 2 + n0 % 4 = c
  have hc1 : 2 ≤ c := by omega
  have hc2 : c ≤ 5 := by omega
  refine wp_seq (wp_set ?_)
  array_get_dec
  rw [nIxM]
  obtain ⟨n1, e1, _⟩ := at_lt (xs := nums) (k := 1) (by omega)
  refine ⟨n1, e1, ?_⟩
  array_get_dec
  rw [den_names n1 c (by omega) (by omega), ok_ok]
  refine wp_seq (wp_new ?_)
  array_mem_dec
  refine wp_seq (wp_for (fun i ρ => ∃ ss : List Sym, ρ = [.dt (.lst (nums.map natD)), .dt (natD c), .dt (.lst ((nms n1 c).map nmD)), .ol (ss.map Sym.d), .no, .no, .no, .no, .no] ∧ ss.length = i ∧ (∀ s ∈ ss, s.ok) ∧ ss.map (·.nm) = (nms n1 c).take ss.length ∧ ∀ s, ss[0]? = some s → s.pl = 0) ?_)
  array_get_dec
  refine ⟨by omega, ⟨[], rfl, rfl, by simp, rfl, by simp⟩, ?_, ?_⟩
  · rintro k d ρ hd ⟨ss, rfl, hl, hs, hnm, h0⟩
    obtain ⟨hk, rfl⟩ := rng_at hd
    refine ⟨_, rfl, ?_⟩
    unfold lb_l_symbols_1
    array_mem_dec
    refine wp_seq (wp_set ?_)
    array_get_dec
    rw [nIxM]
    obtain ⟨m, em, _⟩ := at_lt (xs := nums) (k := 2 + k) (by omega)
    refine ⟨m, em, ?_⟩
    array_get_dec
    refine wp_seq (wp_set ?_)
    array_get_dec
    rw [nIxL]
    obtain ⟨p, hp, ep⟩ := tab7 (m % 7) (by omega)
    refine ⟨_, ep, ?_⟩
    array_get_dec
    refine wp_seq (wp_set ?_)
    array_get_dec
    refine wp_cut (fun ρ => ∃ (p' : Nat) (dn : Bool), ρ = [.dt (.lst (nums.map natD)), .dt (natD c), .dt (.lst ((nms n1 c).map nmD)), .ol (ss.map Sym.d), .dt (natD k), .dt (natD m), .dt (natD p'), .dt (.bl dn), .no] ∧ p' ≤ 3 ∧ (k = 0 → p' = 0)) (wp_if ?_) ?_
    · array_get_dec
      refine ⟨fun z => wp_seq (wp_set ?_), fun z => wp_nil ⟨p, _, rfl, hp, fun q => by simp [q] at z⟩⟩
      array_get_dec
      refine wp_set ?_
      array_get_dec
      exact ⟨0, _, rfl, by omega, fun _ => rfl⟩
    rintro ρ ⟨p', dn, rfl, hp', hz⟩
    refine wp_seq (wp_set ?_)
    array_get_dec
    refine (ok_turn _ _).imp ?_
    rintro _ ⟨l, rfl, nd, hlt⟩
    array_get_dec
    refine ⟨by omega, ?_⟩
    rw [← List.map_take]
    generalize ho : l.take _ = o
    refine wp_app ?_
    array_get_dec
    rw [nIxM]
    obtain ⟨nm, en, mn⟩ := at_lt (xs := nms n1 c) (k := k) (by rw [nms_len]; exact hk)
    refine ⟨nm, en, ?_⟩
    array_get_dec
    refine ⟨by omega, ?_⟩
    array_mem_dec
    refine ⟨ss ++ [⟨nm, p', dn, o⟩], by simp [Sym.d], by simp [hl], ?_, ?_, ?_⟩
    · intro s hs'
      rcases List.mem_append.mp hs' with h | h
      · exact hs s h
      · simp at h
        subst h
        refine ⟨nms_ok (by omega) _ mn, hp', ?_, fun i hi => ?_⟩
        · show o.Nodup
          rw [← ho]; exact nd.sublist (List.take_sublist _ _)
        · have : i ∈ o := hi
          rw [← ho] at this
          exact hlt i (List.mem_of_mem_take this)
    · rw [List.map_append, hnm, List.length_append, List.length_singleton, hl, List.take_add_one, en]
      rfl
    · intro s hs'
      by_cases hk0 : k = 0
      · have : ss = [] := List.length_eq_zero_iff.mp (by omega)
        subst this
        simp at hs'
        subst hs'
        exact hz hk0
      · rw [List.getElem?_append_left (by omega)] at hs'
        exact h0 s hs'
  · rintro ρ ⟨ss, rfl, hl, hs, hnm, h0⟩
    refine wp_ret ?_
    array_get_dec
    refine ⟨ss, rfl, ⟨hs, ?_, by omega⟩, by omega, by omega, ?_⟩
    · rw [hnm]; exact (nms_nodup (by omega)).sublist (List.take_sublist _ _)
    · obtain ⟨s, e, _⟩ := at_lt (xs := ss) (k := 0) (by omega)
      exact ⟨s, e, h0 s e⟩
end KL

namespace KL
open PySem L2 KD
/-! ### pairs of kinds -/
def prD (p : List Nat × List Nat) : D := .tup [nmD p.1, nmD p.2]
def LowsOk (ks : List (List Nat)) (t : List Nat) (ps : List (List Nat × List Nat)) : Prop := ∀ p ∈ ps, ∃ j k a b : Nat, j < k ∧ t[j]? = some a ∧ t[k]? = some b ∧ ks[a]? = some p.1 ∧ ks[b]? = some p.2
theorem tab3 (q : Nat → Nat → Nat) (j : Nat) (h : j < 3) (x y z : Nat) : ∃ v : Nat, (v = x ∨ v = y ∨ v = z) ∧ ([natD x, natD y, natD z] : List D)[j]? = some (natD v) := by
  match j, h with
  | 0, _ => exact ⟨x, by simp, rfl⟩
  | 1, _ => exact ⟨y, by simp, rfl⟩
  | 2, _ => exact ⟨z, by simp, rfl⟩
theorem ok_lows (n : Nat) (ks : List (List Nat)) (hk : ks.length ≤ 3) : Ok (den_l_lows [natD n, .lst (ks.map nmD)]) fun d => ∃ (ps : List (List Nat × List Nat)) (t : List Nat), d = .lst (ps.map prD) ∧ t.Nodup ∧ LowsOk ks t ps ∧ ps.length ≤ 9 := by
  refine ok_run ?_
  unfold b_l_lows
  array_mem_dec
  refine wp_seq (wp_set ?_)
  array_get_dec
  refine (ok_turn _ _).imp ?_
  rintro _ ⟨t, rfl, nd, ht⟩
  have htl : t.length ≤ 3 := by have := nodup_lt _ t nd ht; omega
  refine wp_seq (wp_new ?_)
  array_mem_dec
  refine wp_seq (wp_for (fun i ρ => ∃ (ps : List (List Nat × List Nat)) (s4 : Sl), ρ = [.dt (natD n), .dt (.lst (ks.map nmD)), .dt (.lst (t.map natD)), .ol (ps.map prD), s4, .no] ∧ ps.length ≤ 3 * i ∧ LowsOk ks t ps) ?_)
  array_get_dec
  refine ⟨by omega, ⟨[], .no, rfl, by simp, fun p hp => by simp at hp⟩, ?_, ?_⟩
  · rintro k d ρ hd ⟨ps, s4, rfl, hpl, hps⟩
    obtain ⟨hkk, rfl⟩ := rng_at hd
    refine ⟨_, rfl, ?_⟩
    unfold lb_l_lows_2
    array_mem_dec
    refine wp_for (fun i ρ => ∃ (qs : List (List Nat × List Nat)), ρ = [.dt (natD n), .dt (.lst (ks.map nmD)), .dt (.lst (t.map natD)), .ol (qs.map prD), .dt (natD k), .no] ∧ qs.length ≤ ps.length + i ∧ LowsOk ks t qs) ?_
    array_get_dec
    refine ⟨by omega, ⟨ps, rfl, by simp, hps⟩, ?_, ?_⟩
    · rintro j d ρ hd ⟨qs, rfl, hql, hqs⟩
      obtain ⟨hjk, rfl⟩ := rng_at hd
      refine ⟨_, rfl, ?_⟩
      unfold lb_l_lows_1
      array_mem_dec
      refine wp_if ?_
      array_get_dec
      rw [subD_le (by omega), nIxL]
      obtain ⟨v, hv, ev_⟩ := tab3 (fun a _ => a) (k + j - 1) (by omega) 6 12 24
      refine ⟨_, ev_, ?_⟩
      array_get_dec
      refine ⟨by omega, fun _ => ?_, fun _ => ?_⟩
      · refine wp_app ?_
        array_get_dec
        rw [nIxM]
        obtain ⟨a, ea, ma⟩ := at_lt (xs := t) (k := j) (by omega)
        refine ⟨a, ea, ?_⟩
        array_get_dec
        rw [nIxM]
        obtain ⟨x, ex, mx⟩ := at_lt (xs := ks) (k := a) (ht a ma)
        refine ⟨x, ex, ?_⟩
        array_get_dec
        rw [nIxM]
        obtain ⟨b, eb, mb⟩ := at_lt (xs := t) (k := k) (by omega)
        refine ⟨b, eb, ?_⟩
        array_get_dec
        rw [nIxM]
        obtain ⟨y, ey, my⟩ := at_lt (xs := ks) (k := b) (ht b mb)
        refine ⟨y, ey, ?_⟩
        array_get_dec
        refine ⟨by omega, ?_⟩
        array_mem_dec
        refine ⟨qs ++ [(x, y)], by simp [prD], by simp; omega, fun p hp => ?_⟩
        rcases List.mem_append.mp hp with h | h
        · exact hqs p h
        · simp at h
          subst h
          exact ⟨j, k, a, b, hjk, ea, eb, ex, ey⟩
      · refine wp_nil ?_
        array_mem_dec
        exact ⟨qs, rfl, by omega, hqs⟩
    · rintro ρ ⟨qs, rfl, hql, hqs⟩
      array_mem_dec
      exact ⟨qs, _, rfl, by omega, hqs⟩
  · rintro ρ ⟨ps, s4, rfl, hpl, hps⟩
    refine wp_cut (fun ρ => ∃ (qs : List (List Nat × List Nat)) (s4 : Sl), (ρ = [.dt (natD n), .dt (.lst (ks.map nmD)), .dt (.lst (t.map natD)), .ol (qs.map prD), s4, .no] ∨ ρ = [.dt (natD n), .dt (.lst (ks.map nmD)), .dt (.lst (t.map natD)), .dt (.lst (qs.map prD)), s4, .no]) ∧ LowsOk ks t qs ∧ qs.length ≤ 9) (wp_if ?_) ?_
    · array_get_dec
      refine ⟨fun _ => wp_set ?_, fun _ => wp_nil ⟨ps, s4, .inl rfl, hps, by omega⟩⟩
      refine ok_compA (fun _ y => ∃ p, p ∈ ps ∧ y = prD p) ?_
      array_get_dec
      refine ⟨by omega, by omega, ?_, ?_⟩
      · intro d hd
        obtain ⟨k, hk2, rfl⟩ := rng_mem hd
        refine ⟨_, rfl, ?_⟩
        unfold cc_l_lows_1
        array_mem_dec
        array_get_dec
        rw [subD_le (by omega), nSub, subD_le (by omega), nIxM]
        obtain ⟨z, ez, mz⟩ := at_lt (xs := ps) (k := ps.length - 1 - k) (by omega)
        exact ⟨z, ez, z, mz, rfl⟩
      · intro ys hy hj
        obtain ⟨qs, rfl, hql9, hq⟩ := unmap (f := prD) (C := fun p => p ∈ ps) (ys := ys) (fun y hy2 => by
          obtain ⟨k, hk2, e⟩ := List.getElem_of_mem hy2
          have hk3 : k < ps.length := by simpa [hy] using hk2
          exact hj k (natD k) y (by rw [List.getElem?_map, List.getElem?_range hk3]; rfl) (by rw [List.getElem?_eq_getElem hk2, e]))
        exact ⟨qs, s4, .inr rfl, fun p hp => hps p (hq p hp), by rw [hql9, hy]; omega⟩
    · rintro ρ ⟨qs, s4, h | h, hq, hq9⟩ <;> subst h
      · refine wp_ret ?_
        array_get_dec
        exact ⟨qs, t, rfl, nd, hq, hq9⟩
      · refine wp_ret ?_
        array_get_dec
        exact ⟨qs, t, rfl, nd, hq, hq9⟩
end KL

namespace KL
open PySem L2 KD
/-! ### entries -/
structure En where
  nm : List Nat
  ps : List (List Nat)
  kd : List Nat
def En.d (e : En) : D := .tup [nmD e.nm, .tup (e.ps.map nmD), nmD e.kd]
structure En.ok (ss : List Sym) (ks : List (List Nat)) (e : En) : Prop where
  sy : ∃ s ∈ ss, e.nm = s.nm ∧ e.ps.length = s.pl
  ps : ∀ p ∈ e.ps, p ∈ ks
  kd : e.kd ∈ ks
theorem sym_len {ss : List Sym} (h : SigOk ss) {s : Sym} (m : s ∈ ss) : s.pl ≤ 3 := (h.all s m).pl
theorem ok_entries (ss : List Sym) (ks : List (List Nat)) (nums : List Nat) (hs : SigOk ss) (h1 : 1 ≤ ss.length) (h2 : 1 ≤ ks.length) (h3 : ks.length ≤ 3) (h4 : nums.length ≤ 100) :
    Ok (den_l_entries [.lst (ss.map Sym.d), .lst (ks.map nmD), .lst (nums.map natD)]) fun d => ∃ es : List En, d = .lst (es.map En.d) ∧ (∀ e ∈ es, e.ok ss ks) ∧ es.length ≤ nums.length ∧ (1 ≤ nums.length → 1 ≤ es.length) := by
  refine ok_run ?_
  unfold b_l_entries
  array_mem_dec
  refine wp_seq (wp_new ?_)
  array_mem_dec
  refine wp_seq (wp_for (fun i ρ => ∃ es : List En, ρ = [.dt (.lst (ss.map Sym.d)), .dt (.lst (ks.map nmD)), .dt (.lst (nums.map natD)), .ol (es.map En.d), .no, .no, .no, .no, .no, .no] ∧ (∀ e ∈ es, e.ok ss ks) ∧ es.length ≤ i ∧ (1 ≤ i → 1 ≤ es.length)) ?_)
  array_get_dec
  refine ⟨by omega, ⟨[], rfl, by simp, by simp, by simp⟩, ?_, ?_⟩
  · rintro k d ρ hd ⟨es, rfl, hes, hle, hone⟩
    obtain ⟨hk, rfl⟩ := rng_at hd
    refine ⟨_, rfl, ?_⟩
    unfold lb_l_entries_1
    array_mem_dec
    refine wp_seq (wp_set ?_)
    array_get_dec
    rw [nIxM]
    obtain ⟨m, em, _⟩ := at_lt (xs := nums) (k := k) hk
    refine ⟨m, em, ?_⟩
    refine wp_seq (wp_set ?_)
    array_get_dec
    refine ⟨by omega, ?_⟩
    rw [nIxM]
    obtain ⟨s, es1, ms⟩ := at_lt (xs := ss) (k := m / 81 % ss.length) (Nat.mod_lt _ (by omega))
    refine ⟨s, es1, ?_⟩
    refine wp_cut (fun ρ => ∃ s ∈ ss, ρ = [.dt (.lst (ss.map Sym.d)), .dt (.lst (ks.map nmD)), .dt (.lst (nums.map natD)), .ol (es.map En.d), .dt (natD k), .dt (natD m), .dt (Sym.d s), .no, .no, .no]) (wp_if ?_) ?_
    · array_get_dec
      refine ⟨fun z => wp_set ?_, fun z => wp_nil ⟨s, ms, by array_mem_dec⟩⟩
      array_get_dec
      rw [nIxM]
      obtain ⟨s2, es2, ms2⟩ := at_lt (xs := ss) (k := k) (by simpa using z)
      exact ⟨s2, es2, s2, ms2, rfl⟩
    rintro ρ ⟨s, ms, rfl⟩
    have hpl := sym_len hs ms
    refine wp_seq (wp_set ?_)
    rw [show Sym.d s = .tup [nmD s.nm, natD s.pl, .bl s.dn, .tup (s.od.map natD)] from rfl]
    refine ok_compA (fun _ y => ∃ p, p ∈ ks ∧ y = nmD p) ?_
    array_get_dec
    refine ⟨by omega, by omega, ?_, ?_⟩
    · intro d hd
      obtain ⟨j, hj, rfl⟩ := rng_mem hd
      refine ⟨_, rfl, ?_⟩
      unfold cc_l_entries_1
      array_mem_dec
      array_get_dec
      rw [nIxL]
      obtain ⟨v, hv, ev_⟩ := tab3 (fun a _ => a) j (by omega) 1 3 9
      refine ⟨_, ev_, ?_⟩
      array_get_dec
      refine ⟨by omega, by omega, ?_⟩
      rw [nIxM]
      obtain ⟨z, ez, mz⟩ := at_lt (xs := ks) (k := m / v % 3 % ks.length) (Nat.mod_lt _ (by omega))
      exact ⟨z, ez, z, mz, rfl⟩
    intro ys hy hj
    obtain ⟨qs, rfl, hql, hq⟩ := unmap (f := nmD) (C := fun p => p ∈ ks) (ys := ys) (fun y hy2 => by
      obtain ⟨k, hk2, e⟩ := List.getElem_of_mem hy2
      have hk3 : k < s.pl := by simpa [hy] using hk2
      exact hj k (natD k) y (by rw [List.getElem?_map, List.getElem?_range hk3]; rfl) (by rw [List.getElem?_eq_getElem hk2, e]))
    have hql2 : qs.length = s.pl := by simpa using hy
    refine wp_seq (wp_set ?_)
    array_get_dec
    refine ⟨by omega, ?_⟩
    rw [nIxM]
    obtain ⟨kd, ek, mk⟩ := at_lt (xs := ks) (k := m / 27 % 3 % ks.length) (Nat.mod_lt _ (by omega))
    refine ⟨kd, ek, ?_⟩
    refine wp_if (Ok.imp (Q := fun b => b = false → ¬ k = 0) ?_ fun b hb => ⟨fun _ => wp_app ?_, fun e => wp_nil ?_⟩)
    · array_get_dec
      refine ⟨fun z q => by simp at q, fun z => ?_⟩
      have : ¬ k = 0 := by simpa using z
      exact ⟨fun _ _ => this, fun _ _ => this⟩
    · array_get_dec
      refine ⟨by omega, ?_⟩
      array_mem_dec
      refine ⟨es ++ [⟨s.nm, qs, kd⟩], by simp [En.d], ?_, by simp; omega, by simp⟩
      intro e he
      rcases List.mem_append.mp he with h | h
      · exact hes e h
      · simp at h
        subst h
        exact ⟨⟨s, ms, rfl, hql2⟩, hq, mk⟩
    · array_mem_dec
      exact ⟨es, rfl, hes, by omega, fun _ => hone (by have := hb e; omega)⟩
  · rintro ρ ⟨es, rfl, hes, hle, hone⟩
    refine wp_ret ?_
    array_get_dec
    exact ⟨es, rfl, hes, hle, hone⟩
/-! ### terms -/
inductive Tm where
  | v (nm : List Nat)
  | n (nm : List Nat) (ps : List Tm)
mutual
def Tm.d : Tm → D
  | .v nm => nmD nm
  | .n nm ps => .tup (nmD nm :: Tm.ds ps)
def Tm.ds : List Tm → List D
  | [] => []
  | t :: ts => t.d :: Tm.ds ts
end
mutual
def Tm.cnt : Tm → Nat
  | .v _ => 1
  | .n _ ps => 1 + Tm.cnts ps
def Tm.cnts : List Tm → Nat
  | [] => 0
  | t :: ts => t.cnt + Tm.cnts ts
end
mutual
def Tm.dep : Tm → Nat
  | .v _ => 0
  | .n _ ps => 1 + Tm.deps ps
def Tm.deps : List Tm → Nat
  | [] => 0
  | t :: ts => max t.dep (Tm.deps ts)
end
theorem Tm.ds_map : ∀ ts : List Tm, Tm.ds ts = ts.map Tm.d
  | [] => by simp [Tm.ds]
  | t :: ts => by simp [Tm.ds, Tm.ds_map ts]
theorem Tm.cnts_map : ∀ ts : List Tm, Tm.cnts ts = (ts.map Tm.cnt).sum
  | [] => by simp [Tm.cnts]
  | t :: ts => by simp [Tm.cnts, Tm.cnts_map ts]
theorem Tm.deps_le : ∀ {ts : List Tm} {t : Tm}, t ∈ ts → t.dep ≤ Tm.deps ts
  | u :: ts, t, h => by
    rw [Tm.deps]
    rcases List.mem_cons.mp h with e | e
    · subst e; exact Nat.le_max_left _ _
    · exact Nat.le_trans (Tm.deps_le e) (Nat.le_max_right _ _)
mutual
theorem Tm.dep_cnt : ∀ t : Tm, t.dep ≤ t.cnt
  | .v _ => by simp [Tm.dep, Tm.cnt]
  | .n _ ps => by
    have := Tm.deps_cnts ps
    simp only [Tm.dep, Tm.cnt]; omega
theorem Tm.deps_cnts : ∀ ts : List Tm, Tm.deps ts ≤ Tm.cnts ts
  | [] => by simp [Tm.deps]
  | t :: ts => by
    have h1 := Tm.dep_cnt t
    have h2 := Tm.deps_cnts ts
    simp only [Tm.deps, Tm.cnts]; omega
end
theorem Tm.cnt_pos : ∀ t : Tm, 1 ≤ t.cnt
  | .v _ => by simp [Tm.cnt]
  | .n _ ps => by simp [Tm.cnt]
theorem Tm.d_n (nm : List Nat) (ps : List Tm) : (Tm.n nm ps).d = .tup (nmD nm :: ps.map Tm.d) := by rw [Tm.d, Tm.ds_map]
theorem Tm.cnt_n (nm : List Nat) (ps : List Tm) : (Tm.n nm ps).cnt = 1 + (ps.map Tm.cnt).sum := by rw [Tm.cnt, Tm.cnts_map]
theorem isi_tup (xs : List D) : isiD "str" (.tup xs) = .ok (.bl false) := by
  show (match kitB "tuple" "str" with | some b => Rs.ok (D.bl b) | none => .bot) = _
  rw [show kitB "tuple" "str" = some false by decide +kernel]
theorem isi_nm (l : List Nat) : isiD "str" (nmD l) = .ok (.bl true) := isi_str _
theorem le_sum : ∀ {zs : List Nat} {z : Nat}, z ∈ zs → z ≤ zs.sum
  | y :: zs, z, h => by
    rw [List.sum_cons]
    rcases List.mem_cons.mp h with e | e
    · omega
    · have := le_sum e; omega
theorem drop1 {x : D} {xs : List D} : List.drop 1 (x :: xs) = xs := rfl
theorem compL_typed {α : Type} {g h : α → D} {t : D → Ev → Option Ev} {c : Ev → Rs Bool} {f : Ev → Rs D} {ρ : Ev} : ∀ zs : List α, (∀ z ∈ zs, ∃ ρ', t (g z) ρ = some ρ' ∧ c ρ' = .ok true ∧ Ok (f ρ') (fun y => y = h z)) → compL t c f ρ (zs.map g) = .ok (zs.map h)
  | [], _ => rfl
  | z :: zs, hs => by
    obtain ⟨ρ', e1, e2, e3⟩ := hs z List.mem_cons_self
    have ih := compL_typed (g := g) (h := h) (t := t) (c := c) (f := f) (ρ := ρ) zs fun d hd => hs d (List.mem_cons_of_mem _ hd)
    rw [List.map_cons, List.map_cons]
    unfold compL
    rw [e1]
    simp [e2, e3.eq, ih]
theorem ok_compP {α : Type} {g : α → D} {zs : List α} {P : D → Prop} {ρ : Ev} {vs : List Nat} {it : Ev → Rs (List D)} {t : D → Ev → Option Ev} {ft : Ev → Rs Bool} {fa : Ev → Rs D} (h : α → D) (hi : Ok (it ρ) fun ds => ds = zs.map g) (hl : zs.length ≤ 1000000)
    (hs : ∀ z ∈ zs, ∃ ρ', t (g z) (wipeE vs ρ) = some ρ' ∧ ft ρ' = .ok true ∧ Ok (fa ρ') (fun y => y = h z)) (hp : P (.lst (zs.map h))) : Ok (dComp vs it t ft fa ρ) P := by
  unfold dComp
  rw [hi.eq, Rs.bind_ok, if_pos (by simpa using hl), compL_typed zs hs, Rs.bind_ok, ok_ok]
  exact hp
theorem ok_count : ∀ (f : Nat) (t : Tm), t.dep < f → t.cnt ≤ 100000 → Ok (den_l_count f [t.d]) fun d => d = natD t.cnt
  | 0, t, h, _ => by omega
  | f + 1, t, h, hc => by
    show Ok (runD 2 (b_l_count (den_l_count f)) [t.d]) _
    refine ok_run ?_
    unfold b_l_count
    array_mem_dec
    cases t with
    | v nm =>
      refine wp_seq (wp_if ?_)
      rw [Tm.d]
      simp only [ok_dTru, ok_dIsi]
      array_get_dec
      rw [isi_nm]
      array_get_dec
      refine ⟨fun _ => wp_ret ?_, fun q => by simp at q⟩
      array_get_dec
      rw [Tm.cnt]
    | n nm ps =>
      refine wp_seq (wp_if ?_)
      rw [Tm.d_n]
      simp only [ok_dTru, ok_dIsi]
      array_get_dec
      rw [isi_tup]
      array_get_dec
      refine ⟨fun q => by simp at q, fun _ => wp_nil (wp_ret ?_)⟩
      have hps : ∀ p ∈ ps, p.dep < f ∧ p.cnt ≤ 100000 := fun p hp => by
        have h1 := Tm.deps_le hp
        rw [Tm.dep] at h
        rw [Tm.cnt_n] at hc
        have h2 : p.cnt ≤ (ps.map Tm.cnt).sum := le_sum (List.mem_map.mpr ⟨p, hp, rfl⟩)
        omega
      have hpl : ps.length ≤ 100000 := by
        have : ∀ qs : List Tm, qs.length ≤ (qs.map Tm.cnt).sum := fun qs => by
          induction qs with
          | nil => simp
          | cons q qs ih => have := Tm.cnt_pos q; simp; omega
        have := this ps
        rw [Tm.cnt_n] at hc
        omega
      array_get_dec
      refine ok_compP (zs := ps) (g := Tm.d) (fun p => natD p.cnt) ?_ (by omega) ?_ ?_
      · array_get_dec
        rw [drop1]
      · intro p hp
        refine ⟨_, rfl, rfl, ?_⟩
        unfold cc_l_count_1
        array_mem_dec
        array_get_dec
        exact ok_count f p (hps p hp).1 (hps p hp).2
      · array_get_dec
        rw [show ps.map (fun p => natD p.cnt) = (ps.map Tm.cnt).map natD by rw [List.map_map]; rfl, nSum]
        array_get_dec
        rw [Tm.cnt_n]
end KL

namespace KL
open PySem L2 KD
theorem map_at {α : Type} {f : α → D} {xs : List α} {k : Nat} {d : D} (h : (xs.map f)[k]? = some d) : ∃ x, xs[k]? = some x ∧ d = f x := by
  rw [List.getElem?_map] at h
  cases q : xs[k]? with
  | none => rw [q] at h; cases h
  | some x => rw [q] at h; cases h; exact ⟨x, rfl, rfl⟩
theorem map_at_mem {α : Type} {f : α → D} {xs : List α} {k : Nat} {d : D} (h : (xs.map f)[k]? = some d) : k < xs.length ∧ ∃ x, x ∈ xs ∧ d = f x := by
  obtain ⟨x, e, q⟩ := map_at h
  exact ⟨(List.getElem?_eq_some_iff.mp e).1, x, List.mem_of_getElem? e, q⟩
theorem sum_le {ps : List Tm} {b : Nat} (h : ∀ p ∈ ps, p.cnt ≤ b) : (ps.map Tm.cnt).sum ≤ b * ps.length := by
  induction ps with
  | nil => simp
  | cons p ps ih =>
    have h1 := h p List.mem_cons_self
    have h2 := ih fun q hq => h q (List.mem_cons_of_mem _ hq)
    rw [List.map_cons, List.sum_cons, List.length_cons, Nat.mul_add]
    omega
theorem sym_d (s : Sym) : Sym.d s = .tup [nmD s.nm, natD s.pl, .bl s.dn, .tup (s.od.map natD)] := rfl
theorem ok_rule (ss : List Sym) (hs : SigOk ss) (h1 : 1 ≤ ss.length) (hd : Sym) (mh : hd ∈ ss) (nums : List Nat) (hn : 7 ≤ nums.length) (vs : List (List Nat)) (hv : vs.length = 4) :
    Ok (den_l_rule [.lst (ss.map Sym.d), Sym.d hd, .lst (nums.map natD), .lst (vs.map nmD)]) fun d => ∃ l r : D, d = .tup [l, r] := by
  have hpl := sym_len hs mh
  refine ok_run ?_
  unfold b_l_rule
  array_mem_dec
  rw [sym_d hd]
  refine wp_seq (wp_own ?_)
  array_get_dec
  refine wp_seq (wp_set ?_)
  array_get_dec
  refine wp_seq (wp_for (fun i ρ => ∃ (ls : List D) (u : Nat) (s7 : Sl), ρ = [.dt (.lst (ss.map Sym.d)), .dt (.tup [nmD hd.nm, natD hd.pl, .bl hd.dn, .tup (hd.od.map natD)]), .dt (.lst (nums.map natD)), .dt (.lst (vs.map nmD)), .ol ls, .dt (natD u), .no, s7, .no, .no, .no, .no, .no, .no] ∧ u + (hd.pl - i) ≤ 4 ∧ ls.length ≤ 1 + i) ?_)
  array_get_dec
  refine ⟨by omega, ⟨_, 0, .no, rfl, by omega, by simp⟩, ?_, ?_⟩
  · rintro k d ρ hd' ⟨ls, u, s7, rfl, hu, hll⟩
    obtain ⟨hk, rfl⟩ := rng_at hd'
    refine ⟨_, rfl, ?_⟩
    unfold lb_l_rule_1
    array_mem_dec
    refine wp_seq (wp_set ?_)
    array_get_dec
    rw [nIxM]
    obtain ⟨m, em, _⟩ := at_lt (xs := nums) (k := k) (by omega)
    refine ⟨m, em, ?_⟩
    array_get_dec
    refine ⟨by omega, ?_⟩
    rw [nIxM]
    obtain ⟨s, es1, ms⟩ := at_lt (xs := ss) (k := m / 2 % ss.length) (Nat.mod_lt _ (by omega))
    refine ⟨s, es1, ?_⟩
    have hsp := sym_len hs ms
    rw [sym_d s]
    refine wp_if (Ok.imp (Q := fun b => b = true → u + s.pl + hd.pl - k ≤ 5) ?_ fun b hb => ⟨fun e => wp_seq (wp_app ?_), fun e => wp_seq (wp_app ?_)⟩)
    · array_get_dec
      rw [nIxM]
      refine ⟨m, em, ?_⟩
      array_get_dec
      rw [subD_le (by omega), nLe]
      array_get_dec
      refine ⟨fun _ q => by simpa using q, fun _ q => by simp at q⟩
    · array_get_dec
      refine ⟨line_ok (by simp; omega), by omega, ?_⟩
      refine wp_set ?_
      array_get_dec
      array_mem_dec
      exact ⟨_, _, _, rfl, by have := hb e; omega, by simp; omega⟩
    · array_get_dec
      rw [nIxM]
      obtain ⟨v, ev_, _⟩ := at_lt (xs := vs) (k := u) (by omega)
      refine ⟨v, ev_, by omega, ?_⟩
      refine wp_set ?_
      array_get_dec
      array_mem_dec
      exact ⟨_, _, _, rfl, by omega, by simp; omega⟩
  · rintro ρ ⟨ls, u, s7, rfl, hu, hll⟩
    refine wp_seq (wp_own ?_)
    array_get_dec
    rw [nIxM]
    obtain ⟨s0, e0, m0⟩ := at_lt (xs := ss) (k := 0) (by omega)
    refine ⟨s0, e0, ?_⟩
    rw [sym_d s0]
    array_get_dec
    refine ⟨line_ok (by simp; omega), ?_⟩
    have epool : (vs.map nmD).take u ++ [D.tup [nmD s0.nm]] = ((vs.take u).map Tm.v ++ [Tm.n s0.nm []]).map Tm.d := by
      rw [List.map_append, List.map_map, ← List.map_take]
      congr 1
    rw [epool]
    refine wp_seq (wp_for (fun i ρ => ∃ (ps : List Tm) (s7 : Sl), ρ = [.dt (.lst (ss.map Sym.d)), .dt (.tup [nmD hd.nm, natD hd.pl, .bl hd.dn, .tup (hd.od.map natD)]), .dt (.lst (nums.map natD)), .dt (.lst (vs.map nmD)), .ol ls, .dt (natD u), .no, s7, .ol (ps.map Tm.d), .no, .no, .no, .no, .no] ∧ (∀ p ∈ ps, p.cnt ≤ 9) ∧ 1 ≤ ps.length ∧ ps.length ≤ 5 + i) ?_)
    array_get_dec
    rw [← List.map_drop, ← List.map_take]
    refine ⟨⟨_, s7, rfl, ?_, by simp, by simp; omega⟩, ?_, ?_⟩
    · intro p hp
      rcases List.mem_append.mp hp with h | h
      · obtain ⟨v, _, rfl⟩ := List.mem_map.mp h
        simp [Tm.cnt]
      · simp at h
        subst h
        simp [Tm.cnt, Tm.cnts]
    · rintro k d ρ hd' ⟨ps, s7, rfl, hps, hpl1, hpl2⟩
      obtain ⟨hk, m, _, rfl⟩ := map_at_mem hd'
      have hk3 : k < 3 := by simp at hk; omega
      refine ⟨_, rfl, ?_⟩
      unfold lb_l_rule_2
      array_mem_dec
      refine wp_seq (wp_set ?_)
      array_get_dec
      refine ⟨by omega, ?_⟩
      rw [nIxM]
      obtain ⟨s, es1, ms⟩ := at_lt (xs := ss) (k := m % 5 % ss.length) (Nat.mod_lt _ (by omega))
      refine ⟨s, es1, ?_⟩
      have hsp := sym_len hs ms
      rw [sym_d s]
      refine wp_seq (wp_set ?_)
      refine ok_compA (fun _ y => ∃ p, p ∈ ps ∧ y = Tm.d p) ?_
      array_get_dec
      refine ⟨by omega, by omega, ?_, ?_⟩
      · intro d hd
        obtain ⟨j, hj, rfl⟩ := rng_mem hd
        refine ⟨_, rfl, ?_⟩
        unfold cc_l_rule_1
        array_mem_dec
        array_get_dec
        rw [nIxL]
        obtain ⟨v, hv, ev_⟩ := tab3 (fun a _ => a) j (by omega) 5 40 320
        refine ⟨_, ev_, ?_⟩
        array_get_dec
        refine ⟨by omega, by omega, ?_⟩
        rw [nIxM]
        obtain ⟨z, ez, mz⟩ := at_lt (xs := ps) (k := m / v % 8 % ps.length) (Nat.mod_lt _ (by omega))
        exact ⟨z, ez, z, mz, rfl⟩
      intro ys hy hj
      obtain ⟨qs, rfl, hql, hq⟩ := unmap (f := Tm.d) (C := fun p => p ∈ ps) (ys := ys) (fun y hy2 => by
        obtain ⟨k, hk2, e⟩ := List.getElem_of_mem hy2
        have hk3 : k < s.pl := by simpa [hy] using hk2
        exact hj k (natD k) y (by rw [List.getElem?_map, List.getElem?_range hk3]; rfl) (by rw [List.getElem?_eq_getElem hk2, e]))
      have hql2 : qs.length = s.pl := by simpa using hy
      refine wp_seq (wp_set ?_)
      array_get_dec
      refine ⟨line_ok (by omega), ?_⟩
      rw [show D.tup ([nmD s.nm] ++ qs.map Tm.d) = (Tm.n s.nm qs).d from (Tm.d_n s.nm qs).symm]
      have hcn : (Tm.n s.nm qs).cnt ≤ 28 := by
        rw [Tm.cnt_n]
        have := sum_le (ps := qs) (b := 9) fun q hq' => hps q (hq q hq')
        have : 9 * qs.length ≤ 27 := by omega
        omega
      have hdn := Tm.dep_cnt (Tm.n s.nm qs)
      refine wp_if (Ok.imp (Q := fun b => b = true → (Tm.n s.nm qs).cnt ≤ 9) ?_ fun b hb => ⟨fun e => wp_app ?_, fun e => wp_nil ?_⟩)
      · array_get_dec
        refine (ok_count 70 _ (by omega) (by omega)).imp ?_
        rintro _ rfl
        array_get_dec
        exact fun q => by simpa using q
      · array_get_dec
        refine ⟨by omega, ?_⟩
        array_mem_dec
        refine ⟨ps ++ [Tm.n s.nm qs], _, by rw [List.map_append]; rfl, ?_, by simp, by simp; omega⟩
        intro p hp
        rcases List.mem_append.mp hp with h | h
        · exact hps p h
        · simp at h
          subst h
          exact hb e
      · array_mem_dec
        exact ⟨ps, _, rfl, hps, hpl1, by omega⟩
    · rintro ρ ⟨ps, s7, rfl, hps, hpl1, hpl2⟩
      refine wp_seq (wp_set ?_)
      array_get_dec
      rw [subD_le (by omega), nIxM]
      obtain ⟨z, ez, mz⟩ := at_lt (xs := ps) (k := ps.length - 1) (by omega)
      refine ⟨z, ez, ?_⟩
      refine wp_cut (fun ρ => ∃ r : D, ρ = [.dt (.lst (ss.map Sym.d)), .dt (.tup [nmD hd.nm, natD hd.pl, .bl hd.dn, .tup (hd.od.map natD)]), .dt (.lst (nums.map natD)), .dt (.lst (vs.map nmD)), .ol ls, .dt (natD u), .no, s7, .ol (ps.map Tm.d), .no, .no, .no, .dt r, .no]) (wp_if ?_) ?_
      · array_get_dec
        rw [nIxM]
        obtain ⟨m, em, _⟩ := at_lt (xs := nums) (k := 6) (by omega)
        refine ⟨m, em, ?_⟩
        array_get_dec
        refine ⟨fun _ => wp_set ?_, fun _ => wp_nil ⟨_, rfl⟩⟩
        array_get_dec
        rw [nIxM]
        refine ⟨m, em, ?_⟩
        array_get_dec
        refine ⟨by omega, ?_⟩
        rw [nIxM]
        obtain ⟨z, ez, mz⟩ := at_lt (xs := ps) (k := m / 2 % ps.length) (Nat.mod_lt _ (by omega))
        exact ⟨z, ez, _, rfl⟩
      · rintro ρ ⟨r, rfl⟩
        refine wp_ret ?_
        array_get_dec
        exact ⟨_, _, rfl⟩
theorem ok_rules (ss : List Sym) (hs : SigOk ss) (h1 : 1 ≤ ss.length) (ns : List Int) (k : Nat) :
    Ok (den_l_rules [.lst (ss.map Sym.d), .fls (ns.map D.int), natD k]) fun d => ∃ rs : List D, d = .lst rs := by
  refine ok_run ?_
  unfold b_l_rules
  array_mem_dec
  refine wp_seq (wp_set ?_)
  refine ok_compF (fun d => match d with | .tup [_, _, .bl b, _] => !b | _ => false) (fun d => d) ?_
  array_get_dec
  refine ⟨by have := hs.len; omega, ?_, ?_⟩
  · intro d hd
    obtain ⟨s, ms, rfl⟩ := List.mem_map.mp hd
    refine ⟨_, rfl, ?_, fun _ => ?_⟩
    · unfold ct_l_rules_1
      array_mem_dec
      rw [sym_d s]
      array_get_dec
    · unfold cc_l_rules_1
      array_mem_dec
      array_get_dec
  rw [List.map_id']
  have ework : ∃ ws : List Sym, (ss.map Sym.d).filter (fun d => match d with | .tup [_, _, .bl b, _] => !b | _ => false) = ws.map Sym.d ∧ ∀ w ∈ ws, w ∈ ss := by
    refine ⟨ss.filter fun s => !s.dn, ?_, fun w hw => (List.mem_filter.mp hw).1⟩
    rw [List.filter_map]
    rfl
  obtain ⟨ws, ew, hw⟩ := ework
  rw [ew]
  refine wp_seq (wp_set ?_)
  array_get_dec
  obtain ⟨nums, en, hl⟩ := den_numbers ns k 26 (by decide)
  rw [en, ok_ok]
  refine wp_seq (wp_set ?_)
  array_get_dec
  rw [nIxM]
  obtain ⟨n0, e0, _⟩ := at_lt (xs := nums) (k := 0) (by omega)
  refine ⟨n0, e0, ?_⟩
  array_get_dec
  rw [den_names n0 4 (by omega) (by omega), ok_ok]
  refine wp_seq (wp_new ?_)
  array_mem_dec
  refine wp_cut (fun ρ => ∃ rs : List D, ρ = [.dt (.lst (ss.map Sym.d)), .dt (.fls (ns.map D.int)), .dt (natD k), .dt (.lst (ws.map Sym.d)), .dt (.lst (nums.map natD)), .dt (.lst ((nms n0 4).map nmD)), .ol rs, .no, .no, .no, .no]) (wp_if (Ok.imp (Q := fun b => b = true → 0 < ws.length) ?_ fun b hb => ⟨fun e => ?_, fun e => wp_nil ⟨_, rfl⟩⟩)) ?_
  · array_get_dec
    exact fun q => by simpa using q
  · have hwl := hb e
    refine wp_for (fun i ρ => ∃ rs : List D, ρ = [.dt (.lst (ss.map Sym.d)), .dt (.fls (ns.map D.int)), .dt (natD k), .dt (.lst (ws.map Sym.d)), .dt (.lst (nums.map natD)), .dt (.lst ((nms n0 4).map nmD)), .ol rs, .no, .no, .no, .no] ∧ rs.length ≤ i) ?_
    array_get_dec
    rw [nIxM]
    obtain ⟨n1, e1, _⟩ := at_lt (xs := nums) (k := 1) (by omega)
    refine ⟨n1, e1, ?_⟩
    array_get_dec
    refine ⟨by omega, ⟨[], rfl, by simp⟩, ?_, ?_⟩
    · rintro j d ρ hd ⟨rs, rfl, hrl⟩
      obtain ⟨hj, rfl⟩ := rng_at hd
      refine ⟨_, rfl, ?_⟩
      unfold lb_l_rules_1
      array_mem_dec
      refine wp_seq (wp_set ?_)
      array_get_dec
      refine ⟨.inl (by decide), .inl (by decide), ?_⟩
      rw [← List.map_drop, ← List.map_take]
      generalize hm : List.take (10 + 8 * j - (2 + 8 * j)) (List.drop (2 + 8 * j) nums) = mine
      have hml : mine.length = 8 := by
        rw [← hm, List.length_take, List.length_drop]
        omega
      refine wp_seq (wp_set ?_)
      array_get_dec
      refine ⟨by omega, ?_⟩
      rw [nIxM]
      obtain ⟨w, ew1, mw⟩ := at_lt (xs := ws) (k := j % ws.length) (Nat.mod_lt _ (by omega))
      refine ⟨w, ew1, ?_⟩
      obtain ⟨m0, em0, _⟩ := at_lt (xs := mine) (k := 0) (by omega)
      refine wp_cut (fun ρ => ∃ w ∈ ws, ρ = [.dt (.lst (ss.map Sym.d)), .dt (.fls (ns.map D.int)), .dt (natD k), .dt (.lst (ws.map Sym.d)), .dt (.lst (nums.map natD)), .dt (.lst ((nms n0 4).map nmD)), .ol rs, .dt (natD j), .dt (.lst (mine.map natD)), .dt (Sym.d w), .no]) (wp_if ?_) ?_
      · array_get_dec
        rw [nIxM]
        refine ⟨m0, em0, ?_⟩
        array_get_dec
        refine ⟨fun _ => wp_set ?_, fun _ => wp_nil ⟨w, mw, rfl⟩⟩
        array_get_dec
        rw [nIxM]
        refine ⟨m0, em0, ?_⟩
        array_get_dec
        refine ⟨by omega, ?_⟩
        rw [nIxM]
        obtain ⟨w2, ew2, mw2⟩ := at_lt (xs := ws) (k := m0 / 3 % ws.length) (Nat.mod_lt _ (by omega))
        exact ⟨w2, ew2, w2, mw2, rfl⟩
      · rintro ρ ⟨w, mw, rfl⟩
        refine wp_app ?_
        array_get_dec
        rw [← List.map_drop]
        refine (ok_rule ss hs h1 w (hw w mw) _ (by simp [hml]) _ (nms_len _ _)).imp ?_
        rintro _ ⟨l, r, rfl⟩
        refine ⟨by omega, ?_⟩
        array_mem_dec
        exact ⟨_, rfl, by simp; omega⟩
    · rintro ρ ⟨rs, rfl, _⟩
      exact ⟨rs, rfl⟩
  · rintro ρ ⟨rs, rfl⟩
    refine wp_ret ?_
    array_get_dec
    exact ⟨_, rfl⟩
/-! ### tables -/
structure Tab where
  ss : List Sym
  ks : List (List Nat)
  ps : List (List Nat × List Nat)
  es : List En
  rs : List D
def Tab.d (T : Tab) : D := .tup [.lst (T.ss.map Sym.d), .lst (T.ks.map nmD), .lst (T.ps.map prD), .lst (T.es.map En.d), .lst T.rs]
structure Tab.ok (T : Tab) : Prop where
  ss : SigOk T.ss
  s2 : 2 ≤ T.ss.length
  s5 : T.ss.length ≤ 5
  s0 : ∃ s, T.ss[0]? = some s ∧ s.pl = 0
  k1 : 1 ≤ T.ks.length
  k3 : T.ks.length ≤ 3
  kn : T.ks.Nodup
  kok : ∀ k ∈ T.ks, nameOk k
  ps : ∃ t : List Nat, t.Nodup ∧ LowsOk T.ks t T.ps
  es : ∀ e ∈ T.es, e.ok T.ss T.ks
  el : T.es.length ≤ 100
  pl : T.ps.length ≤ 9
theorem ok_random (ns : List Int) (k lim : Nat) (h1 : 1 ≤ lim) (h3 : lim ≤ 3) : Ok (den_l_random [.fls (ns.map D.int), natD k, natD lim]) fun d => ∃ T : Tab, d = T.d ∧ T.ok := by
  refine ok_run ?_
  unfold b_l_random
  array_mem_dec
  refine wp_seq (wp_set ?_)
  array_get_dec
  obtain ⟨nums, en, hl⟩ := den_numbers ns k 12 (by decide)
  rw [en, ok_ok]
  refine wp_seq (wp_set ?_)
  array_get_dec
  refine (ok_symbols nums (by omega)).imp ?_
  rintro _ ⟨ss, rfl, hss, hs2, hs5, hs0⟩
  refine wp_seq (wp_set ?_)
  array_get_dec
  rw [nIxM]
  obtain ⟨n8, e8, _⟩ := at_lt (xs := nums) (k := 8) (by omega)
  refine ⟨n8, e8, ?_⟩
  array_get_dec
  rw [nIxM]
  obtain ⟨n9, e9, _⟩ := at_lt (xs := nums) (k := 9) (by omega)
  refine ⟨n9, e9, ?_⟩
  array_get_dec
  refine ⟨by omega, ?_⟩
  have hmod : n9 % lim < lim := Nat.mod_lt _ (by omega)
  generalize hc : 1 + n9 % lim = c
  rw [den_names n8 c (by omega) (by omega), ok_ok]
  refine wp_seq (wp_set ?_)
  array_get_dec
  obtain ⟨nums2, en2, hl2⟩ := den_numbers ns (k + 1) 9 (by decide)
  rw [en2, ok_ok]
  refine wp_seq (wp_set ?_)
  array_get_dec
  rw [nIxM]
  obtain ⟨n11, e11, _⟩ := at_lt (xs := nums) (k := 11) (by omega)
  refine ⟨n11, e11, ?_⟩
  array_get_dec
  rw [← List.map_take]
  have hkl : (nms n8 c).length = c := nms_len _ _
  refine (ok_entries ss (nms n8 c) _ hss (by omega) (by omega) (by omega) (by rw [List.length_take]; omega)).imp ?_
  rintro _ ⟨es, rfl, hes, hel, _⟩
  refine wp_ret ?_
  array_get_dec
  rw [nIxM]
  obtain ⟨n10, e10, _⟩ := at_lt (xs := nums) (k := 10) (by omega)
  refine ⟨n10, e10, ?_⟩
  array_get_dec
  refine (ok_lows n10 (nms n8 c) (by omega)).imp ?_
  rintro _ ⟨ps, t, rfl, hnd, hps, hp9⟩
  refine (ok_rules ss hss (by omega) ns (k + 2)).imp ?_
  rintro _ ⟨rs, rfl⟩
  exact ⟨⟨ss, nms n8 c, ps, es, rs⟩, rfl, ⟨hss, hs2, hs5, hs0, by show 1 ≤ (nms n8 c).length; omega, by show (nms n8 c).length ≤ 3; omega, nms_nodup (by omega), nms_ok (by omega), ⟨t, hnd, hps⟩, hes, by rw [List.length_take] at hel; show es.length ≤ 100; omega, hp9⟩⟩
end KL

namespace KL
open PySem L2 KD
theorem nmIn {P : D → Prop} {l : List Nat} {ls : List (List Nat)} : Ok (gIn (nmD l) (.lst (ls.map nmD))) P = P (.bl (decide (l ∈ ls))) := by rw [in_nm, ok_ok]
theorem nmNotIn {P : D → Prop} {l : List Nat} {ls : List (List Nat)} : Ok (gNotIn (nmD l) (.lst (ls.map nmD))) P = P (.bl (!decide (l ∈ ls))) := by
  unfold gNotIn
  rw [in_nm, Rs.bind_ok, ok_ok]
def upStep (fs : List (List Nat)) (p : List Nat × List Nat) : List (List Nat) := if p.1 ∈ fs ∧ p.2 ∉ fs then fs ++ [p.2] else fs
def upPass (ps : List (List Nat × List Nat)) (fs : List (List Nat)) : List (List Nat) := ps.foldl upStep fs
def upIt (ps : List (List Nat × List Nat)) : Nat → List (List Nat) → List (List Nat)
  | 0, fs => fs
  | n + 1, fs => upPass ps (upIt ps n fs)
def Tab.up (T : Tab) (k : List Nat) : List (List Nat) := T.ks.filter fun x => decide (x ∈ upIt T.ps T.ks.length [k])
theorem upStep_len (fs : List (List Nat)) (p : List Nat × List Nat) : (upStep fs p).length ≤ fs.length + 1 := by
  unfold upStep
  split <;> simp
theorem tab_d (T : Tab) : T.d = .tup [.lst (T.ss.map Sym.d), .lst (T.ks.map nmD), .lst (T.ps.map prD), .lst (T.es.map En.d), .lst T.rs] := rfl
theorem ok_up (T : Tab) (hT : T.ok) (kd : List Nat) : Ok (den_l_up [T.d, nmD kd]) fun d => d = .lst ((T.up kd).map nmD) := by
  have hk3 := hT.k3
  have hp9 := hT.pl
  refine ok_run ?_
  unfold b_l_up
  array_mem_dec
  rw [tab_d]
  generalize htd : D.tup [.lst (T.ss.map Sym.d), .lst (T.ks.map nmD), .lst (T.ps.map prD), .lst (T.es.map En.d), .lst T.rs] = td
  refine wp_seq (wp_own ?_)
  array_get_dec
  refine wp_seq (wp_for (fun i ρ => ∃ fs : List (List Nat), ρ = [.dt td, .dt (nmD kd), .ol (fs.map nmD), .no, .no, .no] ∧ fs = upIt T.ps i [kd] ∧ fs.length ≤ 1 + 9 * i) ?_)
  rw [← htd]
  array_get_dec
  refine ⟨⟨[kd], by rw [htd]; rfl, rfl, by simp⟩, ?_, ?_⟩
  · rintro k d ρ hd ⟨fs, rfl, hfs, hfl⟩
    obtain ⟨hk, x, _, rfl⟩ := map_at_mem hd
    refine ⟨_, rfl, ?_⟩
    unfold lb_l_up_2
    array_mem_dec
    refine wp_for (fun i ρ => ∃ gs : List (List Nat), ρ = [.dt td, .dt (nmD kd), .ol (gs.map nmD), .dt (nmD x), .no, .no] ∧ gs = (T.ps.take i).foldl upStep fs ∧ gs.length ≤ fs.length + i) ?_
    rw [← htd]
    array_get_dec
    refine ⟨⟨fs, by rw [htd], rfl, by simp⟩, ?_, ?_⟩
    · rintro j d ρ hd ⟨gs, rfl, hgs, hgl⟩
      obtain ⟨p, ep, rfl⟩ := map_at hd
      have hj := (List.getElem?_eq_some_iff.mp ep).1
      refine ⟨_, rfl, ?_⟩
      unfold lb_l_up_1
      array_mem_dec
      have next : ∀ hs : List (List Nat), hs = upStep gs p → hs = (T.ps.take (j + 1)).foldl upStep fs ∧ hs.length ≤ fs.length + (j + 1) := fun hs e => by
        refine ⟨?_, ?_⟩
        · rw [List.take_add_one, ep, List.foldl_append, ← hgs, e]; rfl
        · have := upStep_len gs p; rw [e]; omega
      refine wp_if (Ok.imp (Q := fun b => b = decide (p.1 ∈ gs ∧ p.2 ∉ gs)) ?_ fun b hb => ⟨fun e => wp_app ?_, fun e => wp_nil ?_⟩)
      · unfold prD
        array_get_dec
        rw [nmIn]
        array_get_dec
        rw [nmNotIn]
        array_get_dec
        refine ⟨fun h => ?_, fun h => ?_⟩
        · have h' : p.1 ∈ gs := by simpa using h
          simp [h']
        · have h' : ¬ p.1 ∈ gs := by simpa using h
          simp [h']
      · unfold prD
        array_get_dec
        refine ⟨by omega, ?_⟩
        array_mem_dec
        have hc : p.1 ∈ gs ∧ p.2 ∉ gs := by rw [e] at hb; simpa using hb.symm
        exact ⟨gs ++ [p.2], by rw [List.map_append]; rfl, next _ (by unfold upStep; rw [if_pos hc])⟩
      · array_mem_dec
        have hc : ¬ (p.1 ∈ gs ∧ p.2 ∉ gs) := by rw [e] at hb; simpa using hb.symm
        exact ⟨gs, rfl, next _ (by unfold upStep; rw [if_neg hc])⟩
    · rintro ρ ⟨gs, rfl, hgs, hgl⟩
      array_mem_dec
      refine ⟨gs, rfl, ?_, by omega⟩
      rw [hgs, List.take_length, hfs]
      rfl
  · rintro ρ ⟨fs, rfl, hfs, hfl⟩
    refine wp_ret ?_
    array_get_dec
    refine ok_compF (fun d => match d with | .str x => decide (x.cps.toList ∈ fs) | _ => false) (fun d => d) ?_
    array_get_dec
    refine ⟨by omega, ?_, ?_⟩
    · intro d hd
      obtain ⟨s, ms, rfl⟩ := List.mem_map.mp hd
      refine ⟨_, rfl, ?_, fun _ => ?_⟩
      · unfold ct_l_up_1
        array_mem_dec
        array_get_dec
        rw [nmIn]
        array_get_dec
        unfold nmD
        simp only [sO_cps]
      · unfold cc_l_up_1
        array_mem_dec
        array_get_dec
    · rw [List.map_id', List.filter_map]
      unfold Tab.up
      congr 2
      apply List.filter_congr
      intro x _
      simp only [Function.comp, nmD, sO_cps, hfs]
end KL

namespace KL
open PySem L2 KD
theorem compL_typedF {α : Type} {g h : α → D} {t : D → Ev → Option Ev} {c : Ev → Rs Bool} {f : Ev → Rs D} {ρ : Ev} (p : α → Bool) : ∀ zs : List α, (∀ z ∈ zs, ∃ ρ', t (g z) ρ = some ρ' ∧ Ok (c ρ') (fun b => b = p z) ∧ (p z = true → Ok (f ρ') (fun y => y = h z))) → compL t c f ρ (zs.map g) = .ok ((zs.filter p).map h)
  | [], _ => rfl
  | z :: zs, hs => by
    obtain ⟨ρ', e1, e2, e3⟩ := hs z List.mem_cons_self
    have ih := compL_typedF (g := g) (h := h) (t := t) (c := c) (f := f) (ρ := ρ) p zs fun d hd => hs d (List.mem_cons_of_mem _ hd)
    rw [List.map_cons]
    unfold compL
    rw [e1]
    cases q : p z with
    | true => simp [e2.eq, (e3 q).eq, ih, q]
    | false => simp [e2.eq, ih, q]
theorem ok_compFP {α : Type} {g : α → D} {zs : List α} {P : D → Prop} {ρ : Ev} {vs : List Nat} {it : Ev → Rs (List D)} {t : D → Ev → Option Ev} {ft : Ev → Rs Bool} {fa : Ev → Rs D} (p : α → Bool) (h : α → D) (hi : Ok (it ρ) fun ds => ds = zs.map g) (hl : zs.length ≤ 1000000)
    (hs : ∀ z ∈ zs, ∃ ρ', t (g z) (wipeE vs ρ) = some ρ' ∧ Ok (ft ρ') (fun b => b = p z) ∧ (p z = true → Ok (fa ρ') (fun y => y = h z))) (hp : P (.lst ((zs.filter p).map h))) : Ok (dComp vs it t ft fa ρ) P := by
  unfold dComp
  rw [hi.eq, Rs.bind_ok, if_pos (by simpa using hl), compL_typedF p zs hs, Rs.bind_ok, ok_ok]
  exact hp
theorem inT_nm (l : List Nat) (ls : List (List Nat)) : gIn (nmD l) (.tup (ls.map nmD)) = .ok (.bl (decide (l ∈ ls))) := by
  have e : gIn (nmD l) (.tup (ls.map nmD)) = gIn (nmD l) (.lst (ls.map nmD)) := rfl
  rw [e, in_nm]
theorem nmInT {P : D → Prop} {l : List Nat} {ls : List (List Nat)} : Ok (gIn (nmD l) (.tup (ls.map nmD))) P = P (.bl (decide (l ∈ ls))) := by rw [inT_nm, ok_ok]
def kdD (ks : List (List Nat)) : D := .tup (ks.map nmD)
def En.fitAt (e : En) (nm : List Nat) (sets : List (List (List Nat))) (i : Nat) : Bool := decide (e.nm = nm) && decide (e.ps.getD i [] ∈ sets.getD i [])
def En.fits (e : En) (nm : List Nat) (sets : List (List (List Nat))) : Bool := decide (e.nm = nm) && (List.range e.ps.length).all (e.fitAt nm sets)
def Tab.found (T : Tab) (nm : List Nat) (sets : List (List (List Nat))) (es : List En) : List (List Nat) := (es.filter fun e => e.fits nm sets).flatMap fun e => T.up e.kd
def Tab.comb (T : Tab) (nm : List Nat) (sets : List (List (List Nat))) : List (List Nat) := T.ks.filter fun k => decide (k ∈ T.found nm sets T.es)
theorem up_len (T : Tab) (k : List Nat) : (T.up k).length ≤ T.ks.length := List.length_filter_le _ _
theorem found_len (T : Tab) (nm : List Nat) (sets : List (List (List Nat))) (hk : T.ks.length ≤ 3) : ∀ es : List En, (T.found nm sets es).length ≤ 3 * es.length
  | [] => by simp [Tab.found]
  | e :: es => by
    have ih := found_len T nm sets hk es
    have h2 := up_len T e.kd
    unfold Tab.found at ih ⊢
    rw [List.filter_cons]
    split
    · rw [List.flatMap_cons, List.length_append, List.length_cons]; omega
    · rw [List.length_cons]; omega
theorem found_snoc (T : Tab) (nm : List Nat) (sets : List (List (List Nat))) (es : List En) (e : En) : T.found nm sets (es ++ [e]) = if e.fits nm sets = true then T.found nm sets es ++ T.up e.kd else T.found nm sets es := by
  unfold Tab.found
  rw [List.filter_append, List.flatMap_append]
  by_cases h : e.fits nm sets = true
  · simp [h]
  · simp [h]
theorem ok_combine (T : Tab) (hT : T.ok) (nm : List Nat) (sets : List (List (List Nat))) (hset : ∀ e ∈ T.es, e.nm = nm → e.ps.length ≤ sets.length) :
    Ok (den_l_combine [T.d, nmD nm, .lst (sets.map kdD)]) fun d => d = kdD (T.comb nm sets) := by
  have hk3 := hT.k3
  have hel := hT.el
  refine ok_run ?_
  unfold b_l_combine
  array_mem_dec
  refine wp_seq (wp_set ?_)
  array_get_dec
  refine wp_seq (wp_for (fun i ρ => ρ = [.dt T.d, .dt (nmD nm), .dt (.lst (sets.map kdD)), .dt (.lst ((T.found nm sets (T.es.take i)).map nmD)), .no, .no, .no, .no]) ?_)
  rw [tab_d]
  array_get_dec
  refine ⟨rfl, ?_, ?_⟩
  · rintro k d ρ hd rfl
    obtain ⟨e, ee, rfl⟩ := map_at hd
    have hk := (List.getElem?_eq_some_iff.mp ee).1
    have me := List.mem_of_getElem? ee
    have eok := hT.es e me
    have hpl : e.ps.length ≤ 3 := by obtain ⟨s, ms, _, q⟩ := eok.sy; have := sym_len hT.ss ms; omega
    refine ⟨_, rfl, ?_⟩
    unfold lb_l_combine_1
    array_mem_dec
    rw [show En.d e = .tup [nmD e.nm, .tup (e.ps.map nmD), nmD e.kd] from rfl]
    refine wp_seq (wp_set ?_)
    refine ok_compFP (zs := List.range e.ps.length) (g := natD) (e.fitAt nm sets) natD ?_ (by simp; omega) ?_ ?_
    · array_get_dec
      omega
    · intro i hi
      have hi' : i < e.ps.length := by simpa using hi
      refine ⟨_, rfl, ?_, fun _ => ?_⟩
      · unfold ct_l_combine_1
        array_mem_dec
        array_get_dec
        refine ⟨fun z => ?_, fun z => ?_⟩
        · have z' : e.nm = nm := by simpa using z
          rw [nIxMT]
          obtain ⟨q, eq, _⟩ := at_lt (xs := e.ps) (k := i) hi'
          refine ⟨q, eq, ?_⟩
          rw [nIxM]
          obtain ⟨r, er, _⟩ := at_lt (xs := sets) (k := i) (Nat.lt_of_lt_of_le hi' (hset e me z'))
          refine ⟨r, er, ?_⟩
          unfold kdD
          rw [nmInT]
          array_get_dec
          unfold En.fitAt
          rw [List.getD_eq_getElem?_getD, List.getD_eq_getElem?_getD, eq, er]
          simp [z']
        · have z' : ¬ e.nm = nm := by simpa using z
          unfold En.fitAt
          simp [z']
      · unfold cc_l_combine_1
        array_mem_dec
        array_get_dec
    have hf : e.fits nm sets = (decide (e.nm = nm) && decide (((List.range e.ps.length).filter (e.fitAt nm sets)).length = e.ps.length)) := by
      unfold En.fits
      congr 1
      rw [Bool.eq_iff_iff, decide_eq_true_iff, List.all_eq_true]
      have := List.length_filter_eq_length_iff (p := e.fitAt nm sets) (l := List.range e.ps.length)
      rw [List.length_range] at this
      exact this.symm
    have nxt : T.found nm sets (T.es.take (k + 1)) = if e.fits nm sets = true then T.found nm sets (T.es.take k) ++ T.up e.kd else T.found nm sets (T.es.take k) := by
      rw [List.take_add_one, ee]
      exact found_snoc T nm sets _ e
    refine wp_if (Ok.imp (Q := fun b => b = e.fits nm sets) ?_ fun b hb => ⟨fun q => wp_set ?_, fun q => wp_nil ?_⟩)
    · array_get_dec
      rw [hf]
      refine ⟨fun z => by rw [z]; rfl, fun z => by rw [z]; rfl⟩
    · array_get_dec
      have h := ok_up T hT e.kd
      rw [tab_d] at h
      refine h.imp ?_
      rintro _ rfl
      array_get_dec
      refine ⟨line_ok ?_, ?_⟩
      · have h1 := found_len T nm sets hk3 (T.es.take k)
        have h2 := up_len T e.kd
        rw [List.length_take] at h1
        omega
      · array_mem_dec
        rw [nxt, if_pos (by rw [← hb]; exact q), List.map_append]
    · array_mem_dec
      rw [nxt, if_neg (by rw [← hb, q]; simp)]
  · rintro ρ rfl
    refine wp_ret ?_
    array_get_dec
    refine ok_compFP (zs := T.ks) (g := nmD) (fun k => decide (k ∈ T.found nm sets T.es)) nmD ?_ (by omega) ?_ ?_
    · array_get_dec
    · intro x hx
      refine ⟨_, rfl, ?_, fun _ => ?_⟩
      · unfold ct_l_combine_2
        array_mem_dec
        array_get_dec
        rw [nmIn, List.take_length]
        array_get_dec
      · unfold cc_l_combine_2
        array_mem_dec
        array_get_dec
    · array_get_dec
      rfl
end KL

namespace KL
open PySem L2 KD
mutual
def Tm.wf (ss : List Sym) : Tm → Prop
  | .v _ => False
  | .n nm ps => (∃ s ∈ ss, s.nm = nm ∧ ps.length = s.pl) ∧ Tm.wfs ss ps
def Tm.wfs (ss : List Sym) : List Tm → Prop
  | [] => True
  | t :: ts => t.wf ss ∧ Tm.wfs ss ts
end
theorem Tm.wfs_iff (ss : List Sym) : ∀ ts : List Tm, Tm.wfs ss ts ↔ ∀ t ∈ ts, t.wf ss
  | [] => by simp [Tm.wfs]
  | t :: ts => by simp [Tm.wfs, Tm.wfs_iff ss ts]
theorem sym_uniq : ∀ {ss : List Sym}, (ss.map (·.nm)).Nodup → ∀ {s s' : Sym}, s ∈ ss → s' ∈ ss → s.nm = s'.nm → s = s'
  | [], _, s, s', h, _, _ => by cases h
  | u :: ss, nd, s, s', h, h', e => by
    rw [List.map_cons, List.nodup_cons] at nd
    rcases List.mem_cons.mp h with q | q <;> rcases List.mem_cons.mp h' with q' | q'
    · rw [q, q']
    · subst q; exact (nd.1 (e ▸ List.mem_map.mpr ⟨s', q', rfl⟩)).elim
    · subst q'; exact (nd.1 (e ▸ List.mem_map.mpr ⟨s, q, rfl⟩)).elim
    · exact sym_uniq nd.2 q q' e
def stD (p : Tm × List (List Nat)) : D := .tup [p.1.d, kdD p.2]
theorem Tab.ok.fit {T : Tab} (hT : T.ok) {s : Sym} (ms : s ∈ T.ss) : ∀ e ∈ T.es, e.nm = s.nm → e.ps.length = s.pl := fun e me h => by
  obtain ⟨s', ms', h1, h2⟩ := (hT.es e me).sy
  rw [sym_uniq hT.ss.nd ms ms' (h.symm.trans h1)]
  exact h2
theorem ne_unit {P : D → Prop} (kk : List (List Nat)) (h : ∀ b, P (.bl b)) : Ok (gNe (kdD kk) (.tup [])) P := by
  rw [ok_ne]
  refine ⟨?_, h _⟩
  unfold eqOk kdD
  simp [D.plain, D.plains, plains_nm, D.dep, D.deps]
theorem ok_fitting (T : Tab) (hT : T.ok) (stk : List (Tm × List (List Nat))) (hl : stk.length ≤ 1000) (n : Nat) :
    Ok (den_l_fitting [T.d, .lst (stk.map stD), natD n]) fun d => ∃ s ∈ T.ss, s.pl ≤ stk.length ∧ d = .tup [Sym.d s, kdD (T.comb s.nm ((stk.drop (stk.length - s.pl)).map (·.2)))] := by
  have h2 := hT.s2
  have h5 := hT.s5
  refine ok_run ?_
  unfold b_l_fitting
  array_mem_dec
  refine wp_seq (wp_set ?_)
  rw [tab_d]
  array_get_dec
  refine wp_seq (wp_set ?_)
  array_get_dec
  refine wp_seq (wp_set ?_)
  array_get_dec
  rw [← tab_d]
  generalize decide (n / 6 % 5 = 0) = free
  generalize decide (n / 30 % 3 = 0) = small
  refine wp_seq (wp_for (fun i ρ => ∃ s8 : Sl, ρ = [.dt T.d, .dt (.lst (stk.map stD)), .dt (natD n), .dt (natD T.ss.length), .dt (.bl free), .dt (.bl small), .no, .no, s8, .no]) ?_)
  array_get_dec
  refine ⟨.inl (by decide), by omega, ⟨.no, rfl⟩, ?_, ?_⟩
  · rintro k d ρ hd ⟨s8, rfl⟩
    obtain ⟨hk, rfl⟩ := rng_at hd
    refine ⟨_, rfl, ?_⟩
    unfold lb_l_fitting_1
    array_mem_dec
    refine wp_seq (wp_set ?_)
    rw [tab_d]
    array_get_dec
    refine ⟨by omega, ?_⟩
    rw [nIxM]
    obtain ⟨s, es, ms⟩ := at_lt (xs := T.ss) (k := (n % 6 + k) % T.ss.length) (Nat.mod_lt _ (by omega))
    refine ⟨s, es, ?_⟩
    rw [← tab_d, sym_d s]
    refine wp_if (Ok.imp (Q := fun b => b = true → s.pl ≤ stk.length) ?_ fun b hb => ⟨fun e => wp_seq (wp_set ?_), fun e => wp_nil ?_⟩)
    · array_get_dec
      refine ⟨fun z => ?_, fun z q => by simp at q⟩
      have z' : s.pl ≤ stk.length := by simpa using z
      exact ⟨fun _ _ => z', fun _ => ⟨fun _ _ => z', fun _ => ⟨fun _ _ => z', fun _ _ => z'⟩⟩⟩
    · have hpl := hb e
      array_get_dec
      refine ok_compP (zs := stk.drop (stk.length - s.pl)) (g := stD) (fun p => kdD p.2) ?_ (by rw [List.length_drop]; omega) ?_ ?_
      · array_get_dec
        rw [subD_le (by omega), nAsI, cut_from, List.map_drop]
      · intro p hp
        refine ⟨_, rfl, rfl, ?_⟩
        unfold cc_l_fitting_1 stD
        array_mem_dec
        array_get_dec
      · array_get_dec
        rw [show List.map (fun p => kdD p.2) (stk.drop (stk.length - s.pl)) = ((stk.drop (stk.length - s.pl)).map (·.2)).map kdD by rw [List.map_map]; rfl]
        refine (ok_combine T hT s.nm _ fun e me h => ?_).imp ?_
        · rw [hT.fit ms e me h, List.length_map, List.length_drop]; omega
        rintro _ rfl
        refine wp_if ?_
        array_get_dec
        refine ne_unit _ fun b => ?_
        array_get_dec
        have fin : Wp (sRet (dTup (dCons (dVar 7) (dCons (dVar 8) dNil))) [.dt T.d, .dt (.lst (stk.map stD)), .dt (natD n), .dt (natD T.ss.length), .dt (.bl free), .dt (.bl small), .dt (natD k), .dt (.tup [nmD s.nm, natD s.pl, .bl s.dn, .tup (s.od.map natD)]), .dt (kdD (T.comb s.nm ((stk.drop (stk.length - s.pl)).map (·.2)))), .no]) (fun ρ2 => ∃ s8 : Sl, wipeE [6, 7] ρ2 = [.dt T.d, .dt (.lst (stk.map stD)), .dt (natD n), .dt (natD T.ss.length), .dt (.bl free), .dt (.bl small), .no, .no, s8, .no]) (fun d => ∃ s ∈ T.ss, s.pl ≤ stk.length ∧ d = .tup [Sym.d s, kdD (T.comb s.nm ((stk.drop (stk.length - s.pl)).map (·.2)))]) := by
          refine wp_ret ?_
          array_get_dec
          exact ⟨s, ms, hpl, rfl⟩
        refine ⟨fun _ => ⟨fun _ => fin, fun q => by simp at q⟩, fun _ => ⟨fun _ => fin, fun _ => wp_nil ?_⟩⟩
        array_mem_dec
        exact ⟨_, rfl⟩
    · array_mem_dec
      exact ⟨s8, rfl⟩
  · rintro ρ ⟨s8, rfl⟩
    refine wp_ret ?_
    obtain ⟨s0, e0, hp0⟩ := hT.s0
    have m0 := List.mem_of_getElem? e0
    rw [tab_d]
    array_get_dec
    rw [nIxM]
    refine ⟨s0, e0, ?_⟩
    rw [nIxM]
    refine ⟨s0, e0, ?_⟩
    rw [sym_d s0]
    array_get_dec
    have hc := ok_combine T hT s0.nm [] fun e me h => by rw [hT.fit m0 e me h, hp0]; exact Nat.zero_le _
    rw [tab_d] at hc
    refine Ok.imp (show Ok (den_l_combine [_, nmD s0.nm, .lst []]) _ from hc) ?_
    rintro _ rfl
    refine ⟨s0, m0, by omega, ?_⟩
    rw [hp0]
    simp [sym_d, hp0]
end KL

namespace KL
open PySem L2 KD
def stN (stk : List (Tm × List (List Nat))) : Nat := (stk.map fun p => p.1.cnt).sum
theorem stN_split (stk : List (Tm × List (List Nat))) (k : Nat) : stN (stk.take k) + stN (stk.drop k) = stN stk := by
  unfold stN
  rw [← List.sum_append_nat, ← List.map_append, List.take_append_drop]
theorem stN_len : ∀ stk : List (Tm × List (List Nat)), stk.length ≤ stN stk
  | [] => by simp [stN]
  | p :: stk => by
    have ih := stN_len stk
    have := Tm.cnt_pos p.1
    unfold stN at ih ⊢
    rw [List.map_cons, List.sum_cons, List.length_cons]
    omega
theorem stN_mem {stk : List (Tm × List (List Nat))} {p : Tm × List (List Nat)} (h : p ∈ stk) : p.1.cnt ≤ stN stk := le_sum (List.mem_map.mpr ⟨p, h, rfl⟩)
theorem ok_term (T : Tab) (hT : T.ok) (nums : List Nat) (h1 : 1 ≤ nums.length) (h2 : nums.length ≤ 60) :
    Ok (den_l_term [T.d, .lst (nums.map natD)]) fun d => ∃ t : Tm, d = t.d ∧ t.wf T.ss ∧ t.cnt ≤ nums.length := by
  refine ok_run ?_
  unfold b_l_term
  array_mem_dec
  refine wp_seq (wp_new ?_)
  array_mem_dec
  refine wp_seq (wp_for (fun i ρ => ∃ stk : List (Tm × List (List Nat)), ρ = [.dt T.d, .dt (.lst (nums.map natD)), .ol (stk.map stD), .no, .no, .no, .no, .no, .no] ∧ (∀ p ∈ stk, p.1.wf T.ss) ∧ stN stk = i ∧ (1 ≤ i → 1 ≤ stk.length)) ?_)
  array_get_dec
  refine ⟨⟨[], rfl, by simp, rfl, by simp⟩, ?_, ?_⟩
  · rintro k d ρ hd ⟨stk, rfl, hwf, hcn, hone⟩
    obtain ⟨hk, m, _, rfl⟩ := map_at_mem hd
    have hsl := stN_len stk
    refine ⟨_, rfl, ?_⟩
    unfold lb_l_term_1
    array_mem_dec
    refine wp_seq (wp_unp ?_)
    array_get_dec
    refine (ok_fitting T hT stk (by omega) m).imp ?_
    rintro _ ⟨s, ms, hpl, rfl⟩
    refine ⟨_, rfl, ?_⟩
    simp only [setsE]
    array_mem_dec
    rw [sym_d s]
    refine wp_seq (wp_set ?_)
    refine ok_compP (zs := stk.drop (stk.length - s.pl)) (g := stD) (fun p => p.1.d) ?_ (by rw [List.length_drop]; omega) ?_ ?_
    · array_get_dec
      rw [subD_le (by omega), nAsI, cut_from, List.map_drop]
    · intro p hp
      refine ⟨_, rfl, rfl, ?_⟩
      unfold cc_l_term_1 stD
      array_mem_dec
      array_get_dec
    array_mem_dec
    refine wp_seq (wp_own ?_)
    array_get_dec
    rw [subD_le (by omega), nAsI, cut_to]
    refine wp_app ?_
    array_get_dec
    refine ⟨line_ok (by rw [List.length_drop]; omega), by rw [List.length_take, List.length_map]; omega, ?_⟩
    array_mem_dec
    generalize hq : stk.drop (stk.length - s.pl) = qs
    have hql : qs.length = s.pl := by rw [← hq, List.length_drop]; omega
    refine ⟨stk.take (stk.length - s.pl) ++ [(Tm.n s.nm (qs.map (·.1)), T.comb s.nm (qs.map (·.2)))], ?_, ?_, ?_, by simp⟩
    · rw [List.map_append, List.map_take]
      unfold stD
      rw [List.map_cons, List.map_nil, Tm.d_n, List.map_map]
      rfl
    · intro p hp
      rcases List.mem_append.mp hp with h | h
      · exact hwf p (List.mem_of_mem_take h)
      · simp at h
        subst h
        refine ⟨⟨s, ms, rfl, by simpa using hql⟩, (Tm.wfs_iff _ _).mpr fun t ht => ?_⟩
        obtain ⟨p, hp', rfl⟩ := List.mem_map.mp ht
        rw [← hq] at hp'
        exact hwf p (List.mem_of_mem_drop hp')
    · have h3 := stN_split stk (stk.length - s.pl)
      rw [hq] at h3
      unfold stN at h3 hcn ⊢
      rw [List.map_append, List.sum_append_nat, List.map_cons, List.map_nil, List.sum_cons, List.sum_nil, Tm.cnt_n, List.map_map]
      have e : (qs.map (Tm.cnt ∘ fun x => x.1)).sum = (qs.map fun p => p.1.cnt).sum := rfl
      rw [e]
      omega
  · rintro ρ ⟨stk, rfl, hwf, hcn, hone⟩
    have hsl := stN_len stk
    have h1s : 1 ≤ stk.length := hone h1
    refine wp_seq (wp_set ?_)
    array_get_dec
    rw [nIxM]
    obtain ⟨p0, e0, m0⟩ := at_lt (xs := stk) (k := 0) (by omega)
    refine ⟨p0, e0, ?_⟩
    unfold stD
    array_get_dec
    have fold : (List.map (fun p : Tm × List (List Nat) => D.tup [p.1.d, kdD p.2]) stk) = stk.map stD := rfl
    rw [fold]
    refine wp_seq (wp_for (fun i ρ => ∃ (p : Tm × List (List Nat)) (s6 : Sl), p ∈ stk ∧ ρ = [.dt T.d, .dt (.lst (nums.map natD)), .dt (.lst (stk.map stD)), .no, .no, .no, s6, .no, .dt p.1.d]) ?_)
    array_get_dec
    refine ⟨⟨p0, .no, m0, rfl⟩, ?_, ?_⟩
    · rintro k d ρ hd ⟨p, s6, mp, rfl⟩
      obtain ⟨hk, q, mq, rfl⟩ := map_at_mem hd
      refine ⟨_, rfl, ?_⟩
      unfold lb_l_term_2
      array_mem_dec
      have b1 := stN_mem mp
      have b2 := stN_mem mq
      have c1 := Tm.dep_cnt p.1
      have c2 := Tm.dep_cnt q.1
      refine wp_if ?_
      unfold stD
      array_get_dec
      refine (ok_count 70 q.1 (by omega) (by omega)).imp ?_
      rintro _ rfl
      refine (ok_count 70 p.1 (by omega) (by omega)).imp ?_
      rintro _ rfl
      array_get_dec
      refine ⟨fun _ => wp_set ?_, fun _ => wp_nil ?_⟩
      · array_get_dec
        array_mem_dec
        exact ⟨q, _, mq, rfl⟩
      · array_mem_dec
        exact ⟨p, _, mp, rfl⟩
    · rintro ρ ⟨p, s6, mp, rfl⟩
      refine wp_ret ?_
      array_get_dec
      exact ⟨p.1, rfl, hwf p mp, by have := stN_mem mp; omega⟩
end KL

namespace KL
open PySem L2 KD
def symIx (ss : List Sym) (nm : List Nat) : Nat := ss.findIdx fun s => decide (s.nm = nm)
mutual
def Tm.rk (ss : List Sym) : Tm → D
  | .v _ => .non
  | .n nm ps => .tup [natD (Tm.n nm ps).cnt, natD (symIx ss nm), .tup (Tm.rks ss ps)]
def Tm.rks (ss : List Sym) : List Tm → List D
  | [] => []
  | t :: ts => t.rk ss :: Tm.rks ss ts
end
theorem Tm.rks_map (ss : List Sym) : ∀ ts : List Tm, Tm.rks ss ts = ts.map (Tm.rk ss)
  | [] => by simp [Tm.rks]
  | t :: ts => by simp [Tm.rks, Tm.rks_map ss ts]
theorem Tm.rk_n (ss : List Sym) (nm : List Nat) (ps : List Tm) : (Tm.n nm ps).rk ss = .tup [natD (Tm.n nm ps).cnt, natD (symIx ss nm), .tup (ps.map (Tm.rk ss))] := by rw [Tm.rk, Tm.rks_map]
theorem eqD_nm (a b : List Nat) : eqD (nmD a) (nmD b) = decide (a = b) := by
  unfold nmD
  rw [eqD_sO]
  by_cases h : a = b <;> simp [h]
theorem deps_nm : ∀ ls : List (List Nat), D.deps (ls.map nmD) = 0
  | [] => by simp [D.deps]
  | l :: ls => by simp [D.deps, deps_nm ls, dep_nm]
theorem nIndex {P : D → Prop} {ss : List Sym} {nm : List Nat} (h : ∃ s ∈ ss, s.nm = nm) (hp : P (natD (symIx ss nm))) : Ok (gIndex (.lst (ss.map fun s => nmD s.nm)) (nmD nm)) P := by
  have e0 : ss.map (fun s => nmD s.nm) = (ss.map (·.nm)).map nmD := by rw [List.map_map]; rfl
  have e1 : (D.plains (ss.map fun s => nmD s.nm) && (nmD nm).plain && decide (D.deps (ss.map fun s => nmD s.nm) ≤ 60) && decide ((nmD nm).dep ≤ 60)) = true := by
    rw [e0, plains_nm, deps_nm, dep_nm]
    rfl
  have e2 : (ss.map fun s => nmD s.nm).findIdx? (fun z => eqD z (nmD nm)) = some (symIx ss nm) := by
    rw [List.findIdx?_map]
    have e3 : ((fun z => eqD z (nmD nm)) ∘ fun s : Sym => nmD s.nm) = fun s : Sym => decide (s.nm = nm) := by
      funext s
      exact eqD_nm _ _
    rw [e3, List.findIdx?_eq_some_iff_findIdx_eq]
    refine ⟨?_, rfl⟩
    obtain ⟨s, ms, q⟩ := h
    exact List.findIdx_lt_length_of_exists ⟨s, ms, by simpa using q⟩
  have e4 : gIndex (.lst (ss.map fun s => nmD s.nm)) (nmD nm) = .ok (natD (symIx ss nm)) := by
    unfold gIndex
    dsimp only
    rw [if_pos e1, e2]
    rfl
  rw [e4, ok_ok]
  exact hp
theorem ok_lrank (T : Tab) (hT : T.ok) : ∀ (f : Nat) (t : Tm), t.dep < f → t.cnt ≤ 100000 → t.wf T.ss → Ok (den_l_rank f [T.d, t.d]) fun d => d = t.rk T.ss
  | 0, t, h, _, _ => by omega
  | f + 1, .v nm, h, hc, hw => by simp [Tm.wf] at hw
  | f + 1, .n nm ps, h, hc, hw => by
    have hs5 := hT.s5
    rw [Tm.wf, Tm.wfs_iff] at hw
    obtain ⟨⟨s, ms, hnm, hpl⟩, hws⟩ := hw
    have hp3 := sym_len hT.ss ms
    have hps : ∀ p ∈ ps, p.dep < f ∧ p.cnt ≤ 100000 := fun p hp => by
      have h1 := Tm.deps_le hp
      rw [Tm.dep] at h
      rw [Tm.cnt_n] at hc
      have h2 : p.cnt ≤ (ps.map Tm.cnt).sum := le_sum (List.mem_map.mpr ⟨p, hp, rfl⟩)
      omega
    show Ok (runD 6 (b_l_rank (den_l_rank f)) [T.d, (Tm.n nm ps).d]) _
    refine ok_run ?_
    unfold b_l_rank
    rw [Tm.d_n]
    array_mem_dec
    refine wp_seq (wp_set ?_)
    refine ok_compP (zs := T.ss) (g := Sym.d) (fun s => nmD s.nm) ?_ (by omega) ?_ ?_
    · rw [tab_d]
      array_get_dec
    · intro s ms
      refine ⟨_, rfl, rfl, ?_⟩
      unfold cc_l_rank_1
      array_mem_dec
      rw [sym_d s]
      array_get_dec
    array_mem_dec
    refine wp_seq (wp_set ?_)
    refine ok_compP (zs := ps) (g := Tm.d) (Tm.rk T.ss) ?_ (by omega) ?_ ?_
    · array_get_dec
      rw [drop1]
    · intro p hp
      refine ⟨_, rfl, rfl, ?_⟩
      unfold cc_l_rank_2
      array_mem_dec
      array_get_dec
      exact ok_lrank T hT f p (hps p hp).1 (hps p hp).2 (hws p hp)
    array_mem_dec
    refine wp_ret ?_
    array_get_dec
    refine ok_compP (zs := ps) (g := Tm.rk T.ss) (fun p => natD p.cnt) ?_ (by omega) ?_ ?_
    · array_get_dec
    · intro p hp
      refine ⟨_, rfl, rfl, ?_⟩
      unfold cc_l_rank_3
      array_mem_dec
      cases p with
      | v x => exact absurd (hws _ hp) (by simp [Tm.wf])
      | n x qs =>
        rw [Tm.rk_n]
        array_get_dec
    array_get_dec
    rw [show ps.map (fun p => natD p.cnt) = (ps.map Tm.cnt).map natD by rw [List.map_map]; rfl, nSum]
    array_get_dec
    rw [ok_dIndex]
    array_get_dec
    refine nIndex ⟨s, ms, hnm⟩ ?_
    array_get_dec
    rw [Tm.rk_n, Tm.cnt_n]
end KL

namespace KL
open PySem L2 KD
/-! ### the program's side -/
theorem self_sig (m : Str) (ss : List Sym) (h1 : m ≠ "listed") (h2 : m ≠ "numbers") : gSelf "Signature" m (sigO ss) = .ok (sigO ss) := by
  unfold sigO sigOb gSelf fldD
  simp [fldD, h1, h2]
theorem fld_numbers (ss : List Sym) : gFld "Signature" "numbers" (sigO ss) = .ok (.dic (ss.map fun s => nmD s.nm) (numsD ss.length)) := by rfl
theorem fld_listed (ss : List Sym) : gFld "Signature" "listed" (sigO ss) = .ok (.lst (ss.map Sym.d)) := by rfl
theorem key_nm (l : List Nat) : (nmD l).key = some (.inr (sO l)) := rfl
theorem look_ix (nm : List Nat) : ∀ (ss : List Sym) (k : Nat), (∃ s ∈ ss, s.nm = nm) → lookD (ss.map fun s => nmD s.nm) ((List.range' k ss.length).map natD) (.inr (sO nm)) = some (natD (k + symIx ss nm))
  | [], k, h => by obtain ⟨s, ms, _⟩ := h; cases ms
  | s :: ss, k, h => by
    rw [List.map_cons, List.length_cons, List.range'_succ, List.map_cons]
    unfold lookD symIx
    rw [key_nm, List.findIdx_cons]
    by_cases e : s.nm = nm
    · rw [if_pos (by rw [e])]
      simp [e]
    · have e' : ¬ (some (Sum.inr (sO s.nm)) : Option Key) = some (.inr (sO nm)) := fun q => e (sO_inj (Sum.inr.inj (Option.some.inj q)))
      rw [if_neg e', look_ix nm ss (k + 1) (by
        obtain ⟨u, mu, q⟩ := h
        rcases List.mem_cons.mp mu with z | z
        · subst z; exact (e q).elim
        · exact ⟨u, z, q⟩)]
      have : decide (s.nm = nm) = false := by simpa using e
      rw [this]
      simp [symIx]
      congr 1
      omega
theorem look_sig {ss : List Sym} {nm : List Nat} (h : ∃ s ∈ ss, s.nm = nm) : lookD (ss.map fun s => nmD s.nm) (numsD ss.length) (.inr (sO nm)) = some (natD (symIx ss nm)) := by
  have e : numsD ss.length = (List.range' 0 ss.length).map natD := by unfold numsD; rw [List.range_eq_range']
  rw [e, look_ix nm ss 0 h, Nat.zero_add]
theorem nDicIx {P : D → Prop} {ss : List Sym} {nm : List Nat} (h : ∃ s ∈ ss, s.nm = nm) (hp : P (natD (symIx ss nm))) : Ok (gIx (.dic (ss.map fun s => nmD s.nm) (numsD ss.length)) (nmD nm)) P := by
  have e : gIx (.dic (ss.map fun s => nmD s.nm) (numsD ss.length)) (nmD nm) = .ok (natD (symIx ss nm)) := by
    unfold gIx
    dsimp only
    rw [key_nm]
    dsimp only
    rw [look_sig h]
  rw [e, ok_ok]
  exact hp
theorem nDicNotIn {P : D → Prop} {ss : List Sym} {nm : List Nat} (h : ∃ s ∈ ss, s.nm = nm) (hp : P (.bl false)) : Ok (gNotIn (nmD nm) (.dic (ss.map fun s => nmD s.nm) (numsD ss.length))) P := by
  have e : gIn (nmD nm) (.dic (ss.map fun s => nmD s.nm) (numsD ss.length)) = .ok (.bl true) := by
    unfold gIn
    dsimp only
    rw [key_nm]
    dsimp only
    rw [look_sig h]
    rfl
  unfold gNotIn
  rw [e, Rs.bind_ok, ok_ok]
  exact hp
theorem ok_number {ss : List Sym} {nm : List Nat} (h : ∃ s ∈ ss, s.nm = nm) : Ok (den_signature_number [sigO ss, nmD nm]) fun d => d = natD (symIx ss nm) := by
  refine ok_run ?_
  unfold b_signature_number
  array_mem_dec
  refine wp_seq (wp_if ?_)
  array_get_dec
  rw [ok_dFld]
  array_get_dec
  rw [fld_numbers, ok_ok]
  refine nDicNotIn h ?_
  array_get_dec
  refine ⟨fun q => by simp at q, fun _ => wp_nil (wp_ret ?_)⟩
  array_get_dec
  rw [ok_dFld]
  array_get_dec
  rw [fld_numbers, ok_ok]
  array_get_dec
  exact nDicIx h rfl
theorem symIx_at {ss : List Sym} (nd : (ss.map (·.nm)).Nodup) {s : Sym} (ms : s ∈ ss) : ss[symIx ss s.nm]? = some s := by
  have h : symIx ss s.nm < ss.length := List.findIdx_lt_length_of_exists ⟨s, ms, by simp⟩
  rw [List.getElem?_eq_getElem h]
  have q : decide ((ss[symIx ss s.nm]).nm = s.nm) = true := List.findIdx_getElem (xs := ss) (p := fun u : Sym => decide (u.nm = s.nm)) (w := h)
  rw [sym_uniq nd (List.getElem_mem h) ms (by simpa using q)]
theorem ok_places {ss : List Sym} (hs : SigOk ss) {s : Sym} (ms : s ∈ ss) : Ok (den_signature_places [sigO ss, nmD s.nm]) fun d => d = natD s.pl := by
  refine ok_run ?_
  unfold b_signature_places
  array_mem_dec
  refine wp_ret ?_
  array_get_dec
  rw [ok_dFld]
  array_get_dec
  rw [fld_listed, ok_ok, ok_dMeth]
  array_get_dec
  rw [self_sig _ _ (by decide +kernel) (by decide +kernel), ok_ok]
  array_get_dec
  refine (ok_number ⟨s, ms, rfl⟩).imp ?_
  rintro _ rfl
  rw [nIxM]
  refine ⟨s, symIx_at hs.nd ms, ?_⟩
  rw [sym_d s]
  array_get_dec
theorem isi_tt (xs : List D) : isiD "tuple" (.tup xs) = .ok (.bl true) := by
  show (match kitB "tuple" "tuple" with | some b => Rs.ok (D.bl b) | none => .bot) = _
  rw [show kitB "tuple" "tuple" = some true by decide +kernel]
end KL

namespace KL
open PySem L2 KD
theorem eq_unit {P : D → Prop} (x : D) (xs : List D) (hpl : D.plains (x :: xs) = true) (h : P (.bl false)) : Ok (gEq (.tup (x :: xs)) (.tup [])) P := by
  rw [ok_eq]
  refine ⟨?_, ?_⟩
  · unfold eqOk
    have hpl' : D.plain (.tup (x :: xs)) = true := by rw [D.plain]; exact hpl
    rw [hpl']
    simp [D.plain, D.plains, D.dep, D.deps]
  · have : eqD (.tup (x :: xs)) (.tup []) = false := by simp [eqD, D.py, D.pys, PyData.eqv, PyData.eqvAll]
    rw [this]; exact h
mutual
theorem Tm.plain : ∀ t : Tm, t.d.plain = true
  | .v nm => by rw [Tm.d]; exact plain_nm nm
  | .n nm ps => by rw [Tm.d, D.plain, D.plains, plain_nm, Tm.plains ps]; rfl
theorem Tm.plains : ∀ ts : List Tm, D.plains (Tm.ds ts) = true
  | [] => by simp [Tm.ds, D.plains]
  | t :: ts => by rw [Tm.ds, D.plains, Tm.plain t, Tm.plains ts]; rfl
end
theorem ok_size {ss : List Sym} (hs : SigOk ss) : ∀ (f : Nat) (t : Tm), t.dep < f → t.cnt ≤ 100000 → t.wf ss → Ok (den_signature_size f [sigO ss, t.d]) fun d => d = natD t.cnt
  | 0, t, h, _, _ => by omega
  | f + 1, .v nm, h, hc, hw => by simp [Tm.wf] at hw
  | f + 1, .n nm ps, h, hc, hw => by
    rw [Tm.wf, Tm.wfs_iff] at hw
    obtain ⟨⟨s, ms, hnm, hpl⟩, hws⟩ := hw
    have hp3 := sym_len hs ms
    have hps : ∀ p ∈ ps, p.dep < f ∧ p.cnt ≤ 100000 := fun p hp => by
      have h1 := Tm.deps_le hp
      rw [Tm.dep] at h
      rw [Tm.cnt_n] at hc
      have h2 : p.cnt ≤ (ps.map Tm.cnt).sum := le_sum (List.mem_map.mpr ⟨p, hp, rfl⟩)
      omega
    have hpn : D.plains (nmD nm :: ps.map Tm.d) = true := by rw [D.plains, plain_nm, ← Tm.ds_map, Tm.plains ps]; rfl
    show Ok (runD 3 (b_signature_size (den_signature_size f)) [sigO ss, (Tm.n nm ps).d]) _
    refine ok_run ?_
    unfold b_signature_size
    rw [Tm.d_n]
    array_mem_dec
    refine wp_seq (wp_if ?_)
    array_get_dec
    rw [ok_dIsi]
    array_get_dec
    rw [isi_tt, ok_ok]
    array_get_dec
    refine ⟨fun q => by simp at q, fun _ => ?_⟩
    refine eq_unit _ _ hpn ?_
    array_get_dec
    refine ⟨fun q => by simp at q, fun _ => ?_⟩
    rw [ok_dIsi]
    array_get_dec
    rw [isi_nm, ok_ok]
    array_get_dec
    refine ⟨fun q => by simp at q, fun _ => wp_nil (wp_seq (wp_if ?_))⟩
    array_get_dec
    rw [ok_dFld]
    array_get_dec
    rw [fld_numbers, ok_ok]
    refine nDicNotIn ⟨s, ms, hnm⟩ ?_
    array_get_dec
    refine ⟨fun q => by simp at q, fun _ => ?_⟩
    rw [ok_dMeth]
    array_get_dec
    rw [self_sig _ _ (by decide +kernel) (by decide +kernel), ok_ok]
    subst hnm
    refine (ok_places hs ms).imp ?_
    rintro _ rfl
    array_get_dec
    refine ⟨fun q => by simp at q; omega, fun _ => wp_nil (wp_ret ?_)⟩
    array_get_dec
    refine ok_compP (zs := ps) (g := Tm.d) (fun p => natD p.cnt) ?_ (by omega) ?_ ?_
    · array_get_dec
      rw [drop1]
    · intro p hp
      refine ⟨_, rfl, rfl, ?_⟩
      unfold cc_signature_size_1
      array_mem_dec
      rw [ok_dMeth]
      array_get_dec
      rw [self_sig _ _ (by decide +kernel) (by decide +kernel), ok_ok]
      exact ok_size hs f p (hps p hp).1 (hps p hp).2 (hws p hp)
    array_get_dec
    rw [show ps.map (fun p => natD p.cnt) = (ps.map Tm.cnt).map natD by rw [List.map_map]; rfl, nSum]
    array_get_dec
    rw [Tm.cnt_n]
end KL

namespace KL
open PySem L2 KD
theorem ok_prank {ss : List Sym} (hs : SigOk ss) : ∀ (f : Nat) (t : Tm), t.dep < f → t.cnt ≤ 100000 → t.wf ss → Ok (den_signature_rank f [sigO ss, t.d]) fun d => d = t.rk ss
  | 0, t, h, _, _ => by omega
  | f + 1, .v nm, h, hc, hw => by simp [Tm.wf] at hw
  | f + 1, .n nm ps, h, hc, hw => by
    rw [Tm.wf, Tm.wfs_iff] at hw
    obtain ⟨⟨s, ms, hnm, hpl⟩, hws⟩ := hw
    have hp3 := sym_len hs ms
    have hps : ∀ p ∈ ps, p.dep < f ∧ p.cnt ≤ 100000 := fun p hp => by
      have h1 := Tm.deps_le hp
      rw [Tm.dep] at h
      rw [Tm.cnt_n] at hc
      have h2 : p.cnt ≤ (ps.map Tm.cnt).sum := le_sum (List.mem_map.mpr ⟨p, hp, rfl⟩)
      omega
    show Ok (runD 4 (b_signature_rank (den_signature_rank f)) [sigO ss, (Tm.n nm ps).d]) _
    refine ok_run ?_
    unfold b_signature_rank
    rw [Tm.d_n]
    array_mem_dec
    refine wp_seq (wp_set ?_)
    array_get_dec
    refine ok_compP (zs := ps) (g := Tm.d) (Tm.rk ss) ?_ (by omega) ?_ ?_
    · array_get_dec
      rw [drop1]
    · intro p hp
      refine ⟨_, rfl, rfl, ?_⟩
      unfold cc_signature_rank_1
      array_mem_dec
      rw [ok_dMeth]
      array_get_dec
      rw [self_sig _ _ (by decide +kernel) (by decide +kernel), ok_ok]
      exact ok_prank hs f p (hps p hp).1 (hps p hp).2 (hws p hp)
    array_get_dec
    refine wp_ret ?_
    array_get_dec
    refine ok_compP (zs := ps) (g := Tm.rk ss) (fun p => natD p.cnt) ?_ (by omega) ?_ ?_
    · array_get_dec
    · intro p hp
      refine ⟨_, rfl, rfl, ?_⟩
      unfold cc_signature_rank_2
      array_mem_dec
      cases p with
      | v x => exact absurd (hws _ hp) (by simp [Tm.wf])
      | n x qs =>
        rw [Tm.rk_n]
        array_get_dec
    array_get_dec
    rw [show ps.map (fun p => natD p.cnt) = (ps.map Tm.cnt).map natD by rw [List.map_map]; rfl, nSum]
    array_get_dec
    rw [ok_dMeth]
    array_get_dec
    rw [self_sig _ _ (by decide +kernel) (by decide +kernel), ok_ok]
    array_get_dec
    refine (ok_number ⟨s, ms, hnm⟩).imp ?_
    rintro _ rfl
    array_get_dec
    rw [Tm.rk_n, Tm.cnt_n]
end KL

namespace KL
open PySem L2 KD
def Tm.kids : Tm → List Tm
  | .v _ => []
  | .n _ ps => ps
def Tm.sub : Tm → List Nat → Option Tm
  | t, [] => some t
  | t, i :: is => match t.kids[i]? with
    | some p => p.sub is
    | none => none
theorem Tm.sub_snoc : ∀ (is : List Nat) (t u : Tm) (i : Nat), t.sub is = some u → t.sub (is ++ [i]) = u.kids[i]?
  | [], t, u, i, h => by
    rw [Tm.sub] at h
    cases h
    rw [List.nil_append, Tm.sub]
    cases t.kids[i]? <;> simp [Tm.sub]
  | j :: is, t, u, i, h => by
    rw [List.cons_append, Tm.sub]
    rw [Tm.sub] at h
    cases q : t.kids[j]? with
    | none => rw [q] at h; cases h
    | some p =>
      rw [q] at h
      exact Tm.sub_snoc is p u i h
theorem ok_way (ss : List Sym) (hs : SigOk ss) (t : Tm) (hw : t.wf ss) (nums : List Nat) (hn : nums.length ≤ 100) : Ok (den_l_way [t.d, .lst (nums.map natD)]) fun d => ∃ (is : List Nat) (u : Tm), d = .tup (is.map natD) ∧ is.length ≤ nums.length ∧ t.sub is = some u ∧ u.wf ss := by
  refine ok_run ?_
  unfold b_l_way
  array_mem_dec
  refine wp_seq (wp_set ?_)
  array_get_dec
  refine wp_seq (wp_for (fun i ρ => ∃ (is : List Nat) (u : Tm), ρ = [.dt u.d, .dt (.lst (nums.map natD)), .dt (.tup (is.map natD)), .no, .no] ∧ is.length ≤ i ∧ t.sub is = some u ∧ u.wf ss) ?_)
  array_get_dec
  refine ⟨⟨[], t, rfl, by simp, by rw [Tm.sub], hw⟩, ?_, ?_⟩
  · rintro k d ρ hd ⟨is, u, rfl, hil, hsub, huw⟩
    obtain ⟨hk, m, _, rfl⟩ := map_at_mem hd
    refine ⟨_, rfl, ?_⟩
    unfold lb_l_way_1
    array_mem_dec
    cases u with
    | v x => simp [Tm.wf] at huw
    | n nm ps =>
      rw [Tm.d_n]
      refine wp_cut (fun ρ => 1 ≤ ps.length ∧ ρ = [.dt (.tup (nmD nm :: ps.map Tm.d)), .dt (.lst (nums.map natD)), .dt (.tup (is.map natD)), .dt (natD m), .no]) (wp_if (Ok.imp (Q := fun b => b = false → 1 ≤ ps.length) ?_ fun b hb => ⟨fun _ => wp_ret ?_, fun e => wp_nil ⟨hb e, rfl⟩⟩)) ?_
      · array_get_dec
        refine ⟨fun _ q => by simp at q, fun z => ?_⟩
        have z' : 1 ≤ ps.length := by
          have : ¬ ps.length + 1 = 1 := by simpa using z
          omega
        exact fun _ => z'
      · array_get_dec
        exact ⟨is, _, rfl, by omega, hsub, huw⟩
      · rintro ρ ⟨h1, rfl⟩
        rw [Tm.wf, Tm.wfs_iff] at huw
        refine wp_seq (wp_set ?_)
        array_get_dec
        rw [subD_le (by omega), nMod]
        refine ⟨by omega, ?_⟩
        have hj : m / 5 % (ps.length + 1 - 1) < ps.length := by
          have := Nat.mod_lt (m / 5) (show 0 < ps.length + 1 - 1 by omega)
          omega
        generalize m / 5 % (ps.length + 1 - 1) = j at hj ⊢
        refine wp_seq (wp_set ?_)
        array_get_dec
        refine ⟨line_ok (by omega), ?_⟩
        refine wp_set ?_
        array_get_dec
        rw [nIxT]
        obtain ⟨p, ep, mp⟩ := at_lt (xs := ps) (k := j) hj
        refine ⟨p.d, by rw [show 1 + j = j + 1 by omega, List.getElem?_cons_succ, List.getElem?_map, ep]; rfl, ?_⟩
        array_mem_dec
        refine ⟨is ++ [j], p, by rw [List.map_append]; rfl, by simp; omega, ?_, huw.2 p mp⟩
        rw [Tm.sub_snoc is t _ j hsub]
        exact ep
  · rintro ρ ⟨is, u, rfl, hil, hsub, huw⟩
    refine wp_ret ?_
    array_get_dec
    exact ⟨is, u, rfl, hil, hsub, huw⟩
end KL

namespace KL
open PySem L2 KD
theorem unit_unit {P : D → Prop} (h : P (.bl true)) : Ok (gEq (.tup []) (.tup [])) P := by
  rw [ok_eq]
  refine ⟨rfl, ?_⟩
  have : eqD (.tup []) (.tup []) = true := by simp [eqD, D.py, D.pys, PyData.eqv, PyData.eqvAll]
  rw [this]; exact h
theorem ok_put (ss : List Sym) (hs : SigOk ss) (u : Tm) (hu : u.wf ss) (huc : u.cnt ≤ 1000) : ∀ (f : Nat) (is : List Nat) (t : Tm), is.length < f → t.wf ss → t.cnt ≤ 1000 → (∃ v, t.sub is = some v) →
    Ok (den_l_put f [t.d, .tup (is.map natD), u.d]) fun d => ∃ r : Tm, d = r.d ∧ r.wf ss ∧ r.cnt ≤ t.cnt + u.cnt
  | 0, is, t, h, _, _, _ => by omega
  | f + 1, [], t, h, hw, hc, hv => by
    show Ok (runD 4 (b_l_put (den_l_put f)) [t.d, .tup [], u.d]) _
    refine ok_run ?_
    unfold b_l_put
    array_mem_dec
    refine wp_seq (wp_if ?_)
    array_get_dec
    refine unit_unit ?_
    array_get_dec
    refine ⟨fun _ => wp_ret ?_, fun q => by simp at q⟩
    array_get_dec
    exact ⟨u, rfl, hu, by omega⟩
  | f + 1, i :: is, .v x, h, hw, hc, hv => by simp [Tm.wf] at hw
  | f + 1, i :: is, .n nm ps, h, hw, hc, hv => by
    rw [Tm.wf, Tm.wfs_iff] at hw
    obtain ⟨⟨s, ms, hnm, hpl⟩, hws⟩ := hw
    have hp3 := sym_len hs ms
    obtain ⟨v, hv⟩ := hv
    rw [Tm.sub, Tm.kids] at hv
    cases ep : ps[i]? with
    | none => rw [ep] at hv; cases hv
    | some p =>
      rw [ep] at hv
      have hi := (List.getElem?_eq_some_iff.mp ep).1
      have mp := List.mem_of_getElem? ep
      have pc : p.cnt ≤ (ps.map Tm.cnt).sum := le_sum (List.mem_map.mpr ⟨p, mp, rfl⟩)
      rw [Tm.cnt_n] at hc
      show Ok (runD 4 (b_l_put (den_l_put f)) [(Tm.n nm ps).d, .tup (natD i :: is.map natD), u.d]) _
      refine ok_run ?_
      unfold b_l_put
      rw [Tm.d_n]
      array_mem_dec
      refine wp_seq (wp_if ?_)
      array_get_dec
      refine eq_unit _ _ (by have := plains_nat (i :: is); rwa [List.map_cons] at this) ?_
      array_get_dec
      refine ⟨fun q => by simp at q, fun _ => wp_nil (wp_seq (wp_set ?_))⟩
      array_get_dec
      refine wp_ret ?_
      array_get_dec
      rw [nIxT]
      refine ⟨p.d, by rw [show 1 + i = i + 1 by omega, List.getElem?_cons_succ, List.getElem?_map, ep]; rfl, ?_⟩
      rw [drop1]
      refine (ok_put ss hs u hu huc f is p (by simp at h; omega) (hws p mp) (by omega) ⟨v, hv⟩).imp ?_
      rintro _ ⟨r, rfl, hrw, hrc⟩
      array_get_dec
      have hsum : (ps.map Tm.cnt).sum = ((ps.take i).map Tm.cnt).sum + (p.cnt + ((ps.drop (i + 1)).map Tm.cnt).sum) := by
        have e : ps = ps.take i ++ (p :: ps.drop (i + 1)) := by
          have e1 := List.take_append_drop i ps
          rw [List.drop_eq_getElem_cons hi] at e1
          have e2 : ps[i] = p := by
            rw [List.getElem?_eq_getElem hi] at ep
            exact Option.some.inj ep
          rw [e2] at e1
          exact e1.symm
        have := congrArg (fun z => (z.map Tm.cnt).sum) e
        simp only [List.map_append, List.sum_append_nat, List.map_cons, List.sum_cons] at this
        exact this
      refine ⟨line_ok (by simp; omega), line_ok (by simp; omega), Tm.n nm (ps.take i ++ [r] ++ ps.drop (i + 1)), ?_, ?_, ?_⟩
      · rw [Tm.d_n, show 1 + i = i + 1 by omega, List.take_succ_cons, List.drop_succ_cons, List.map_append, List.map_append, List.map_take, List.map_drop]
        rfl
      · rw [Tm.wf, Tm.wfs_iff]
        refine ⟨⟨s, ms, hnm, by simp; omega⟩, fun q hq => ?_⟩
        rcases List.mem_append.mp hq with h' | h'
        · rcases List.mem_append.mp h' with h'' | h''
          · exact hws q (List.mem_of_mem_take h'')
          · simp at h''; subst h''; exact hrw
        · exact hws q (List.mem_of_mem_drop h')
      · rw [Tm.cnt_n, Tm.cnt_n, List.map_append, List.map_append, List.sum_append_nat, List.sum_append_nat, List.map_cons, List.map_nil, List.sum_cons, List.sum_nil]
        omega
end KL

namespace KL
open PySem L2 KD
theorem sub_cnt : ∀ (is : List Nat) (t u : Tm), t.sub is = some u → u.cnt ≤ t.cnt
  | [], t, u, h => by rw [Tm.sub] at h; cases h; exact Nat.le_refl _
  | i :: is, t, u, h => by
    rw [Tm.sub] at h
    cases q : t.kids[i]? with
    | none => rw [q] at h; cases h
    | some p =>
      rw [q] at h
      have h1 := sub_cnt is p u h
      cases t with
      | v x => simp [Tm.kids] at q
      | n nm ps =>
        have mp : p ∈ ps := List.mem_of_getElem? q
        have h2 : p.cnt ≤ (ps.map Tm.cnt).sum := le_sum (List.mem_map.mpr ⟨p, mp, rfl⟩)
        rw [Tm.cnt_n]
        omega
theorem sub_wf {ss : List Sym} : ∀ (is : List Nat) (t u : Tm), t.wf ss → t.sub is = some u → u.wf ss
  | [], t, u, hw, h => by rw [Tm.sub] at h; cases h; exact hw
  | i :: is, t, u, hw, h => by
    rw [Tm.sub] at h
    cases q : t.kids[i]? with
    | none => rw [q] at h; cases h
    | some p =>
      rw [q] at h
      cases t with
      | v x => simp [Tm.kids] at q
      | n nm ps =>
        rw [Tm.wf, Tm.wfs_iff] at hw
        exact sub_wf is p u (hw.2 p (List.mem_of_getElem? q)) h
theorem sub_take : ∀ (is : List Nat) (t u : Tm) (k : Nat), t.sub is = some u → ∃ v, t.sub (is.take k) = some v
  | is, t, u, 0, h => ⟨t, by rw [List.take_zero, Tm.sub]⟩
  | [], t, u, k + 1, h => ⟨t, by rw [List.take_nil, Tm.sub]⟩
  | i :: is, t, u, k + 1, h => by
    rw [List.take_succ_cons]
    rw [Tm.sub] at h ⊢
    cases q : t.kids[i]? with
    | none => rw [q] at h; cases h
    | some p =>
      rw [q] at h
      exact sub_take is p u k h
theorem ok_other (T : Tab) (hT : T.ok) (t : Tm) (hw : t.wf T.ss) (hc : t.cnt ≤ 30) (ns : List Int) (nums : List Nat) (hn : nums.length = 9) :
    Ok (den_l_other [T.d, t.d, .fls (ns.map D.int), .lst (nums.map natD)]) fun d => ∃ r : Tm, d = r.d ∧ r.wf T.ss ∧ r.cnt ≤ 60 := by
  obtain ⟨s0, e0, hp0⟩ := hT.s0
  have m0 := List.mem_of_getElem? e0
  have h5 := hT.s5
  refine ok_run ?_
  unfold b_l_other
  array_mem_dec
  refine wp_seq (wp_set ?_)
  array_get_dec
  rw [nIxM]
  obtain ⟨n0, en0, _⟩ := at_lt (xs := nums) (k := 0) (by omega)
  refine ⟨n0, en0, ?_⟩
  array_get_dec
  obtain ⟨n1, en1, _⟩ := at_lt (xs := nums) (k := 1) (by omega)
  refine wp_seq (wp_if ?_)
  array_get_dec
  refine ⟨fun _ => wp_ret ?_, fun _ => wp_nil ?_⟩
  · array_get_dec
    rw [nIxM]
    refine ⟨n1, en1, ?_⟩
    array_get_dec
    obtain ⟨ms, em, hm⟩ := den_numbers ns 6 (1 + n1 % 30) (by omega)
    rw [em, ok_ok]
    array_get_dec
    refine (ok_term T hT ms (by omega) (by omega)).imp ?_
    rintro _ ⟨r, rfl, hrw, hrc⟩
    exact ⟨r, rfl, hrw, by omega⟩
  refine wp_seq (wp_if ?_)
  array_get_dec
  refine ⟨fun _ => wp_ret ?_, fun _ => wp_nil ?_⟩
  · array_get_dec
    exact ⟨t, rfl, hw, by omega⟩
  refine wp_seq (wp_set ?_)
  refine ok_compFP (zs := T.ss) (g := Sym.d) (fun s => decide (s.pl = 0)) Sym.d ?_ (by omega) ?_ ?_
  · rw [tab_d]
    array_get_dec
  · intro s ms
    refine ⟨_, rfl, ?_, fun _ => ?_⟩
    · unfold ct_l_other_1
      array_mem_dec
      rw [sym_d s]
      array_get_dec
    · unfold cc_l_other_1
      array_mem_dec
      array_get_dec
  have hcs : 1 ≤ (T.ss.filter fun s => decide (s.pl = 0)).length := List.length_pos_of_mem (List.mem_filter.mpr ⟨m0, by simpa using hp0⟩)
  have hcm : ∀ s ∈ T.ss.filter (fun s => decide (s.pl = 0)), s ∈ T.ss ∧ s.pl = 0 := fun s h => by
    have := List.mem_filter.mp h
    exact ⟨this.1, by simpa using this.2⟩
  generalize (T.ss.filter fun s => decide (s.pl = 0)) = cs at hcs hcm ⊢
  array_mem_dec
  refine wp_seq (wp_set ?_)
  array_get_dec
  rw [nIxM]
  refine ⟨n1, en1, ?_⟩
  array_get_dec
  refine ⟨by omega, ?_⟩
  rw [nIxM]
  obtain ⟨c, ec, mc⟩ := at_lt (xs := cs) (k := n1 % cs.length) (Nat.mod_lt _ (by omega))
  refine ⟨c, ec, ?_⟩
  rw [sym_d c]
  array_get_dec
  refine wp_cut (fun ρ => ∃ u : Tm, ρ = [.dt T.d, .dt t.d, .dt (.fls (ns.map D.int)), .dt (.lst (nums.map natD)), .dt (natD (n0 % 4)), .dt (.lst (cs.map Sym.d)), .dt u.d, .no, .no, .no] ∧ u.wf T.ss ∧ u.cnt ≤ 30) (wp_if ?_) ?_
  · array_get_dec
    refine ⟨fun _ => wp_seq (wp_set ?_), fun _ => wp_nil ⟨Tm.n c.nm [], by rw [Tm.d_n]; rfl, ?_, by simp [Tm.cnt, Tm.cnts]⟩⟩
    · array_get_dec
      obtain ⟨_, ew, is, v, rfl, hil, hsub, _⟩ := (ok_way T.ss hT.ss t hw (List.take (5 - 2) (List.drop 2 nums)) (by rw [List.length_take, List.length_drop]; omega)).ex
      refine wp_for (fun i ρ => ∃ w : Tm, ρ = [.dt T.d, .dt t.d, .dt (.fls (ns.map D.int)), .dt (.lst (nums.map natD)), .dt (natD (n0 % 4)), .dt (.lst (cs.map Sym.d)), .dt w.d, .no, .no, .no] ∧ t.sub (is.take i) = some w) ?_
      array_get_dec
      rw [← List.map_drop, ← List.map_take, ew, ok_ok]
      array_get_dec
      refine ⟨⟨t, rfl, by rw [List.take_zero, Tm.sub]⟩, ?_, ?_⟩
      · rintro k d ρ hd ⟨w, rfl, hwk⟩
        obtain ⟨j, ej, rfl⟩ := map_at hd
        refine ⟨_, rfl, ?_⟩
        unfold lb_l_other_1
        array_mem_dec
        obtain ⟨p, hp⟩ := sub_take is t v (k + 1) hsub
        have hp' := hp
        rw [List.take_add_one, ej] at hp'
        have hp2 : w.kids[j]? = some p := by rw [← Tm.sub_snoc _ t w j hwk]; exact hp'
        refine wp_set ?_
        cases w with
        | v x => simp [Tm.kids] at hp2
        | n nm ps =>
          rw [Tm.d_n]
          array_get_dec
          rw [nIxT]
          refine ⟨p.d, by rw [show 1 + j = j + 1 by omega, List.getElem?_cons_succ, List.getElem?_map, show ps[j]? = some p from hp2]; rfl, ?_⟩
          array_mem_dec
          exact ⟨p, rfl, hp⟩
      · rintro ρ ⟨w, rfl, hwk⟩
        exact ⟨w, rfl, sub_wf _ t w hw hwk, by have := sub_cnt _ t w hwk; omega⟩
    · rw [Tm.wf]
      exact ⟨⟨c, (hcm c mc).1, rfl, by rw [(hcm c mc).2]; rfl⟩, by rw [Tm.wfs]; trivial⟩
  rintro ρ ⟨u, rfl, huw, huc⟩
  refine wp_seq (wp_set ?_)
  array_get_dec
  rw [← List.map_drop, ← List.map_take]
  refine (ok_way T.ss hT.ss t hw _ (by rw [List.length_take, List.length_drop]; omega)).imp ?_
  rintro _ ⟨is, v, rfl, hil, hsub, _⟩
  rw [List.length_take, List.length_drop] at hil
  refine (ok_put T.ss hT.ss u huw (by omega) 8 is t (by omega) hw (by omega) ⟨v, hsub⟩).imp ?_
  rintro _ ⟨r, rfl, hrw, hrc⟩
  have hrd := Tm.dep_cnt r
  refine wp_seq (wp_if ?_)
  array_get_dec
  refine (ok_lrank T hT 70 r (by omega) (by omega) hrw).imp ?_
  rintro _ rfl
  cases r with
  | v x => simp [Tm.wf] at hrw
  | n nm ps =>
    rw [Tm.rk_n]
    array_get_dec
    refine ⟨fun _ => wp_ret ?_, fun _ => wp_nil (wp_ret ?_)⟩
    · array_get_dec
      exact ⟨t, rfl, hw, by omega⟩
    · array_get_dec
      exact ⟨_, rfl, hrw, by omega⟩
end KL

namespace KL
open PySem L2 KD
theorem rk_v (ss : List Sym) (x : List Nat) : (Tm.v x).rk ss = .non := by rw [Tm.rk]
mutual
theorem rk_plain (ss : List Sym) : ∀ t : Tm, (t.rk ss).plain = true
  | .v x => by rw [Tm.rk]; rfl
  | .n nm ps => by
    rw [Tm.rk]
    simp [D.plain, D.plains, natD, rks_plain ss ps]
theorem rks_plain (ss : List Sym) : ∀ ts : List Tm, D.plains (Tm.rks ss ts) = true
  | [] => by simp [Tm.rks, D.plains]
  | t :: ts => by rw [Tm.rks, D.plains, rk_plain ss t, rks_plain ss ts]; rfl
end
mutual
theorem rk_dep (ss : List Sym) : ∀ t : Tm, (t.rk ss).dep ≤ 2 * t.dep
  | .v x => by rw [Tm.rk]; simp [D.dep]
  | .n nm ps => by
    have := rks_dep ss ps
    rw [Tm.rk, Tm.dep]
    simp only [D.dep, D.deps, natD]
    omega
theorem rks_dep (ss : List Sym) : ∀ ts : List Tm, D.deps (Tm.rks ss ts) ≤ 2 * Tm.deps ts
  | [] => by simp [Tm.rks, D.deps]
  | t :: ts => by
    have h1 := rk_dep ss t
    have h2 := rks_dep ss ts
    rw [Tm.rks, D.deps, Tm.deps]
    omega
end
mutual
theorem rk_ltOk (ss : List Sym) : ∀ t u : Tm, t.wf ss → u.wf ss → ltOk (t.rk ss).py (u.rk ss).py = true
  | .v x, u, h, _ => by simp [Tm.wf] at h
  | .n nm ps, .v x, _, h => by simp [Tm.wf] at h
  | .n nm ps, .n nm' ps', h, h' => by
    rw [Tm.wf] at h h'
    rw [Tm.rk, Tm.rk]
    simp [D.py, D.pys, ltOk, ltOks, natD, rks_ltOk ss ps ps' h.2 h'.2]
theorem rks_ltOk (ss : List Sym) : ∀ ts us : List Tm, Tm.wfs ss ts → Tm.wfs ss us → ltOks (D.pys (Tm.rks ss ts)) (D.pys (Tm.rks ss us)) = true
  | [], us, _, _ => by simp [Tm.rks, D.pys, ltOks]
  | t :: ts, [], _, _ => by simp [Tm.rks, D.pys, ltOks]
  | t :: ts, u :: us, h, h' => by
    rw [Tm.wfs] at h h'
    rw [Tm.rks, Tm.rks, D.pys, D.pys, ltOks, rk_ltOk ss t u h.1 h'.1, rks_ltOk ss ts us h.2 h'.2]
    rfl
end
theorem ok_lt_rk {P : D → Prop} {ss : List Sym} {t u : Tm} (ht : t.wf ss) (hu : u.wf ss) (hd : t.dep ≤ 90) (h : P (.bl (ltP (t.rk ss).py (u.rk ss).py))) : Ok (gLtT (t.rk ss) (u.rk ss)) P := by
  have c : ((t.rk ss).plain && (u.rk ss).plain && decide ((t.rk ss).dep ≤ 190) && ltOk (t.rk ss).py (u.rk ss).py) = true := by
    have := rk_dep ss t
    rw [rk_plain, rk_plain, rk_ltOk ss t u ht hu, decide_eq_true (by omega)]
    rfl
  cases t with
  | v x => simp [Tm.wf] at ht
  | n nm ps =>
    have e : gLtT ((Tm.n nm ps).rk ss) (u.rk ss) = .ok (.bl (ltP ((Tm.n nm ps).rk ss).py (u.rk ss).py)) := by
      generalize hy : u.rk ss = y at c ⊢
      rw [Tm.rk_n] at c ⊢
      unfold gLtT
      dsimp only
      rw [if_pos c]
    rw [e, ok_ok]
    exact h
theorem ok_precedes {ss : List Sym} (hs : SigOk ss) {t u : Tm} (ht : t.wf ss) (hu : u.wf ss) (htc : t.cnt ≤ 60) (huc : u.cnt ≤ 60) : Ok (den_signature_precedes [sigO ss, t.d, u.d]) fun d => d = .bl (ltP (t.rk ss).py (u.rk ss).py) := by
  have h1 := Tm.dep_cnt t
  have h2 := Tm.dep_cnt u
  refine ok_run ?_
  unfold b_signature_precedes
  array_mem_dec
  refine wp_seq (wp_expr ?_)
  rw [ok_dMeth]
  array_get_dec
  rw [self_sig _ _ (by decide +kernel) (by decide +kernel), ok_ok]
  refine (ok_size hs 70 t (by omega) (by omega) ht).imp ?_
  rintro _ rfl
  refine wp_seq (wp_expr ?_)
  rw [ok_dMeth]
  array_get_dec
  rw [self_sig _ _ (by decide +kernel) (by decide +kernel), ok_ok]
  refine (ok_size hs 70 u (by omega) (by omega) hu).imp ?_
  rintro _ rfl
  refine wp_ret ?_
  array_get_dec
  rw [ok_dMeth]
  array_get_dec
  rw [self_sig _ _ (by decide +kernel) (by decide +kernel), ok_ok]
  refine (ok_prank hs 70 t (by omega) (by omega) ht).imp ?_
  rintro _ rfl
  rw [ok_dMeth]
  array_get_dec
  rw [self_sig _ _ (by decide +kernel) (by decide +kernel), ok_ok]
  refine (ok_prank hs 70 u (by omega) (by omega) hu).imp ?_
  rintro _ rfl
  exact ok_lt_rk ht hu (by omega) rfl
theorem isi_bb (b : Bool) : isiD "bool" (.bl b) = .ok (.bl true) := rfl
theorem ok_neB {P : D → Prop} (b : Bool) (h : P (.bl false)) : Ok (gNe (.bl b) (.bl b)) P := by
  rw [ok_ne]
  refine ⟨rfl, ?_⟩
  rw [eqD_self _ rfl]
  exact h
theorem ok_dMakeS {chk : List D → Rs D} {fa : Ev → Rs D} {ρ : Ev} {P : D → Prop} : Ok (dMakeS chk fa ρ) P = Ok (fa ρ) fun d => Ok (mkS chk d) P := by unfold dMakeS; rw [ok_bind]
theorem law_true (ns : List Int) (hn : ns.length ≤ 63) : den_law [.fls (ns.map D.int)] = .ok (.bl true) := by
  refine Ok.eq ?_
  refine ok_run ?_
  unfold b_law
  array_mem_dec
  refine wp_seq (wp_set ?_)
  array_get_dec
  refine (ok_random ns 0 2 (by omega) (by omega)).imp ?_
  rintro _ ⟨T, rfl, hT⟩
  refine wp_seq (wp_set ?_)
  rw [ok_dMakeS, tab_d]
  array_get_dec
  rw [show mkS den_check_symbol (.lst (T.ss.map Sym.d)) = .ok (sigO T.ss) from den_sig hT.ss, ok_ok, ← tab_d]
  refine wp_seq (wp_set ?_)
  array_get_dec
  obtain ⟨nums, en, hl⟩ := den_numbers ns 4 9 (by decide)
  rw [en, ok_ok]
  refine wp_seq (wp_set ?_)
  array_get_dec
  rw [nIxM]
  obtain ⟨n8, e8, _⟩ := at_lt (xs := nums) (k := 8) (by omega)
  refine ⟨n8, e8, ?_⟩
  array_get_dec
  obtain ⟨ms, em, hm⟩ := den_numbers ns 5 (1 + n8 % 30) (by omega)
  rw [em, ok_ok]
  array_get_dec
  refine (ok_term T hT ms (by omega) (by omega)).imp ?_
  rintro _ ⟨t, rfl, htw, htc⟩
  refine wp_seq (wp_set ?_)
  array_get_dec
  refine (ok_other T hT t htw (by omega) ns nums hl).imp ?_
  rintro _ ⟨u, rfl, huw, huc⟩
  refine wp_seq (wp_for (fun i ρ => ρ = [.dt (.fls (ns.map D.int)), .dt T.d, .dt (sigO T.ss), .dt (.lst (nums.map natD)), .dt t.d, .dt u.d, .no, .no]) ?_)
  array_get_dec
  refine ⟨?_, ?_⟩
  · rintro k d ρ hd rfl
    have key : ∃ a b : Tm, d = .tup [a.d, b.d] ∧ a.wf T.ss ∧ b.wf T.ss ∧ a.cnt ≤ 60 ∧ b.cnt ≤ 60 := by
      match k, hd with
      | 0, hd => cases hd; exact ⟨t, u, rfl, htw, huw, by omega, huc⟩
      | 1, hd => cases hd; exact ⟨u, t, rfl, huw, htw, huc, by omega⟩
      | 2, hd => cases hd; exact ⟨t, t, rfl, htw, htw, by omega, by omega⟩
      | k + 3, hd => simp at hd
    obtain ⟨a, b, rfl, haw, hbw, hac, hbc⟩ := key
    have h1 := Tm.dep_cnt a
    have h2 := Tm.dep_cnt b
    refine ⟨_, rfl, ?_⟩
    unfold lb_law_1
    array_mem_dec
    refine wp_seq (wp_set ?_)
    rw [ok_dMeth]
    array_get_dec
    rw [self_sig _ _ (by decide +kernel) (by decide +kernel), ok_ok]
    refine (ok_precedes hT.ss haw hbw hac hbc).imp ?_
    rintro _ rfl
    refine wp_if ?_
    array_get_dec
    rw [ok_dIsi]
    array_get_dec
    rw [isi_bb, ok_ok]
    array_get_dec
    refine ⟨fun q => by simp at q, fun _ => ?_⟩
    refine (ok_lrank T hT 70 a (by omega) (by omega) haw).imp ?_
    rintro _ rfl
    refine (ok_lrank T hT 70 b (by omega) (by omega) hbw).imp ?_
    rintro _ rfl
    refine ok_lt_rk haw hbw (by omega) ?_
    refine ok_neB _ ?_
    array_get_dec
    exact ⟨fun q => by simp at q, fun _ => wp_nil (by array_mem_dec)⟩
  · rintro ρ rfl
    refine wp_ret ?_
    array_get_dec
end KL

namespace KL
open PySem L2 KD
abbrev R : PySem.W.OpenRow := PySem.W.OpenLaw.row PySem.Challenge.rw_keptkinds_k04_order_of_terms
abbrev hk : PySem.W.Hook := hookP 5 fa fn
def ob (s : PySem.W.SharedT) : AlP := obsPG 5 fa fn (HandSHeadRun.getT s)
theorem ob_eq (s : PySem.W.SharedT) : ob s = hk.obs s.abs := obsPG_eq (HandSHeadRun.getT_eq s)
def loose : List Str := (["_wall", "__name__", "KindsError", "BadSymbol", "BadTerm", "LETTERS", "is_name", "check_symbol", "Signature", "_law_cell", "_law_numbers", "_law_names", "_law_turn", "_law_symbols", "_law_lows", "_law_entries", "_law_count", "_law_rule", "_law_rules", "_law_random", "_law_up", "_law_combine", "_law_fitting", "_law_term", "_law_way", "_law_put", "_law_rank", "_law_other"] : List Str)
theorem run (w : World) : HandSHeadRun.RunEq R (PySem.W.view R.prog [30]) hk ob 3000 loose w := by
  intro os
  kernel_rfl
theorem facts {P : Program} {w : World} {K : PySem.W.Frag} {h : Heap} {mg : Str → Option Value} {f : Addr} (X : K.In h) (G : h.Ns mainGlobals mg) (hfa : mg ("law" : Str) = some (.ref f)) (c : SaysP fa fn K) :
    ∃ fd : FuncData, (∀ (s : Shared) (v : Value), BindsTo s fd ⟨[v], []⟩ [("_law_script", v)]) ∧ ∀ base : Heap, K.In base → base.Ns mainGlobals mg → FnOk P w K mg base (L2.CX P w) 75 f fd ["_law_script"] (spD K 1 den_law) := by
  have T : Tx fa fn K mg := ⟨⟨h, X, G⟩, c⟩
  obtain ⟨fd, F⟩ := c.def_ 27 (d := d_law) (by rfl)
  have e := hfa.symm.trans (T.glo 0)
  cases e
  have b := FunD.bindsA (ps := ["_law_script"]) F fun _ _ _ _ _ _ us hl => match us, hl with | [_], _ => rfl
  refine ⟨fd, fun s v => b s [v] rfl, fun base _ _ => ?_⟩
  have F_l_cell : FnD P w K mg base 1 (gAd "_law_cell") 2 den_l_cell := ok_l_cell T
  have F_l_numbers : FnD P w K mg base 2 (gAd "_law_numbers") 3 den_l_numbers := ok_l_numbers T F_l_cell
  have F_l_names : FnD P w K mg base 1 (gAd "_law_names") 2 den_l_names := ok_l_names T
  have F_l_turn : FnD P w K mg base 1 (gAd "_law_turn") 2 den_l_turn := ok_l_turn T
  have F_l_symbols : FnD P w K mg base 2 (gAd "_law_symbols") 1 den_l_symbols := ok_l_symbols T F_l_names F_l_turn
  have F_l_lows : FnD P w K mg base 2 (gAd "_law_lows") 2 den_l_lows := ok_l_lows T F_l_turn
  have F_l_entries : FnD P w K mg base 1 (gAd "_law_entries") 3 den_l_entries := ok_l_entries T
  have F_l_count : FnD P w K mg base 71 (gAd "_law_count") 1 (den_l_count 70) := ok_l_count T
  have F_l_rule : FnD P w K mg base 72 (gAd "_law_rule") 4 den_l_rule := ok_l_rule T F_l_count
  have F_l_rules : FnD P w K mg base 73 (gAd "_law_rules") 3 den_l_rules := ok_l_rules T F_l_numbers F_l_names F_l_rule
  have F_l_random : FnD P w K mg base 74 (gAd "_law_random") 3 den_l_random := ok_l_random T F_l_numbers F_l_symbols F_l_names F_l_entries F_l_rules F_l_lows
  have F_l_up : FnD P w K mg base 1 (gAd "_law_up") 2 den_l_up := ok_l_up T
  have F_l_combine : FnD P w K mg base 2 (gAd "_law_combine") 3 den_l_combine := ok_l_combine T F_l_up
  have F_l_fitting : FnD P w K mg base 3 (gAd "_law_fitting") 3 den_l_fitting := ok_l_fitting T F_l_combine
  have F_l_term : FnD P w K mg base 72 (gAd "_law_term") 2 den_l_term := ok_l_term T F_l_fitting F_l_count
  have F_l_way : FnD P w K mg base 1 (gAd "_law_way") 2 den_l_way := ok_l_way T
  have F_l_put : FnD P w K mg base 9 (gAd "_law_put") 3 (den_l_put 8) := ok_l_put T
  have F_l_rank : FnD P w K mg base 71 (gAd "_law_rank") 2 (den_l_rank 70) := ok_l_rank T
  have F_l_other : FnD P w K mg base 73 (gAd "_law_other") 4 den_l_other := ok_l_other T F_l_term F_l_numbers F_l_way F_l_put F_l_rank
  have F_is_name : FnD P w K mg base 1 (gAd "is_name") 1 den_is_name := ok_is_name T
  have F_check_symbol : FnD P w K mg base 2 (gAd "check_symbol") 2 den_check_symbol := ok_check_symbol T F_is_name
  have F_sig : SigF P w K mg base 3 den_check_symbol := ok_sig T F_check_symbol
  have F_signature_number : FnD P w K mg base 1 (mAd "Signature" "number") 2 den_signature_number := ok_signature_number T
  have F_signature_places : FnD P w K mg base 2 (mAd "Signature" "places") 2 den_signature_places := ok_signature_places T F_signature_number
  have F_signature_size : FnD P w K mg base 72 (mAd "Signature" "size") 2 (den_signature_size 70) := ok_signature_size T F_signature_places
  have F_signature_rank : FnD P w K mg base 71 (mAd "Signature" "rank") 2 (den_signature_rank 70) := ok_signature_rank T F_signature_number
  have F_signature_precedes : FnD P w K mg base 73 (mAd "Signature" "precedes") 3 den_signature_precedes := ok_signature_precedes T F_signature_size F_signature_rank
  exact ok_law T F_l_random F_l_numbers F_l_term F_l_other F_signature_precedes F_l_rank F_sig F
end KL
open PySem PySem.W PySem.Calls PyProof.Rows
theorem PySem.Challenge.cw_keptkinds_k04_order_of_terms_holds : PySem.Challenge.rw_keptkinds_k04_order_of_terms.Holds := by
  w_on; o_law
  refine HandSHeadRun.head_any (r := OpenLaw.row PySem.Challenge.rw_keptkinds_k04_order_of_terms) (q := view (OpenLaw.row PySem.Challenge.rw_keptkinds_k04_order_of_terms).prog [30]) (H := KL.hk) (ob := KL.ob) (M := 3000) (loose := KL.loose) (d := HandSHeadRun.topDef (OpenLaw.row PySem.Challenge.rw_keptkinds_k04_order_of_terms).prog 30) (kwd := []) KL.ob_eq
    (by kernel_rfl) (fun s => by kernel_rfl) KL.run (by kernel_rfl) (by kernel_rfl) (by kernel_rfl) (by rfl) (by first | assumption | decide +kernel) (by decide +kernel) ⟨rfl, rfl, rfl, rfl, rfl, by decide +kernel⟩ ?hw ?hc
  case hw => w_witness2
  case hc =>
    refine KD.law_end (l := PySem.Challenge.rw_keptkinds_k04_order_of_terms) (n := 63) (k := 75) (x := "_law_script") rfl (by decide) (by kernel_rfl) ⟨rfl, by decide, by decide⟩ ?F
    intro w mg fa h Y G hmg0
    obtain ⟨K, KX, c⟩ := Y
    have hmg : mg ("law" : PySem.Str) = some (.ref fa) := by
      have e : (HandSHeadRun.topDef (OpenLaw.row PySem.Challenge.rw_keptkinds_k04_order_of_terms).prog 30).name = ("law" : PySem.Str) := by kernel_rfl
      rw [← e]
      exact hmg0
    obtain ⟨fd, hb, hF⟩ := KL.facts (P := (PySem.Challenge.rw_keptkinds_k04_order_of_terms).prog) (w := w) KX G hmg c
    exact ⟨K, fd, KL.den_law, KX, hb, KL.law_true, hF⟩

