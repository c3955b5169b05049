import PyProof.Rows.All
import Wide.All
import OpenK.AllK
import Wide.FinOn
import HandS.ForMost
import HandS.ForExc
import HandS.Deep
import HandS.IsInst
import HandS.Property
import HandS.Defaults
import HandS.HeadHook2
import HandS.ExcCtx
import KE.KDictKeyed
import HandS.TupAny
import HandS.TupLe
import HandS.More
import PyProof.P3In
import PyProof.StrOps2
import HandS.Head0
import HandS.Head1
import HandS.Head2
import HandS.HeadEnd
import HandS.HeadHook1
import HandS.DictComp
import HandS.MakeKwOnly
import HandS.ExcInit
import KE.KExcSuper
import HandS.ExcSuper
import HandS.ExcField
import HandS.ExcIs
import HandS.HotCalls
import PySem.Challenge.RW_keptkinds_k09_invalid_entries
set_option Elab.async false
set_option linter.all false
set_option maxRecDepth 100000
set_option maxHeartbeats 4000000
/-! KD0: data, what stands for it, slots. -/
namespace KD
open PySem L2

inductive D where
  | non | bl (b : Bool) | int (i : Int) | str (x : Str)
  | tup (xs : List D) | lst (xs : List D) | fls (xs : List D) | dic (ks vs : List D) | ob (c : Str) (ns : List Str) (fs : List D)

/-- a value, an error of the class c with these fields, or nothing told -/
inductive Rs (α : Type) where
  | ok (a : α) | xc (c : Str) (ns : List Str) (fs : List D) | bot
def Rs.bind {α β : Type} : Rs α → (α → Rs β) → Rs β
  | .ok a, k => k a
  | .xc c n f, _ => .xc c n f
  | .bot, _ => .bot
@[simp] theorem Rs.bind_ok {α β : Type} (a : α) (k : α → Rs β) : (Rs.ok a).bind k = k a := rfl
@[simp] theorem Rs.bind_xc {α β : Type} (c n f) (k : α → Rs β) : (Rs.xc c n f : Rs α).bind k = .xc c n f := rfl
@[simp] theorem Rs.bind_bot {α β : Type} (k : α → Rs β) : (Rs.bot : Rs α).bind k = .bot := rfl

section
variable (K : PySem.W.Frag)
mutual
inductive Dp (G : Hp) : V → D → Prop
  | non : Dp G .non .non
  | bl (b : Bool) : Dp G (.bl b) (.bl b)
  | int (i : Int) : Dp G (.int i) (.int i)
  | str (x : Str) : PyData.strOk x = true → Dp G (.str x) (.str x)
  | tup {a : Addr} {xs : List V} {ds : List D} : SqT K G a xs → DpAll G xs ds → Dp G (.ref a) (.tup ds)
  | lst {a : Addr} {xs : List V} {ds : List D} : G a = some (.lst xs) → DpAll G xs ds → Dp G (.ref a) (.lst ds)
  | fls {a : Addr} {xs : List V} {ds : List D} : SqL K G a xs → DpAll G xs ds → Dp G (.ref a) (.fls ds)
  | dic {a : Addr} {kvs : List (Key × V)} {ks ds : List D} : G a = some (.dK kvs) → DpAll G (kvs.map fun p => kV p.1) ks → DpAll G (kvs.map (·.2)) ds → Dp G (.ref a) (.dic ks ds)
  | ob {a dx : Addr} {c : Str} {fs : List (Str × V)} {ds : List D} : G a = some (.ins (He.ga K c) dx fs) → DpAll G (fs.map (·.2)) ds → Dp G (.ref a) (.ob c (fs.map (·.1)) ds)
inductive DpAll (G : Hp) : List V → List D → Prop
  | nil : DpAll G [] []
  | cons {v : V} {vs : List V} {d : D} {ds : List D} : Dp G v d → DpAll G vs ds → DpAll G (v :: vs) (d :: ds)
end
end

theorem SqT.mono {K : PySem.W.Frag} {G G' : Hp} {a : Addr} {xs : List V} (s : Same G G') (h : SqT K G a xs) : SqT K G' a xs := by
  rcases h with h | h
  · rcases h with h | ⟨o, h⟩
    · exact .inl (.inl (s _ _ h))
    · exact .inl (.inr ⟨o, s _ _ h⟩)
  · exact .inr h

section
variable {K : PySem.W.Frag} {G G' H H' : Hp}
mutual
theorem Dp.mono (s : Same G G') : ∀ (d : D) (v : V), Dp K G v d → Dp K G' v d
  | .non, _, h => by cases h; exact .non
  | .bl _, _, h => by cases h; exact .bl _
  | .int _, _, h => by cases h; exact .int _
  | .str _, _, h => by
    cases h with
    | str _ hx => exact .str _ hx
  | .tup ds, _, h => by
    cases h with
    | tup hs ha => exact .tup (KD.SqT.mono s hs) (DpAll.mono s ds _ ha)
  | .lst ds, _, h => by
    cases h with
    | lst hs ha => exact .lst (s _ _ hs) (DpAll.mono s ds _ ha)
  | .fls ds, _, h => by
    cases h with
    | fls hs ha => exact .fls (s.seq hs) (DpAll.mono s ds _ ha)
  | .dic ks ds, _, h => by
    cases h with
    | dic hs hk ha => exact .dic (s _ _ hs) (DpAll.mono s ks _ hk) (DpAll.mono s ds _ ha)
  | .ob c ns ds, _, h => by
    cases h with
    | ob hs ha => exact .ob (s _ _ hs) (DpAll.mono s ds _ ha)
theorem DpAll.mono (s : Same G G') : ∀ (ds : List D) (vs : List V), DpAll K G vs ds → DpAll K G' vs ds
  | [], _, h => by cases h; exact .nil
  | d :: ds, _, h => by
    cases h with
    | cons h1 h2 => exact .cons (Dp.mono s d _ h1) (DpAll.mono s ds _ h2)
end
theorem Dp.up (s : Same G G') {d : D} {v : V} (h : Dp K G v d) : Dp K G' v d := Dp.mono s d v h
theorem DpAll.up (s : Same G G') {d : List D} {v : List V} (h : DpAll K G v d) : DpAll K G' v d := DpAll.mono s d v h
theorem DpAll.length : ∀ {vs : List V} {ds : List D}, DpAll K G vs ds → vs.length = ds.length
  | _, _, .nil => rfl
  | _, _, .cons _ t => by simp [DpAll.length t]
theorem DpAll.append : ∀ {vs ws : List V} {ds es : List D}, DpAll K G vs ds → DpAll K G ws es → DpAll K G (vs ++ ws) (ds ++ es)
  | _, _, _, _, .nil, h => h
  | _, _, _, _, .cons a t, h => .cons a (DpAll.append t h)
theorem DpAll.get : ∀ {vs : List V} {ds : List D} {i : Nat} {v : V}, DpAll K G vs ds → vs[i]? = some v → ∃ d, ds[i]? = some d ∧ Dp K G v d
  | _, _, i, v, .nil, e => by simp at e
  | _, _, 0, v, .cons a t, e => by simp at e; subst e; exact ⟨_, rfl, a⟩
  | _, _, i + 1, v, .cons a t, e => by
    obtain ⟨d, h1, h2⟩ := DpAll.get (i := i) (v := v) t (by simpa using e)
    exact ⟨d, by simpa using h1, h2⟩
theorem DpAll.getD : ∀ {vs : List V} {ds : List D} {i : Nat} {d : D}, DpAll K G vs ds → ds[i]? = some d → ∃ v, vs[i]? = some v ∧ Dp K G v d
  | _, _, i, v, .nil, e => by simp at e
  | _, _, 0, v, .cons a t, e => by simp at e; subst e; exact ⟨_, rfl, a⟩
  | _, _, i + 1, v, .cons a t, e => by
    obtain ⟨d, h1, h2⟩ := DpAll.getD (i := i) (d := v) t (by simpa using e)
    exact ⟨d, by simpa using h1, h2⟩
theorem DpAll.take : ∀ {vs : List V} {ds : List D} (n : Nat), DpAll K G vs ds → DpAll K G (vs.take n) (ds.take n)
  | _, _, 0, _ => .nil
  | _, _, _ + 1, .nil => .nil
  | _, _, n + 1, .cons a t => .cons a (DpAll.take n t)
theorem DpAll.drop : ∀ {vs : List V} {ds : List D} (n : Nat), DpAll K G vs ds → DpAll K G (vs.drop n) (ds.drop n)
  | _, _, 0, h => h
  | _, _, _ + 1, .nil => .nil
  | _, _, n + 1, .cons _ t => DpAll.drop n t

/-- only new things were laid; G is the part that data may lean on -/
structure Grow (H G H' G' : Hp) : Prop where
  hh : Same H H'
  gg : Same G G'
  gh : Same G' H'
  nw : ∀ a o, G' a = some o → G a = some o ∨ H a = none
theorem Grow.refl (s : Same G H) : Grow H G H G := ⟨Same.refl _, Same.refl _, s, fun _ _ h => .inl h⟩
theorem Grow.trans {H1 G1 H2 G2 : Hp} (a : Grow H G H1 G1) (b : Grow H1 G1 H2 G2) : Grow H G H2 G2 :=
  ⟨a.hh.trans b.hh, a.gg.trans b.gg, b.gh, fun c o h => by
    rcases b.nw c o h with h | h
    · exact a.nw c o h
    · exact .inr (a.hh.free h)⟩
theorem same_upd {H : Hp} {a : Addr} {o : HO} (n : H a = none) : Same H (upd H a o) := fun b u h => by rw [upd_ne (ne_of_none h n)]; exact h
/-- a new data object -/
theorem Grow.laid (s : Same G H) {a : Addr} {o : HO} (n : H a = none) : Grow H G (upd H a o) (upd G a o) := by
  have ng : G a = none := s.free n
  refine ⟨same_upd n, same_upd ng, fun b u h => ?_, fun b u h => ?_⟩
  · by_cases e : b = a
    · subst e; rw [upd_same] at h ⊢; exact h
    · rw [upd_ne e] at h ⊢; exact s b u h
  · by_cases e : b = a
    · subst e; exact .inr n
    · rw [upd_ne e] at h; exact .inl h
/-- a new thing beside the data -/
theorem Grow.beside (s : Same G H) {a : Addr} {o : HO} (n : H a = none) : Grow H G (upd H a o) G :=
  ⟨same_upd n, Same.refl _, s.trans (same_upd n), fun _ _ h => .inl h⟩

/-- a dict whose keys are tuples, nested: keys, the tuples' places, values -/
def dnO (w : World) (a : Addr) (xs : List (NestedKey × Addr × V)) : HO := .ext fun h => xs.length ≤ sizeLine ∧ (a == sysModules) = false ∧ (∀ x ∈ xs, x.1.depth ≤ 8) ∧ ∃ (us : List (NestedKey × Addr × Value)) (o : Obj) (es : Array DictEntry) (ep : Nat),
  Paired (fun (p : NestedKey × Addr × V) (q : NestedKey × Addr × Value) => p.1 = q.1 ∧ p.2.1 = q.2.1 ∧ RelV p.2.2 q.2.2) xs us ∧ h.get? a = some o ∧ o.ExactDict ∧ o.data = .dict es ep ∧
  es.toList = us.map (fun x => (⟨NestedKey.hash w x.1, .ref x.2.1, x.2.2⟩ : DictEntry)) ∧ (us.map (·.1)).Nodup

mutual
def D.nk : D → Option NestedKey
  | .non => some .none
  | .bl b => some (.num (if b = true then 1 else 0))
  | .int i => some (.num i)
  | .str x => some (.text x)
  | .tup xs => (D.nks xs).map .tup
  | _ => none
def D.nks : List D → Option (List NestedKey)
  | [] => some []
  | d :: ds => d.nk.bind fun k => (D.nks ds).map (k :: ·)
end
/-- a slot: nothing told; data; an owned list; an owned dict; an owned object; an owned dict with nested keys -/
inductive Sl where
  | no | dt (d : D) | ol (xs : List D) | od (ks vs : List D) | oo (p : Option Addr) (c : Str) (ns : List Str) (fs : List D) | on (w : World) (ks vs : List D) | rf (a : Addr) | ex (a : Addr) (od : Option Addr) (ns : List Str) (fs : List D)
abbrev Ev := List Sl
def Sl.own : Sl → Bool
  | .ol _ => true
  | .od _ _ => true
  | .oo _ _ _ _ => true
  | .on _ _ _ => true
  | _ => false
/-- the dict of an error -/
def XdOk (K : PySem.W.Frag) (_H G : Hp) : Option Addr → List Str → List D → Prop
  | none, ns, fs => ns = [] ∧ fs = []
  | some dx, ns, fs => ∃ vs : List (Str × V), G dx = some (.xd vs) ∧ ns = vs.map (·.1) ∧ DpAll K G (vs.map (·.2)) fs
theorem XdOk.up {K : PySem.W.Frag} {H H' G G' : Hp} {od : Option Addr} {ns : List Str} {fs : List D} (s : Same G G') (h : XdOk K H G od ns fs) : XdOk K H' G' od ns fs := by
  cases od with
  | none => exact h
  | some dx => obtain ⟨vs, a, b, c⟩ := h; exact ⟨vs, s _ _ a, b, c.up s⟩
def SlOk (K : PySem.W.Frag) (G H : Hp) (o : Option V) : Sl → Prop
  | .no => True
  | .dt d => ∃ v, o = some v ∧ Dp K G v d
  | .ol xs => ∃ a vs, o = some (.ref a) ∧ H a = some (.lst vs) ∧ G a = none ∧ DpAll K G vs xs
  | .od ks vs => ∃ (a : Addr) (us : List (Key × V)), o = some (.ref a) ∧ H a = some (.dK us) ∧ G a = none ∧ DpAll K G (us.map fun p => kV p.1) ks ∧ DpAll K G (us.map (·.2)) vs
  | .oo p c ns fs => ∃ (a dx : Addr) (us : List (Str × V)), (∀ b, p = some b → a = b) ∧ o = some (.ref a) ∧ H a = some (.ins (He.ga K c) dx us) ∧ G a = none ∧ us.map (·.1) = ns ∧ DpAll K G (us.map (·.2)) fs
  | .on w ks vs => ∃ (a : Addr) (us : List (NestedKey × Addr × V)), o = some (.ref a) ∧ H a = some (dnO w a us) ∧ G a = none ∧ D.nks ks = some (us.map (·.1)) ∧ DpAll K G (us.map fun p => V.ref p.2.1) ks ∧ DpAll K G (us.map fun p => p.2.2) vs
  | .rf a => o = some (.ref a)
  | .ex a od ns fs => o = some (.ref a) ∧ XdOk K H G od ns fs
structure Rep (K : PySem.W.Frag) (G H : Hp) (σ : St) (ρ : Ev) : Prop where
  len : σ.length = ρ.length
  sl : ∀ (i : Nat) (s : Sl) (o : Option V), ρ[i]? = some s → σ[i]? = some o → SlOk K G H o s
  dis : ∀ (i j : Nat) (s t : Sl) (a : Addr), ρ[i]? = some s → ρ[j]? = some t → s.own = true → t.own = true → σ[i]? = some (some (.ref a)) → σ[j]? = some (some (.ref a)) → i = j

theorem SlOk.grow {o : Option V} {s : Sl} (g : Grow H G H' G') (h : SlOk K G H o s) : SlOk K G' H' o s := by
  have fr : ∀ a, (∃ u, H a = some u) → G a = none → G' a = none := fun a hu n => by
    obtain ⟨u, hu⟩ := hu
    cases e : G' a with
    | none => rfl
    | some w =>
      rcases g.nw a w e with q | q
      · rw [n] at q; cases q
      · rw [hu] at q; cases q
  cases s with
  | no => trivial
  | dt d => obtain ⟨v, e, q⟩ := h; exact ⟨v, e, q.up g.gg⟩
  | ol xs => obtain ⟨a, vs, e, q, n, r⟩ := h; exact ⟨a, vs, e, g.hh _ _ q, fr a ⟨_, q⟩ n, r.up g.gg⟩
  | od ks vs => obtain ⟨a, us, e, q, n, z, r⟩ := h; exact ⟨a, us, e, g.hh _ _ q, fr a ⟨_, q⟩ n, z.up g.gg, r.up g.gg⟩
  | oo p c ns fs => obtain ⟨a, dx, us, ep, e, q, n, z, r⟩ := h; exact ⟨a, dx, us, ep, e, g.hh _ _ q, fr a ⟨_, q⟩ n, z, r.up g.gg⟩
  | on w ks vs => obtain ⟨a, us, e, q, n, y, z, r⟩ := h; exact ⟨a, us, e, g.hh _ _ q, fr a ⟨_, q⟩ n, y, z.up g.gg, r.up g.gg⟩
  | rf a => exact h
  | ex a od ns fs => exact ⟨h.1, h.2.up g.gg⟩
theorem Rep.grow {σ : St} {ρ : Ev} (g : Grow H G H' G') (r : Rep K G H σ ρ) : Rep K G' H' σ ρ :=
  ⟨r.len, fun i s o h1 h2 => (r.sl i s o h1 h2).grow g, r.dis⟩
theorem Rep.dt {σ : St} {ρ : Ev} (r : Rep K G H σ ρ) {i : Nat} {d : D} (h : ρ[i]? = some (.dt d)) : ∃ v, σ[i]? = some (some v) ∧ Dp K G v d := by
  have hi : i < σ.length := by rw [r.len]; exact (List.getElem?_eq_some_iff.mp h).1
  obtain ⟨v, e, q⟩ := r.sl i _ (σ[i]) h (by simp [hi])
  exact ⟨v, by rw [List.getElem?_eq_getElem hi, e], q⟩
theorem Rep.ol {σ : St} {ρ : Ev} (r : Rep K G H σ ρ) {i : Nat} {xs : List D} (h : ρ[i]? = some (.ol xs)) : ∃ a vs, σ[i]? = some (some (.ref a)) ∧ H a = some (.lst vs) ∧ G a = none ∧ DpAll K G vs xs := by
  have hi : i < σ.length := by rw [r.len]; exact (List.getElem?_eq_some_iff.mp h).1
  obtain ⟨a, vs, e, q⟩ := r.sl i _ (σ[i]) h (by simp [hi])
  exact ⟨a, vs, by rw [List.getElem?_eq_getElem hi, e], q⟩
theorem Rep.od {σ : St} {ρ : Ev} (r : Rep K G H σ ρ) {i : Nat} {ks xs : List D} (h : ρ[i]? = some (.od ks xs)) : ∃ (a : Addr) (us : List (Key × V)), σ[i]? = some (some (.ref a)) ∧ H a = some (.dK us) ∧ G a = none ∧ DpAll K G (us.map fun p => kV p.1) ks ∧ DpAll K G (us.map (·.2)) xs := by
  have hi : i < σ.length := by rw [r.len]; exact (List.getElem?_eq_some_iff.mp h).1
  obtain ⟨a, vs, e, q⟩ := r.sl i _ (σ[i]) h (by simp [hi])
  exact ⟨a, vs, by rw [List.getElem?_eq_getElem hi, e], q⟩
theorem Rep.oo {σ : St} {ρ : Ev} (r : Rep K G H σ ρ) {i : Nat} {p : Option Addr} {c : Str} {ns : List Str} {fs : List D} (h : ρ[i]? = some (.oo p c ns fs)) : ∃ (a dx : Addr) (us : List (Str × V)), (∀ b, p = some b → a = b) ∧ σ[i]? = some (some (.ref a)) ∧ H a = some (.ins (He.ga K c) dx us) ∧ G a = none ∧ us.map (·.1) = ns ∧ DpAll K G (us.map (·.2)) fs := by
  have hi : i < σ.length := by rw [r.len]; exact (List.getElem?_eq_some_iff.mp h).1
  obtain ⟨a, dx, us, ep, e, q⟩ := r.sl i _ (σ[i]) h (by simp [hi])
  exact ⟨a, dx, us, ep, by rw [List.getElem?_eq_getElem hi, e], q⟩
theorem Rep.on {σ : St} {ρ : Ev} (r : Rep K G H σ ρ) {i : Nat} {w : World} {ks vs : List D} (h : ρ[i]? = some (.on w ks vs)) : ∃ (a : Addr) (us : List (NestedKey × Addr × V)), σ[i]? = some (some (.ref a)) ∧ H a = some (dnO w a us) ∧ G a = none ∧ D.nks ks = some (us.map (·.1)) ∧ DpAll K G (us.map fun p => V.ref p.2.1) ks ∧ DpAll K G (us.map fun p => p.2.2) vs := by
  have hi : i < σ.length := by rw [r.len]; exact (List.getElem?_eq_some_iff.mp h).1
  obtain ⟨a, us, e, q⟩ := r.sl i _ (σ[i]) h (by simp [hi])
  exact ⟨a, us, by rw [List.getElem?_eq_getElem hi, e], q⟩
theorem Rep.addr {σ : St} {ρ : Ev} (r : Rep K G H σ ρ) {i : Nat} {s : Sl} {a : Addr} (h : ρ[i]? = some s) (ho : s.own = true) (e : σ[i]? = some (some (.ref a))) : (∃ u, H a = some u) ∧ G a = none := by
  cases s with
  | no => cases ho
  | dt d => cases ho
  | ol xs =>
    obtain ⟨b, vs, e1, q, n, _⟩ := r.ol h
    rw [e] at e1; cases e1
    exact ⟨⟨_, q⟩, n⟩
  | od ks vs =>
    obtain ⟨b, us, e1, q, n, _⟩ := r.od h
    rw [e] at e1; cases e1
    exact ⟨⟨_, q⟩, n⟩
  | oo p c ns fs =>
    obtain ⟨b, dx, us, _, e1, q, n, _⟩ := r.oo h
    rw [e] at e1; cases e1
    exact ⟨⟨_, q⟩, n⟩
  | on w ks vs =>
    obtain ⟨b, us, e1, q, n, _⟩ := r.on h
    rw [e] at e1; cases e1
    exact ⟨⟨_, q⟩, n⟩
  | rf a => cases ho
  | ex a od ns fs => cases ho
/-- a slot is stored -/
theorem Rep.set {σ : St} {ρ : Ev} (r : Rep K G H σ ρ) {i : Nat} {s : Sl} {o : Option V} (h : SlOk K G H o s)
    (hd : ∀ a, s.own = true → o = some (.ref a) → ∀ j t, j ≠ i → ρ[j]? = some t → t.own = true → σ[j]? ≠ some (some (.ref a))) : Rep K G H (σ.set i o) (ρ.set i s) := by
  refine ⟨by simp [r.len], fun j t u h1 h2 => ?_, fun j k t u a h1 h2 o1 o2 e1 e2 => ?_⟩
  · by_cases hj : i = j
    · subst hj
      have hi : i < ρ.length := by have := (List.getElem?_eq_some_iff.mp h1).1; simpa using this
      rw [List.getElem?_set_self hi] at h1
      rw [List.getElem?_set_self (by rw [r.len]; exact hi)] at h2
      cases h1; cases h2; exact h
    · rw [List.getElem?_set_ne hj] at h1 h2
      exact r.sl j t u h1 h2
  · by_cases hj : i = j
    · subst hj
      by_cases hk : i = k
      · exact hk
      · exfalso
        have hi : i < ρ.length := by have := (List.getElem?_eq_some_iff.mp h1).1; simpa using this
        rw [List.getElem?_set_self hi] at h1
        rw [List.getElem?_set_self (by rw [r.len]; exact hi)] at e1
        rw [List.getElem?_set_ne hk] at h2 e2
        cases h1
        have e1' : o = some (.ref a) := Option.some.inj e1
        exact hd a o1 e1' k u (Ne.symm hk) h2 o2 e2
    · by_cases hk : i = k
      · subst hk
        exfalso
        have hi : i < ρ.length := by have := (List.getElem?_eq_some_iff.mp h2).1; simpa using this
        rw [List.getElem?_set_self hi] at h2
        rw [List.getElem?_set_self (by rw [r.len]; exact hi)] at e2
        rw [List.getElem?_set_ne hj] at h1 e1
        cases h2
        have e2' : o = some (.ref a) := Option.some.inj e2
        exact hd a o2 e2' j t (Ne.symm hj) h1 o1 e1
      · rw [List.getElem?_set_ne hj] at h1 e1
        rw [List.getElem?_set_ne hk] at h2 e2
        exact r.dis j k t u a h1 h2 o1 o2 e1 e2
theorem Rep.setDt {σ : St} {ρ : Ev} (r : Rep K G H σ ρ) {i : Nat} {d : D} {v : V} (h : Dp K G v d) : Rep K G H (σ.set i (some v)) (ρ.set i (.dt d)) :=
  r.set ⟨v, rfl, h⟩ (fun _ o => by cases o)
/-- forgetting a slot -/
theorem Rep.drop {σ : St} {ρ : Ev} (r : Rep K G H σ ρ) (i : Nat) : Rep K G H σ (ρ.set i .no) := by
  refine ⟨by simp [r.len], fun j t u h1 h2 => ?_, fun j k t u a h1 h2 o1 o2 e1 e2 => ?_⟩
  · by_cases hj : i = j
    · subst hj
      have hi : i < ρ.length := by have := (List.getElem?_eq_some_iff.mp h1).1; simpa using this
      rw [List.getElem?_set_self hi] at h1; cases h1; trivial
    · rw [List.getElem?_set_ne hj] at h1
      exact r.sl j t u h1 h2
  · have ne : ∀ {j : Nat} {t : Sl}, (ρ.set i .no)[j]? = some t → t.own = true → ρ[j]? = some t := fun {j t} h o => by
      by_cases hj : i = j
      · subst hj
        have hi : i < ρ.length := by have := (List.getElem?_eq_some_iff.mp h).1; simpa using this
        rw [List.getElem?_set_self hi] at h; cases h; cases o
      · rw [List.getElem?_set_ne hj] at h; exact h
    exact r.dis j k t u a (ne h1 o1) (ne h2 o2) o1 o2 e1 e2

/-! ### ends of expressions -/
def Fi {α : Type} (K : PySem.W.Frag) (E : XK) (H G : Hp) (r : Rs α) (P : α → Hp → Hp → Prop) : Prop := match r with
  | .ok a => ∀ H' G', Grow H G H' G' → P a H' G'
  | .xc c ns fs => ∀ od H' G', Grow H G H' G' → XdOk K H' G' od ns fs → E (.ref (He.ga K c)) od H'
  | .bot => False
theorem Fi.imp {α : Type} {E : XK} {r : Rs α} {P P' : α → Hp → Hp → Prop} (h : Fi K E H G r P) (f : ∀ a H' G', Grow H G H' G' → P a H' G' → P' a H' G') : Fi K E H G r P' := by
  cases r with
  | ok a => exact fun H' G' g => f a H' G' g (h H' G' g)
  | xc c n fs => exact h
  | bot => exact h
theorem Fi.grow {α : Type} {E : XK} {r : Rs α} {P : α → Hp → Hp → Prop} (h : Fi K E H G r P) (g : Grow H G H' G') : Fi K E H' G' r P := by
  cases r with
  | ok a => exact fun H'' G'' g' => h H'' G'' (g.trans g')
  | xc c n fs => exact fun od H'' G'' g' x => h od H'' G'' (g.trans g') x
  | bot => exact h
theorem Fi.bind {α β : Type} {E : XK} {r : Rs α} {k : α → Rs β} {P : β → Hp → Hp → Prop} (h : Fi K E H G (r.bind k) P) : Fi K E H G r (fun a H' G' => Fi K E H' G' (k a) P) := by
  cases r with
  | ok a => exact fun H' G' g => Fi.grow (r := k a) h g
  | xc c n fs => exact h
  | bot => exact h
/-- now, at this very heap -/
theorem Fi.now {α : Type} {E : XK} {a : α} {P : α → Hp → Hp → Prop} (s : Same G H) (h : Fi K E H G (.ok a) P) : P a H G := h H G (Grow.refl s)
end
end KD

/-! KD1: expressions as functions of the slots. -/
namespace KD
open PySem L2

theorem peI {X : Cx} {e : Expr} {t t' : TE} (h : PE X e t) (f : ∀ σ H Q, t' σ H Q → t σ H Q) : PE X e t' := ⟨fun pins s σ H Q I q => h.run pins s σ H Q I (f σ H Q q)⟩
theorem ptI {X : Cx} {e : Expr} {t t' : TT} (h : PT X e t) (f : ∀ σ H Q, t' σ H Q → t σ H Q) : PT X e t' := ⟨fun pins s σ H Q I q => h.run pins s σ H Q I (f σ H Q q)⟩
theorem pwI {X : Cx} {e : Expr} {t t' : TT} (h : PW X e t) (f : ∀ σ H Q, t' σ H Q → t σ H Q) : PW X e t' := ⟨fun w pins s σ H Q I q => h.run w pins s σ H Q I (f σ H Q q)⟩
theorem paI {X : Cx} {e : List Expr} {t t' : TA} (h : PA X e t) (f : ∀ σ H Q, t' σ H Q → t σ H Q) : PA X e t' := ⟨fun pos pins s σ H Q I q => h.run pos pins s σ H Q I (f σ H Q q)⟩
theorem psI {X : Cx} {e : Stmt} {t t' : TS} (h : PS X e t) (f : ∀ D σ H, t' D σ H → t D σ H) : PS X e t' := ⟨fun pins s σ H D I q => h.run pins s σ H D I (f D σ H q)⟩
theorem pssI {X : Cx} {e : List Stmt} {t t' : TS} (h : PSs X e t) (f : ∀ D σ H, t' D σ H → t D σ H) : PSs X e t' := ⟨fun pins s σ H D I q => h.run pins s σ H D I (f D σ H q)⟩

def tG {α : Type} (K : PySem.W.Frag) (E : XK) (f : Ev → Rs α) (P : α → Hp → Hp → Prop) : L2.St → Hp → Prop := fun σ H => ∃ ρ G, Same G H ∧ Rep K G H σ ρ ∧ Fi K E H G (f ρ) P
def tD (K : PySem.W.Frag) (E : XK) (f : Ev → Rs D) : TE := fun σ H Q => tG K E f (fun d H' G' => ∀ v, Dp K G' v d → Q v H') σ H
def tDT (K : PySem.W.Frag) (E : XK) (f : Ev → Rs Bool) : TT := fun σ H Q => tG K E f (fun b H' _ => Q b H') σ H
def tDA (K : PySem.W.Frag) (E : XK) (f : Ev → Rs (List D)) : TA := fun σ H Q => tG K E f (fun d H' G' => ∀ v, DpAll K G' v d → Q v H') σ H
abbrev DE (X : Cx) (E : XK) (e : Expr) (f : Ev → Rs D) : Prop := PE X e (tD X.K E f)
abbrev DT (X : Cx) (E : XK) (e : Expr) (f : Ev → Rs Bool) : Prop := PT X e (tDT X.K E f)
abbrev DW (X : Cx) (E : XK) (e : Expr) (f : Ev → Rs Bool) : Prop := PW X e (tDT X.K E f)
abbrev DA (X : Cx) (E : XK) (e : List Expr) (f : Ev → Rs (List D)) : Prop := PA X e (tDA X.K E f)

/-! ### data operations -/
mutual
def D.py : D → PyData
  | .non => .none
  | .bl b => .bool b
  | .int i => .int i
  | .str x => .str x
  | .tup xs => .tuple (D.pys xs)
  | .lst xs => .list (D.pys xs)
  | .fls xs => .list (D.pys xs)
  | .dic _ _ => .dict []
  | .ob _ _ _ => .dict []
def D.pys : List D → List PyData
  | [] => []
  | d :: ds => d.py :: D.pys ds
end
mutual
def D.plain : D → Bool
  | .dic _ _ => false
  | .ob _ _ _ => false
  | .tup xs => D.plains xs
  | .lst xs => D.plains xs
  | .fls xs => D.plains xs
  | _ => true
def D.plains : List D → Bool
  | [] => true
  | d :: ds => d.plain && D.plains ds
end
mutual
def D.dep : D → Nat
  | .tup xs => D.deps xs + 1
  | .lst xs => D.deps xs + 1
  | .fls xs => D.deps xs + 1
  | _ => 0
def D.deps : List D → Nat
  | [] => 0
  | d :: ds => max d.dep (D.deps ds)
end
def eqD (d e : D) : Bool := PyData.eqv d.py e.py
def eqOk (d e : D) : Bool := d.plain && e.plain && (decide (d.dep ≤ 200) || decide (e.dep ≤ 200))
def gEq (d e : D) : Rs D := if eqOk d e then .ok (.bl (eqD d e)) else .bot
def gNe (d e : D) : Rs D := if eqOk d e then .ok (.bl (!eqD d e)) else .bot

section
variable {K : PySem.W.Frag} {G H : Hp}
mutual
theorem Dp.pyD : ∀ (d : D) (v : V), d.plain = true → KD.Dp K G v d → L2.Dp K G v d.py ∧ d.py.canLay0 = true ∧ d.py.depth = d.dep
  | .non, _, _, h => by cases h; exact ⟨.non, rfl, rfl⟩
  | .bl _, _, _, h => by cases h; exact ⟨.bl _, rfl, rfl⟩
  | .int _, _, _, h => by cases h; exact ⟨.int _, rfl, rfl⟩
  | .str _, _, _, h => by
    cases h with
    | str _ hx => exact ⟨.str _, by simpa [D.py, PyData.canLay0] using hx, by simp [D.py, PyData.depth, D.dep]⟩
  | .tup ds, _, p, h => by
    cases h with
    | tup hs ha =>
      obtain ⟨a, b, c⟩ := DpAll.pyD ds _ (by simpa [D.plain] using p) ha
      exact ⟨.tup hs a, by simpa [D.py, PyData.canLay0] using b, by simp [D.py, PyData.depth, D.dep, c]⟩
  | .lst ds, _, p, h => by
    cases h with
    | lst hs ha =>
      obtain ⟨a, b, c⟩ := DpAll.pyD ds _ (by simpa [D.plain] using p) ha
      exact ⟨.lst (SqL.of hs) a, by simpa [D.py, PyData.canLay0] using b, by simp [D.py, PyData.depth, D.dep, c]⟩
  | .fls ds, _, p, h => by
    cases h with
    | fls hs ha =>
      obtain ⟨a, b, c⟩ := DpAll.pyD ds _ (by simpa [D.plain] using p) ha
      exact ⟨.lst hs a, by simpa [D.py, PyData.canLay0] using b, by simp [D.py, PyData.depth, D.dep, c]⟩
  | .dic _ _, _, p, _ => by simp [D.plain] at p
  | .ob _ _ _, _, p, _ => by simp [D.plain] at p
theorem DpAll.pyD : ∀ (ds : List D) (vs : List V), D.plains ds = true → KD.DpAll K G vs ds → L2.DpAll K G vs (D.pys ds) ∧ PyData.canLayAll0 (D.pys ds) = true ∧ PyData.depthAll (D.pys ds) = D.deps ds
  | [], _, _, h => by cases h; exact ⟨.nil, by simp [D.pys, PyData.canLayAll0], by simp [D.pys, PyData.depthAll, D.deps]⟩
  | d :: ds, _, p, h => by
    cases h with
    | cons h1 h2 =>
      have p' : d.plain = true ∧ D.plains ds = true := by simpa [D.plains] using p
      obtain ⟨a, b, c⟩ := Dp.pyD d _ p'.1 h1
      obtain ⟨a', b', c'⟩ := DpAll.pyD ds _ p'.2 h2
      exact ⟨.cons a a', by simp [D.pys, PyData.canLayAll0, b, b'], by simp [D.pys, PyData.depthAll, D.deps, c, c']⟩
end
mutual
theorem hDp_up {G G' : Hp} (s : Same G G') : ∀ (d : PyData) (v : V), L2.Dp K G v d → L2.Dp K G' v d
  | .none, _, h => by cases h; exact .non
  | .bool _, _, h => by cases h; exact .bl _
  | .int _, _, h => by cases h; exact .int _
  | .str _, _, h => by cases h; exact .str _
  | .tuple ds, _, h => by cases h with | tup hs ha => exact .tup (KD.SqT.mono s hs) (hDpAll_up s ds _ ha)
  | .list ds, _, h => by cases h with | lst hs ha => exact .lst (s.seq hs) (hDpAll_up s ds _ ha)
  | .dict _, _, h => by cases h
theorem hDpAll_up {G G' : Hp} (s : Same G G') : ∀ (ds : List PyData) (vs : List V), L2.DpAll K G vs ds → L2.DpAll K G' vs ds
  | [], _, h => by cases h; exact .nil
  | d :: ds, _, h => by cases h with | cons h1 h2 => exact .cons (hDp_up s d _ h1) (hDpAll_up s ds _ h2)
end
end

/-- an operation on two values by data -/
def OpDD (X : Cx) (f : Value → Value → Sem Value) (g : D → D → Rs D) : Prop := ∃ r : R2, OpR X f r ∧
  ∀ (E : XK) (G H : Hp) (x y : V) (dx dy : D) (Q : VK), Same G H → Dp X.K G x dx → Dp X.K G y dy → Fi X.K E H G (g dx dy) (fun d H' G' => ∀ v, Dp X.K G' v d → Q v H') → r x y H Q
def CallDD (X : Cx) (f : Value) (g : List D → Rs D) : Prop := ∃ r : List V → Hp → VK → Prop, CallR X f r ∧
  ∀ (E : XK) (G H : Hp) (xs : List V) (ds : List D) (Q : VK), Same G H → DpAll X.K G xs ds → Fi X.K E H G (g ds) (fun d H' G' => ∀ v, Dp X.K G' v d → Q v H') → r xs H Q

def gAdd (x y : D) : Rs D := match x, y with
  | .int i, .int j => .ok (.int (i + j))
  | .str a, .str b => if a.length + b.length ≤ sizeLine then .ok (.str (a ++ b)) else .bot
  | .tup a, .tup b => if a.length + b.length ≤ sizeLine then .ok (.tup (a ++ b)) else .bot
  | .lst a, .lst b => if a.length + b.length ≤ sizeLine then .ok (.lst (a ++ b)) else .bot
  | _, _ => .bot
def gSub (x y : D) : Rs D := match x, y with
  | .int i, .int j => .ok (.int (i - j))
  | _, _ => .bot
/-- one of them below 2^64 -/
def okMul (i j : Int) : Bool := decide ((-(2 ^ 64) < i ∧ i < 2 ^ 64) ∨ (-(2 ^ 64) < j ∧ j < 2 ^ 64))
theorem okMul_iff {i j : Int} : okMul i j = true ↔ (-(2 ^ 64) < i ∧ i < 2 ^ 64) ∨ (-(2 ^ 64) < j ∧ j < 2 ^ 64) := by unfold okMul; exact decide_eq_true_iff
theorem okMul_r (i : Int) {j : Int} (h : -(2 ^ 64) < j ∧ j < 2 ^ 64) : okMul i j = true := okMul_iff.mpr (.inr h)
theorem okMul_l (j : Int) {i : Int} (h : -(2 ^ 64) < i ∧ i < 2 ^ 64) : okMul i j = true := okMul_iff.mpr (.inl h)
def okPow (i j : Int) : Bool := decide (0 ≤ j ∧ j ≤ 1000000 ∧ i.natAbs < 2 ^ 64)
/-- x * y: ints, one of them below 2^64; a short text; a list -/
def gMul (x y : D) : Rs D := match x, y with
  | .int i, .int j => if okMul i j = true then .ok (.int (i * j)) else .bot
  | .str a, .int n => if 0 ≤ n ∧ n ≤ 1000 ∧ a.length ≤ 1000 then .ok (.str ⟨(List.replicate n.toNat a.cps.toList).flatten.toArray⟩) else .bot
  | .lst a, .int n => if 0 ≤ n ∧ n ≤ 1000 ∧ a.length ≤ 1000 then .ok (.lst (List.replicate n.toNat a).flatten) else .bot
  | _, _ => .bot
def gDiv (x y : D) : Rs D := match x, y with
  | .int i, .int j => if 0 < j ∧ j < 1073741824 then .ok (.int (i / j)) else .bot
  | _, _ => .bot
def gMod (x y : D) : Rs D := match x, y with
  | .int i, .int j => if 0 < j then .ok (.int (i % j)) else .bot
  | _, _ => .bot
def gPow (x y : D) : Rs D := match x, y with
  | .int i, .int j => if okPow i j = true then .ok (.int (i ^ j.toNat)) else .bot
  | _, _ => .bot
def gLt (x y : D) : Rs D := match x, y with
  | .int i, .int j => .ok (.bl (decide (i < j)))
  | _, _ => .bot
def gLe (x y : D) : Rs D := match x, y with
  | .int i, .int j => .ok (.bl (decide (i ≤ j)))
  | _, _ => .bot
def gGt (x y : D) : Rs D := match x, y with
  | .int i, .int j => .ok (.bl (decide (j < i)))
  | _, _ => .bot
def gGe (x y : D) : Rs D := match x, y with
  | .int i, .int j => .ok (.bl (decide (j ≤ i)))
  | _, _ => .bot

theorem strOk_app {a b : Str} (ha : PyData.strOk a = true) (hb : PyData.strOk b = true) : PyData.strOk (a ++ b) = true := by
  unfold PyData.strOk at *
  show (a.cps ++ b.cps).all (· < 0x110000) = true
  rw [Array.all_append, ha, hb]; rfl

section
variable {X : Cx}
/-- at once, without growth -/
theorem fi0 {K : PySem.W.Frag} {E : XK} {H G : Hp} {d : D} {Q : VK} {v : V} (s : Same G H) (fi : Fi K E H G (.ok d) (fun d H' G' => ∀ v, Dp K G' v d → Q v H')) (h : Dp K G v d) : Q v H := fi H G (Grow.refl s) v h
/-- a new object -/
theorem fiN {K : PySem.W.Frag} {E : XK} {H G : Hp} {d : D} {Q : VK} {p : Addr} {o : HO} (s : Same G H) (fi : Fi K E H G (.ok d) (fun d H' G' => ∀ v, Dp K G' v d → Q v H')) (n : H p = none) (h : Dp K (upd G p o) (.ref p) d) : Q (.ref p) (upd H p o) :=
  fi _ _ (Grow.laid s n) _ h

theorem dd_sub : OpDD X (binaryOp .Sub) gSub := ⟨_, op_sub, fun E G H x y dx dy Q s hx hy fi => by
  cases hx <;> cases hy <;> first | exact False.elim fi | exact ⟨_, _, rfl, rfl, fi0 s fi (.int _)⟩⟩
theorem dd_lt0 : OpDD X (compareOp .Lt) gLt := ⟨_, op_lt, fun E G H x y dx dy Q s hx hy fi => by
  cases hx <;> cases hy <;> first | exact False.elim fi | exact ⟨_, _, rfl, rfl, fi0 s fi (.bl _)⟩⟩
theorem dd_le : OpDD X (compareOp .LtE) gLe := ⟨_, op_le, fun E G H x y dx dy Q s hx hy fi => by
  cases hx <;> cases hy <;> first | exact False.elim fi | exact ⟨_, _, rfl, rfl, fi0 s fi (.bl _)⟩⟩
theorem dd_gt : OpDD X (compareOp .Gt) gGt := ⟨_, op_gt, fun E G H x y dx dy Q s hx hy fi => by
  cases hx <;> cases hy <;> first | exact False.elim fi | exact ⟨_, _, rfl, rfl, fi0 s fi (.bl _)⟩⟩
theorem dd_ge : OpDD X (compareOp .GtE) gGe := ⟨_, op_ge, fun E G H x y dx dy Q s hx hy fi => by
  cases hx <;> cases hy <;> first | exact False.elim fi | exact ⟨_, _, rfl, rfl, fi0 s fi (.bl _)⟩⟩
theorem dd_div : OpDD X (binaryOp .FloorDiv) gDiv := ⟨_, op_fdiv, fun E G H x y dx dy Q s hx hy fi => by
  cases hx <;> cases hy <;> try exact False.elim fi
  rename_i i j
  by_cases c : 0 < j ∧ j < 1073741824
  · unfold gDiv at fi; dsimp only at fi; rw [if_pos c] at fi
    exact ⟨_, _, rfl, rfl, c, fi0 s fi (.int _)⟩
  · unfold gDiv at fi; dsimp only at fi; rw [if_neg c] at fi; exact False.elim fi⟩
theorem dd_mod : OpDD X (binaryOp .Mod) gMod := ⟨_, op_mod, fun E G H x y dx dy Q s hx hy fi => by
  cases hx <;> cases hy <;> try exact False.elim fi
  rename_i i j
  by_cases c : 0 < j
  · unfold gMod at fi; dsimp only at fi; rw [if_pos c] at fi
    exact ⟨_, _, rfl, rfl, c, fi0 s fi (.int _)⟩
  · unfold gMod at fi; dsimp only at fi; rw [if_neg c] at fi; exact False.elim fi⟩
theorem dd_pow : OpDD X (binaryOp .Pow) gPow := ⟨_, op_pow, fun E G H x y dx dy Q s hx hy fi => by
  cases hx <;> cases hy <;> try exact False.elim fi
  rename_i i j
  by_cases c : okPow i j = true
  · unfold gPow at fi; dsimp only at fi; rw [if_pos c] at fi
    exact ⟨_, _, rfl, rfl, (show 0 ≤ j ∧ j ≤ 1000000 ∧ i.natAbs < 2 ^ 64 from of_decide_eq_true c), fi0 s fi (.int _)⟩
  · unfold gPow at fi; dsimp only at fi; rw [if_neg c] at fi; exact False.elim fi⟩
theorem dd_add : OpDD X (binaryOp .Add) gAdd := ⟨_, op_add.or (op_add_str.or (op_cat.or op_catA)), fun E G H x y dx dy Q s hx hy fi => by
  cases hx with
  | int i =>
    cases hy <;> try exact False.elim fi
    exact .inl ⟨_, _, rfl, rfl, fi0 s fi (.int _)⟩
  | str a ha =>
    cases hy <;> try exact False.elim fi
    rename_i b hb
    by_cases c : a.length + b.length ≤ sizeLine
    · unfold gAdd at fi; dsimp only at fi; rw [if_pos c] at fi
      exact .inr (.inl ⟨_, _, rfl, rfl, c, fi0 s fi (.str _ (strOk_app ha hb))⟩)
    · unfold gAdd at fi; dsimp only at fi; rw [if_neg c] at fi; exact False.elim fi
  | tup h1 h2 =>
    cases hy <;> try exact False.elim fi
    rename_i a xs ds b ys es h3 h4
    by_cases c : ds.length + es.length ≤ sizeLine
    · unfold gAdd at fi; dsimp only at fi; rw [if_pos c] at fi
      have l1 := h2.length; have l2 := h4.length
      refine .inr (.inr (.inr ⟨_, _, _, _, rfl, rfl, KD.SqT.mono s h1, KD.SqT.mono s h3, by omega, fun e => ?_, fun e e' => ?_, fun e e' p np => ?_⟩))
      · subst e; cases h2; exact fi0 s fi (.tup h3 h4)
      · subst e'; cases h4; rw [List.append_nil] at fi; exact fi0 s fi (.tup h1 h2)
      · have ng := s.free np
        exact fiN s fi np (.tup (SqT.of upd_same) ((h2.append h4).up (same_upd ng)))
    · unfold gAdd at fi; dsimp only at fi; rw [if_neg c] at fi; exact False.elim fi
  | lst h1 h2 =>
    cases hy <;> try exact False.elim fi
    rename_i a xs ds b ys es h3 h4
    by_cases c : ds.length + es.length ≤ sizeLine
    · unfold gAdd at fi; dsimp only at fi; rw [if_pos c] at fi
      have l1 := h2.length; have l2 := h4.length
      refine .inr (.inr (.inl ⟨_, _, _, _, rfl, rfl, s _ _ h1, s _ _ h3, by omega, fun p np => ?_⟩))
      have ng := s.free np
      exact fiN s fi np (.lst upd_same ((h2.append h4).up (same_upd ng)))
    · unfold gAdd at fi; dsimp only at fi; rw [if_neg c] at fi; exact False.elim fi
  | _ => exact False.elim fi⟩
theorem dd_eq (hu : X.A.units + 200 < cLine) : OpDD X (compareOp .Eq) gEq := by
  refine ⟨fun x y H Q => ∃ d e, L2.Dp X.K H x d ∧ L2.Dp X.K H y e ∧ d.canLay0 = true ∧ e.canLay0 = true ∧ min d.depth e.depth ≤ 200 ∧ Q (.bl (PyData.eqv d e)) H, ?_, fun E G H x y dx dy Q s hx hy fi => ?_⟩
  · intro pins st σ H x y v u Q I rx ry h
    obtain ⟨d, e, hd, he, sd, se, sm, q⟩ := h
    obtain ⟨as, r1⟩ := Dp.reads I d x v hd rx
    obtain ⟨bs, r2⟩ := Dp.reads I e y u he ry
    exact SeqAt.compareEq_reads r1 r2 sd se (by omega) ⟨.bl _, H, I, rfl, q⟩
  · unfold gEq at fi
    by_cases c : eqOk dx dy = true
    · rw [if_pos c] at fi
      have c' : (dx.plain = true ∧ dy.plain = true) ∧ (dx.dep ≤ 200 ∨ dy.dep ≤ 200) := by simpa [eqOk] using c
      obtain ⟨a1, a2, a3⟩ := Dp.pyD dx x c'.1.1 hx
      obtain ⟨b1, b2, b3⟩ := Dp.pyD dy y c'.1.2 hy
      exact ⟨_, _, hDp_up s _ _ a1, hDp_up s _ _ b1, a2, b2, by omega, fi0 s fi (.bl _)⟩
    · rw [if_neg c] at fi; exact False.elim fi
theorem dd_ne (hu : X.A.units + 200 < cLine) : OpDD X (compareOp .NotEq) gNe := by
  refine ⟨fun x y H Q => ∃ d e, L2.Dp X.K H x d ∧ L2.Dp X.K H y e ∧ d.canLay0 = true ∧ e.canLay0 = true ∧ min d.depth e.depth ≤ 200 ∧ Q (.bl (!PyData.eqv d e)) H, ?_, fun E G H x y dx dy Q s hx hy fi => ?_⟩
  · intro pins st σ H x y v u Q I rx ry h
    obtain ⟨d, e, hd, he, sd, se, sm, q⟩ := h
    obtain ⟨as, r1⟩ := Dp.reads I d x v hd rx
    obtain ⟨bs, r2⟩ := Dp.reads I e y u he ry
    exact SeqAt.compareNe_reads r1 r2 sd se (by omega) ⟨.bl _, H, I, rfl, q⟩
  · unfold gNe at fi
    by_cases c : eqOk dx dy = true
    · rw [if_pos c] at fi
      have c' : (dx.plain = true ∧ dy.plain = true) ∧ (dx.dep ≤ 200 ∨ dy.dep ≤ 200) := by simpa [eqOk] using c
      obtain ⟨a1, a2, a3⟩ := Dp.pyD dx x c'.1.1 hx
      obtain ⟨b1, b2, b3⟩ := Dp.pyD dy y c'.1.2 hy
      exact ⟨_, _, hDp_up s _ _ a1, hDp_up s _ _ b1, a2, b2, by omega, fi0 s fi (.bl _)⟩
    · rw [if_neg c] at fi; exact False.elim fi
end

/-! ### the rules -/
def dVar (i : Nat) : Ev → Rs D := fun ρ => match ρ[i]? with
  | some (.dt d) => .ok d
  | _ => .bot
def dC (d : D) : Ev → Rs D := fun _ => .ok d
def dOp (g : D → D → Rs D) (fa fb : Ev → Rs D) : Ev → Rs D := fun ρ => (fa ρ).bind fun x => (fb ρ).bind fun y => g x y
def dNil : Ev → Rs (List D) := fun _ => .ok []
def dCons (f : Ev → Rs D) (fs : Ev → Rs (List D)) : Ev → Rs (List D) := fun ρ => (f ρ).bind fun x => (fs ρ).bind fun xs => .ok (x :: xs)
def dCall (g : List D → Rs D) (fs : Ev → Rs (List D)) : Ev → Rs D := fun ρ => (fs ρ).bind g
def asB : D → Rs Bool
  | .bl b => .ok b
  | _ => .bot
def truD : D → Rs Bool
  | .non => .ok false
  | .bl b => .ok b
  | .int i => .ok (i != 0)
  | .lst xs => .ok (!xs.isEmpty)
  | .tup xs => .ok (!xs.isEmpty)
  | _ => .bot
def dTest (f : Ev → Rs D) : Ev → Rs Bool := fun ρ => (f ρ).bind asB
def dTru (f : Ev → Rs D) : Ev → Rs Bool := fun ρ => (f ρ).bind truD
def dAnd (f g : Ev → Rs Bool) : Ev → Rs Bool := fun ρ => (f ρ).bind fun b => if b = true then g ρ else .ok false
def dOr (f g : Ev → Rs Bool) : Ev → Rs Bool := fun ρ => (f ρ).bind fun b => if b = true then .ok true else g ρ
def dNot (f : Ev → Rs Bool) : Ev → Rs Bool := fun ρ => (f ρ).bind fun b => .ok (!b)
def dAndV (f g : Ev → Rs D) : Ev → Rs D := fun ρ => (f ρ).bind fun x => (asB x).bind fun b => if b = true then g ρ else .ok (.bl false)
def dOrV (f g : Ev → Rs D) : Ev → Rs D := fun ρ => (f ρ).bind fun x => (asB x).bind fun b => if b = true then .ok (.bl true) else g ρ
def dNotV (f : Ev → Rs D) : Ev → Rs D := fun ρ => (f ρ).bind fun x => (asB x).bind fun b => .ok (.bl (!b))
def D.isNon : D → Bool
  | .non => true
  | _ => false
def dIsN (f : Ev → Rs D) : Ev → Rs D := fun ρ => (f ρ).bind fun x => .ok (.bl x.isNon)
def dNotN (f : Ev → Rs D) : Ev → Rs D := fun ρ => (f ρ).bind fun x => .ok (.bl (!x.isNon))
def dTup (fs : Ev → Rs (List D)) : Ev → Rs D := fun ρ => (fs ρ).bind fun xs => if xs.length ≤ 1000 then .ok (.tup xs) else .bot
def dLst (fs : Ev → Rs (List D)) : Ev → Rs D := fun ρ => (fs ρ).bind fun xs => if xs.length ≤ 1000 then .ok (.lst xs) else .bot
section
variable {X : Cx} {E : XK} {e a b : Expr} {es : List Expr} {pos : Pos} {fa fb : Ev → Rs D} {fs : Ev → Rs (List D)} {ft fu : Ev → Rs Bool}
theorem de_var {i : Nat} (h : PE X e (tVar i)) : DE X E e (dVar i) := peI h fun σ H Q ⟨ρ, G, s, r, fi⟩ => by
  unfold dVar at fi
  split at fi
  · rename_i d e
    obtain ⟨v, h1, h2⟩ := r.dt e
    exact ⟨v, h1, fi0 s fi h2⟩
  · exact False.elim fi
theorem de_int {i : Int} {j} : DE X E (.Constant (.int i) j pos) (dC (.int i)) := peI pe_int fun σ H Q ⟨ρ, G, s, r, fi⟩ => fi0 s fi (.int i)
theorem de_bl {i : Bool} {j} : DE X E (.Constant (.bool i) j pos) (dC (.bl i)) := peI pe_bl fun σ H Q ⟨ρ, G, s, r, fi⟩ => fi0 s fi (.bl i)
theorem de_non {j} : DE X E (.Constant .none j pos) (dC .non) := peI pe_non fun σ H Q ⟨ρ, G, s, r, fi⟩ => fi0 s fi .non
theorem de_str {i : Str} {j} (h : PyData.strOk i = true := by decide +kernel) : DE X E (.Constant (.str i) j pos) (dC (.str i)) := peI pe_str fun σ H Q ⟨ρ, G, s, r, fi⟩ => fi0 s fi (.str i h)
theorem de_globS {x i : Str} (h : PE X e (tC (.str i))) (ho : PyData.strOk i = true) : DE X E e (dC (.str i)) := peI h fun σ H Q ⟨ρ, G, s, r, fi⟩ => fi0 s fi (.str i ho)
theorem de_op {op : Operator} {g : D → D → Rs D} (o : OpDD X (binaryOp op) g) (ha : DE X E a fa) (hb : DE X E b fb) : DE X E (.BinOp a op b pos) (dOp g fa fb) := by
  obtain ⟨r, ho, hg⟩ := o
  refine peI (pe_op ho ha hb) fun σ H Q ⟨ρ, G, s, r, fi⟩ => ?_
  refine ⟨ρ, G, s, r, fi.bind.imp fun x H1 G1 g1 fi1 v hv => ?_⟩
  refine ⟨ρ, G1, g1.gh, r.grow g1, fi1.bind.imp fun y H2 G2 g2 fi2 w hw => ?_⟩
  exact hg E G2 H2 v w x y Q g2.gh (hv.up g2.gg) hw fi2
theorem de_cmp {op : CmpOp} {g : D → D → Rs D} (o : OpDD X (compareOp op) g) (ha : DE X E a fa) (hb : DE X E b fb) (hm : behindInMarks op b = false) : DE X E (.Compare a [op] [b] pos) (dOp g fa fb) := by
  obtain ⟨r, ho, hg⟩ := o
  refine peI (pe_cmpR ho ha hb hm) fun σ H Q ⟨ρ, G, s, r, fi⟩ => ?_
  refine ⟨ρ, G, s, r, fi.bind.imp fun x H1 G1 g1 fi1 v hv => ?_⟩
  refine ⟨ρ, G1, g1.gh, r.grow g1, fi1.bind.imp fun y H2 G2 g2 fi2 w hw => ?_⟩
  exact hg E G2 H2 v w x y Q g2.gh (hv.up g2.gg) hw fi2
theorem dt_cmp {op : CmpOp} {g : D → D → Rs D} (o : OpDD X (compareOp op) g) (ha : DE X E a fa) (hb : DE X E b fb) (hm : behindInMarks op b = false) : DT X E (.Compare a [op] [b] pos) (dTest (dOp g fa fb)) := by
  obtain ⟨r, ho, hg⟩ := o
  refine ptI (pt_cmpR ho ha hb hm) fun σ H Q ⟨ρ, G, s, r, fi⟩ => ?_
  have fi' := fi.bind
  refine ⟨ρ, G, s, r, fi'.bind.imp fun x H1 G1 g1 fi1 v hv => ?_⟩
  refine ⟨ρ, G1, g1.gh, r.grow g1, fi1.bind.imp fun y H2 G2 g2 fi2 w hw => ?_⟩
  refine hg E G2 H2 v w x y _ g2.gh (hv.up g2.gg) hw (fi2.imp fun d H3 G3 g3 fi3 z hz => ?_)
  cases hz <;> first | exact False.elim fi3 | exact ⟨_, rfl, fi3.now g3.gh⟩
theorem dt_tru (ha : DE X E e fa) (he : ∀ whole, isTrue e X.env whole = (do let v ← whole; standAt e.pos; holding [v] (truthy v))) : DT X E e (dTru fa) := by
  refine ptI (pt_truth ha he) fun σ H Q ⟨ρ, G, s, r, fi⟩ => ?_
  refine ⟨ρ, G, s, r, fi.bind.imp fun d H1 G1 g1 fi1 v hv => ?_⟩
  cases hv with
  | non => exact ⟨_, rfl, fi1.now g1.gh⟩
  | bl b => exact ⟨_, rfl, fi1.now g1.gh⟩
  | int i => exact ⟨_, rfl, fi1.now g1.gh⟩
  | lst h1 h2 =>
    refine ⟨_, .inl ⟨_, SqL.of (g1.gh _ _ h1), rfl⟩, ?_⟩
    have q := fi1.now g1.gh
    cases h2 <;> exact q
  | tup h1 h2 =>
    refine ⟨_, .inr (.inl ⟨_, KD.SqT.mono g1.gh h1, rfl⟩), ?_⟩
    have q := fi1.now g1.gh
    cases h2 <;> exact q
  | _ => exact False.elim fi1
theorem dw_and1 (ha : DT X E a ft) : DW X E (.BoolOp .And [a] pos) ft := pw_and1 ha
theorem dw_or1 (ha : DT X E a ft) : DW X E (.BoolOp .Or [a] pos) ft := pw_or1 ha
theorem dw_and {rest : List Expr} (ha : DT X E a ft) (hb : DW X E (.BoolOp .And (b :: rest) pos) fu) : DW X E (.BoolOp .And (a :: b :: rest) pos) (dAnd ft fu) := by
  refine pwI (pw_and ha hb) fun σ H Q ⟨ρ, G, s, r, fi⟩ => ?_
  refine ⟨ρ, G, s, r, fi.bind.imp fun c H1 G1 g1 fi1 => ?_⟩
  cases c with
  | true => exact iteT ⟨ρ, G1, g1.gh, r.grow g1, fi1⟩
  | false => exact iteF (fi1.now g1.gh)
theorem dw_or {rest : List Expr} (ha : DT X E a ft) (hb : DW X E (.BoolOp .Or (b :: rest) pos) fu) : DW X E (.BoolOp .Or (a :: b :: rest) pos) (dOr ft fu) := by
  refine pwI (pw_or ha hb) fun σ H Q ⟨ρ, G, s, r, fi⟩ => ?_
  refine ⟨ρ, G, s, r, fi.bind.imp fun c H1 G1 g1 fi1 => ?_⟩
  cases c with
  | false => exact iteF ⟨ρ, G1, g1.gh, r.grow g1, fi1⟩
  | true => exact iteT (fi1.now g1.gh)
theorem dt_not (ha : DT X E a ft) : DT X E (.UnaryOp .Not a pos) (dNot ft) := by
  refine ptI (pt_not ha) fun σ H Q ⟨ρ, G, s, r, fi⟩ => ?_
  exact ⟨ρ, G, s, r, fi.bind.imp fun c H1 G1 g1 fi1 => fi1.now g1.gh⟩
theorem de_one {op} (ha : DE X E a fa) : DE X E (.BoolOp op [a] pos) fa := pe_one ha
theorem de_and {rest : List Expr} (ha : DE X E a fa) (hb : DE X E (.BoolOp .And (b :: rest) pos) fb) : DE X E (.BoolOp .And (a :: b :: rest) pos) (dAndV fa fb) := by
  refine peI (pe_and ha hb) fun σ H Q ⟨ρ, G, s, r, fi⟩ => ?_
  refine ⟨ρ, G, s, r, fi.bind.imp fun d H1 G1 g1 fi1 v hv => ?_⟩
  cases hv <;> try exact False.elim fi1
  rename_i c
  refine ⟨c, rfl, ?_⟩
  cases c with
  | true => exact iteT ⟨ρ, G1, g1.gh, r.grow g1, fi1⟩
  | false => exact iteF (fi0 g1.gh fi1 (.bl _))
theorem de_or {rest : List Expr} (ha : DE X E a fa) (hb : DE X E (.BoolOp .Or (b :: rest) pos) fb) : DE X E (.BoolOp .Or (a :: b :: rest) pos) (dOrV fa fb) := by
  refine peI (pe_or ha hb) fun σ H Q ⟨ρ, G, s, r, fi⟩ => ?_
  refine ⟨ρ, G, s, r, fi.bind.imp fun d H1 G1 g1 fi1 v hv => ?_⟩
  cases hv <;> try exact False.elim fi1
  rename_i c
  refine ⟨c, rfl, ?_⟩
  cases c with
  | false => exact iteF ⟨ρ, G1, g1.gh, r.grow g1, fi1⟩
  | true => exact iteT (fi0 g1.gh fi1 (.bl _))
theorem de_not (ha : DE X E a fa) : DE X E (.UnaryOp .Not a pos) (dNotV fa) := by
  refine peI (pe_not ha) fun σ H Q ⟨ρ, G, s, r, fi⟩ => ?_
  refine ⟨ρ, G, s, r, fi.bind.imp fun d H1 G1 g1 fi1 v hv => ?_⟩
  cases hv <;> try exact False.elim fi1
  rename_i c
  exact ⟨c, rfl, fi0 g1.gh fi1 (.bl _)⟩
theorem Dp.isN {K : PySem.W.Frag} {G : Hp} {v : V} {d : D} (h : Dp K G v d) : decide (v = .non) = d.isNon := by
  cases h <;> simp [D.isNon]
theorem de_isN {j pos'} (ha : DE X E a fa) : DE X E (.Compare a [.Is] [.Constant .none j pos'] pos) (dIsN fa) := by
  refine peI (pe_cmp (pc_isN ha) rfl) fun σ H Q ⟨ρ, G, s, r, fi⟩ => ?_
  refine ⟨ρ, G, s, r, fi.bind.imp fun d H1 G1 g1 fi1 v hv => ?_⟩
  show Q (.bl (decide (v = .non))) H1
  rw [hv.isN]
  exact fi0 g1.gh fi1 (.bl _)
theorem de_notN {j pos'} (ha : DE X E a fa) : DE X E (.Compare a [.IsNot] [.Constant .none j pos'] pos) (dNotN fa) := by
  refine peI (pe_cmp (pc_notN ha) rfl) fun σ H Q ⟨ρ, G, s, r, fi⟩ => ?_
  refine ⟨ρ, G, s, r, fi.bind.imp fun d H1 G1 g1 fi1 v hv => ?_⟩
  show Q (.bl (!decide (v = .non))) H1
  rw [hv.isN]
  exact fi0 g1.gh fi1 (.bl _)
theorem dt_B (h : PT X e (tB (tD X.K E fa))) : DT X E e (dTest fa) := by
  refine ptI h fun σ H Q ⟨ρ, G, s, r, fi⟩ => ?_
  refine ⟨ρ, G, s, r, fi.bind.imp fun d H1 G1 g1 fi1 v hv => ?_⟩
  cases hv <;> first | exact False.elim fi1 | exact ⟨_, rfl, fi1.now g1.gh⟩
theorem da_nil : DA X E [] dNil := paI pa_nil fun σ H Q ⟨ρ, G, s, r, fi⟩ => fi H G (Grow.refl s) [] .nil
theorem da_cons (ha : DE X E e fa) (hr : DA X E es fs) (hs : starEach (e :: es) X.env = (false, eval e X.env) :: starEach es X.env := by rfl) : DA X E (e :: es) (dCons fa fs) := by
  refine paI (pa_cons ha hr hs) fun σ H Q ⟨ρ, G, s, r, fi⟩ => ?_
  refine ⟨ρ, G, s, r, fi.bind.imp fun d H1 G1 g1 fi1 v hv => ?_⟩
  refine ⟨ρ, G1, g1.gh, r.grow g1, fi1.bind.imp fun ds H2 G2 g2 fi2 vs hvs => ?_⟩
  exact fi2.now g2.gh _ (.cons (hv.up g2.gg) hvs)
theorem le_line {n : Nat} (h : n ≤ 1000) : n ≤ sizeLine := by rw [sizeLine_eq]; omega
theorem de_tup {x1} (h : DA X E es fs) : DE X E (.Tuple es x1 pos) (dTup fs) := by
  refine peI (pe_tup h) fun σ H Q ⟨ρ, G, s, r, fi⟩ => ?_
  refine ⟨ρ, G, s, r, fi.bind.imp fun ds H1 G1 g1 fi1 vs hvs => ?_⟩
  have l := hvs.length
  by_cases c : ds.length ≤ 1000
  · rw [if_pos c] at fi1
    exact ⟨le_line (by omega), fun p np => fiN g1.gh fi1 np (.tup (SqT.of upd_same) (hvs.up (same_upd (g1.gh.free np))))⟩
  · rw [if_neg c] at fi1; exact False.elim fi1
theorem de_lst (h : DA X E es fs) : DE X E (.List es pos) (dLst fs) := by
  refine peI (pe_lst h) fun σ H Q ⟨ρ, G, s, r, fi⟩ => ?_
  refine ⟨ρ, G, s, r, fi.bind.imp fun ds H1 G1 g1 fi1 vs hvs => ?_⟩
  have l := hvs.length
  by_cases c : ds.length ≤ 1000
  · rw [if_pos c] at fi1
    exact ⟨le_line (by omega), fun p np => fiN g1.gh fi1 np (.lst upd_same (hvs.up (same_upd (g1.gh.free np))))⟩
  · rw [if_neg c] at fi1; exact False.elim fi1
theorem de_callB {id : String} {x : Str} {p : Pos} {g : List D → Rs D} (hc : CallDD X (.builtin id) g) (hg : Gl X x) (hm : X.mg x = none) (hv : bootBuiltins x = some (.builtin id)) (ha : DA X E (e :: es) fs) (hn : x ≠ "__name__" := by decide) (hdb : (x == ("__debug__" : Str)) = false := by decide)
    (he : starEach (e :: es) X.env = (false, eval e X.env) :: starEach es X.env := by rfl) (hpl : (backTo pos (starEach es X.env)).any (·.1) = false := by rfl) : DE X E (.Call (.Name x p) (e :: es) [] pos) (dCall g fs) := by
  obtain ⟨r, hr, hq⟩ := hc
  refine peI (pe_callB hr hg hm hv ha hn hdb he hpl) fun σ H Q ⟨ρ, G, s, r, fi⟩ => ?_
  exact ⟨ρ, G, s, r, fi.bind.imp fun ds H1 G1 g1 fi1 vs hvs => hq E G1 H1 vs ds Q g1.gh hvs fi1⟩
theorem de_callTy {T : String} {x : Str} {p : Pos} {g : List D → Rs D} (hc : CallDD X (.type T) g) (hg : Gl X x) (hm : X.mg x = none) (hv : bootBuiltins x = some (.type T)) (ha : DA X E (e :: es) fs) (hn : x ≠ "__name__" := by decide) (hdb : (x == ("__debug__" : Str)) = false := by decide)
    (he : starEach (e :: es) X.env = (false, eval e X.env) :: starEach es X.env := by rfl) (hpl : (backTo pos (starEach es X.env)).any (·.1) = false := by rfl) : DE X E (.Call (.Name x p) (e :: es) [] pos) (dCall g fs) := by
  obtain ⟨r, hr, hq⟩ := hc
  refine peI (pe_callTy hr hg hm hv ha hn hdb he hpl) fun σ H Q ⟨ρ, G, s, r, fi⟩ => ?_
  exact ⟨ρ, G, s, r, fi.bind.imp fun ds H1 G1 g1 fi1 vs hvs => hq E G1 H1 vs ds Q g1.gh hvs fi1⟩
/-- the promise of a def by its function on data -/
def spD (K : PySem.W.Frag) (n : Nat) (g : List D → Rs D) : Sp := fun vs H Q E => ∃ G ds, Same G H ∧ DpAll K G vs ds ∧ ds.length = n ∧ Fi K E H G (g ds) (fun d H' G' => ∀ v, Dp K G' v d → Q v H')
def dCallN (n : Nat) (g : List D → Rs D) (fs : Ev → Rs (List D)) : Ev → Rs D := fun ρ => (fs ρ).bind fun ds => if ds.length = n then g ds else .bot
theorem de_call {CX : CXT} {k n : Nat} {f : Addr} {fd : FuncData} {ps : List Str} {x : Str} {p : Pos} {g : List D → Rs D} (F : FnOk X.prog X.w X.K X.mg X.base CX k f fd ps (spD X.K n g)) (hr : Room k X.A) (hg : Gl X x) (hm : X.mg x = some (.ref f)) (hk : PySem.W.keepIn X.K (.ref f) = true) (hb : Binds X.K fd ps []) (hx : Passes CX X E)
    (ha : DA X E (e :: es) fs) (hdb : (x == ("__debug__" : Str)) = false := by decide) (he : starEach (e :: es) X.env = (false, eval e X.env) :: starEach es X.env := by rfl) (hpl : (backTo pos (starEach es X.env)).any (·.1) = false := by rfl) :
    DE X E (.Call (.Name x p) (e :: es) [] pos) (dCallN n g fs) := by
  refine peI (pe_call F hr hg hm hk hb .nil hx ha hdb he hpl) fun σ H Q ⟨ρ, G, s, r, fi⟩ => ?_
  refine ⟨ρ, G, s, r, fi.bind.imp fun ds H1 G1 g1 fi1 vs hvs => ?_⟩
  by_cases c : ds.length = n
  · rw [if_pos c] at fi1
    rw [List.append_nil]
    exact ⟨G1, ds, g1.gh, hvs, c, fi1⟩
  · rw [if_neg c] at fi1; exact False.elim fi1
end
end KD

/-! KD2: statements, loops, comprehensions as functions of the slots. -/
namespace KD
open PySem L2

inductive SR where
  | nx (ρ : Ev) | rt (d : D) | ro (xs : List D) | bk (ρ : Ev) | ct (ρ : Ev) | xc (c : Str) (ns : List Str) (fs : List D) | bot
def Rs.sr {α : Type} (r : Rs α) (k : α → SR) : SR := match r with
  | .ok a => k a
  | .xc c n f => .xc c n f
  | .bot => .bot
@[simp] theorem Rs.sr_ok {α : Type} (a : α) (k : α → SR) : (Rs.ok a).sr k = k a := rfl
@[simp] theorem Rs.sr_xc {α : Type} (c n f) (k : α → SR) : (Rs.xc c n f : Rs α).sr k = .xc c n f := rfl
@[simp] theorem Rs.sr_bot {α : Type} (k : α → SR) : (Rs.bot : Rs α).sr k = .bot := rfl
def SR.seq (r : SR) (k : Ev → SR) : SR := match r with
  | .nx ρ => k ρ
  | .rt d => .rt d
  | .ro xs => .ro xs
  | .bk ρ => .bk ρ
  | .ct ρ => .ct ρ
  | .xc c n f => .xc c n f
  | .bot => .bot
@[simp] theorem SR.seq_nx (ρ : Ev) (k : Ev → SR) : (SR.nx ρ).seq k = k ρ := rfl
@[simp] theorem SR.seq_rt (d : D) (k : Ev → SR) : (SR.rt d).seq k = .rt d := rfl
@[simp] theorem SR.seq_ro (xs : List D) (k : Ev → SR) : (SR.ro xs).seq k = .ro xs := rfl
@[simp] theorem SR.seq_bk (ρ : Ev) (k : Ev → SR) : (SR.bk ρ).seq k = .bk ρ := rfl
@[simp] theorem SR.seq_ct (ρ : Ev) (k : Ev → SR) : (SR.ct ρ).seq k = .ct ρ := rfl
@[simp] theorem SR.seq_xc (c n f) (k : Ev → SR) : (SR.xc c n f).seq k = .xc c n f := rfl
@[simp] theorem SR.seq_bot (k : Ev → SR) : SR.bot.seq k = .bot := rfl
def Rs.nox {α : Type} (r : Rs α) : Rs α := match r with
  | .ok a => .ok a
  | _ => .bot
@[simp] theorem Rs.nox_ok {α : Type} (a : α) : (Rs.ok a).nox = .ok a := rfl

structure At (K : PySem.W.Frag) (H0 G0 H G : Hp) (σ : L2.St) (ρ : Ev) : Prop where
  gr : Grow H0 G0 H G
  rep : Rep K G H σ ρ
  own : ∀ (i : Nat) (s : Sl) (a : Addr), ρ[i]? = some s → s.own = true → σ[i]? = some (some (.ref a)) → H0 a = none
section
variable {K : PySem.W.Frag} {H0 G0 H G H' G' : Hp} {σ : L2.St} {ρ : Ev} {E : XK} {Dn : Ends}
theorem At.grow (a : At K H0 G0 H G σ ρ) (g : Grow H G H' G') : At K H0 G0 H' G' σ ρ := ⟨a.gr.trans g, a.rep.grow g, a.own⟩
theorem At.setDt (a : At K H0 G0 H G σ ρ) {i : Nat} {v : V} {d : D} (h : Dp K G v d) : At K H0 G0 H G (σ.set i (some v)) (ρ.set i (.dt d)) := by
  refine ⟨a.gr, a.rep.setDt h, fun j s b h1 h2 h3 => ?_⟩
  by_cases hj : i = j
  · subst hj
    have hi : i < ρ.length := by have := (List.getElem?_eq_some_iff.mp h1).1; simpa using this
    rw [List.getElem?_set_self hi] at h1; cases h1; cases h2
  · rw [List.getElem?_set_ne hj] at h1 h3; exact a.own j s b h1 h2 h3
theorem At.drop (a : At K H0 G0 H G σ ρ) (i : Nat) : At K H0 G0 H G σ (ρ.set i .no) := by
  refine ⟨a.gr, a.rep.drop i, fun j s b h1 h2 h3 => ?_⟩
  by_cases hj : i = j
  · subst hj
    have hi : i < ρ.length := by have := (List.getElem?_eq_some_iff.mp h1).1; simpa using this
    rw [List.getElem?_set_self hi] at h1; cases h1; cases h2
  · rw [List.getElem?_set_ne hj] at h1; exact a.own j s b h1 h2 h3
def wipeE : List Nat → Ev → Ev
  | [], ρ => ρ
  | i :: is, ρ => wipeE is (ρ.set i .no)
theorem At.wipe : ∀ (is : List Nat) {ρ : Ev}, At K H0 G0 H G σ ρ → At K H0 G0 H G σ (wipeE is ρ)
  | [], _, a => a
  | i :: is, _, a => At.wipe is (a.drop i)
theorem Rep.wipe : ∀ (is : List Nat) {ρ : Ev}, Rep K G H σ ρ → Rep K G H σ (wipeE is ρ)
  | [], _, a => a
  | i :: is, _, a => Rep.wipe is (a.drop i)

def FiS (K : PySem.W.Frag) (E : XK) (H0 G0 G : Hp) (r : SR) (Dn : Ends) : Prop := match r with
  | .nx ρ => ∀ σ H G', Same G G' → At K H0 G0 H G' σ ρ → Dn.nx σ H
  | .bk ρ => ∀ σ H G', Same G G' → At K H0 G0 H G' σ ρ → Dn.bk σ H
  | .ct ρ => ∀ σ H G', Same G G' → At K H0 G0 H G' σ ρ → Dn.ct σ H
  | .rt d => ∀ v H' G', Grow H0 G0 H' G' → Dp K G' v d → Dn.rt v H'
  | .ro xs => ∀ vs H' G', Grow H0 G0 H' G' → DpAll K G' vs xs → ∀ l, H' l = none → Dn.rt (.ref l) (upd H' l (.lst vs))
  | .xc c ns fs => ∀ od H' G', Grow H0 G0 H' G' → XdOk K H' G' od ns fs → E (.ref (He.ga K c)) od H'
  | .bot => False
theorem FiS.up {r : SR} (h : FiS K E H0 G0 G r Dn) (s : Same G G') : FiS K E H0 G0 G' r Dn := by
  cases r with
  | nx ρ => exact fun σ H G'' q => h σ H G'' (s.trans q)
  | bk ρ => exact fun σ H G'' q => h σ H G'' (s.trans q)
  | ct ρ => exact fun σ H G'' q => h σ H G'' (s.trans q)
  | rt d => exact h
  | ro d => exact h
  | xc c n f => exact h
  | bot => exact h
theorem FiS.sr {α : Type} {r : Rs α} {k : α → SR} (h : FiS K E H0 G0 G (r.sr k) Dn) (a : At K H0 G0 H G σ ρ) : Fi K E H G r (fun x H' G' => At K H0 G0 H' G' σ ρ ∧ FiS K E H0 G0 G' (k x) Dn) := by
  cases r with
  | ok x => exact fun H' G' g => ⟨a.grow g, FiS.up (r := k x) h g.gg⟩
  | xc c n f => exact fun od H' G' g x => h od H' G' (a.gr.trans g) x
  | bot => exact h
def tS (K : PySem.W.Frag) (E : XK) (f : Ev → SR) : TS := fun Dn σ H => ∃ H0 G0 ρ G, At K H0 G0 H G σ ρ ∧ FiS K E H0 G0 G (f ρ) Dn
end
abbrev DS (X : Cx) (E : XK) (st : Stmt) (f : Ev → SR) : Prop := PS X st (tS X.K E f)
abbrev DSs (X : Cx) (E : XK) (st : List Stmt) (f : Ev → SR) : Prop := PSs X st (tS X.K E f)

def sSeq (f g : Ev → SR) : Ev → SR := fun ρ => (f ρ).seq g
def sNil : Ev → SR := .nx
def sIf (c : Ev → Rs Bool) (f g : Ev → SR) : Ev → SR := fun ρ => (c ρ).sr fun b => if b = true then f ρ else g ρ
def sSet (i : Nat) (f : Ev → Rs D) : Ev → SR := fun ρ => (f ρ).sr fun d => .nx (ρ.set i (.dt d))
def sRet (f : Ev → Rs D) : Ev → SR := fun ρ => (f ρ).sr .rt
def sRetN : Ev → SR := fun _ => .rt .non
def sExpr (f : Ev → Rs D) : Ev → SR := fun ρ => (f ρ).sr fun _ => .nx ρ
/-- x = [] -/
def sNew (i : Nat) : Ev → SR := fun ρ => .nx (ρ.set i (.ol []))
/-- x = {} -/
def sNewD (i : Nat) : Ev → SR := fun ρ => .nx (ρ.set i (.od [] []))
def sApp (i : Nat) (f : Ev → Rs D) : Ev → SR := fun ρ => match ρ[i]? with
  | some (.ol xs) => (f ρ).sr fun d => if xs.length < 1000000 then .nx (ρ.set i (.ol (xs ++ [d]))) else .bot
  | _ => .bot
/-- an owned thing becomes data -/
def frz (i : Nat) (ρ : Ev) : Ev := match ρ[i]? with
  | some (.ol xs) => ρ.set i (.dt (.lst xs))
  | some (.od ks vs) => ρ.set i (.dt (.dic ks vs))
  | some (.oo _ c ns fs) => ρ.set i (.dt (.ob c ns fs))
  | _ => ρ
section
variable {X : Cx} {E : XK} {st : Stmt} {rest body : List Stmt} {f g h : Ev → SR} {e : Expr} {fa fb : Ev → Rs D} {ft : Ev → Rs Bool} {pos : Pos}
theorem ds_nil : DSs X E [] sNil := pssI pss_nil fun D σ H ⟨H0, G0, ρ, G, a, fi⟩ => fi σ H G (Same.refl _) a
theorem ds_cons (h1 : DS X E st f) (h2 : DSs X E rest g) : DSs X E (st :: rest) (sSeq f g) := by
  refine pssI (pss_cons h1 h2) fun D σ H ⟨H0, G0, ρ, G, a, fi⟩ => ?_
  refine ⟨H0, G0, ρ, G, a, ?_⟩
  unfold sSeq at fi
  cases q : f ρ with
  | nx ρ' =>
    rw [q] at fi
    exact fun σ' H' G' s' a' => ⟨H0, G0, ρ', G', a', FiS.up (r := g ρ') fi s'⟩
  | rt d => rw [q] at fi; exact fi
  | ro d => rw [q] at fi; exact fi
  | bk d => rw [q] at fi; exact fi
  | ct d => rw [q] at fi; exact fi
  | xc c n d => rw [q] at fi; exact fi
  | bot => rw [q] at fi; exact fi
theorem ds_one (h1 : DS X E st f) : DSs X E [st] f := pss_one h1
theorem ds_pass : DS X E (.Pass pos) sNil := psI ps_pass fun D σ H ⟨H0, G0, ρ, G, a, fi⟩ => fi σ H G (Same.refl _) a
theorem ds_doc {x j pos'} : DS X E (.Expr (.Constant (.str x) j pos) pos') sNil := psI ps_doc fun D σ H ⟨H0, G0, ρ, G, a, fi⟩ => fi σ H G (Same.refl _) a
theorem ds_break : DS X E (.Break pos) .bk := psI ps_break fun D σ H ⟨H0, G0, ρ, G, a, fi⟩ => fi σ H G (Same.refl _) a
theorem ds_cont : DS X E (.Continue pos) .ct := psI ps_continue fun D σ H ⟨H0, G0, ρ, G, a, fi⟩ => fi σ H G (Same.refl _) a
theorem ds_never : DS X E st (fun _ => .bot) := psI ps_never fun D σ H ⟨H0, G0, ρ, G, a, fi⟩ => fi
theorem ds_if {c : Expr} {a b : List Stmt} (hc : DT X E c ft) (ha : DSs X E a f) (hb : DSs X E b g) : DS X E (.If c a b pos) (sIf ft f g) := by
  refine psI (ps_if hc ha hb) fun D σ H ⟨H0, G0, ρ, G, at_, fi⟩ => ?_
  refine ⟨ρ, G, at_.gr.gh, at_.rep, (fi.sr at_).imp fun c H1 G1 g1 ⟨a1, fi1⟩ => ?_⟩
  cases c with
  | true => exact iteT ⟨H0, G0, ρ, G1, a1, fi1⟩
  | false => exact iteF ⟨H0, G0, ρ, G1, a1, fi1⟩
theorem ds_ret (he : DE X E e fa) : DS X E (.Return (some e) pos) (sRet fa) := by
  refine psI (ps_ret he) fun D σ H ⟨H0, G0, ρ, G, at_, fi⟩ => ?_
  exact ⟨ρ, G, at_.gr.gh, at_.rep, (fi.sr at_).imp fun d H1 G1 g1 ⟨a1, fi1⟩ v hv => fi1 v H1 G1 a1.gr hv⟩
theorem ds_retN : DS X E (.Return none pos) sRetN := psI ps_retN fun D σ H ⟨H0, G0, ρ, G, at_, fi⟩ => fi .non H G at_.gr .non
theorem ds_expr (he : DE X E e fa) (hs : swapsWith e none pos.line X.env = pure false := by rfl) : DS X E (.Expr e pos) (sExpr fa) := by
  refine psI (ps_expr he hs) fun D σ H ⟨H0, G0, ρ, G, at_, fi⟩ => ?_
  exact ⟨ρ, G, at_.gr.gh, at_.rep, (fi.sr at_).imp fun d H1 G1 g1 ⟨a1, fi1⟩ v hv => fi1 σ H1 G1 (Same.refl _) a1⟩
/-- x = e -/
theorem ds_set {i : Nat} (h : PS X st (tAsg (tD X.K E fa) (gName i))) : DS X E st (sSet i fa) := by
  refine psI h fun D σ H ⟨H0, G0, ρ, G, at_, fi⟩ => ?_
  exact ⟨ρ, G, at_.gr.gh, at_.rep, (fi.sr at_).imp fun d H1 G1 g1 ⟨a1, fi1⟩ v hv => fi1 _ H1 G1 (Same.refl _) (a1.setDt hv)⟩
theorem At.newOl {K : PySem.W.Frag} {H0 G0 H G : Hp} {σ : L2.St} {ρ : Ev} (a : At K H0 G0 H G σ ρ) {i : Nat} {p : Addr} (n : H p = none) : At K H0 G0 (upd H p (.lst [])) G (σ.set i (some (.ref p))) (ρ.set i (.ol [])) := by
  have g := Grow.beside (o := .lst []) a.gr.gh n
  have a' := a.grow g
  refine ⟨a'.gr, a'.rep.set ⟨p, [], rfl, upd_same, a.gr.gh.free n, .nil⟩ fun b _ e j t _ h1 h2 h3 => ?_, fun j s b h1 h2 h3 => ?_⟩
  · cases e
    obtain ⟨⟨u, hu⟩, _⟩ := a.rep.addr h1 h2 h3
    rw [n] at hu; cases hu
  · by_cases hj : i = j
    · subst hj
      have hi : i < σ.length := by have := (List.getElem?_eq_some_iff.mp h3).1; simpa using this
      rw [List.getElem?_set_self hi] at h3; cases h3
      exact a.gr.hh.free n
    · rw [List.getElem?_set_ne hj] at h1 h3; exact a.own j s b h1 h2 h3
theorem ds_new {i : Nat} (h : PS X st (tAsg (tLst tNil) (gName i))) : DS X E st (sNew i) := by
  refine psI h fun D σ H ⟨H0, G0, ρ, G, at_, fi⟩ => ?_
  exact ⟨Nat.zero_le _, fun p np => fi _ _ G (Same.refl _) (at_.newOl np)⟩
theorem At.newOd {K : PySem.W.Frag} {H0 G0 H G : Hp} {σ : L2.St} {ρ : Ev} (a : At K H0 G0 H G σ ρ) {i : Nat} {p : Addr} (n : H p = none) : At K H0 G0 (upd H p (.dK [])) G (σ.set i (some (.ref p))) (ρ.set i (.od [] [])) := by
  have g := Grow.beside (o := .dK []) a.gr.gh n
  have a' := a.grow g
  refine ⟨a'.gr, a'.rep.set ⟨p, [], rfl, upd_same, a.gr.gh.free n, .nil, .nil⟩ fun b _ e j t _ h1 h2 h3 => ?_, fun j s b h1 h2 h3 => ?_⟩
  · cases e
    obtain ⟨⟨u, hu⟩, _⟩ := a.rep.addr h1 h2 h3
    rw [n] at hu; cases hu
  · by_cases hj : i = j
    · subst hj
      have hi : i < σ.length := by have := (List.getElem?_eq_some_iff.mp h3).1; simpa using this
      rw [List.getElem?_set_self hi] at h3; cases h3
      exact a.gr.hh.free n
    · rw [List.getElem?_set_ne hj] at h1 h3; exact a.own j s b h1 h2 h3
/-- an owned thing is written anew in its place -/
theorem At.put {K : PySem.W.Frag} {H0 G0 H G : Hp} {σ : L2.St} {ρ : Ev} (a : At K H0 G0 H G σ ρ) {i : Nat} {p : Addr} {o : HO} {s s' : Sl} (h : ρ[i]? = some s) (ho : s.own = true) (e : σ[i]? = some (some (.ref p)))
    (h' : SlOk K G (upd H p o) (some (.ref p)) s') : At K H0 G0 (upd H p o) G σ (ρ.set i s') := by
  obtain ⟨⟨u, hu⟩, ng⟩ := a.rep.addr h ho e
  have n0 := a.own i s p h ho e
  have hi : i < ρ.length := (List.getElem?_eq_some_iff.mp h).1
  have other : ∀ {j : Nat} {t : Sl} {b : Addr}, i ≠ j → ρ[j]? = some t → t.own = true → σ[j]? = some (some (.ref b)) → b ≠ p := fun {j t b} ne h1 h2 h3 q => by
    subst q
    exact ne (a.rep.dis i j s t b h h1 ho h2 e h3)
  refine ⟨⟨fun b u q => ?_, a.gr.gg, fun b u q => ?_, a.gr.nw⟩, ⟨by simp [a.rep.len], fun j t o' h1 h2 => ?_, fun j k t w b h1 h2 o1 o2 e1 e2 => ?_⟩, fun j t b h1 h2 h3 => ?_⟩
  · rw [upd_ne (ne_of_none q n0)]; exact a.gr.hh b u q
  · rw [upd_ne (ne_of_none q ng)]; exact a.gr.gh b u q
  · by_cases hj : i = j
    · subst hj
      rw [List.getElem?_set_self hi] at h1; cases h1
      rw [e] at h2; cases h2; exact h'
    · rw [List.getElem?_set_ne hj] at h1
      have q := a.rep.sl j t o' h1 h2
      cases t with
      | no => trivial
      | dt d => exact q
      | ol xs =>
        obtain ⟨b, vs, rfl, q1, q2⟩ := q
        exact ⟨b, vs, rfl, by rw [upd_ne (other hj h1 rfl h2)]; exact q1, q2⟩
      | od ks vs =>
        obtain ⟨b, us, rfl, q1, q2⟩ := q
        exact ⟨b, us, rfl, by rw [upd_ne (other hj h1 rfl h2)]; exact q1, q2⟩
      | oo pp c ns fs =>
        obtain ⟨b, dx, us, ep, rfl, q1, q2⟩ := q
        exact ⟨b, dx, us, ep, rfl, by rw [upd_ne (other hj h1 rfl h2)]; exact q1, q2⟩
      | on w ks vs =>
        obtain ⟨b, us, rfl, q1, q2⟩ := q
        exact ⟨b, us, rfl, by rw [upd_ne (other hj h1 rfl h2)]; exact q1, q2⟩
      | rf a => exact q
      | ex a od ns fs => exact q
  · by_cases hj : i = j
    · subst hj
      by_cases hk : i = k
      · exact hk
      · exfalso
        rw [List.getElem?_set_ne hk] at h2
        rw [e] at e1; cases e1
        exact other hk h2 o2 e2 rfl
    · by_cases hk : i = k
      · subst hk
        exfalso
        rw [List.getElem?_set_ne hj] at h1
        rw [e] at e2; cases e2
        exact other hj h1 o1 e1 rfl
      · rw [List.getElem?_set_ne hj] at h1
        rw [List.getElem?_set_ne hk] at h2
        exact a.rep.dis j k t w b h1 h2 o1 o2 e1 e2
  · by_cases hj : i = j
    · subst hj
      rw [e] at h3; cases h3; exact n0
    · rw [List.getElem?_set_ne hj] at h1; exact a.own j t b h1 h2 h3
theorem lt_line {n : Nat} (h : n < 1000000) : n < sizeLine := by rw [sizeLine_eq]; omega
theorem mtm {id : String} {r : V → List V → Hp → VK → Prop} (h : MtM X id r) : MtR X id r := h
/-- x.append(e) -/
theorem ds_app {i : Nat} (h : PS X st (tDrop (tBM X.K "list" rAppend (tVar i) (tCons (tD X.K E fa) tNil)))) : DS X E st (sApp i fa) := by
  refine psI h fun D σ H ⟨H0, G0, ρ, G, at_, fi⟩ => ?_
  unfold sApp at fi
  split at fi
  · rename_i xs q
    obtain ⟨a, vs, e, hH, nG, dp⟩ := at_.rep.ol q
    refine ⟨_, e, .inl ⟨rfl, _, SqL.of hH⟩, ρ, G, at_.gr.gh, at_.rep, (fi.sr at_).imp fun d H1 G1 g1 ⟨a1, fi1⟩ v hv => ?_⟩
    by_cases c : xs.length < 1000000
    · rw [if_pos c] at fi1
      have l := dp.length
      refine ⟨a, vs, v, rfl, rfl, g1.hh _ _ hH, lt_line (by omega), ?_⟩
      exact fi1 σ _ G1 (Same.refl _) (a1.put q rfl e ⟨a, vs ++ [v], rfl, upd_same, (a1.rep.addr q rfl e).2, (dp.up g1.gg).append (.cons hv .nil)⟩)
    · rw [if_neg c] at fi1; exact False.elim fi1
  · exact False.elim fi
theorem At.frz {K : PySem.W.Frag} {H0 G0 H G : Hp} {σ : L2.St} {ρ : Ev} (a : At K H0 G0 H G σ ρ) (i : Nat) : ∃ G', Same G G' ∧ At K H0 G0 H G' σ (KD.frz i ρ) := by
  have key : ∀ (s : Sl) (p : Addr) (o : HO) (d : D), ρ[i]? = some s → s.own = true → σ[i]? = some (some (.ref p)) → H p = some o → Dp K (upd G p o) (.ref p) d → ∃ G', Same G G' ∧ At K H0 G0 H G' σ (ρ.set i (.dt d)) := fun s p o d h ho e hp hd => by
    obtain ⟨_, ng⟩ := a.rep.addr h ho e
    have n0 := a.own i s p h ho e
    have hi : i < ρ.length := (List.getElem?_eq_some_iff.mp h).1
    have sg : Same G (upd G p o) := same_upd ng
    have other : ∀ {j : Nat} {t : Sl} {b : Addr}, i ≠ j → ρ[j]? = some t → t.own = true → σ[j]? = some (some (.ref b)) → b ≠ p := fun {j t b} ne h1 h2 h3 q => by
      subst q
      exact ne (a.rep.dis i j s t b h h1 ho h2 e h3)
    refine ⟨upd G p o, sg, ⟨⟨a.gr.hh, a.gr.gg.trans sg, fun b u q => ?_, fun b u q => ?_⟩, ⟨by simp [a.rep.len], fun j t o' h1 h2 => ?_, fun j k t w b h1 h2 o1 o2 e1 e2 => ?_⟩, fun j t b h1 h2 h3 => ?_⟩⟩
    · by_cases e' : b = p
      · subst e'; rw [upd_same] at q; cases q; exact hp
      · rw [upd_ne e'] at q; exact a.gr.gh b u q
    · by_cases e' : b = p
      · subst e'; exact .inr n0
      · rw [upd_ne e'] at q; exact a.gr.nw b u q
    · by_cases hj : i = j
      · subst hj
        rw [List.getElem?_set_self hi] at h1; cases h1
        rw [e] at h2; cases h2; exact ⟨_, rfl, hd⟩
      · rw [List.getElem?_set_ne hj] at h1
        have q := a.rep.sl j t o' h1 h2
        cases t with
        | no => trivial
        | dt d => obtain ⟨v, e1, q⟩ := q; exact ⟨v, e1, q.up sg⟩
        | ol xs =>
          obtain ⟨b, vs, rfl, q1, q2, q3⟩ := q
          exact ⟨b, vs, rfl, q1, by rw [upd_ne (other hj h1 rfl h2)]; exact q2, q3.up sg⟩
        | od ks vs =>
          obtain ⟨b, us, rfl, q1, q2, q3, q4⟩ := q
          exact ⟨b, us, rfl, q1, by rw [upd_ne (other hj h1 rfl h2)]; exact q2, q3.up sg, q4.up sg⟩
        | oo pp c ns fs =>
          obtain ⟨b, dx, us, ep, rfl, q1, q2, q3, q4⟩ := q
          exact ⟨b, dx, us, ep, rfl, q1, by rw [upd_ne (other hj h1 rfl h2)]; exact q2, q3, q4.up sg⟩
        | on w ks vs =>
          obtain ⟨b, us, rfl, q1, q2, q0, q3, q4⟩ := q
          exact ⟨b, us, rfl, q1, by rw [upd_ne (other hj h1 rfl h2)]; exact q2, q0, q3.up sg, q4.up sg⟩
        | rf a => exact q
        | ex a od ns fs => exact ⟨q.1, q.2.up sg⟩
    · have ne : ∀ {j : Nat} {t : Sl}, (ρ.set i (.dt d))[j]? = some t → t.own = true → ρ[j]? = some t := fun {j t} h o => by
        by_cases hj : i = j
        · subst hj; rw [List.getElem?_set_self hi] at h; cases h; cases o
        · rw [List.getElem?_set_ne hj] at h; exact h
      exact a.rep.dis j k t w b (ne h1 o1) (ne h2 o2) o1 o2 e1 e2
    · by_cases hj : i = j
      · subst hj; rw [List.getElem?_set_self hi] at h1; cases h1; cases h2
      · rw [List.getElem?_set_ne hj] at h1; exact a.own j t b h1 h2 h3
  unfold KD.frz
  split
  · rename_i xs q
    obtain ⟨p, vs, e, hH, nG, dp⟩ := a.rep.ol q
    exact key _ p _ _ q rfl e hH (.lst upd_same (dp.up (same_upd nG)))
  · rename_i ks vs q
    obtain ⟨p, us, e, hH, nG, dk, dp⟩ := a.rep.od q
    exact key _ p _ _ q rfl e hH (.dic upd_same (dk.up (same_upd nG)) (dp.up (same_upd nG)))
  · rename_i pp c ns fs q
    obtain ⟨p, dx, us, _, e, hH, nG, en, dp⟩ := a.rep.oo q
    subst en
    exact key _ p _ _ q rfl e hH (.ob upd_same (dp.up (same_upd nG)))
  · exact ⟨G, Same.refl _, a⟩
theorem ds_frz {body : List Stmt} (i : Nat) (h : DSs X E body f) : DSs X E body (fun ρ => f (KD.frz i ρ)) := by
  refine pssI h fun D σ H ⟨H0, G0, ρ, G, at_, fi⟩ => ?_
  obtain ⟨G', s', a'⟩ := at_.frz i
  exact ⟨H0, G0, _, G', a', fi.up s'⟩
/-- forget slots -/
theorem ds_wipe {body : List Stmt} (is : List Nat) (h : DSs X E body f) : DSs X E body (fun ρ => f (wipeE is ρ)) :=
  pssI h fun D σ H ⟨H0, G0, ρ, G, at_, fi⟩ => ⟨H0, G0, _, G, at_.wipe is, fi⟩
end

/-! ### loops -/
/-- what is walked: the data ds, as long as G stands -/
structure ItD (K : PySem.W.Frag) (J : It) (G : Hp) (ds : List D) : Prop where
  go : ∀ i H, Same G H → i < ds.length → J.go i H
  yld : ∀ i H x H', Same G H → J.yld i H x H' → H' = H ∧ ∀ d, ds[i]? = some d → Dp K G x d
  stop : ∀ H, Same G H → J.stop ds.length H
def tDI (K : PySem.W.Frag) (E : XK) (f : Ev → Rs (List D)) : TI := fun σ H R => tG K E f (fun ds H' G' => ∀ J, ItD K J G' ds → R J H') σ H
abbrev DI (X : Cx) (E : XK) (tg iter : Expr) (f : Ev → Rs (List D)) : Prop := PI X tg iter (tDI X.K E f)
theorem piI {X : Cx} {tg iter : Expr} {t t' : TI} (h : PI X tg iter t) (f : ∀ σ H R, t' σ H R → t σ H R) : PI X tg iter t' := ⟨fun pins s σ H R I q => h.run pins s σ H R I (f σ H R q)⟩
def asL : D → Rs (List D)
  | .lst xs => .ok xs
  | .fls xs => .ok xs
  | _ => .bot
def asT : D → Rs (List D)
  | .tup xs => .ok xs
  | _ => .bot
def dItL (f : Ev → Rs D) : Ev → Rs (List D) := fun ρ => (f ρ).bind asL
def dItT (f : Ev → Rs D) : Ev → Rs (List D) := fun ρ => (f ρ).bind asT
def rngD (lo : Int) (n : Nat) : List D := (List.range n).map fun i : Nat => D.int (lo + (i : Int))
def asRng : D → Rs (List D)
  | .int j => if -1000000000 < j ∧ j < 1000000000 then .ok (rngD 0 j.toNat) else .bot
  | _ => .bot
def asRng2 (d e : D) : Rs (List D) := match d, e with
  | .int i, .int j => if (-1000000000 < i ∧ i < 1000000000) ∧ -1000000000 < j ∧ j < 1000000000 then .ok (rngD i (j - i).toNat) else .bot
  | _, _ => .bot
def dItR (f : Ev → Rs D) : Ev → Rs (List D) := fun ρ => (f ρ).bind asRng
def dItR2 (f g : Ev → Rs D) : Ev → Rs (List D) := fun ρ => (f ρ).bind fun d => (g ρ).bind fun e => asRng2 d e
section
variable {X : Cx} {E : XK} {tg : Expr} {e a b : Expr} {fa fb : Ev → Rs D} {pos p : Pos}
theorem itD_list {K : PySem.W.Frag} {G : Hp} {a : Addr} {xs : List V} {ds : List D} (h : SqL K G a xs) (q : DpAll K G xs ds) : ItD K (Itl K a) G ds where
  go i H s hi := ⟨xs, xs[i]'(by rw [q.length]; exact hi), s.seq h, by simp [q.length, hi]⟩
  yld i H x H' s hy := by
    obtain ⟨e, y⟩ := hy
    refine ⟨e, fun d hd => ?_⟩
    obtain ⟨v, h1, h2⟩ := q.getD hd
    have := y xs (s.seq h)
    rw [this] at h1; cases h1; exact h2
  stop H s := ⟨xs, s.seq h, by rw [q.length]; exact Nat.le_refl _⟩
theorem itD_tup {K : PySem.W.Frag} {G : Hp} {a : Addr} {xs : List V} {ds : List D} (h : SqT K G a xs) (q : DpAll K G xs ds) : ItD K (Itt K a) G ds where
  go i H s hi := ⟨xs, xs[i]'(by rw [q.length]; exact hi), KD.SqT.mono s h, by simp [q.length, hi]⟩
  yld i H x H' s hy := by
    obtain ⟨e, y⟩ := hy
    refine ⟨e, fun d hd => ?_⟩
    obtain ⟨v, h1, h2⟩ := q.getD hd
    have := y xs (KD.SqT.mono s h)
    rw [this] at h1; cases h1; exact h2
  stop H s := ⟨xs, KD.SqT.mono s h, by rw [q.length]; exact Nat.le_refl _⟩
theorem rngD_length (lo : Int) (n : Nat) : (rngD lo n).length = n := by simp [rngD]
theorem itD_rng {K : PySem.W.Frag} {G : Hp} {lo : Int} {n : Nat} : ItD K (Itr lo n) G (rngD lo n) where
  go i H s hi := by rw [rngD_length] at hi; exact hi
  yld i H x H' s hy := by
    obtain ⟨e, y⟩ := hy
    refine ⟨e, fun d hd => ?_⟩
    subst y
    have hi : i < n := by have := (List.getElem?_eq_some_iff.mp hd).1; rw [rngD_length] at this; exact this
    have : d = .int (lo + i) := by
      simp [rngD, hi] at hd
      exact hd.symm
    rw [this]; exact .int _
  stop H s := by rw [rngD_length]; exact Nat.le_refl _
theorem di_list (h : DE X E e fa) : DI X E tg e (dItL fa) := by
  refine piI (pi_list h) fun σ H R ⟨ρ, G, s, r, fi⟩ => ?_
  refine ⟨ρ, G, s, r, fi.bind.imp fun d H1 G1 g1 fi1 v hv => ?_⟩
  cases hv with
  | lst h1 h2 => exact ⟨_, rfl, ⟨_, SqL.of (g1.gh _ _ h1)⟩, fi1.now g1.gh _ (itD_list (SqL.of h1) h2)⟩
  | fls h1 h2 => exact ⟨_, rfl, ⟨_, g1.gh.seq h1⟩, fi1.now g1.gh _ (itD_list h1 h2)⟩
  | _ => exact False.elim fi1
theorem di_tup (h : DE X E e fa) : DI X E tg e (dItT fa) := by
  refine piI (pi_tup h) fun σ H R ⟨ρ, G, s, r, fi⟩ => ?_
  refine ⟨ρ, G, s, r, fi.bind.imp fun d H1 G1 g1 fi1 v hv => ?_⟩
  cases hv with
  | tup h1 h2 => exact ⟨_, rfl, ⟨_, KD.SqT.mono g1.gh h1⟩, fi1.now g1.gh _ (itD_tup h1 h2)⟩
  | _ => exact False.elim fi1
theorem di_rng (hg : Gl X "range") (hm : X.mg "range" = none) (ha : DE X E a fa) (hs : starEach [a] X.env = [(false, eval a X.env)] := by rfl) : DI X E tg (.Call (.Name "range" p) [a] [] pos) (dItR fa) := by
  refine piI (pi_range1 hg hm (pa_cons ha pa_nil (by rw [hs]; rfl)) hs) fun σ H R ⟨ρ, G, s, r, fi⟩ => ?_
  refine ⟨ρ, G, s, r, fi.bind.imp fun d H1 G1 g1 fi1 v hv => ?_⟩
  cases hv with
  | int j =>
    unfold asRng at fi1
    dsimp only at fi1
    by_cases c : -1000000000 < j ∧ j < 1000000000
    · rw [if_pos c] at fi1
      exact ⟨j, rfl, by omega, by omega, fi1.now g1.gh _ itD_rng⟩
    · rw [if_neg c] at fi1; exact False.elim fi1
  | _ => exact False.elim fi1
theorem di_rng2 (hg : Gl X "range") (hm : X.mg "range" = none) (ha : DE X E a fa) (hb : DE X E b fb) (hs : starEach [a, b] X.env = [(false, eval a X.env), (false, eval b X.env)] := by rfl) (hs2 : starEach [b] X.env = [(false, eval b X.env)] := by rfl) : DI X E tg (.Call (.Name "range" p) [a, b] [] pos) (dItR2 fa fb) := by
  refine piI (pi_range2 hg hm (pa_cons ha (pa_cons hb pa_nil (by rw [hs2]; rfl)) (by rw [hs, hs2])) hs hs2) fun σ H R ⟨ρ, G, s, r, fi⟩ => ?_
  refine ⟨ρ, G, s, r, fi.bind.imp fun d H1 G1 g1 fi1 v hv => ?_⟩
  refine ⟨ρ, G1, g1.gh, r.grow g1, fi1.bind.imp fun d' H2 G2 g2 fi2 v' hv' => ?_⟩
  cases hv with
  | int i =>
    cases hv' with
    | int j =>
      unfold asRng2 at fi2
      dsimp only at fi2
      by_cases c : (-1000000000 < i ∧ i < 1000000000) ∧ -1000000000 < j ∧ j < 1000000000
      · rw [if_pos c] at fi2
        exact ⟨i, j, rfl, ⟨by omega, by omega, by omega, by omega⟩, fi2.now g2.gh _ itD_rng⟩
      · rw [if_neg c] at fi2; exact False.elim fi2
    | _ => exact False.elim fi2
  | _ => cases hv' <;> exact False.elim fi2
end

/-! ### targets -/
/-- one name -/
def tgN (i : Nat) : D → Ev → Option Ev := fun d ρ => some (ρ.set i (.dt d))
/-- several names: (a, b, ..) = a tuple -/
def setsE : List Nat → List D → Ev → Ev
  | i :: is, d :: ds, ρ => setsE is ds (ρ.set i (.dt d))
  | _, _, ρ => ρ
def tgT (is : List Nat) : D → Ev → Option Ev := fun d ρ => match d with
  | .tup ds => if ds.length = is.length then some (setsE is ds ρ) else none
  | _ => none
/-- a target: what it does to slots and their readings; vs: slots that it may touch -/
def TgOk (K : PySem.W.Frag) (g : TG) (t : D → Ev → Option Ev) (vs : List Nat) : Prop := ∀ (v : V) (d : D) (σ : L2.St) (ρ ρ' : Ev) (H G : Hp) (Q : L2.St → Hp → Prop), Same G H → Dp K G v d → Rep K G H σ ρ → t d ρ = some ρ' →
  (∀ σ', L2.wipe σ' vs = L2.wipe σ vs → (Rep K G H σ ρ → Rep K G H σ' ρ') → (∀ H0 G0, At K H0 G0 H G σ ρ → At K H0 G0 H G σ' ρ') → Q σ' H) → g v σ H Q
theorem wipe_get {σ : L2.St} {vs : List Nat} (i : Nat) : (L2.wipe σ vs)[i]? = if i ∈ vs ∧ i < σ.length then some none else σ[i]? := by
  induction vs with
  | nil => simp [L2.wipe]
  | cons v vs ih =>
    unfold L2.wipe
    by_cases h : v = i
    · subst h
      by_cases hl : v < σ.length
      · rw [List.getElem?_set_self (by rw [L2.wipe_length]; exact hl)]; simp [hl]
      · rw [List.getElem?_eq_none (by rw [List.length_set, L2.wipe_length]; omega)]; simp [hl]
    · rw [List.getElem?_set_ne h, ih]
      have : i ≠ v := fun e => h e.symm
      simp [this]
theorem wipe_set {σ : L2.St} {vs : List Nat} {i : Nat} (o : Option V) (h : i ∈ vs) : L2.wipe (σ.set i o) vs = L2.wipe σ vs := by
  apply List.ext_getElem?
  intro j
  rw [wipe_get, wipe_get, List.length_set]
  by_cases hj : j ∈ vs ∧ j < σ.length
  · rw [if_pos hj, if_pos hj]
  · rw [if_neg hj, if_neg hj]
    by_cases e : i = j
    · subst e
      have : ¬ i < σ.length := fun q => hj ⟨h, q⟩
      rw [List.getElem?_eq_none (by rw [List.length_set]; omega), List.getElem?_eq_none (by omega)]
    · rw [List.getElem?_set_ne e]
theorem tg_name {K : PySem.W.Frag} {i : Nat} {vs : List Nat} (h : i ∈ vs) : TgOk K (gName i) (tgN i) vs := by
  intro v d σ ρ ρ' H G Q s hd r e q
  cases e
  exact q _ (wipe_set _ h) (fun r => r.setDt hd) (fun H0 G0 a => a.setDt hd)
/-- the readings of several names -/
def gNames : List Nat → TGs
  | [] => gNil
  | i :: is => gCons (gName i) (gNames is)
theorem tg_tup {K : PySem.W.Frag} {is vs : List Nat} (h : ∀ i ∈ is, i ∈ vs) : TgOk K (gTup K is.length (gNames is)) (tgT is) vs := by
  intro v d σ ρ ρ' H G Q s hd r e q
  cases hd with
  | tup h1 h2 =>
    rename_i a xs ds
    unfold tgT at e
    dsimp only at e
    by_cases c : ds.length = is.length
    · rw [if_pos c] at e
      cases e
      refine ⟨a, xs, rfl, KD.SqT.mono s h1, by rw [h2.length, c], ?_⟩
      have all : ∀ (is : List Nat) (xs : List V) (ds : List D) (σ : L2.St) (ρ : Ev), (∀ i ∈ is, i ∈ vs) → DpAll K G xs ds → ds.length = is.length → (∀ σ', L2.wipe σ' vs = L2.wipe σ vs → (Rep K G H σ ρ → Rep K G H σ' (setsE is ds ρ)) → (∀ H0 G0, At K H0 G0 H G σ ρ → At K H0 G0 H G σ' (setsE is ds ρ)) → Q σ' H) → gNames is xs σ H Q := by
        intro is
        induction is with
        | nil =>
          intro xs ds σ ρ hv hx hl q
          cases ds with
          | nil => cases hx; exact ⟨rfl, q σ rfl (fun r => r) (fun _ _ a => a)⟩
          | cons d ds => cases hl
        | cons i is ih =>
          intro xs ds σ ρ hv hx hl q
          cases ds with
          | nil => cases hl
          | cons d ds =>
            cases hx with
            | cons hx1 hx2 =>
              refine ⟨_, _, rfl, ?_⟩
              refine ih _ _ _ (ρ.set i (.dt d)) (fun j hj => hv j (List.mem_cons_of_mem _ hj)) hx2 (by simpa using hl) fun σ' w r' a' => ?_
              exact q σ' (w.trans (wipe_set _ (hv i List.mem_cons_self))) (fun r => r' (r.setDt hx1)) (fun H0 G0 a => a' H0 G0 (a.setDt hx1))
      exact all is xs ds σ ρ h h2 c q
    · rw [if_neg c] at e; cases e
  | _ => cases e

/-! ### for -/
def forL (t : D → Ev → Option Ev) (wp : List Nat) (body : Ev → SR) : List D → Ev → SR
  | [], ρ => .nx ρ
  | d :: ds, ρ => match t d ρ with
    | none => .bot
    | some ρ' => match body ρ' with
      | .nx ρ' => forL t wp body ds (wipeE wp ρ')
      | .ct ρ' => forL t wp body ds (wipeE wp ρ')
      | .bk ρ' => .nx (wipeE wp ρ')
      | .rt d => .rt d
      | .ro d => .ro d
      | .xc c n f => .xc c n f
      | .bot => .bot
def sFor (it : Ev → Rs (List D)) (t : D → Ev → Option Ev) (wp : List Nat) (body : Ev → SR) : Ev → SR := fun ρ => (it ρ).sr fun ds => forL t wp body ds ρ
section
variable {X : Cx} {E : XK} {tg iter : Expr} {body : List Stmt} {it : Ev → Rs (List D)} {t : D → Ev → Option Ev} {g : TG} {fb : Ev → SR} {pos : Pos}
theorem ds_for (wp : List Nat) {vs : List Nat} {st : Stmt} (ht : TgOk X.K g t vs) (h : PS X st (tFor (tDI X.K E it) g (tS X.K E fb))) : DS X E st (sFor it t wp fb) := by
  refine psI h fun D σ H ⟨H0, G0, ρ, G, at_, fi⟩ => ?_
  refine ⟨ρ, G, at_.gr.gh, at_.rep, (fi.sr at_).imp fun ds H1 G1 g1 ⟨a1, fi1⟩ J hJ => ?_⟩
  refine ⟨fun i m σ H => m = ds.length - i ∧ i ≤ ds.length ∧ ∃ ρ G, Same G1 G ∧ At X.K H0 G0 H G σ ρ ∧ FiS X.K E H0 G0 G (forL t wp fb (ds.drop i) ρ) D, ⟨ds.length, by simp, Nat.zero_le _, ρ, G1, Same.refl _, a1, by simpa using fi1⟩, ?_⟩
  rintro i m σ H ⟨rfl, hi, ρ, G, sg, a, fi⟩
  by_cases hlt : i < ds.length
  · refine .inr ⟨hJ.go i H (sg.trans a.gr.gh) hlt, fun σ' H' => ∃ ρ G, Same G1 G ∧ At X.K H0 G0 H' G σ' ρ ∧ FiS X.K E H0 G0 G (forL t wp fb (ds.drop (i + 1)) ρ) D, fun σ' H' ⟨ρ', G', q⟩ => ⟨ds.length - (i + 1), by omega, rfl, hlt, ρ', G', q⟩, fun x H' hy => ?_⟩
    obtain ⟨rfl, hy2⟩ := hJ.yld i H x H' (sg.trans a.gr.gh) hy
    have hx := (hy2 ds[i] (by simp [hlt])).up sg
    have ed : ds.drop i = ds[i] :: ds.drop (i + 1) := List.drop_eq_getElem_cons hlt
    rw [ed] at fi
    unfold forL at fi
    cases q : t ds[i] ρ with
    | some ρ' =>
      rw [q] at fi
      dsimp only at fi
      refine ht x ds[i] σ ρ ρ' _ G _ a.gr.gh hx a.rep q fun σ' _ _ ha => ?_
      refine ⟨H0, G0, ρ', G, ha H0 G0 a, ?_⟩
      cases q2 : fb ρ' with
      | nx ρ2 =>
        rw [q2] at fi
        exact fun σ2 H2 G2 s2 a2 => ⟨_, G2, sg.trans s2, a2.wipe wp, fi.up s2⟩
      | ct ρ2 =>
        rw [q2] at fi
        exact fun σ2 H2 G2 s2 a2 => ⟨_, G2, sg.trans s2, a2.wipe wp, fi.up s2⟩
      | bk ρ2 =>
        rw [q2] at fi
        exact fun σ2 H2 G2 s2 a2 => fi σ2 H2 G2 s2 (a2.wipe wp)
      | rt d => rw [q2] at fi; exact fi
      | ro d => rw [q2] at fi; exact fi
      | xc c n f => rw [q2] at fi; exact fi
      | bot => rw [q2] at fi; exact fi
    | none => rw [q] at fi; exact False.elim fi
  · have e : i = ds.length := by omega
    subst e
    rw [List.drop_length] at fi
    exact .inl ⟨hJ.stop H (sg.trans a.gr.gh), fi σ H G (Same.refl _) a⟩
end

/-! ### while -/
def whileL (c : Ev → Rs Bool) (wp : List Nat) (body : Ev → SR) : Nat → Ev → SR
  | 0, _ => .bot
  | n + 1, ρ => (c ρ).sr fun b => if b = true then (match body ρ with
    | .nx ρ' => whileL c wp body n (wipeE wp ρ')
    | .ct ρ' => whileL c wp body n (wipeE wp ρ')
    | .bk ρ' => .nx (wipeE wp ρ')
    | .rt d => .rt d
    | .ro d => .ro d
    | .xc c n f => .xc c n f
    | .bot => .bot) else .nx ρ
def sWhile (n : Ev → Nat) (c : Ev → Rs Bool) (wp : List Nat) (body : Ev → SR) : Ev → SR := fun ρ => whileL c wp body (n ρ) ρ
section
variable {X : Cx} {E : XK} {fc : Ev → Rs Bool} {fb : Ev → SR} {st : Stmt}
theorem ds_while (n : Ev → Nat) (wp : List Nat) (h : PS X st (tWhile (tDT X.K E fc) (tS X.K E fb))) : DS X E st (sWhile n fc wp fb) := by
  refine psI h fun D σ H ⟨H0, G0, ρ, G, at_, fi⟩ => ?_
  refine ⟨fun m σ H => ∃ ρ G, At X.K H0 G0 H G σ ρ ∧ FiS X.K E H0 G0 G (whileL fc wp fb m ρ) D, ⟨n ρ, ρ, G, at_, fi⟩, ?_⟩
  rintro m σ H ⟨ρ, G, a, fi⟩
  cases m with
  | zero => exact False.elim fi
  | succ m =>
    unfold whileL at fi
    refine ⟨ρ, G, a.gr.gh, a.rep, (fi.sr a).imp fun b H1 G1 g1 ⟨a1, fi1⟩ => ?_⟩
    cases b with
    | false => exact iteF (fi1 σ H1 G1 (Same.refl _) a1)
    | true =>
      refine iteT ⟨fun σ' H' => ∃ ρ G, At X.K H0 G0 H' G σ' ρ ∧ FiS X.K E H0 G0 G (whileL fc wp fb m ρ) D, fun σ' H' q => ⟨m, Nat.lt_succ_self _, q⟩, H0, G0, ρ, G1, a1, ?_⟩
      rw [if_pos rfl] at fi1
      cases q2 : fb ρ with
      | nx ρ2 =>
        rw [q2] at fi1
        exact fun σ2 H2 G2 s2 a2 => ⟨_, G2, a2.wipe wp, fi1.up s2⟩
      | ct ρ2 =>
        rw [q2] at fi1
        exact fun σ2 H2 G2 s2 a2 => ⟨_, G2, a2.wipe wp, fi1.up s2⟩
      | bk ρ2 =>
        rw [q2] at fi1
        exact fun σ2 H2 G2 s2 a2 => fi1 σ2 H2 G2 s2 (a2.wipe wp)
      | rt d => rw [q2] at fi1; exact fi1
      | ro d => rw [q2] at fi1; exact fi1
      | xc c n f => rw [q2] at fi1; exact fi1
      | bot => rw [q2] at fi1; exact fi1
end

/-! ### comprehensions: one for, two fors -/
def compL (t : D → Ev → Option Ev) (c : Ev → Rs Bool) (f : Ev → Rs D) (ρ : Ev) : List D → Rs (List D)
  | [] => .ok []
  | d :: ds => match t d ρ with
    | none => .bot
    | some ρ' => (c ρ').nox.bind fun b => if b = true then (f ρ').nox.bind fun y => (compL t c f ρ ds).bind fun ys => .ok (y :: ys) else compL t c f ρ ds
def dComp (vs : List Nat) (it : Ev → Rs (List D)) (t : D → Ev → Option Ev) (c : Ev → Rs Bool) (f : Ev → Rs D) : Ev → Rs D := fun ρ => (it ρ).bind fun ds => if ds.length ≤ 1000000 then (compL t c f (wipeE vs ρ) ds).bind fun ys => .ok (.lst ys) else .bot
theorem Fi.nox {α : Type} {K : PySem.W.Frag} {E E' : XK} {H G : Hp} {r : Rs α} {P : α → Hp → Hp → Prop} (h : Fi K E H G r.nox P) : Fi K E' H G r P := by
  cases r with
  | ok a => exact h
  | xc c n f => exact False.elim h
  | bot => exact False.elim h
theorem wipe_rep {K : PySem.W.Frag} {G H : Hp} {σ : L2.St} {ρ : Ev} (vs : List Nat) (r : Rep K G H σ ρ) : Rep K G H (L2.wipe σ vs) (wipeE vs ρ) := by
  have r1 := Rep.wipe vs r
  have no : ∀ (vs : List Nat) (ρ : Ev) (i : Nat) (s : Sl), (wipeE vs ρ)[i]? = some s → i ∈ vs → s = .no := by
    intro vs
    induction vs with
    | nil => intro ρ i s _ h; cases h
    | cons v vs ih =>
      intro ρ i s h hm
      by_cases hi : i ∈ vs
      · exact ih _ i s h hi
      · have e : i = v := by rcases List.mem_cons.mp hm with h | h; exact h; exact absurd h hi
        subst e
        have keep : ∀ (vs : List Nat) (ρ : Ev), i ∉ vs → (wipeE vs ρ)[i]? = ρ[i]? := by
          intro vs
          induction vs with
          | nil => intro ρ _; rfl
          | cons w vs ih2 =>
            intro ρ hn
            show (wipeE vs (ρ.set w .no))[i]? = ρ[i]?
            rw [ih2 _ (fun z => hn (List.mem_cons_of_mem _ z)), List.getElem?_set_ne (fun z => hn (by rw [z]; exact List.mem_cons_self))]
        have h' : (wipeE vs (ρ.set i .no))[i]? = some s := h
        rw [keep vs _ hi] at h'
        have hl : i < ρ.length := by have := (List.getElem?_eq_some_iff.mp h').1; simpa using this
        rw [List.getElem?_set_self hl] at h'
        cases h'; rfl
  refine ⟨by rw [L2.wipe_length]; exact r1.len, fun i s o h1 h2 => ?_, fun i j s t a h1 h2 o1 o2 e1 e2 => ?_⟩
  · rw [wipe_get] at h2
    by_cases c : i ∈ vs ∧ i < σ.length
    · rw [if_pos c] at h2
      rw [no vs ρ i s h1 c.1]; trivial
    · rw [if_neg c] at h2; exact r1.sl i s o h1 h2
  · have k : ∀ i : Nat, (L2.wipe σ vs)[i]? = some (some (V.ref a)) → σ[i]? = some (some (V.ref a)) := fun i e => (L2.wipe_some e).1
    exact r1.dis i j s t a h1 h2 o1 o2 (k i e1) (k j e2)
theorem len_comp {t : D → Ev → Option Ev} {c : Ev → Rs Bool} {f : Ev → Rs D} {ρ : Ev} : ∀ {ds ys : List D}, compL t c f ρ ds = .ok ys → ys.length ≤ ds.length
  | [], ys, h => by cases h; exact Nat.le_refl _
  | d :: ds, ys, h => by
    unfold compL at h
    split at h
    · cases h
    · rename_i ρ' _
      cases q : (c ρ').nox with
      | ok b =>
        rw [q, Rs.bind_ok] at h
        cases b with
        | false =>
          have h2 : compL t c f ρ ds = .ok ys := h
          have := len_comp h2
          simp; omega
        | true =>
          rw [if_pos rfl] at h
          cases q2 : (f ρ').nox with
          | ok y =>
            rw [q2, Rs.bind_ok] at h
            cases q3 : compL t c f ρ ds with
            | ok zs =>
              rw [q3, Rs.bind_ok] at h
              cases h
              have := len_comp q3
              simp; omega
            | xc => rw [q3] at h; cases h
            | bot => rw [q3] at h; cases h
          | xc => rw [q2] at h; cases h
          | bot => rw [q2] at h; cases h
      | xc => rw [q] at h; cases h
      | bot => rw [q] at h; cases h
section
variable {X : Cx} {E : XK} {e : Expr} {it : Ev → Rs (List D)} {t : D → Ev → Option Ev} {g : TG} {fc : Ev → Rs Bool} {fe : Ev → Rs D}
/-- what is left of a comprehension, over a heap where the new list at L holds acc -/
theorem lc_imp {vs : List Nat} (ht : TgOk X.K g t vs) : ∀ σ H Q, tD X.K E (dComp vs it t fc fe) σ H Q → tLc (tDI X.K E it) g (tDT X.K E0 fc) (tD X.K E0 fe) vs σ H Q := by
  intro σ H Q ⟨ρ, G, s, r, fi⟩
  refine ⟨ρ, G, s, r, fi.bind.imp fun ds H1 G1 g1 fi1 J hJ L nL => ?_⟩
  have hz : ds.length ≤ 1000000 := by
    by_cases c : ds.length ≤ 1000000
    · exact c
    · rw [if_neg c] at fi1; exact False.elim fi1
  rw [if_pos hz] at fi1
  have rr := r.grow g1
  have nG : G1 L = none := g1.gh.free nL
  -- the invariant: a part i of ds is done; acc stands at L; what is left gives the rest
  refine ⟨fun i m H => m = ds.length - i ∧ i ≤ ds.length ∧ ∃ G acc ys, H L = some (.lst acc) ∧ G L = none ∧ Same G H ∧ Grow H1 G1 (fun b => if b = L then none else H b) G ∧ DpAll X.K G acc ys ∧ ys.length ≤ i ∧ Fi X.K E H1 G1 ((compL t fc fe (wipeE vs ρ) (ds.drop i)).bind fun zs => .ok (.lst (ys ++ zs))) (fun d H' G' => ∀ v, Dp X.K G' v d → Q v H'),
    ⟨ds.length, by simp, Nat.zero_le _, G1, [], [], upd_same, nG, g1.gh.trans (same_upd nL), ?_, .nil, Nat.le_refl _, by simpa using fi1⟩, ?_⟩
  · have e1 : (fun b => if b = L then none else upd H1 L (.lst []) b) = H1 := by
      funext b
      by_cases c : b = L
      · rw [if_pos c, c, nL]
      · rw [if_neg c, upd_ne c]
    rw [e1]; exact Grow.refl g1.gh
  rintro i m H ⟨rfl, hi, G, acc, ys, hL, nGL, sG, gr, da, hy, fi⟩
  -- the growth with L as data
  have sH1 : Same H1 H := fun b o q => by
    have := gr.hh b o q
    by_cases c : b = L
    · rw [c, nL] at q; cases q
    · simp only [if_neg c] at this; exact this
  have growL : ∀ (H' G' : Hp), Grow H1 G1 (fun b => if b = L then none else H' b) G' → Same G' H' → G' L = none → ∀ acc', H' L = some (.lst acc') → Grow H1 G1 H' (upd G' L (.lst acc')) := fun H' G' gr' sG' nL' acc' hL' => by
    refine ⟨fun b o q => ?_, gr'.gg.trans (same_upd nL'), fun b o q => ?_, fun b o q => ?_⟩
    · have := gr'.hh b o q
      by_cases c : b = L
      · rw [c, nL] at q; cases q
      · simp only [if_neg c] at this; exact this
    · by_cases c : b = L
      · subst c; rw [upd_same] at q; cases q; exact hL'
      · rw [upd_ne c] at q; exact sG' b o q
    · by_cases c : b = L
      · subst c; exact .inr nL
      · rw [upd_ne c] at q; exact gr'.nw b o q
  have repAt : ∀ (H' G' : Hp), Grow H1 G1 (fun b => if b = L then none else H' b) G' → Same G' H' → Rep X.K G' H' (L2.wipe σ vs) (wipeE vs ρ) := fun H' G' gr' sG' => by
    have r2 := rr.grow gr'
    have r3 : Rep X.K G' H' σ ρ := ⟨r2.len, fun i s o h1 h2 => by
      have q := r2.sl i s o h1 h2
      cases s with
      | no => trivial
      | dt d => exact q
      | ol xs =>
        obtain ⟨b, vs, e, q1, q2⟩ := q
        refine ⟨b, vs, e, ?_, q2⟩
        by_cases c : b = L
        · simp only [if_pos c] at q1; cases q1
        · simp only [if_neg c] at q1; exact q1
      | od ks vs =>
        obtain ⟨b, vs, e, q1, q2⟩ := q
        refine ⟨b, vs, e, ?_, q2⟩
        by_cases c : b = L
        · simp only [if_pos c] at q1; cases q1
        · simp only [if_neg c] at q1; exact q1
      | oo pp c ns fs =>
        obtain ⟨b, dx, vs, ep, e, q1, q2⟩ := q
        refine ⟨b, dx, vs, ep, e, ?_, q2⟩
        by_cases c : b = L
        · simp only [if_pos c] at q1; cases q1
        · simp only [if_neg c] at q1; exact q1
      | on w ks vs =>
        obtain ⟨b, vs, e, q1, q2⟩ := q
        refine ⟨b, vs, e, ?_, q2⟩
        by_cases c : b = L
        · simp only [if_pos c] at q1; cases q1
        · simp only [if_neg c] at q1; exact q1
      | rf a => exact q
      | ex a od ns fs => exact q, r2.dis⟩
    exact wipe_rep vs r3
  have sJ : Same G1 H := g1.gh.trans sH1
  by_cases hlt : i < ds.length
  · refine .inr ⟨hJ.go i H sJ hlt, fun H' => ∃ G acc ys, H' L = some (.lst acc) ∧ G L = none ∧ Same G H' ∧ Grow H1 G1 (fun b => if b = L then none else H' b) G ∧ DpAll X.K G acc ys ∧ ys.length ≤ i + 1 ∧ Fi X.K E H1 G1 ((compL t fc fe (wipeE vs ρ) (ds.drop (i + 1))).bind fun zs => .ok (.lst (ys ++ zs))) (fun d H' G' => ∀ v, Dp X.K G' v d → Q v H'), fun H' q => ⟨ds.length - (i + 1), by omega, rfl, hlt, q⟩, fun x H' hy' => ?_⟩
    obtain ⟨rfl, hy2⟩ := hJ.yld i H x H' sJ hy'
    have hx : Dp X.K G x ds[i] := (hy2 ds[i] (by simp [hlt])).up gr.gg
    have ed : ds.drop i = ds[i] :: ds.drop (i + 1) := List.drop_eq_getElem_cons hlt
    rw [ed] at fi
    unfold compL at fi
    cases q : t ds[i] (wipeE vs ρ) with
    | none => rw [q] at fi; exact False.elim fi
    | some ρ' =>
      rw [q] at fi
      dsimp only at fi
      have rep0 := repAt H' G gr sG
      refine ht x ds[i] _ _ ρ' _ G _ sG hx rep0 q fun σ' hw hr _ => ?_
      refine ⟨by
        rw [hw]
        have : L2.wipe (L2.wipe σ vs) vs = L2.wipe σ vs := by
          apply List.ext_getElem?
          intro j
          rw [wipe_get, wipe_get, L2.wipe_length]
          by_cases c : j ∈ vs ∧ j < σ.length
          · rw [if_pos c, if_pos c]
          · rw [if_neg c]
        exact this, ?_⟩
      -- the test
      have step : ∀ (H2 G2 : Hp), Grow H' G H2 G2 → G2 L = none ∧ Grow H1 G1 (fun b => if b = L then none else H2 b) G2 := fun H2 G2 g2 => by
        have nL2 : G2 L = none := by
          cases e : G2 L with
          | none => rfl
          | some u =>
            rcases g2.nw L u e with z | z
            · rw [nGL] at z; cases z
            · rw [hL] at z; cases z
        refine ⟨nL2, fun b o z => ?_, gr.gg.trans g2.gg, fun b o z => ?_, fun b o z => ?_⟩
        · have c : b ≠ L := fun e => by rw [e, nL] at z; cases z
          simp only [if_neg c]; exact g2.hh b o (sH1 b o z)
        · have c : b ≠ L := fun e => by rw [e, nL2] at z; cases z
          simp only [if_neg c]; exact g2.gh b o z
        · rcases g2.nw b o z with z | z
          · exact gr.nw b o z
          · exact .inr (sH1.free z)
      cases qc : fc ρ' with
      | xc => rw [qc] at fi; exact False.elim fi
      | bot => rw [qc] at fi; exact False.elim fi
      | ok b =>
        rw [qc, Rs.nox_ok, Rs.bind_ok] at fi
        refine ⟨ρ', G, sG, hr rep0, ?_⟩
        rw [qc]
        intro H2 G2 g2
        obtain ⟨nL2, gr2⟩ := step H2 G2 g2
        have hL2 := g2.hh _ _ hL
        cases b with
        | false =>
          refine iteF ⟨G2, acc, ys, hL2, nL2, g2.gh, gr2, da.up g2.gg, by omega, ?_⟩
          exact fi
        | true =>
          rw [if_pos rfl] at fi
          refine iteT ?_
          cases qe : fe ρ' with
          | xc => rw [qe] at fi; exact False.elim fi
          | bot => rw [qe] at fi; exact False.elim fi
          | ok y =>
            rw [qe, Rs.nox_ok, Rs.bind_ok] at fi
            refine ⟨ρ', G2, g2.gh, (hr rep0).grow g2, ?_⟩
            rw [qe]
            intro H3 G3 g3 v hv
            obtain ⟨nL3, gr3⟩ := step H3 G3 (g2.trans g3)
            have hL3 := g3.hh _ _ hL2
            have la := da.length
            refine ⟨acc, hL3, lt_line (by omega), G3, acc ++ [v], ys ++ [y], upd_same, nL3, fun b o z => ?_, ?_, (da.up (g2.trans g3).gg).append (.cons hv .nil), by simp; omega, ?_⟩
            · rw [upd_ne (ne_of_none z nL3)]; exact g3.gh b o z
            · have e1 : (fun b => if b = L then none else upd H3 L (.lst (acc ++ [v])) b) = (fun b => if b = L then none else H3 b) := by
                funext b
                by_cases c : b = L
                · rw [if_pos c, if_pos c]
                · rw [if_neg c, if_neg c, upd_ne c]
              rw [e1]; exact gr3
            · cases q3 : compL t fc fe (wipeE vs ρ) (ds.drop (i + 1)) with
              | ok zs =>
                rw [q3] at fi
                have fi3 : Fi X.K E H1 G1 (.ok (.lst (ys ++ (y :: zs)))) (fun d H' G' => ∀ v, Dp X.K G' v d → Q v H') := fi
                show Fi X.K E H1 G1 (.ok (D.lst ((ys ++ [y]) ++ zs))) _
                rw [List.append_assoc]; exact fi3
              | xc c n f => rw [q3] at fi; exact fi
              | bot => rw [q3] at fi; exact fi
  · have e : i = ds.length := by omega
    subst e
    rw [List.drop_length] at fi
    refine .inl ⟨hJ.stop H sJ, ?_⟩
    have fi2 : Fi X.K E H1 G1 (.ok (.lst ys)) (fun d H' G' => ∀ v, Dp X.K G' v d → Q v H') := by simpa [compL] using fi
    exact fi2 H _ (growL H G gr sG nGL acc hL) _ (.lst upd_same (da.up (same_upd nGL)))
theorem de_lc {vs : List Nat} (ht : TgOk X.K g t vs) (h : PE X e (tLc (tDI X.K E it) g (tDT X.K E0 fc) (tD X.K E0 fe) vs)) : DE X E e (dComp vs it t fc fe) := peI h (lc_imp ht)
/-- y = [..] -/
theorem ds_setLc {vs : List Nat} {i : Nat} {st : Stmt} (ht : TgOk X.K g t vs) (h : PS X st (tAsg (tLc (tDI X.K E it) g (tDT X.K E0 fc) (tD X.K E0 fe) vs) (gName i))) : DS X E st (sSet i (dComp vs it t fc fe)) :=
  ds_set (psI h fun D σ H q => lc_imp ht σ H _ q)
theorem dts_nil : PTs X [] (tDT X.K E fun _ => .ok true) := ⟨fun pins s σ H Q I h => (pts_nil (X := X)).run pins s σ H Q I (by obtain ⟨ρ, G, sg, r, fi⟩ := h; exact fi.now sg)⟩
theorem dts_one {c : Expr} (h : DT X E c fc) : PTs X [c] (tDT X.K E fc) := pts_one h
/-- a, b, .. = e -/
def sUnp (is : List Nat) (f : Ev → Rs D) : Ev → SR := fun ρ => (f ρ).sr fun d => match tgT is d ρ with
  | some ρ' => .nx ρ'
  | none => .bot
theorem ds_unp {is : List Nat} {st : Stmt} {fa : Ev → Rs D} (h : PS X st (tAsg (tD X.K E fa) (gTup X.K is.length (gNames is)))) : DS X E st (sUnp is fa) := by
  refine psI h fun D σ H ⟨H0, G0, ρ, G, at_, fi⟩ => ?_
  refine ⟨ρ, G, at_.gr.gh, at_.rep, (fi.sr at_).imp fun d H1 G1 g1 ⟨a1, fi1⟩ v hv => ?_⟩
  cases q : tgT is d ρ with
  | none => rw [q] at fi1; exact False.elim fi1
  | some ρ' =>
    rw [q] at fi1
    exact tg_tup (vs := is) (fun i h => h) v d σ ρ ρ' H1 G1 _ g1.gh hv a1.rep q fun σ' _ _ ha => fi1 σ' H1 G1 (Same.refl _) (ha H0 G0 a1)
end
end KD

/-! KD3: subscripts, slices, builtins, membership, isinstance, fields, methods, defs. -/
namespace KD
open PySem L2

/-! ### dict keys -/
def D.key : D → Option Key
  | .int i => some (.inl i)
  | .str x => some (.inr x)
  | _ => none
def lookD : List D → List D → Key → Option D
  | k :: ks, v :: vs, q => if k.key = some q then some v else lookD ks vs q
  | _, _, _ => none
theorem Dp.keyV {K : PySem.W.Frag} {G : Hp} {v : V} {d : D} {k : Key} (h : Dp K G v d) (e : d.key = some k) : v = kV k := by
  cases h <;> first | cases e; rfl | cases e
theorem Dp.keyD {K : PySem.W.Frag} {G : Hp} {d : D} {k : Key} (h : Dp K G (kV k) d) : d.key = some k := by
  cases k with
  | inl i => cases h; rfl
  | inr x => cases h; rfl
theorem look_val {K : PySem.W.Frag} {G : Hp} {q : Key} : ∀ {kvs : List (Key × V)} {ks vs : List D}, DpAll K G (kvs.map fun p => kV p.1) ks → DpAll K G (kvs.map (·.2)) vs →
    (∀ d, lookD ks vs q = some d → ∃ v, valV kvs q = some v ∧ Dp K G v d) ∧ (lookD ks vs q = none → valV kvs q = none)
  | [], _, _, h1, h2 => by cases h1; cases h2; exact ⟨fun d e => (by cases e), fun _ => rfl⟩
  | (k, v) :: kvs, _, _, h1, h2 => by
    cases h1 with
    | cons a1 t1 =>
      cases h2 with
      | cons a2 t2 =>
        obtain ⟨i1, i2⟩ := look_val (q := q) t1 t2
        have ek := Dp.keyD (k := k) a1
        by_cases c : k = q
        · have c' : some k = some q := congrArg some c
          refine ⟨fun d e => ?_, fun e => ?_⟩
          · unfold lookD at e; rw [ek, if_pos c'] at e; cases e
            exact ⟨v, valV_pos c, a2⟩
          · unfold lookD at e; rw [ek, if_pos c'] at e; cases e
        · have c' : ¬ some k = some q := fun z => c (Option.some.inj z)
          refine ⟨fun d e => ?_, fun e => ?_⟩
          · unfold lookD at e; rw [ek, if_neg c'] at e
            obtain ⟨w, e1, e2⟩ := i1 d e
            exact ⟨w, by rw [valV_neg c]; exact e1, e2⟩
          · unfold lookD at e; rw [ek, if_neg c'] at e
            rw [valV_neg c]; exact i2 e

/-! ### a[b] -/
def atD (xs : List D) (i : Int) : Rs D := match atI xs i with
  | some d => .ok d
  | none => .bot
def gIx (x y : D) : Rs D := match x, y with
  | .lst xs, .int i => atD xs i
  | .fls xs, .int i => atD xs i
  | .tup xs, .int i => atD xs i
  | .str z, .int i => if z.length ≤ 1000 then (match atI z.cps.toList i with | some c => .ok (.str ⟨#[c]⟩) | none => .bot) else .bot
  | .dic ks vs, y => (match y.key with | some k => (match lookD ks vs k with | some d => .ok d | none => .bot) | none => .bot)
  | _, _ => .bot
def IxDD (X : Cx) (g : D → D → Rs D) : Prop := ∃ r : R2, IxR X r ∧
  ∀ (E : XK) (G H : Hp) (x y : V) (dx dy : D) (Q : VK), Same G H → Dp X.K G x dx → Dp X.K G y dy → Fi X.K E H G (g dx dy) (fun d H' G' => ∀ v, Dp X.K G' v d → Q v H') → r x y H Q
section
variable {X : Cx} {E : XK} {e a b : Expr} {es : List Expr} {fa fb : Ev → Rs D} {fs : Ev → Rs (List D)} {pos p : Pos}
theorem ix_dict (hu : X.A.units + 1 < cLine) : IxR X (fun x y H Q => ∃ a v, x = .ref a ∧ DGet H a y (some v) ∧ Q v H) := by
  intro value slice pins s σ H x y v u Q I rx ry h hs
  obtain ⟨p, r, rfl, g, q⟩ := h
  obtain rfl : v = Value.ref p := rx
  exact PyProof.Rows.tail_any (dict_typeIs I g) PySem.F.slot_dict_getitem.lookup (d_getItem hu I g ry fun w' s3 I3 rw' => ⟨r, H, I3, rw', q⟩) hs
theorem atI_dp {K : PySem.W.Frag} {G : Hp} {xs : List V} {ds : List D} {i : Int} {d : D} (h : DpAll K G xs ds) (e : atI ds i = some d) : ∃ v, atI xs i = some v ∧ Dp K G v d := by
  unfold atI at e ⊢
  rw [← h.length] at e
  cases q : ixN xs.length i with
  | none => rw [q] at e; cases e
  | some j =>
    rw [q] at e
    exact h.getD e
theorem mem_atI {α : Type} {xs : List α} {i : Int} {c : α} (h : atI xs i = some c) : c ∈ xs := by
  unfold atI at h
  cases q : ixN xs.length i with
  | none => rw [q] at h; cases h
  | some j =>
    rw [q] at h
    exact List.mem_of_getElem? h
theorem strOk_iff (x : Str) : PyData.strOk x = true ↔ ∀ c ∈ x.cps.toList, c < 0x110000 := by
  unfold PyData.strOk
  rw [Array.all_eq_true']
  simp
theorem strOk_one {x : Str} {c : Nat} (h : PyData.strOk x = true) (hc : c ∈ x.cps.toList) : PyData.strOk ⟨#[c]⟩ = true := by
  have := (strOk_iff x).mp h c hc
  rw [strOk_iff]
  intro d hd
  simp at hd; subst hd; exact this
theorem ixd (hu : X.A.units + 1 < cLine) : IxDD X gIx := ⟨_, ix_seq.or (ix_dict hu), fun E G H x y dx dy Q s hx hy fi => by
  have at_ : ∀ {ds : List D} {i : Int}, Fi X.K E H G (atD ds i) (fun d H' G' => ∀ v, Dp X.K G' v d → Q v H') → ∃ d, atI ds i = some d ∧ Fi X.K E H G (.ok d) (fun d H' G' => ∀ v, Dp X.K G' v d → Q v H') := fun {ds i} fi => by
    unfold atD at fi
    cases q : atI ds i with
    | none => rw [q] at fi; exact False.elim fi
    | some d => rw [q] at fi; exact ⟨d, rfl, fi⟩
  cases hx with
  | lst h1 h2 =>
    cases hy <;> try exact False.elim fi
    obtain ⟨d, e, fi⟩ := at_ fi
    obtain ⟨v, e1, e2⟩ := atI_dp h2 e
    exact .inl (.inl ⟨_, _, _, v, rfl, rfl, SqL.of (s _ _ h1), e1, fi0 s fi e2⟩)
  | fls h1 h2 =>
    cases hy <;> try exact False.elim fi
    obtain ⟨d, e, fi⟩ := at_ fi
    obtain ⟨v, e1, e2⟩ := atI_dp h2 e
    exact .inl (.inl ⟨_, _, _, v, rfl, rfl, s.seq h1, e1, fi0 s fi e2⟩)
  | tup h1 h2 =>
    cases hy <;> try exact False.elim fi
    obtain ⟨d, e, fi⟩ := at_ fi
    obtain ⟨v, e1, e2⟩ := atI_dp h2 e
    exact .inl (.inr (.inl ⟨_, _, _, v, rfl, rfl, KD.SqT.mono s h1, e1, fi0 s fi e2⟩))
  | str z hz =>
    cases hy <;> try exact False.elim fi
    rename_i i
    unfold gIx at fi
    dsimp only at fi
    by_cases c : z.length ≤ 1000
    · rw [if_pos c] at fi
      cases q : atI z.cps.toList i with
      | none => rw [q] at fi; exact False.elim fi
      | some ch =>
        rw [q] at fi
        exact .inl (.inr (.inr ⟨z, i, ch, rfl, rfl, le_line c, q, fi0 s fi (.str _ (strOk_one hz (mem_atI q)))⟩))
    · rw [if_neg c] at fi; exact False.elim fi
  | dic h1 h2 h3 =>
    unfold gIx at fi
    dsimp only at fi
    cases q : dy.key with
    | none => rw [q] at fi; exact False.elim fi
    | some k =>
      rw [q] at fi
      dsimp only at fi
      rename_i a kvs ks vs
      cases q2 : lookD ks vs k with
      | none => rw [q2] at fi; exact False.elim fi
      | some d =>
        rw [q2] at fi
        obtain ⟨v, e1, e2⟩ := (look_val h2 h3).1 d q2
        refine .inr ⟨_, v, rfl, .inl ⟨kvs, k, .inl (s _ _ h1), hy.keyV q, e1.symm⟩, fi0 s fi e2⟩
  | _ => exact False.elim fi⟩
theorem de_ix {g : D → D → Rs D} (o : IxDD X g) (ha : DE X E a fa) (hb : DE X E b fb) (hs : PlainIx b) : DE X E (.Subscript a b pos) (dOp g fa fb) := by
  obtain ⟨r, ho, hg⟩ := o
  refine peI (pe_ix ho ha hb hs) fun σ H Q ⟨ρ, G, s, r, fi⟩ => ?_
  refine ⟨ρ, G, s, r, fi.bind.imp fun x H1 G1 g1 fi1 v hv => ?_⟩
  refine ⟨ρ, G1, g1.gh, r.grow g1, fi1.bind.imp fun y H2 G2 g2 fi2 w hw => ?_⟩
  exact hg E G2 H2 v w x y Q g2.gh (hv.up g2.gg) hw fi2
/-! ### a[lo:hi] -/
def dNoP : Ev → Rs (Option Int) := fun _ => .ok none
def asI : D → Rs (Option Int)
  | .int i => .ok (some i)
  | _ => .bot
def dPart (f : Ev → Rs D) : Ev → Rs (Option Int) := fun ρ => (f ρ).bind asI
def tDO (K : PySem.W.Frag) (E : XK) (f : Ev → Rs (Option Int)) : TO := fun σ H Q => tG K E f (fun o H' _ => Q o H') σ H
abbrev DO (X : Cx) (E : XK) (e : Option Expr) (f : Ev → Rs (Option Int)) : Prop := PO X e (tDO X.K E f)
theorem poI {e : Option Expr} {t t' : TO} (h : PO X e t) (f : ∀ σ H Q, t' σ H Q → t σ H Q) : PO X e t' := ⟨fun pins s σ H Q I q => h.run pins s σ H Q I (f σ H Q q)⟩
theorem do_none : DO X E none dNoP := poI po_none fun σ H Q ⟨ρ, G, s, r, fi⟩ => fi.now s
theorem do_some (h : DE X E e fa) : DO X E (some e) (dPart fa) := poI (po_some h) fun σ H Q ⟨ρ, G, s, r, fi⟩ => by
  refine ⟨ρ, G, s, r, fi.bind.imp fun d H1 G1 g1 fi1 v hv => ?_⟩
  cases hv <;> first | exact False.elim fi1 | exact ⟨_, rfl, fi1.now g1.gh⟩
def cutD (xs : List D) (lo hi : Option Int) : List D := (xs.drop (HT.sIx xs.length 0 lo)).take (HT.sIx xs.length xs.length hi - HT.sIx xs.length 0 lo)
def gSl (x : D) (lo hi : Option Int) : Rs D := match x with
  | .lst xs => .ok (.lst (cutD xs lo hi))
  | .tup xs => .ok (.tup (cutD xs lo hi))
  | _ => .bot
def dSl (f : Ev → Rs D) (l h : Ev → Rs (Option Int)) : Ev → Rs D := fun ρ => (f ρ).bind fun x => (l ρ).bind fun lo => (h ρ).bind fun hi => gSl x lo hi
theorem cut_dp {K : PySem.W.Frag} {G : Hp} {xs : List V} {ds : List D} (h : DpAll K G xs ds) (lo hi : Option Int) : DpAll K G (cutV xs lo hi) (cutD ds lo hi) := by
  unfold cutV cutD
  rw [h.length]
  exact (h.drop _).take _
theorem de_slice {lo hi : Option Expr} {l h : Ev → Rs (Option Int)} {p2 : Pos} (he : DE X E e fa) (hl : DO X E lo l) (hh : DO X E hi h) : DE X E (.Subscript e (.Slice lo hi none p2) pos) (dSl fa l h) := by
  refine peI (pe_slice (sl_list.or sl_tupA) he hl hh) fun σ H Q ⟨ρ, G, s, r, fi⟩ => ?_
  refine ⟨ρ, G, s, r, fi.bind.imp fun x H1 G1 g1 fi1 v hv => ?_⟩
  refine ⟨ρ, G1, g1.gh, r.grow g1, fi1.bind.imp fun lo H2 G2 g2 fi2 => ?_⟩
  refine ⟨ρ, G2, g2.gh, (r.grow g1).grow g2, fi2.bind.imp fun hi H3 G3 g3 fi3 => ?_⟩
  have gg := g2.trans g3
  cases hv with
  | lst h1 h2 =>
    refine .inl ⟨_, _, rfl, SqL.of (g3.gh _ _ (gg.gg _ _ h1)), fun p np => ?_⟩
    exact fiN g3.gh fi3 np (.lst upd_same (cut_dp ((h2.up gg.gg).up (same_upd (g3.gh.free np))) _ _))
  | tup h1 h2 =>
    refine .inr ⟨_, _, rfl, KD.SqT.mono (gg.gg.trans g3.gh) h1, fun c => ?_, fun c p np => ?_⟩
    · refine fi0 g3.gh fi3 (.tup (KD.SqT.mono gg.gg h1) ?_)
      rename_i a xs ds
      have : cutD ds lo hi = ds := by
        unfold cutD
        rw [← h2.length, c.1, c.2]
        rw [List.drop_zero, h2.length]
        simp
      rw [this]; exact h2.up gg.gg
    · exact fiN g3.gh fi3 np (.tup (SqT.of upd_same) (cut_dp ((h2.up gg.gg).up (same_upd (g3.gh.free np))) _ _))
  | _ => exact False.elim fi3

/-! ### built-in calls -/
def cLen (ds : List D) : Rs D := match ds with
  | [.lst xs] => .ok (.int xs.length)
  | [.fls xs] => .ok (.int xs.length)
  | [.tup xs] => .ok (.int xs.length)
  | [.str z] => if z.length ≤ 1000 then .ok (.int z.length) else .bot
  | _ => .bot
theorem dpAll1 {K : PySem.W.Frag} {G : Hp} {vs : List V} {d : D} (h : DpAll K G vs [d]) : ∃ v, vs = [v] ∧ Dp K G v d := by
  cases h with
  | cons a t => cases t; exact ⟨_, rfl, a⟩
theorem dpAll2 {K : PySem.W.Frag} {G : Hp} {vs : List V} {d e : D} (h : DpAll K G vs [d, e]) : ∃ v w, vs = [v, w] ∧ Dp K G v d ∧ Dp K G w e := by
  cases h with
  | cons a t =>
    obtain ⟨w, rfl, b⟩ := dpAll1 t
    exact ⟨_, _, rfl, a, b⟩
theorem cd_len : CallDD X (.builtin "len") cLen := ⟨_, call_len, fun E G H xs ds Q s hx fi => by
  match ds, hx, fi with
  | [d], hx, fi =>
    obtain ⟨v, rfl, h⟩ := dpAll1 hx
    cases h with
    | lst h1 h2 => exact ⟨_, _, rfl, .inl ⟨_, SqL.of (s _ _ h1), rfl⟩, by rw [h2.length]; exact fi0 s fi (.int _)⟩
    | fls h1 h2 => exact ⟨_, _, rfl, .inl ⟨_, s.seq h1, rfl⟩, by rw [h2.length]; exact fi0 s fi (.int _)⟩
    | tup h1 h2 => exact ⟨_, _, rfl, .inr ⟨_, KD.SqT.mono s h1, rfl⟩, by rw [h2.length]; exact fi0 s fi (.int _)⟩
    | str z hz =>
      unfold cLen at fi; dsimp only at fi
      by_cases c : z.length ≤ 1000
      · rw [if_pos c] at fi
        exact ⟨_, z.length, rfl, ⟨le_line c, rfl⟩, fi0 s fi (.int _)⟩
      · rw [if_neg c] at fi; exact False.elim fi
    | _ => exact False.elim fi
  | [], hx, fi => exact False.elim fi
  | d1 :: _ :: _, hx, fi => exact False.elim (by cases d1 <;> exact fi)⟩
def cInt (ds : List D) : Rs D := match ds with
  | [.int i] => .ok (.int i)
  | [.bl b] => .ok (.int (if b then 1 else 0))
  | _ => .bot
theorem cd_int : CallDD X (.type "int") cInt := ⟨_, call_int1, fun E G H xs ds Q s hx fi => by
  match ds, hx, fi with
  | [d], hx, fi =>
    obtain ⟨v, rfl, h⟩ := dpAll1 hx
    cases h with
    | int i => exact .inl ⟨_, rfl, fi0 s fi (.int _)⟩
    | bl b => exact .inr ⟨_, rfl, fi0 s fi (.int _)⟩
    | _ => exact False.elim fi
  | [], hx, fi => exact False.elim fi
  | d1 :: _ :: _, hx, fi => exact False.elim (by cases d1 <;> exact fi)⟩
def cTuple (ds : List D) : Rs D := match ds with
  | [.lst xs] => .ok (.tup xs)
  | [.tup xs] => .ok (.tup xs)
  | _ => .bot
theorem cd_tuple : CallDD X (.type "tuple") cTuple := ⟨_, call_tuple_of, fun E G H xs ds Q s hx fi => by
  match ds, hx, fi with
  | [d], hx, fi =>
    obtain ⟨v, rfl, h⟩ := dpAll1 hx
    cases h with
    | lst h1 h2 => exact ⟨_, _, rfl, .inl ⟨SqL.of (s _ _ h1), fun l nl => fiN s fi nl (.tup (SqT.of upd_same) (h2.up (same_upd (s.free nl))))⟩⟩
    | tup h1 h2 => exact ⟨_, _, rfl, .inr ⟨KD.SqT.mono s h1, fi0 s fi (.tup h1 h2)⟩⟩
    | _ => exact False.elim fi
  | [], hx, fi => exact False.elim fi
  | d1 :: _ :: _, hx, fi => exact False.elim (by cases d1 <;> exact fi)⟩
def cList (ds : List D) : Rs D := match ds with
  | [.lst xs] => .ok (.lst xs)
  | [.tup xs] => .ok (.lst xs)
  | [.dic ks _] => .ok (.lst ks)
  | _ => .bot
theorem cd_list (hc : X.calm = true) : CallDD X (.type "list") cList := ⟨_, call_list_of.or (call_listD hc), fun E G H xs ds Q s hx fi => by
  match ds, hx, fi with
  | [d], hx, fi =>
    obtain ⟨v, rfl, h⟩ := dpAll1 hx
    cases h with
    | lst h1 h2 => exact .inl ⟨_, _, rfl, .inl (SqL.of (s _ _ h1)), fun l nl => fiN s fi nl (.lst upd_same (h2.up (same_upd (s.free nl))))⟩
    | tup h1 h2 => exact .inl ⟨_, _, rfl, .inr (KD.SqT.mono s h1), fun l nl => fiN s fi nl (.lst upd_same (h2.up (same_upd (s.free nl))))⟩
    | dic h1 h2 h3 => exact .inr ⟨_, _, rfl, .inl (s _ _ h1), fun l nl => fiN s fi nl (.lst upd_same (h2.up (same_upd (s.free nl))))⟩
    | _ => exact False.elim fi
  | [], hx, fi => exact False.elim fi
  | d1 :: _ :: _, hx, fi => exact False.elim (by cases d1 <;> exact fi)⟩
/-! ### in -/
def inOk (x : D) (ys : List D) : Bool := x.plain && D.plains ys && (decide (x.dep ≤ 100) || decide (D.deps ys ≤ 100))
def gIn (x y : D) : Rs D := match y with
  | .lst ys => if inOk x ys then .ok (.bl (ys.any fun z => eqD z x)) else .bot
  | .fls ys => if inOk x ys then .ok (.bl (ys.any fun z => eqD z x)) else .bot
  | .tup ys => if inOk x ys then .ok (.bl (ys.any fun z => eqD z x)) else .bot
  | .dic ks vs => (match x.key with | some k => .ok (.bl (lookD ks vs k).isSome) | none => .bot)
  | .str z => (match x with | .str a => (match a.cps.toList with | [c] => .ok (.bl (decide (c ∈ z.cps.toList))) | _ => .bot) | _ => .bot)
  | _ => .bot
def gNotIn (x y : D) : Rs D := (gIn x y).bind fun d => match d with | .bl b => .ok (.bl (!b)) | _ => .bot
theorem any_pys (x : D) : ∀ ys : List D, ((D.pys ys).any fun z => PyData.eqv z x.py) = ys.any fun z => eqD z x
  | [] => rfl
  | y :: ys => by
    show (PyData.eqv y.py x.py || (D.pys ys).any _) = (eqD y x || ys.any _)
    rw [any_pys x ys]; rfl
theorem one_cps {a : Str} {c : Nat} (h : a.cps.toList = [c]) : a = ⟨#[c]⟩ := by
  obtain ⟨cps⟩ := a
  have : cps = #[c] := by
    apply Array.ext'
    exact h
  rw [this]
/-- in, in every form, by a Bool that says whether it is negated -/
theorem op_inAll (neg : Bool) (hu : X.A.units + 200 < cLine) {op : CmpOp} (hop : op = if neg then .NotIn else .In) : OpR X (compareOp op) (fun x y H Q =>
    (∃ d ds, L2.Dp X.K H x d ∧ (L2.Dp X.K H y (.list ds) ∨ L2.Dp X.K H y (.tuple ds)) ∧ d.canLay0 = true ∧ PyData.canLayAll0 ds = true ∧ min (PyData.depthAll ds) d.depth ≤ 100 ∧ Q (.bl (neg ^^ (ds.any fun z => PyData.eqv z d))) H) ∨
    (∃ (c : Nat) (z : Str), x = .str ⟨#[c]⟩ ∧ y = .str z ∧ Q (.bl (neg ^^ decide (c ∈ z.cps.toList))) H) ∨
    (∃ a o, y = .ref a ∧ DGet H a x o ∧ Q (.bl (neg ^^ o.isSome)) H)) := by
  subst hop
  intro pins s σ H x y v u Q I rx ry h
  rcases h with ⟨d, ds, hd, he, sd, se, sm, q⟩ | h | ⟨a, o, rfl, g, q⟩
  · obtain ⟨as, r1⟩ := Dp.reads I d x v hd rx
    rcases he with he | he
    · obtain ⟨bs, r2⟩ := Dp.reads I _ y u he ry
      cases neg with
      | false => exact SeqAt.in_list_reads r2 r1 se sd (by omega) ⟨.bl _, H, I, rfl, by simpa using q⟩
      | true => exact SeqAt.notIn_list_reads r2 r1 se sd (by omega) ⟨.bl _, H, I, rfl, by simpa using q⟩
    · obtain ⟨bs, r2⟩ := Dp.reads I _ y u he ry
      cases neg with
      | false => exact SeqAt.in_tuple_reads r2 r1 se sd (by omega) ⟨.bl _, H, I, rfl, by simpa using q⟩
      | true => exact SeqAt.notIn_tuple_reads r2 r1 se sd (by omega) ⟨.bl _, H, I, rfl, by simpa using q⟩
  · cases neg with
    | false => exact op_in_sign pins s σ H x y v u Q I rx ry (by simpa using h)
    | true => exact op_notIn_sign pins s σ H x y v u Q I rx ry (by simpa using h)
  · obtain rfl : u = Value.ref a := ry
    cases neg with
    | false => exact d_in (by omega) I g rx fun s' I' => ⟨.bl _, H, I', rfl, by simpa using q⟩
    | true => exact d_notIn (by omega) I g rx fun s' I' => ⟨.bl _, H, I', rfl, by simpa using q⟩
theorem dd_inAll (neg : Bool) (hu : X.A.units + 200 < cLine) {op : CmpOp} (hop : op = if neg then .NotIn else .In) {g : D → D → Rs D} (hg : ∀ x y, g x y = (gIn x y).bind fun d => match d with | .bl b => .ok (.bl (neg ^^ b)) | _ => .bot) : OpDD X (compareOp op) g :=
  ⟨_, op_inAll neg hu hop, fun E G H x y dx dy Q s hx hy fi => by
  rw [hg] at fi
  have seq : ∀ (ys : List D), Fi X.K E H G ((if inOk dx ys then Rs.ok (D.bl (ys.any fun z => eqD z dx)) else .bot).bind fun d => match d with | .bl b => .ok (.bl (neg ^^ b)) | _ => .bot) (fun d H' G' => ∀ v, Dp X.K G' v d → Q v H') →
      dx.plain = true ∧ D.plains ys = true ∧ (dx.dep ≤ 100 ∨ D.deps ys ≤ 100) ∧ Q (.bl (neg ^^ ys.any fun z => eqD z dx)) H := fun ys fi => by
    by_cases c : inOk dx ys = true
    · rw [if_pos c] at fi
      have c' : (dx.plain = true ∧ D.plains ys = true) ∧ (dx.dep ≤ 100 ∨ D.deps ys ≤ 100) := by simpa [inOk] using c
      exact ⟨c'.1.1, c'.1.2, c'.2, fi0 s fi (.bl _)⟩
    · rw [if_neg c] at fi; exact False.elim fi
  cases hy with
  | lst h1 h2 =>
    obtain ⟨p1, p2, p3, q⟩ := seq _ fi
    obtain ⟨a1, a2, a3⟩ := Dp.pyD dx x p1 hx
    obtain ⟨b1, b2, b3⟩ := DpAll.pyD _ _ p2 h2
    exact .inl ⟨_, _, hDp_up s _ _ a1, .inl (.lst (SqL.of (s _ _ h1)) (hDpAll_up s _ _ b1)), a2, b2, by omega, by rw [any_pys]; exact q⟩
  | fls h1 h2 =>
    obtain ⟨p1, p2, p3, q⟩ := seq _ fi
    obtain ⟨a1, a2, a3⟩ := Dp.pyD dx x p1 hx
    obtain ⟨b1, b2, b3⟩ := DpAll.pyD _ _ p2 h2
    exact .inl ⟨_, _, hDp_up s _ _ a1, .inl (.lst (s.seq h1) (hDpAll_up s _ _ b1)), a2, b2, by omega, by rw [any_pys]; exact q⟩
  | tup h1 h2 =>
    obtain ⟨p1, p2, p3, q⟩ := seq _ fi
    obtain ⟨a1, a2, a3⟩ := Dp.pyD dx x p1 hx
    obtain ⟨b1, b2, b3⟩ := DpAll.pyD _ _ p2 h2
    exact .inl ⟨_, _, hDp_up s _ _ a1, .inr (.tup (KD.SqT.mono s h1) (hDpAll_up s _ _ b1)), a2, b2, by omega, by rw [any_pys]; exact q⟩
  | str z hz =>
    cases hx <;> try exact False.elim fi
    rename_i a ha
    unfold gIn at fi; dsimp only at fi
    cases q : a.cps.toList with
    | nil => rw [q] at fi; exact False.elim fi
    | cons c r =>
      cases r with
      | nil =>
        rw [q] at fi
        rw [one_cps q]
        exact .inr (.inl ⟨c, z, rfl, rfl, fi0 s fi (.bl _)⟩)
      | cons d r => rw [q] at fi; exact False.elim fi
  | dic h1 h2 h3 =>
    unfold gIn at fi; dsimp only at fi
    cases q : dx.key with
    | none => rw [q] at fi; exact False.elim fi
    | some k =>
      rw [q] at fi
      rename_i a kvs ks vs
      refine .inr (.inr ⟨_, valV kvs k, rfl, .inl ⟨kvs, k, .inl (s _ _ h1), hx.keyV q, rfl⟩, ?_⟩)
      have e : (valV kvs k).isSome = (lookD ks vs k).isSome := by
        cases q2 : lookD ks vs k with
        | none => rw [(look_val h2 h3).2 q2]; rfl
        | some d => obtain ⟨v, e1, _⟩ := (look_val h2 h3).1 d q2; rw [e1]; rfl
      rw [e]
      exact fi0 s fi (.bl _)
  | _ => exact False.elim fi⟩
theorem dd_in (hu : X.A.units + 200 < cLine) : OpDD X (compareOp .In) gIn := dd_inAll false hu rfl fun x y => by
  cases q : gIn x y with
  | ok d =>
    unfold gIn at q
    split at q <;> (try split at q) <;> (try split at q) <;> first | (cases q; simp) | cases q
  | xc => rfl
  | bot => rfl
theorem dd_notIn (hu : X.A.units + 200 < cLine) : OpDD X (compareOp .NotIn) gNotIn := dd_inAll true hu rfl fun x y => by
  unfold gNotIn
  cases gIn x y with
  | ok d => cases d <;> simp
  | xc => rfl
  | bot => rfl
/-! ### isinstance with a built-in class -/
def tyN : D → String
  | .non => "NoneType"
  | .bl _ => "bool"
  | .int _ => "int"
  | .str _ => "str"
  | .tup _ => "tuple"
  | .lst _ => "list"
  | .fls _ => "list"
  | .dic _ _ => "dict"
  | .ob _ _ _ => "?"
def isiD (T : String) (d : D) : Rs D := match d with
  | .ob _ _ _ => .bot
  | d => (match kitB (tyN d) T with | some b => .ok (.bl b) | none => .bot)
def dIsi (T : String) (f : Ev → Rs D) : Ev → Rs D := fun ρ => (f ρ).bind (isiD T)
theorem SqL.ty {K : PySem.W.Frag} {H : Hp} {a : Addr} {xs : List V} (h : SqL K H a xs) : TyX K H (.ref a) (.type "list") := by
  rcases h with (h | ⟨o, h⟩) | ⟨o, its, n, h1, h2, _⟩
  · exact .base (.lst h)
  · exact .base (.frz h)
  · exact .kList h1 h2
theorem SqT.ty {K : PySem.W.Frag} {H : Hp} {a : Addr} {xs : List V} (h : SqT K H a xs) : TyX K H (.ref a) (.type "tuple") := by
  rcases h with (h | ⟨o, h⟩) | ⟨o, its, n, h1, h2, _⟩
  · exact .base (.tup h)
  · exact .fTuple h
  · exact .kTuple h1 h2
theorem Dp.ty {K : PySem.W.Frag} {G H : Hp} {v : V} {d : D} (s : Same G H) (h : Dp K G v d) (n : ∀ c ns fs, d ≠ .ob c ns fs) : TyX K H v (.type (tyN d)) := by
  cases h with
  | non => exact .base .non
  | bl b => exact .base (.bl b)
  | int i => exact .base (.int i)
  | str x hx => exact .base (.str x)
  | tup h1 h2 => exact KD.SqT.ty (KD.SqT.mono s h1)
  | lst h1 h2 => exact .base (.lst (s _ _ h1))
  | fls h1 h2 => exact KD.SqL.ty (s.seq h1)
  | dic h1 h2 h3 => exact .base (.dK (s _ _ h1))
  | ob h1 h2 => exact absurd rfl (n _ _ _)
theorem de_isi {T : String} {x : Str} {p1 p2 : Pos} (hg : Gl X "isinstance") (hm : X.mg "isinstance" = none) (ha : DE X E e fa) (hT : PE X (.Name x p2) (tC (.ty T)))
    (hs : starEach [e, .Name x p2] X.env = [(false, eval e X.env), (false, eval (.Name x p2) X.env)] := by rfl) (hs2 : starEach [.Name x p2] X.env = [(false, eval (.Name x p2) X.env)] := by rfl)
    (hpl : (backTo pos (starEach [.Name x p2] X.env)).any (·.1) = false := by rfl) : DE X E (.Call (.Name "isinstance" p1) [e, .Name x p2] [] pos) (dIsi T fa) := by
  refine peI (pe_callB (id := "isinstance") call_isi hg hm PyProof.Rows.boot_isinstance (pa_cons ha (pa_cons hT pa_nil (by rw [hs2]; rfl)) (by rw [hs, hs2])) (by decide) (by decide) (by rw [hs, hs2]) hpl) fun σ H Q ⟨ρ, G, s, r, fi⟩ => ?_
  refine ⟨ρ, G, s, r, fi.bind.imp fun d H1 G1 g1 fi1 v hv => ?_⟩
  have nob : ∀ c ns fs, d ≠ .ob c ns fs := fun c ns fs e => by subst e; exact False.elim fi1
  have fi2 : Fi X.K E H1 G1 (match kitB (tyN d) T with | some b => Rs.ok (D.bl b) | none => .bot) (fun d H' G' => ∀ v, Dp X.K G' v d → Q v H') := by
    unfold isiD at fi1
    split at fi1
    · exact False.elim fi1
    · exact fi1
  cases q : kitB (tyN d) T with
  | none => rw [q] at fi2; exact False.elim fi2
  | some b =>
    rw [q] at fi2
    exact ⟨v, .ty T, _, _, b, rfl, .ty T, hv.ty g1.gh nob, kit_ty q, fi0 g1.gh fi2 (.bl _)⟩
/-! ### fields, methods, properties of own classes -/
def fldD : List Str → List D → Str → Option D
  | n :: ns, d :: ds, f => if f = n then some d else fldD ns ds f
  | _, _, _ => none
def gFld (c f : Str) (x : D) : Rs D := match x with
  | .ob c' ns fs => if c' = c then (match fldD ns fs f with | some d => .ok d | none => .bot) else .bot
  | _ => .bot
def dFld (c f : Str) (g : Ev → Rs D) : Ev → Rs D := fun ρ => (g ρ).bind (gFld c f)
theorem fld_dp {K : PySem.W.Frag} {G : Hp} {f : Str} : ∀ {fs : List (Str × V)} {ds : List D}, DpAll K G (fs.map (·.2)) ds →
    (∀ d, fldD (fs.map (·.1)) ds f = some d → ∃ v, fs.lookup f = some v ∧ Dp K G v d) ∧ (fldD (fs.map (·.1)) ds f = none → fs.lookup f = none)
  | [], _, h => by cases h; exact ⟨fun d e => (by cases e), fun _ => rfl⟩
  | (n, v) :: fs, _, h => by
    cases h with
    | cons a t =>
      obtain ⟨i1, i2⟩ := fld_dp (f := f) t
      show (∀ d, (if f = n then some _ else fldD (fs.map (·.1)) _ f) = some d → ∃ w, (match f == n with | true => some v | false => fs.lookup f) = some w ∧ Dp K G w d) ∧ ((if f = n then some _ else fldD (fs.map (·.1)) _ f) = none → (match f == n with | true => some v | false => fs.lookup f) = none)
      by_cases c : f = n
      · have c' : (f == n) = true := beq_iff_eq.mpr c
        rw [if_pos c, c']
        exact ⟨fun d e => ⟨v, rfl, by cases e; exact a⟩, fun e => by cases e⟩
      · have c' : (f == n) = false := beq_eq_false_iff_ne.mpr c
        rw [if_neg c, c']
        exact ⟨i1, i2⟩
theorem de_fld {c f : Str} (cl : Cls X.K (He.ga X.K c)) (na : NoAttr X.K (He.ga X.K c) f) (he : DE X E e fa) (hb : attributeBase e f X.env (eval e X.env) = eval e X.env := by rfl) : DE X E (.Attribute e f pos) (dFld c f fa) := by
  refine peI (pe_fld he hb) fun σ H Q ⟨ρ, G, s, r, fi⟩ => ?_
  refine ⟨ρ, G, s, r, fi.bind.imp fun d H1 G1 g1 fi1 v hv => ?_⟩
  cases hv with
  | ob h1 h2 =>
    rename_i a dx c' fs ds
    unfold gFld at fi1
    dsimp only at fi1
    by_cases e : c' = c
    · subst e
      rw [if_pos rfl] at fi1
      cases q : fldD (fs.map (·.1)) ds f with
      | none => rw [q] at fi1; exact False.elim fi1
      | some d =>
        rw [q] at fi1
        obtain ⟨w, e1, e2⟩ := (fld_dp h2).1 d q
        exact ⟨_, _, _, _, w, rfl, g1.gh _ _ h1, cl, na, e1, fi0 g1.gh fi1 e2⟩
    · rw [if_neg e] at fi1; exact False.elim fi1
  | _ => exact False.elim fi1
/-- the object's class, and no attribute of that name -/
def gSelf (c m : Str) (x : D) : Rs D := match x with
  | .ob c' ns fs => if c' = c then (match fldD ns fs m with | some _ => .bot | none => .ok x) else .bot
  | _ => .bot
def dMeth (c m : Str) (n : Nat) (g : List D → Rs D) (fo : Ev → Rs D) (fs : Ev → Rs (List D)) : Ev → Rs D := fun ρ => (fo ρ).bind fun x => (gSelf c m x).bind fun x => (fs ρ).bind fun ds => if ds.length + 1 = n then g (x :: ds) else .bot
theorem gSelf_ok {K : PySem.W.Frag} {G H : Hp} {E : XK} {c m : Str} {x : D} {v : V} {P : D → Hp → Hp → Prop} (h : Dp K G v x) (fi : Fi K E H G (gSelf c m x) P) : ∃ a dx fs ds, v = .ref a ∧ x = .ob c (fs.map (·.1)) ds ∧ G a = some (.ins (He.ga K c) dx fs) ∧ fs.lookup m = none ∧ Fi K E H G (.ok x) P := by
  cases h with
  | ob h1 h2 =>
    rename_i a dx c' fs ds
    unfold gSelf at fi
    dsimp only at fi
    by_cases e : c' = c
    · subst e
      rw [if_pos rfl] at fi
      cases q : fldD (fs.map (·.1)) ds m with
      | some d => rw [q] at fi; exact False.elim fi
      | none =>
        rw [q] at fi
        exact ⟨a, dx, fs, ds, rfl, rfl, h1, (fld_dp h2).2 q, fi⟩
    · rw [if_neg e] at fi; exact False.elim fi
  | _ => exact False.elim fi
theorem de_meth {CX : CXT} {k n : Nat} {c m : Str} {f : Addr} {fd : FuncData} {ps : List Str} {g : List D → Rs D} {o : Expr} {apos : Pos} {pl : Sem Bool} (he : DE X E o fa) (cl : Cls X.K (He.ga X.K c)) (hm : Meth X.K (He.ga X.K c) m f) (F : FnOk X.prog X.w X.K X.mg X.base CX k f fd ps (spD X.K n g)) (hr : Room k X.A) (hb : Binds X.K fd ps []) (hx : Passes CX X E) (ha : DA X E (e :: es) fs)
    (hst : starEach (e :: es) X.env = (false, eval e X.env) :: starEach es X.env := by rfl) (hpl : (backTo pos (starEach es X.env)).any (·.1) = false := by rfl)
    (ht : eval (.Call (.Attribute o m apos) (e :: es) [] pos) X.env = (do
      let ov ← eval o X.env
      standAt apos.atName
      let (f, first) ← holding [ov] (getMethod ov m pl)
      callWith pos f first (backTo pos (starEach (e :: es) X.env)) (backToKw pos (keywordEach [] X.env))) := by rfl) :
    DE X E (.Call (.Attribute o m apos) (e :: es) [] pos) (dMeth c m n g fa fs) := by
  refine peI (pe_meth (pl := pl) he cl hm F hr hb .nil hx ha hst hpl ht) fun σ H Q ⟨ρ, G, s, r, fi⟩ => ?_
  refine ⟨ρ, G, s, r, fi.bind.imp fun d H1 G1 g1 fi1 v hv => ?_⟩
  obtain ⟨a, dx, fs, ds, rfl, rfl, h1, h2, fi2⟩ := gSelf_ok hv fi1.bind
  have fi3 := fi2.now g1.gh
  refine ⟨a, dx, fs, rfl, g1.gh _ _ h1, h2, ρ, G1, g1.gh, r.grow g1, fi3.bind.imp fun es H2 G2 g2 fi4 vs hvs => ?_⟩
  by_cases cn : es.length + 1 = n
  · rw [if_pos cn] at fi4
    rw [List.append_nil]
    exact ⟨G2, _ :: es, g2.gh, .cons (hv.up g2.gg) hvs, by simpa using cn, fi4⟩
  · rw [if_neg cn] at fi4; exact False.elim fi4
theorem de_meth0 {CX : CXT} {k n : Nat} {c m : Str} {f : Addr} {fd : FuncData} {ps : List Str} {g : List D → Rs D} {o : Expr} {apos : Pos} {pl : Sem Bool} (he : DE X E o fa) (cl : Cls X.K (He.ga X.K c)) (hm : Meth X.K (He.ga X.K c) m f) (F : FnOk X.prog X.w X.K X.mg X.base CX k f fd ps (spD X.K n g)) (hr : Room k X.A) (hb : Binds X.K fd ps []) (hx : Passes CX X E)
    (ht : eval (.Call (.Attribute o m apos) [] [] pos) X.env = (do
      let ov ← eval o X.env
      standAt apos.atName
      let (f, first) ← holding [ov] (getMethod ov m pl)
      callWith pos f first (backTo pos (starEach [] X.env)) (backToKw pos (keywordEach [] X.env))) := by rfl) :
    DE X E (.Call (.Attribute o m apos) [] [] pos) (dMeth c m n g fa dNil) := by
  refine peI (pe_meth0 (pl := pl) he cl hm F hr hb .nil hx ht) fun σ H Q ⟨ρ, G, s, r, fi⟩ => ?_
  refine ⟨ρ, G, s, r, fi.bind.imp fun d H1 G1 g1 fi1 v hv => ?_⟩
  obtain ⟨a, dx, fs, ds, rfl, rfl, h1, h2, fi2⟩ := gSelf_ok hv fi1.bind
  have fi3 := fi2.now g1.gh
  refine ⟨a, dx, fs, rfl, g1.gh _ _ h1, h2, ?_⟩
  have fi4 : Fi X.K E H1 G1 (if (0 : Nat) + 1 = n then g [.ob c (fs.map (·.1)) ds] else .bot) (fun d H' G' => ∀ v, Dp X.K G' v d → Q v H') := fi3
  by_cases cn : 0 + 1 = n
  · rw [if_pos cn] at fi4
    exact ⟨G1, [.ob c (fs.map (·.1)) ds], g1.gh, .cons hv .nil, by simpa using cn, fi4⟩
  · rw [if_neg cn] at fi4; exact False.elim fi4
def gCls (c : Str) (x : D) : Rs D := match x with
  | .ob c' _ _ => if c' = c then .ok x else .bot
  | _ => .bot
def dProp (c : Str) (g : List D → Rs D) (fo : Ev → Rs D) : Ev → Rs D := fun ρ => (fo ρ).bind fun x => (gCls c x).bind fun x => (g [x]).nox
theorem de_prop {CX : CXT} {k : Nat} {c f : Str} {p' g' : Addr} {fd : FuncData} {ps : List Str} {g : List D → Rs D} (he : DE X E e fa) (cl : Cls X.K (He.ga X.K c)) (hp : PropOf X.K (He.ga X.K c) f p' g') (F : FnOk X.prog X.w X.K X.mg X.base CX k g' fd ps (spD X.K 1 g)) (hr : Room (k + 1) X.A) (hb : Binds X.K fd ps []) (hx : Passes CX X.nox E0)
    (hab : attributeBase e f X.env (eval e X.env) = eval e X.env := by rfl) : DE X E (.Attribute e f pos) (dProp c g fa) := by
  refine peI (pe_prop he cl hp F hr hb .nil hx hab) fun σ H Q ⟨ρ, G, s, r, fi⟩ => ?_
  refine ⟨ρ, G, s, r, fi.bind.imp fun d H1 G1 g1 fi1 v hv => ?_⟩
  cases hv with
  | ob h1 h2 =>
    rename_i a dx c' fs ds
    have fi2 := fi1
    unfold gCls at fi2
    dsimp only at fi2
    by_cases e : c' = c
    · subst e
      rw [if_pos rfl, Rs.bind_ok] at fi2
      exact ⟨a, dx, fs, rfl, g1.gh _ _ h1, G1, [_], g1.gh, .cons (.ob h1 h2) .nil, rfl, fi2.nox⟩
    · rw [if_neg e] at fi2; exact False.elim fi2
  | _ => exact False.elim fi1
end

/-! ### a def by its function on data -/
/-- the slots at the start -/
def ev0 (n : Nat) (ds : List D) : Ev := (ds.map Sl.dt) ++ List.replicate (n - ds.length) .no
def SR.fin : SR → Rs D
  | .rt d => .ok d
  | .ro xs => .ok (.lst xs)
  | .nx _ => .ok .non
  | .xc c n f => .xc c n f
  | _ => .bot
def runD (n : Nat) (f : Ev → SR) (ds : List D) : Rs D := (f (ev0 n ds)).fin
theorem rep0 {K : PySem.W.Frag} {G H : Hp} {N : List Str} {vs : List V} {ds : List D} (h : DpAll K G vs ds) (hn : vs.length ≤ N.length) : Rep K G H (start N vs) (ev0 N.length ds) := by
  have l := h.length
  have e0 : start N vs = vs.map some ++ List.replicate (N.length - vs.length) none := rfl
  refine ⟨by rw [e0]; simp [ev0, l], fun i s o h1 h2 => ?_, fun i j s t a h1 h2 o1 o2 e1 e2 => ?_⟩
  · unfold ev0 at h1
    rw [e0] at h2
    by_cases c : i < ds.length
    · rw [List.getElem?_append_left (by simpa using c)] at h1
      rw [List.getElem?_append_left (by simp; omega)] at h2
      rw [List.getElem?_map] at h1 h2
      cases q : ds[i]? with
      | none => rw [q] at h1; cases h1
      | some d =>
        rw [q] at h1; cases h1
        obtain ⟨v, e1, e2⟩ := h.getD q
        rw [e1] at h2; cases h2
        exact ⟨v, rfl, e2⟩
    · rw [List.getElem?_append_right (by simpa using c)] at h1
      rw [List.getElem?_replicate] at h1
      split at h1
      · cases h1; trivial
      · cases h1
  · exfalso
    unfold ev0 at h1
    by_cases c : i < ds.length
    · rw [List.getElem?_append_left (by simpa using c), List.getElem?_map] at h1
      cases q : ds[i]? with
      | none => rw [q] at h1; cases h1
      | some d => rw [q] at h1; cases h1; cases o1
    · rw [List.getElem?_append_right (by simpa using c), List.getElem?_replicate] at h1
      split at h1
      · cases h1; cases o1
      · cases h1
end KD

/-! KD4: defs and their calls. -/
namespace KD
open PySem L2
section
variable {P : Program} {w : World} {K : PySem.W.Frag} {mg : Str → Option Value} {base : Heap}
theorem fn_D {x qual : Str} {params : Arguments} {body : List Stmt} {scope : Scope} {dvs : List V} {kws : List (Str × V)} {f : Addr} {fd : FuncData} {N ps : List Str} {k : Nat} {b : Ev → SR} (F : FunD K x qual params body scope dvs kws f fd) (S : FnScope N ps scope)
    (hb : ∀ (cdv : Value) (A : Around) (outer : List Env) (s : Shared) (H : Hp) (E : XK), Room k (A.deeper (PyProof.Rows.envOfC qual scope s.heap.objs.size f cdv)) → DSs (cxOf (L2N.CX P w) P w K mg base N qual scope f cdv A outer s H E) E body b) :
    FnOk P w K mg base (L2N.CX P w) (k + 1) f fd ps (spD K ps.length (runD N.length b)) := by
  refine F.ok S (fun vs H Q E ⟨G, ds, _, dp, l, _⟩ => dp.length.trans l) fun cdv A outer s H vs Q E hr ⟨G, ds, sg, dp, l, fi⟩ => ⟨_, hb cdv A outer s H E hr, ?_⟩
  have hn : vs.length ≤ N.length := by
    have h1 := dp.length
    have h2 : (N.take ps.length).length = ps.length := by rw [S.pre]
    rw [List.length_take] at h2
    omega
  have noown : ∀ (i : Nat) (s : Sl), (ev0 N.length ds)[i]? = some s → s.own = true → False := fun i s h1 o1 => by
    unfold ev0 at h1
    by_cases c : i < ds.length
    · rw [List.getElem?_append_left (by simpa using c), List.getElem?_map] at h1
      cases q : ds[i]? with
      | none => rw [q] at h1; cases h1
      | some d => rw [q] at h1; cases h1; cases o1
    · rw [List.getElem?_append_right (by simpa using c), List.getElem?_replicate] at h1
      split at h1
      · cases h1; cases o1
      · cases h1
  refine ⟨H, G, ev0 N.length ds, G, ⟨Grow.refl sg, rep0 dp hn, fun i s a h1 h2 _ => (noown i s h1 h2).elim⟩, ?_⟩
  unfold runD at fi
  cases q : b (ev0 N.length ds) with
  | nx ρ => rw [q] at fi; exact fun σ H' G' sg' a => fi H' G' a.gr _ .non
  | rt d => rw [q] at fi; exact fun v H' G' g hv => fi H' G' g v hv
  | ro xs => rw [q] at fi; exact fun vs H' G' g hv l nl => fi _ _ (g.trans (Grow.laid g.gh nl)) _ (.lst (upd_same) (hv.up (same_upd (g.gh.free nl))))
  | bk ρ => rw [q] at fi; exact False.elim fi
  | ct ρ => rw [q] at fi; exact False.elim fi
  | xc c n f => rw [q] at fi; exact fi
  | bot => rw [q] at fi; exact False.elim fi
end

theorem passN {X : Cx} : Passes (L2N.CX X.prog X.w) X E0 := fun _ _ _ _ _ _ _ h => by
  obtain ⟨_, _, _, _, _, _, _, _, _, _, _, _, z⟩ := h
  exact z.elim
/-! ### the facts of the top: a Hook of our own -/
abbrev gAd (x : Str) : PySem.W.Frag → Addr := fun K => He.ga K x
abbrev mAd (c m : Str) : PySem.W.Frag → Addr := fun K => He.ma K (He.ga K c) m
/-- a property's getter -/
def pAd (c m : Str) : PySem.W.Frag → Addr := fun K => match PySem.W.recIn K (He.ma K (He.ga K c) m) "property" with
  | some (.ref g :: _) => g
  | _ => 0
structure DefP where
  ad : PySem.W.Frag → Addr
  name : Str
  qual : Str
  params : Arguments
  body : List Stmt
  scope : Scope
  dfl : List He.Dv := []
  kwd : List (Str × He.Dv) := []
  cell : Bool := false
def fnP (K : PySem.W.Frag) (d : DefP) : He.FnW := match K.lookup (d.ad K) with
  | some ⟨_, _, .func fd, _⟩ => some (fd.name, fd.qualname, fd.params, fd.body, fd.scope, fd.globals, (match d.cell with | true => [] | false => fd.closure), fd.builtins)
  | _ => none
def DefP.val (d : DefP) : He.FnW := some (d.name, d.qual, d.params, .stmts d.body, d.scope, mainGlobals, [], builtinsNs)
def DefP.dvs (K : PySem.W.Frag) (d : DefP) : List V := d.dfl.map (He.Dv.v K)
def DefP.kws (K : PySem.W.Frag) (d : DefP) : List (Str × V) := d.kwd.map fun q => (q.1, q.2.v K)
def DefP.ok (K : PySem.W.Frag) (d : DefP) : Bool := PySem.W.keepIn K (.ref (d.ad K)) && (match K.lookup (d.ad K) with
  | some ⟨_, _, .func fd, _⟩ => PySem.W.codeIn K fd.code d.qual && (He.dflB K fd.defaults (d.dvs K) && He.kwdB K fd.kwdefaults (d.kws K))
  | _ => false)
theorem DefP.funD {K : PySem.W.Frag} {d : DefP} (e : fnP K d = d.val) (c : d.ok K = true) (hcl : d.cell = false) : ∃ fd, FunD K d.name d.qual d.params d.body d.scope (d.dvs K) (d.kws K) (d.ad K) fd := by
  obtain ⟨kp, c2⟩ := He.ba c
  unfold fnP at e
  cases q : K.lookup (d.ad K) with
  | none =>
    rw [q] at c2
    cases c2
  | some o =>
    obtain ⟨oc, od, dt, osl⟩ := o
    rw [q] at c2 e
    cases dt with
    | func fd =>
      obtain ⟨n1, n2, n3, n4, n5, n6, n7, n8, n9, n10, n11, n12, n13, n14, n15⟩ := fd
      rw [hcl] at e
      have e2 : (some (n1, n2, n3, n4, n5, n6, n7, n15) : He.FnW) = some (d.name, d.qual, d.params, .stmts d.body, d.scope, mainGlobals, [], builtinsNs) := e
      simp only [Option.some.injEq, Prod.mk.injEq] at e2
      obtain ⟨h1, h2, h3, h4, h5, h6, h7, h8⟩ := e2
      subst h1 h2 h3 h4 h5 h6 h7 h8
      have c3 : (PySem.W.codeIn K n13 d.qual && (He.dflB K n8 (d.dvs K) && He.kwdB K n9 (d.kws K))) = true := c2
      obtain ⟨k1, k2⟩ := He.ba c3
      obtain ⟨k3, k4⟩ := He.ba k2
      exact ⟨_, ⟨oc, od, n8, n9, n10, n11, n12, n13, n14, osl, rfl, q, k1, He.dflB_ok k3, He.kwdB_ok k4⟩, kp⟩
    | _ => cases c2
/-- a def with a closure -/
theorem DefP.supD {K : PySem.W.Frag} {d : DefP} (e : fnP K d = d.val) (c : d.ok K = true) (hcl : d.cell = true) (hdf : d.dfl = []) :
    ∃ (oc : Value) (od : Option Addr) (clo : List (Str × Addr)) (kV doc pm : Value) (an : Option Addr) (cdv ct : Value) (osl : Array (Option Value)),
      K.lookup (d.ad K) = some ⟨oc, od, .func (PySem.W.fnX d.name d.qual d.params d.body d.scope clo .none kV doc pm an cdv ct), osl⟩ ∧ PySem.W.codeIn K cdv d.qual = true ∧ PySem.W.keepIn K (.ref (d.ad K)) = true := by
  obtain ⟨kp, c2⟩ := He.ba c
  unfold fnP at e
  cases q : K.lookup (d.ad K) with
  | none =>
    rw [q] at c2
    cases c2
  | some o =>
    obtain ⟨oc, od, dt, osl⟩ := o
    rw [q] at c2 e
    cases dt with
    | func fd =>
      obtain ⟨n1, n2, n3, n4, n5, n6, n7, n8, n9, n10, n11, n12, n13, n14, n15⟩ := fd
      rw [hcl] at e
      have e2 : (some (n1, n2, n3, n4, n5, n6, [], n15) : He.FnW) = some (d.name, d.qual, d.params, .stmts d.body, d.scope, mainGlobals, [], builtinsNs) := e
      simp only [Option.some.injEq, Prod.mk.injEq] at e2
      obtain ⟨h1, h2, h3, h4, h5, h6, h7, h8⟩ := e2
      subst h1 h2 h3 h4 h5 h6 h8
      have c3 : (PySem.W.codeIn K n13 d.qual && (He.dflB K n8 (d.dvs K) && He.kwdB K n9 (d.kws K))) = true := c2
      obtain ⟨k1, k2⟩ := He.ba c3
      obtain ⟨k3, k4⟩ := He.ba k2
      have hd : d.dvs K = [] := by unfold DefP.dvs; rw [hdf]; rfl
      rw [hd] at k3
      rcases He.dflB_ok k3 with ⟨_, rfl⟩ | ⟨z, _⟩
      · exact ⟨oc, od, n7, n9, n10, n11, n12, n13, n14, osl, rfl, k1, kp⟩
      · exact absurd rfl z
    | _ => cases c2
/-! ### the facts of an own error over ValueError -/
def oexB (K : PySem.W.Frag) (C : Addr) : Bool := match K.lookup C with
  | some ⟨.type "type", _, .cls cd, sl⟩ => (match cd.mro, sl.toList with
    | .ref C' :: bm, [_, _, _, _, some (.builtin n), _] => decide (C' = C) && (decide (n = "ValueError.__new__") && (!cd.hasDel && (cd.hasDict && PySem.HandSPX.refsVE bm)))
    | _, _ => false)
  | _ => false
/-- facts: those of He.Fa, and a property -/
inductive Fb where
  | fa (f : He.Fa)
  | prop (c m : Str)
  | oex (c : Str)
  | sup (c z : Str)
  | nof (c f : Str)
  | sub (c d : Str) (b : Bool)
  | subT (c : Str) (t : String) (b : Bool)
def Fb.ok (K : PySem.W.Frag) : Fb → Bool
  | .fa f => f.ok K
  | .prop c m => He.eqO (PySem.W.findIn K (.ref (He.ga K c)) m) (some (some (.ref (He.ma K (He.ga K c) m)))) && (He.eqO (PySem.W.specialIn K (.ref (He.ma K (He.ga K c) m)) "__get__") (some (some (.builtin "property.__get__"))) && (decide (PySem.W.takesIn K (.ref (He.ma K (He.ga K c) m)) = some true) && (match PySem.W.recIn K (He.ma K (He.ga K c) m) "property" with
    | some (.ref _ :: _) => true
    | _ => false)))
  | .oex c => oexB K (He.ga K c) && (He.eqO (PySem.W.findIn K (.ref (He.ga K c)) "__setattr__") (some (some (.builtin "object.__setattr__"))) && (decide (PySem.W.subIn K (.ref (He.ga K c)) (.type "BaseException") = some true) && (decide (PySem.W.typeIn K (.ref (He.ga K c)) = some (.type "type")) && (PySem.W.keepIn K (.ref (He.ga K c)) &&
    (He.eqO (PySem.W.findIn K (.ref (He.ga K c)) "__getattribute__") (some (some (.builtin "BaseException.__getattribute__"))) && (He.eqO (PySem.W.findIn K (.ref (He.ga K c)) "__getattr__") (some none) && (PySem.W.hasDictIn K (He.ga K c) &&
    (He.eqO (PySem.W.findIn K (.ref (He.ga K c)) "__class__") (some (some (.builtin "object.__class__"))) && (He.eqO (PySem.W.specialIn K (.builtin "object.__class__") "__get__") (some (some (.builtin "getset_descriptor.__get__"))) && (decide (PySem.W.takesIn K (.builtin "object.__class__") = some true) && decide (PySem.W.mroIn K (He.ga K c) (.type "object") = some true)))))))))))
  | .sup c z => He.eqO (PySem.W.findIn K (.ref (He.ga K c)) "__init__") (some (some (.ref (He.ma K (He.ga K c) "__init__")))) && (decide (PySem.W.typeIn K (.ref (He.ma K (He.ga K c) "__init__")) = some (.type "function")) && ((match K.lookup (He.ma K (He.ga K c) "__init__") with
    | some ⟨_, _, .func fd, _⟩ => (match fd.closure, fd.code with
      | [(y, cc)], .ref cda => decide (y = "__class__") && ((match K.lookup cc with
          | some ⟨_, _, .cell (some (.ref C')), _⟩ => decide (C' = He.ga K c)
          | _ => false) && (match K.lookup cda with
          | some ⟨_, _, .fields vs, _⟩ => (match (vs[2]? : Option Value) with
            | some (Value.str y2 _) => decide (y2 = z)
            | _ => false)
          | _ => false))
      | _, _ => false)
    | _ => false) && (He.eqO (PySem.W.nsIn K PySem.cStatics "thirdparty.any") (some none) && ((match PySem.W.clsIn K (He.ga K c) with
    | some cd => He.eqO (PySem.W.alongIn K "__init__" ((cd.mro.dropWhile (· != .ref (He.ga K c))).drop 1)) (some (some (.builtin "ValueError.__init__")))
    | none => false) && (decide (PySem.W.mroIn K (He.ga K c) (.ref (He.ga K c)) = some true) && decide (PySem.W.mroIn K (He.ga K c) (.type "ValueError") = some true))))))
  | .nof c f => He.eqO (PySem.W.findIn K (.ref (He.ga K c)) f) (some none)
  | .sub c d b => decide (PySem.W.subIn K (.ref (He.ga K c)) (.ref (He.ga K d)) = some b) && decide (PySem.W.kitOne K (.ref (He.ga K c)) (.ref (He.ga K d)) = some b)
  | .subT c t b => decide (PySem.W.kitOne K (.ref (He.ga K c)) (.type t) = some b)
theorem prop_ok {K : PySem.W.Frag} {c m : Str} (h : (Fb.prop c m).ok K = true) : PropOf K (He.ga K c) m (He.ma K (He.ga K c) m) (pAd c m K) := by
  obtain ⟨h1, h2⟩ := He.ba h
  obtain ⟨h3, h4⟩ := He.ba h2
  obtain ⟨h5, h6⟩ := He.ba h4
  refine ⟨He.eqO_ok h1, He.eqO_ok h3, of_decide_eq_true h5, ?_⟩
  unfold pAd
  split at h6
  · rename_i g rest q
    exact ⟨rest, by rw [q]⟩
  · cases h6
abbrev AlP : Type := Bool × List He.FnW
def obsP (fa : List Fb) (fn : List DefP) (K : PySem.W.Frag) : AlP := ((fa.all fun f => f.ok K) && fn.all fun d => d.ok K, fn.map fun d => fnP K d)
def valP (fn : List DefP) : AlP := (true, fn.map DefP.val)
def SaysP (fa : List Fb) (fn : List DefP) (K : PySem.W.Frag) : Prop := obsP fa fn K = valP fn
def obsPG (n : Nat) (fa : List Fb) (fn : List DefP) (g : Addr → Option Obj) : AlP := obsP fa fn (He.frG g (He.asD g n))
def hookP (n : Nat) (fa : List Fb) (fn : List DefP) : PySem.W.Hook where
  α := AlP
  obs := fun s => obsPG n fa fn s.heap.get?
  val := fun _ => valP fn
  says := fun _ h => ∃ K : PySem.W.Frag, K.In h ∧ SaysP fa fn K
  of := fun _ _ e => ⟨_, He.frG_in, e⟩
  keeps := fun _ _ _ ⟨K, hK, c⟩ k => ⟨K, PySem.W.Frag.In.keeps hK k, c⟩
theorem obsPG_eq {n : Nat} {fa : List Fb} {fn : List DefP} {g : Addr → Option Obj} {s : Shared} (h : ∀ a, g a = s.heap.get? a) : obsPG n fa fn g = (hookP n fa fn).obs s := by
  have e : g = s.heap.get? := funext h
  rw [e] <;> rfl
section
variable {fa : List Fb} {fn : List DefP} {K : PySem.W.Frag} {mg : Str → Option Value}
theorem SaysP.fact (c : SaysP fa fn K) (i : Nat) {f : Fb} (h : fa[i]? = some f := by rfl) : f.ok K = true := by
  have c1 := (He.ba (show ((fa.all fun f => f.ok K) && fn.all fun d => d.ok K) = true from congrArg (fun z : AlP => z.1) c)).1
  exact List.all_eq_true.mp c1 f (List.mem_of_getElem? h)
theorem SaysP.def_ (c : SaysP fa fn K) (i : Nat) {d : DefP} (h : fn[i]? = some d := by rfl) (hcl : d.cell = false := by rfl) : ∃ fd, FunD K d.name d.qual d.params d.body d.scope (d.dvs K) (d.kws K) (d.ad K) fd := by
  have c2 := (He.ba (show ((fa.all fun f => f.ok K) && fn.all fun d => d.ok K) = true from congrArg (fun z : AlP => z.1) c)).2
  have e : fn.map (fun d => fnP K d) = fn.map DefP.val := congrArg (fun z : AlP => z.2) c
  have e2 : (fn.map fun d => fnP K d)[i]? = (fn.map DefP.val)[i]? := by rw [e]
  rw [List.getElem?_map, List.getElem?_map, h] at e2
  exact DefP.funD (Option.some.inj e2) (List.all_eq_true.mp c2 d (List.mem_of_getElem? h)) hcl
theorem SaysP.defX (c : SaysP fa fn K) (i : Nat) {d : DefP} (h : fn[i]? = some d := by rfl) (hcl : d.cell = true := by rfl) (hdf : d.dfl = [] := by rfl) :
    ∃ (oc : Value) (od : Option Addr) (clo : List (Str × Addr)) (kV doc pm : Value) (an : Option Addr) (cdv ct : Value) (osl : Array (Option Value)),
      K.lookup (d.ad K) = some ⟨oc, od, .func (PySem.W.fnX d.name d.qual d.params d.body d.scope clo .none kV doc pm an cdv ct), osl⟩ ∧ PySem.W.codeIn K cdv d.qual = true ∧ PySem.W.keepIn K (.ref (d.ad K)) = true := by
  have c2 := (He.ba (show ((fa.all fun f => f.ok K) && fn.all fun d => d.ok K) = true from congrArg (fun z : AlP => z.1) c)).2
  have e : fn.map (fun d => fnP K d) = fn.map DefP.val := congrArg (fun z : AlP => z.2) c
  have e2 : (fn.map fun d => fnP K d)[i]? = (fn.map DefP.val)[i]? := by rw [e]
  rw [List.getElem?_map, List.getElem?_map, h] at e2
  exact DefP.supD (Option.some.inj e2) (List.all_eq_true.mp c2 d (List.mem_of_getElem? h)) hcl hdf
structure Tx (fa : List Fb) (fn : List DefP) (K : PySem.W.Frag) (mg : Str → Option Value) : Prop where
  h : ∃ h : Heap, K.In h ∧ h.Ns mainGlobals mg
  c : SaysP fa fn K
theorem Tx.glo (T : Tx fa fn K mg) (i : Nat) {x : Str} (h : fa[i]? = some (.fa (.glo x)) := by rfl) : mg x = some (.ref (He.ga K x)) := by
  obtain ⟨hp, X, G⟩ := T.h
  exact He.glo_ok X G (T.c.fact i h)
theorem Tx.free (T : Tx fa fn K mg) (i : Nat) {x : Str} (h : fa[i]? = some (.fa (.free x)) := by rfl) : mg x = none := by
  obtain ⟨hp, X, G⟩ := T.h
  exact He.free_ok X G (T.c.fact i h)
theorem Tx.str (T : Tx fa fn K mg) (i : Nat) {x z : Str} (h : fa[i]? = some (.fa (.str x z)) := by rfl) : ∃ t, mg x = some (.str z t) := by
  obtain ⟨hp, X, G⟩ := T.h
  exact He.str_ok X G (T.c.fact i h)
theorem Tx.int (T : Tx fa fn K mg) (i : Nat) {x : Str} {z : Int} (h : fa[i]? = some (.fa (.int x z)) := by rfl) : ∃ t, mg x = some (.int z t) := by
  obtain ⟨hp, X, G⟩ := T.h
  exact He.int_ok X G (T.c.fact i h)
theorem Tx.cls (T : Tx fa fn K mg) (i : Nat) {x : Str} (h : fa[i]? = some (.fa (.cls x)) := by rfl) : Cls K (He.ga K x) := He.cls_ok (T.c.fact i h)
theorem Tx.noat (T : Tx fa fn K mg) (i : Nat) {x f : Str} (h : fa[i]? = some (.fa (.noat x f)) := by rfl) : NoAttr K (He.ga K x) f := He.noat_ok (T.c.fact i h)
theorem Tx.meth (T : Tx fa fn K mg) (i : Nat) {x m : Str} (h : fa[i]? = some (.fa (.meth x m)) := by rfl) : Meth K (He.ga K x) m (He.ma K (He.ga K x) m) := He.meth_ok (T.c.fact i h)
theorem Tx.mkr (T : Tx fa fn K mg) (i : Nat) {x : Str} (h : fa[i]? = some (.fa (.mkr x)) := by rfl) : Mk K (He.ga K x) (He.ma K (He.ga K x) "__init__") := He.mkr_ok (T.c.fact i h)
theorem Tx.prop (T : Tx fa fn K mg) (i : Nat) {c m : Str} (h : fa[i]? = some (.prop c m) := by rfl) : PropOf K (He.ga K c) m (He.ma K (He.ga K c) m) (pAd c m K) := prop_ok (T.c.fact i h)
end

section
variable {P : Program} {w : World} {K : PySem.W.Frag} {mg : Str → Option Value} {base : Heap}
/-- the def at ad computes g -/
def FnD (P : Program) (w : World) (K : PySem.W.Frag) (mg : Str → Option Value) (base : Heap) (k : Nat) (ad : PySem.W.Frag → Addr) (n : Nat) (g : List D → Rs D) : Prop :=
  ∃ fd ps, FnOk P w K mg base (L2N.CX P w) k (ad K) fd ps (spD K n g) ∧ Binds K fd ps [] ∧ PySem.W.keepIn K (.ref (ad K)) = true
theorem FnD.mono {j k : Nat} {ad : PySem.W.Frag → Addr} {n : Nat} {g : List D → Rs D} (F : FnD P w K mg base j ad n g) (h : j ≤ k) : FnD P w K mg base k ad n g :=
  let ⟨fd, ps, a, b, c⟩ := F
  ⟨fd, ps, a.mono h, b, c⟩
/-- by another function that agrees where it tells something -/
theorem FnD.imp {k : Nat} {ad : PySem.W.Frag → Addr} {n : Nat} {g g' : List D → Rs D} (F : FnD P w K mg base k ad n g) (h : ∀ ds, ds.length = n → g' ds ≠ .bot → g' ds = g ds) : FnD P w K mg base k ad n g' := by
  obtain ⟨fd, ps, a, b, c⟩ := F
  refine ⟨fd, ps, a.imp fun vs H Q E ⟨G, ds, sg, dp, l, fi⟩ => ⟨G, ds, sg, dp, l, ?_⟩, b, c⟩
  by_cases e : g' ds = .bot
  · rw [e] at fi; exact False.elim fi
  · rw [← h ds l e]; exact fi
theorem fnD_of {d : DefP} {N ps : List Str} {k : Nat} {b : Ev → SR} {fd : FuncData} (F : FunD K d.name d.qual d.params d.body d.scope [] (d.kws K) (d.ad K) fd) (S : FnScope N ps d.scope)
    (hbd : ∀ (dV kV doc pm : Value) (an : Option Addr) (cdv ct : Value) (us : List Value), us.length = ps.length → bindArgs (PySem.W.fnOf d.name d.qual d.params d.body d.scope .none kV doc pm an cdv ct) ⟨us, []⟩ = pure (ps.zip us))
    (hb : ∀ (cdv : Value) (A : Around) (outer : List Env) (s : Shared) (H : Hp) (E : XK), Room k (A.deeper (PyProof.Rows.envOfC d.qual d.scope s.heap.objs.size (d.ad K) cdv)) → DSs (cxOf (L2N.CX P w) P w K mg base N d.qual d.scope (d.ad K) cdv A outer s H E) E d.body b) :
    FnD P w K mg base (k + 1) d.ad ps.length (runD N.length b) :=
  ⟨fd, ps, fn_D F S hb, F.bindsN (ps := ps) fun kV doc pm an cdv ct us hl => hbd .none kV doc pm an cdv ct us hl, F.kp⟩
end
section
variable {X : Cx} {E : XK} {e : Expr} {es : List Expr} {fa : Ev → Rs D} {fs : Ev → Rs (List D)} {pos : Pos}
theorem de_callF {k n : Nat} {x : Str} {p : Pos} {g : List D → Rs D} (F : FnD X.prog X.w X.K X.mg X.base k (gAd x) n g) (hr : Room k X.A) (hm : X.mg x = some (.ref (He.ga X.K x))) (hx : Passes (L2N.CX X.prog X.w) X E) (ha : DA X E (e :: es) fs) (hg : Gl X x := by rfl)
    (hdb : (x == ("__debug__" : Str)) = false := by decide) (he : starEach (e :: es) X.env = (false, eval e X.env) :: starEach es X.env := by rfl) (hpl : (backTo pos (starEach es X.env)).any (·.1) = false := by rfl) :
    DE X E (.Call (.Name x p) (e :: es) [] pos) (dCallN n g fs) := by
  obtain ⟨fd, ps, a, b, c⟩ := F
  exact de_call a hr hg hm c b hx ha hdb he hpl
theorem de_methF {k n : Nat} {c m : Str} {g : List D → Rs D} {o : Expr} {apos : Pos} {pl : Sem Bool} (F : FnD X.prog X.w X.K X.mg X.base k (mAd c m) n g) (hr : Room k X.A) (cl : Cls X.K (He.ga X.K c)) (hm : Meth X.K (He.ga X.K c) m (He.ma X.K (He.ga X.K c) m)) (hx : Passes (L2N.CX X.prog X.w) X E) (he : DE X E o fa) (ha : DA X E (e :: es) fs)
    (hst : starEach (e :: es) X.env = (false, eval e X.env) :: starEach es X.env := by rfl) (hpl : (backTo pos (starEach es X.env)).any (·.1) = false := by rfl)
    (ht : eval (.Call (.Attribute o m apos) (e :: es) [] pos) X.env = (do
      let ov ← eval o X.env
      standAt apos.atName
      let (f, first) ← holding [ov] (getMethod ov m pl)
      callWith pos f first (backTo pos (starEach (e :: es) X.env)) (backToKw pos (keywordEach [] X.env))) := by rfl) :
    DE X E (.Call (.Attribute o m apos) (e :: es) [] pos) (dMeth c m n g fa fs) := by
  obtain ⟨fd, ps, a, b, _⟩ := F
  exact de_meth (pl := pl) he cl hm a hr b hx ha hst hpl ht
theorem de_propF {k : Nat} {c f : Str} {g : List D → Rs D} (F : FnD X.prog X.w X.K X.mg X.base k (pAd c f) 1 g) (hr : Room (k + 1) X.A) (cl : Cls X.K (He.ga X.K c)) (hp : PropOf X.K (He.ga X.K c) f (He.ma X.K (He.ga X.K c) f) (pAd c f X.K)) (he : DE X E e fa)
    (hab : attributeBase e f X.env (eval e X.env) = eval e X.env := by rfl) : DE X E (.Attribute e f pos) (dProp c g fa) := by
  obtain ⟨fd, ps, a, b, _⟩ := F
  exact de_prop he cl hp a hr b passN hab
end
end KD

/-! KD5: further rules. -/
namespace KD
open PySem L2
section
variable {X : Cx} {E : XK} {e a b : Expr} {es : List Expr} {fa fb : Ev → Rs D} {fs : Ev → Rs (List D)} {pos p : Pos} {st : Stmt}
theorem dt_isN {j pos'} (ha : DE X E a fa) : DT X E (.Compare a [.Is] [.Constant .none j pos'] pos) (dTest (dIsN fa)) := by
  refine ptI (pt_cmp (pc_isN ha) rfl) fun σ H Q ⟨ρ, G, s, r, fi⟩ => ?_
  have fi' := fi.bind
  refine ⟨ρ, G, s, r, fi'.bind.imp fun d H1 G1 g1 fi1 v hv => ?_⟩
  have fi2 := Fi.now g1.gh fi1
  refine ⟨_, rfl, ?_⟩
  rw [hv.isN]
  exact Fi.now g1.gh fi2
theorem dt_notN {j pos'} (ha : DE X E a fa) : DT X E (.Compare a [.IsNot] [.Constant .none j pos'] pos) (dTest (dNotN fa)) := by
  refine ptI (pt_cmp (pc_notN ha) rfl) fun σ H Q ⟨ρ, G, s, r, fi⟩ => ?_
  have fi' := fi.bind
  refine ⟨ρ, G, s, r, fi'.bind.imp fun d H1 G1 g1 fi1 v hv => ?_⟩
  have fi2 := Fi.now g1.gh fi1
  refine ⟨_, rfl, ?_⟩
  rw [hv.isN]
  exact Fi.now g1.gh fi2
def gNeg (x : D) : Rs D := match x with
  | .int i => .ok (.int (-i))
  | _ => .bot
def dNeg (f : Ev → Rs D) : Ev → Rs D := fun ρ => (f ρ).bind gNeg
theorem de_neg (ha : DE X E a fa) : DE X E (.UnaryOp .USub a pos) (dNeg fa) := by
  refine peI (pe_un un_neg ha) fun σ H Q ⟨ρ, G, s, r, fi⟩ => ?_
  refine ⟨ρ, G, s, r, fi.bind.imp fun d H1 G1 g1 fi1 v hv => ?_⟩
  cases hv <;> first | exact False.elim fi1 | exact ⟨_, rfl, fi0 g1.gh fi1 (.int _)⟩
/-! ### * -/
theorem foldl_cps (x : Array Nat) : ∀ (n : Nat) (acc : Array Nat), (List.replicate n x).foldl (· ++ ·) acc = acc ++ ((List.replicate n x.toList).flatten).toArray
  | 0, acc => by simp
  | n + 1, acc => by
    rw [List.replicate_succ, List.foldl_cons, foldl_cps x n, List.replicate_succ, List.flatten_cons]
    apply Array.ext'
    simp [List.append_assoc]
theorem op_mul_str : OpR X (binaryOp .Mult) (fun x y H Q => ∃ z n, x = .str z ∧ y = .int n ∧ 0 ≤ n ∧ n ≤ 1000 ∧ z.length ≤ 1000 ∧ Q (.str ⟨((List.replicate n.toNat z.cps.toList).flatten).toArray⟩) H) := by
  intro pins s σ H x y v u Q I rx ry h
  obtain ⟨z, n, rfl, rfl, h0, h1, h2, q⟩ := h
  obtain ⟨t, rfl⟩ := rx
  obtain ⟨t', rfl⟩ := ry
  have hm : z.length * n.toNat ≤ 1000000 := by
    have : n.toNat ≤ 1000 := by omega
    calc z.length * n.toNat ≤ 1000 * 1000 := Nat.mul_le_mul h2 this
      _ = 1000000 := by decide
  have he : (⟨((List.replicate n.toNat z.cps.toList).flatten).toArray⟩ : Str) = ⟨(List.replicate n.toNat z.cps).foldl (· ++ ·) #[]⟩ := by
    rw [foldl_cps]; simp
  refine PySem.P.mul_str (by
      have c1 : ¬ n < -(2 ^ 63 : Int) := by omega
      have c2 : ¬ n ≥ 2 ^ 63 := by omega
      rw [decide_eq_false c1, decide_eq_false c2]; rfl) (fun hn _ => ?_) (fun _ _ => ?_) ?_
  · have : (z.length : Int) ≤ 1000 := by omega
    have hd : (1000 : Int) ≤ (2 ^ 63 - 1) / n := by
      rw [Int.le_ediv_iff_mul_le (by omega)]
      omega
    omega
  · unfold Builtin.Str.tooLong
    rw [sizeLine_eq]
    exact decide_eq_false (by omega)
  · by_cases c : n < 1
    · have : n = 0 := by omega
      subst this
      rw [if_pos c]
      exact ⟨by decide, .str _, H, I.tok _, ⟨_, rfl⟩, q⟩
    · rw [if_neg c]
      by_cases c2 : (n == 1 || z.length == 0) = true
      · rw [if_pos c2]
        refine ⟨.str z, H, I, ⟨_, rfl⟩, ?_⟩
        have ez : (⟨((List.replicate n.toNat z.cps.toList).flatten).toArray⟩ : Str) = z := by
          rcases (by simpa using c2 : n = 1 ∨ z.length = 0) with e | e
          · subst e; simp
          · have : z.cps = #[] := by
              apply Array.eq_empty_of_size_eq_zero
              exact e
            obtain ⟨cps⟩ := z
            have : cps = #[] := this
            subst this
            simp
        rw [ez] at q; exact q
      · rw [if_neg c2]
        rw [he] at q
        refine ⟨?_, .str _, H, I.tok _, ⟨_, rfl⟩, q⟩
        rw [← he]
        show ((List.replicate n.toNat z.cps.toList).flatten).toArray.size ≤ sizeLine
        rw [List.size_toArray, List.length_flatten, List.map_replicate, List.sum_replicate_nat, sizeLine_eq]
        have : z.cps.toList.length = z.length := rfl
        rw [this, Nat.mul_comm]
        omega
theorem strOk_rep {z : Str} (h : PyData.strOk z = true) (n : Nat) : PyData.strOk ⟨((List.replicate n z.cps.toList).flatten).toArray⟩ = true := by
  rw [strOk_iff] at h ⊢
  intro c hc
  rw [List.toList_toArray] at hc
  obtain ⟨l, h1, h2⟩ := List.mem_flatten.mp hc
  rw [(List.mem_replicate.mp h1).2] at h2
  exact h c h2
theorem dp_rep {K : PySem.W.Frag} {G : Hp} {xs : List V} {ds : List D} (h : DpAll K G xs ds) : ∀ n, DpAll K G (List.replicate n xs).flatten (List.replicate n ds).flatten
  | 0 => .nil
  | n + 1 => by
    rw [List.replicate_succ, List.replicate_succ, List.flatten_cons, List.flatten_cons]
    exact h.append (dp_rep h n)
theorem dd_mul : OpDD X (binaryOp .Mult) gMul := ⟨_, op_mul.or (op_mul_str.or op_rep), fun E G H x y dx dy Q s hx hy fi => by
  cases hx with
  | int i =>
    cases hy <;> try exact False.elim fi
    rename_i j
    by_cases c : okMul i j = true
    · unfold gMul at fi; dsimp only at fi; rw [if_pos c] at fi
      exact .inl ⟨_, _, rfl, rfl, okMul_iff.mp c, fi0 s fi (.int _)⟩
    · unfold gMul at fi; dsimp only at fi; rw [if_neg c] at fi; exact False.elim fi
  | str z hz =>
    cases hy <;> try exact False.elim fi
    rename_i n
    by_cases c : 0 ≤ n ∧ n ≤ 1000 ∧ z.length ≤ 1000
    · unfold gMul at fi; dsimp only at fi; rw [if_pos c] at fi
      exact .inr (.inl ⟨z, n, rfl, rfl, c.1, c.2.1, c.2.2, fi0 s fi (.str _ (strOk_rep hz _))⟩)
    · unfold gMul at fi; dsimp only at fi; rw [if_neg c] at fi; exact False.elim fi
  | lst h1 h2 =>
    cases hy <;> try exact False.elim fi
    rename_i a xs ds n
    by_cases c : 0 ≤ n ∧ n ≤ 1000 ∧ ds.length ≤ 1000
    · unfold gMul at fi; dsimp only at fi; rw [if_pos c] at fi
      have l := h2.length
      have hm : xs.length * n.toNat ≤ sizeLine := by
        have : n.toNat ≤ 1000 := by omega
        rw [sizeLine_eq]
        calc xs.length * n.toNat ≤ 1000 * 1000 := Nat.mul_le_mul (by omega) this
          _ ≤ 16777216 := by decide
      refine .inr (.inr ⟨_, n, _, rfl, rfl, s _ _ h1, by omega, by omega, hm, fun p np => ?_⟩)
      exact fiN s fi np (.lst upd_same (dp_rep (h2.up (same_upd (s.free np))) _))
    · unfold gMul at fi; dsimp only at fi; rw [if_neg c] at fi; exact False.elim fi
  | _ => exact False.elim fi⟩
/-! ### sum, any, all -/
def asInts : List D → Option (List Int)
  | [] => some []
  | .int i :: ds => (asInts ds).map (i :: ·)
  | _ => none
def asBls : List D → Option (List Bool)
  | [] => some []
  | .bl i :: ds => (asBls ds).map (i :: ·)
  | _ => none
theorem dp_ints {K : PySem.W.Frag} {G : Hp} : ∀ {vs : List V} {ds : List D} {ns : List Int}, DpAll K G vs ds → asInts ds = some ns → vs = ns.map V.int
  | _, [], _, h, e => by cases h; cases e; rfl
  | _, d :: ds, ns, h, e => by
    cases h with
    | cons a t =>
      cases a <;> try (cases e)
      rename_i i
      cases q : asInts ds with
      | none => simp [asInts, q] at e
      | some ms => simp [asInts, q] at e; subst e; rw [dp_ints t q]; rfl
theorem dp_bls {K : PySem.W.Frag} {G : Hp} : ∀ {vs : List V} {ds : List D} {ns : List Bool}, DpAll K G vs ds → asBls ds = some ns → vs = ns.map V.bl
  | _, [], _, h, e => by cases h; cases e; rfl
  | _, d :: ds, ns, h, e => by
    cases h with
    | cons a t =>
      cases a <;> try (cases e)
      rename_i i
      cases q : asBls ds with
      | none => simp [asBls, q] at e
      | some ms => simp [asBls, q] at e; subst e; rw [dp_bls t q]; rfl
def cSum (ds : List D) : Rs D := match ds with
  | [.lst xs] => (match asInts xs with | some ns => .ok (.int ns.sum) | none => .bot)
  | _ => .bot
def cAny (ds : List D) : Rs D := match ds with
  | [.lst xs] => (match asBls xs with | some ns => .ok (.bl (ns.any id)) | none => .bot)
  | _ => .bot
def cAll (ds : List D) : Rs D := match ds with
  | [.lst xs] => (match asBls xs with | some ns => .ok (.bl (ns.all id)) | none => .bot)
  | _ => .bot
theorem cd_sum (hc : X.calm = true) : CallDD X (.builtin "sum") cSum := ⟨_, cr_sum hc, fun E G H xs ds Q s hx fi => by
  match ds, hx, fi with
  | [d], hx, fi =>
    obtain ⟨v, rfl, h⟩ := dpAll1 hx
    cases h with
    | @lst a vs ds h1 h2 =>
      unfold cSum at fi; dsimp only at fi
      cases q : asInts ds with
      | none => rw [q] at fi; exact False.elim fi
      | some ns =>
        rw [q] at fi
        exact ⟨a, ns, rfl, by rw [← dp_ints h2 q]; exact SqL.of (s _ _ h1), fi0 s fi (.int _)⟩
    | _ => exact False.elim fi
  | [], hx, fi => exact False.elim fi
  | d1 :: _ :: _, hx, fi => exact False.elim (by cases d1 <;> exact fi)⟩
theorem cd_any (hc : X.calm = true) : CallDD X (.builtin "any") cAny := ⟨_, cr_any hc, fun E G H xs ds Q s hx fi => by
  match ds, hx, fi with
  | [d], hx, fi =>
    obtain ⟨v, rfl, h⟩ := dpAll1 hx
    cases h with
    | @lst a vs ds h1 h2 =>
      unfold cAny at fi; dsimp only at fi
      cases q : asBls ds with
      | none => rw [q] at fi; exact False.elim fi
      | some ns =>
        rw [q] at fi
        exact ⟨a, ns, rfl, by rw [← dp_bls h2 q]; exact SqL.of (s _ _ h1), fi0 s fi (.bl _)⟩
    | _ => exact False.elim fi
  | [], hx, fi => exact False.elim fi
  | d1 :: _ :: _, hx, fi => exact False.elim (by cases d1 <;> exact fi)⟩
theorem cd_all (hc : X.calm = true) : CallDD X (.builtin "all") cAll := ⟨_, cr_all hc, fun E G H xs ds Q s hx fi => by
  match ds, hx, fi with
  | [d], hx, fi =>
    obtain ⟨v, rfl, h⟩ := dpAll1 hx
    cases h with
    | @lst a vs ds h1 h2 =>
      unfold cAll at fi; dsimp only at fi
      cases q : asBls ds with
      | none => rw [q] at fi; exact False.elim fi
      | some ns =>
        rw [q] at fi
        exact ⟨a, ns, rfl, by rw [← dp_bls h2 q]; exact SqL.of (s _ _ h1), fi0 s fi (.bl _)⟩
    | _ => exact False.elim fi
  | [], hx, fi => exact False.elim fi
  | d1 :: _ :: _, hx, fi => exact False.elim (by cases d1 <;> exact fi)⟩
/-! ### reading an owned list -/
def dLenO (i : Nat) : Ev → Rs D := fun ρ => match ρ[i]? with
  | some (.ol xs) => .ok (.int xs.length)
  | _ => .bot
theorem de_lenO {i : Nat} {x : Str} {p1 p2 : Pos} (hg : Gl X "len") (hm : X.mg "len" = none) (hv : PE X (.Name x p2) (tVar i)) (hs : starEach [.Name x p2] X.env = [(false, eval (.Name x p2) X.env)] := by rfl)
    (hpl : (backTo pos (starEach [] X.env)).any (·.1) = false := by rfl) : DE X E (.Call (.Name "len" p1) [.Name x p2] [] pos) (dLenO i) := by
  refine peI (pe_callB (id := "len") call_len hg hm PySem.boot_len (pa_cons hv pa_nil (by rw [hs]; rfl)) (by decide) (by decide) (by rw [hs]; rfl) hpl) fun σ H Q ⟨ρ, G, s, r, fi⟩ => ?_
  unfold dLenO at fi
  split at fi
  · rename_i xs q
    obtain ⟨a, vs, e, hH, nG, dp⟩ := r.ol q
    exact ⟨_, e, _, vs.length, rfl, .inl ⟨_, SqL.of hH, rfl⟩, by rw [dp.length]; exact fi0 s fi (.int _)⟩
  · exact False.elim fi
end
theorem u200 {k : Nat} {A : Around} (hr : Room k A) : A.units + 200 < cLine := by have := hr.un; omega
theorem u1 {k : Nat} {A : Around} (hr : Room k A) : A.units + 1 < cLine := by have := hr.un; omega
/-! ### a text, sign by sign -/
def signs (z : Str) : List D := z.cps.toList.map fun c => .str ⟨#[c]⟩
def dItS (f : Ev → Rs D) : Ev → Rs (List D) := fun ρ => (f ρ).bind fun d => match d with
  | .str z => .ok (signs z)
  | _ => .bot
theorem itD_str {K : PySem.W.Frag} {G : Hp} {z : Str} (h : PyData.strOk z = true) : ItD K (Its z) G (signs z) where
  go i H s hi := by
    have : (signs z).length = z.cps.size := by simp [signs]
    rw [this] at hi; exact hi
  yld i H x H' s hy := by
    obtain ⟨e, c, hc, rfl⟩ := hy
    refine ⟨e, fun d hd => ?_⟩
    have e2 : z.cps.toList[i]? = some c := by rw [Array.getElem?_toList]; exact hc
    unfold signs at hd
    rw [List.getElem?_map, e2] at hd
    cases hd
    exact .str _ (strOk_one h (List.mem_of_getElem? e2))
  stop H s := by
    have : (signs z).length = z.cps.size := by simp [signs]
    rw [this]; exact Nat.le_refl _
theorem di_str {X : Cx} {E : XK} {tg e : Expr} {fa : Ev → Rs D} (h : DE X E e fa) : DI X E tg e (dItS fa) := by
  refine piI (pi_str h) fun σ H R ⟨ρ, G, s, r, fi⟩ => ?_
  refine ⟨ρ, G, s, r, fi.bind.imp fun d H1 G1 g1 fi1 v hv => ?_⟩
  cases hv with
  | str z hz => exact ⟨_, rfl, fi1.now g1.gh _ (itD_str hz)⟩
  | _ => exact False.elim fi1
end KD

/-! KD6: constructors; Signature. -/
namespace KD
open PySem L2

/-- the object at x is being made: all else stays, new data may lean on x -/
structure GrowX (x : Addr) (H G H' G' : Hp) : Prop where
  hh : ∀ b o, b ≠ x → H b = some o → H' b = some o
  gg : Same G G'
  gh : Same G' H'
  nw : ∀ a o, G' a = some o → G a = some o ∨ H a = none ∨ a = x
def FiX {α : Type} (K : PySem.W.Frag) (E : XK) (x : Addr) (H G : Hp) (r : Rs α) (P : α → Hp → Hp → Prop) : Prop := match r with
  | .ok a => ∀ H' G', GrowX x H G H' G' → P a H' G'
  | .xc c ns fs => ∀ od H' G', GrowX x H G H' G' → XdOk K H' G' od ns fs → E (.ref (He.ga K c)) od H'
  | .bot => False
/-- __init__ of the class c: the object's data by g of the arguments' -/
def spI (K : PySem.W.Frag) (c : Str) (n : Nat) (g : List D → Rs D) : Sp := fun vs H Q E => ∃ (x dx : Addr) (ws : List V) (G : Hp) (ds : List D), vs = .ref x :: ws ∧ H x = some (.ins (He.ga K c) dx []) ∧ Same G H ∧ G x = none ∧ DpAll K G ws ds ∧ ds.length = n ∧
  FiX K E x H G (g ds) (fun d H' G' => Dp K G' (.ref x) d → Q .non H')
section
variable {K : PySem.W.Frag} {x dx : Addr} {H1 G1 H' G' : Hp} {C : Addr}
theorem made_none (nx : H1 x = none) (sg : Same G1 H1) : G1 x = none := sg.free nx
theorem made_same (nx : H1 x = none) (nd : H1 dx = none) (sg : Same G1 H1) : Same G1 (upd (upd H1 dx (.own x)) x (.ins C dx [])) := fun b o h => by
  have h1 := sg b o h
  rw [upd_ne (ne_of_none h1 nx), upd_ne (ne_of_none h1 nd)]; exact h1
theorem GrowX.out (nx : H1 x = none) (nd : H1 dx = none) (ne : dx ≠ x) (g : GrowX x (upd (upd H1 dx (.own x)) x (.ins C dx [])) G1 H' G') : Grow H1 G1 H' G' := by
  refine ⟨fun b o h => ?_, g.gg, g.gh, fun a o h => ?_⟩
  · refine g.hh b o (ne_of_none h nx) ?_
    rw [upd_ne (ne_of_none h nx), upd_ne (ne_of_none h nd)]; exact h
  · rcases g.nw a o h with q | q | q
    · exact .inl q
    · by_cases c : a = x
      · subst c; exact .inr nx
      · rw [upd_ne c] at q
        by_cases c2 : a = dx
        · subst c2; exact .inr nd
        · rw [upd_ne c2] at q; exact .inr q
    · subst q; exact .inr nx
end
section
variable {X : Cx} {E : XK} {e : Expr} {es : List Expr} {fs : Ev → Rs (List D)} {fa : Ev → Rs D} {pos p : Pos}
/-- C(e, ..) -/
theorem de_make {CX : CXT} {k n : Nat} {c : Str} {f : Addr} {fd : FuncData} {ps : List Str} {g : List D → Rs D} (M : Mk X.K (He.ga X.K c) f) (F : FnOk X.prog X.w X.K X.mg X.base CX k f fd ps (spI X.K c n g)) (hr : Room (k + 1) X.A) (hm : X.mg c = some (.ref (He.ga X.K c))) (hb : Binds X.K fd ps []) (hx : Passes CX X E)
    (ha : DA X E (e :: es) fs) (hg : Gl X c := by rfl) (hdb : (c == ("__debug__" : Str)) = false := by decide) (he : starEach (e :: es) X.env = (false, eval e X.env) :: starEach es X.env := by rfl) (hpl : (backTo pos (starEach es X.env)).any (·.1) = false := by rfl) :
    DE X E (.Call (.Name c p) (e :: es) [] pos) (dCallN n g fs) := by
  refine peI (pe_make M F hr hg hm hb .nil hx ha hdb he hpl) fun σ H Q ⟨ρ, G, s, r, fi⟩ => ?_
  refine ⟨ρ, G, s, r, fi.bind.imp fun ds H1 G1 g1 fi1 vs hvs x dx nx nd ne => ?_⟩
  by_cases cn : ds.length = n
  · rw [if_pos cn] at fi1
    rw [List.append_nil]
    refine ⟨x, dx, vs, G1, ds, rfl, upd_same, made_same nx nd g1.gh, made_none nx g1.gh, hvs, cn, ?_⟩
    cases q : g ds with
    | ok d =>
      rw [q] at fi1
      exact fun H' G' gx hd => ⟨rfl, fi1 H' G' (gx.out nx nd ne) _ hd⟩
    | xc c n f => rw [q] at fi1; exact fun od H' G' gx hd => fi1 od H' G' (gx.out nx nd ne) hd
    | bot => rw [q] at fi1; exact fi1
  · rw [if_neg cn] at fi1; exact False.elim fi1
end

/-! ### Signature -/
def sigOb (l ks vs : List D) : D := .ob "Signature" ["listed", "numbers"] [.lst l, .dic ks vs]
/-- the loop of __init__: rows to come, what is listed, numbered -/
def sigL (chk : List D → Rs D) : List D → List D → List D → List D → Rs D
  | [], l, ks, vs => .ok (sigOb l ks vs)
  | row :: rows, l, ks, vs => (chk [row, .lst ks]).bind fun _ => (gIx row (.int 0)).bind fun n => match n.key with
    | none => .bot
    | some k => (match lookD ks vs k with
      | some _ => .bot
      | none => (gIx row (.int 1)).bind fun a => (gIx row (.int 2)).bind fun b => (gIx row (.int 3)).bind fun c => (cTuple [c]).bind fun t =>
        if l.length < 1000 ∧ ks.length < 1000 then sigL chk rows (l ++ [.tup [n, a, b, t]]) (ks ++ [n]) (vs ++ [.int l.length]) else .bot)
def sigD (chk : List D → Rs D) (rows : List D) : Rs D := sigL chk rows [] [] []
/-- __init__: the rows are read off a list that may change later -/
def spS (K : PySem.W.Frag) (chk : List D → Rs D) : Sp := fun vs H Q E => ∃ (x dx a : Addr) (xs : List V) (G : Hp) (rows : List D), vs = [.ref x, .ref a] ∧ H x = some (.ins (He.ga K "Signature") dx []) ∧ SqL K H a xs ∧ a ≠ x ∧ Same G H ∧ G x = none ∧ DpAll K G xs rows ∧
  FiX K E x H G (sigD chk rows) (fun d H' G' => Dp K G' (.ref x) d → Q .non H')
abbrev rListD : List V → Hp → VK → Prop := fun xs H Q => ∃ (a : Addr) (kvs : List (Key × V)), xs = [.ref a] ∧ Rd H a (.dK kvs) ∧ ∀ p, H p = none → Q (.ref p) (upd H p (.lst (kvs.map fun kv => kV kv.1)))
abbrev rLenA (K : PySem.W.Frag) : List V → Hp → VK → Prop := fun xs H Q => ∃ x n, xs = [x] ∧ LenV K x H n ∧ Q (.int n) H
def dRow (i : Int) : Ev → Rs D := dOp gIx (dVar 2) (dC (.int i))
def t_sig (K : PySem.W.Frag) (E : XK) (chk : List D → Rs D) : TS :=
  tSeq (sFld K (tVar 0) (tLst tNil) "listed") (tSeq (sFld K (tVar 0) tDNewK "numbers") (tFor (iList K (tVar 1)) (gName 2)
    (tSeq (tDrop (tCall (spD K 2 chk) [] E (tCons (tVar 2) (tCons (tCB rListD (tCons (tFld K (tVar 0) "numbers") tNil)) tNil))))
    (tSeq (sDPut (tFld K (tVar 0) "numbers") (tD K E (dRow 0)) (tCB (rLenA K) (tCons (tFld K (tVar 0) "listed") tNil)))
      (tDrop (tBM K "list" rAppend (tFld K (tVar 0) "listed") (tCons (tD K E (dTup (dCons (dRow 0) (dCons (dRow 1) (dCons (dRow 2) (dCons (dCall cTuple (dCons (dRow 3) dNil)) dNil)))))) tNil)))))))
theorem sl_ne : ¬ (("listed" : Str) = "numbers") := by decide +kernel
theorem put2 (l n : Addr) : putF "numbers" (.ref n) (putF "listed" (.ref l) []) = ([("listed", V.ref l), ("numbers", V.ref n)] : List (Str × V)) := by
  show (if ("listed" : Str) = "numbers" then [(("listed" : Str), V.ref n)] else (("listed" : Str), V.ref l) :: putF "numbers" (V.ref n) []) = _
  rw [if_neg sl_ne]; rfl
theorem lk_listed (l n : Addr) : ([("listed", V.ref l), ("numbers", V.ref n)] : List (Str × V)).lookup ("listed" : Str) = some (.ref l) := by
  rw [← put2, lookup_putF, if_neg sl_ne, lookup_putF, if_pos rfl]
theorem lk_numbers (l n : Addr) : ([("listed", V.ref l), ("numbers", V.ref n)] : List (Str × V)).lookup ("numbers" : Str) = some (.ref n) := by
  rw [← put2, lookup_putF, if_pos rfl]
/-- what stands between two turns of __init__'s loop -/
structure SigAt (K : PySem.W.Frag) (x dx : Addr) (H1 G1 H G : Hp) (l n : Addr) (lv : List V) (kv : List (Key × V)) (dl ks vs : List D) : Prop where
  ob : H x = some (.ins (He.ga K "Signature") dx [("listed", .ref l), ("numbers", .ref n)])
  hl : H l = some (.lst lv)
  hn : H n = some (.dK kv)
  gx : G x = none
  gl : G l = none
  gn : G n = none
  l1 : H1 l = none
  n1 : H1 n = none
  gr : GrowX x H1 G1 H G
  dl : DpAll K G lv dl
  dk : DpAll K G (kv.map fun p => kV p.1) ks
  dv : DpAll K G (kv.map (·.2)) vs
section
variable {K : PySem.W.Frag} {x dx : Addr} {H1 G1 H G H' G' : Hp} {l n : Addr} {lv : List V} {kv : List (Key × V)} {dl ks vs : List D}
theorem SigAt.grow (a : SigAt K x dx H1 G1 H G l n lv kv dl ks vs) (x1 : ∃ o, H1 x = some o) (g : Grow H G H' G') : SigAt K x dx H1 G1 H' G' l n lv kv dl ks vs := by
  have fr : ∀ b, (∃ u, H b = some u) → G b = none → G' b = none := fun b hu ng => by
    obtain ⟨u, hu⟩ := hu
    cases e : G' b with
    | none => rfl
    | some w =>
      rcases g.nw b w e with q | q
      · rw [ng] at q; cases q
      · rw [hu] at q; cases q
  refine ⟨g.hh _ _ a.ob, g.hh _ _ a.hl, g.hh _ _ a.hn, fr x ⟨_, a.ob⟩ a.gx, fr l ⟨_, a.hl⟩ a.gl, fr n ⟨_, a.hn⟩ a.gn, a.l1, a.n1, ⟨fun b o c h => g.hh _ _ (a.gr.hh b o c h), a.gr.gg.trans g.gg, g.gh, fun b o h => ?_⟩, a.dl.up g.gg, a.dk.up g.gg, a.dv.up g.gg⟩
  rcases g.nw b o h with q | q
  · exact a.gr.nw b o q
  · by_cases c : b = x
    · exact .inr (.inr c)
    · refine .inr (.inl ?_)
      cases e : H1 b with
      | none => rfl
      | some w => rw [a.gr.hh b w c e] at q; cases q
end
theorem rowRep {K : PySem.W.Frag} {G H : Hp} {v0 v1 v : V} {row : D} (h : Dp K G v row) : Rep K G H [some v0, some v1, some v] [.no, .no, .dt row] := by
  refine ⟨rfl, fun i s o h1 h2 => ?_, fun i j s t a h1 h2 o1 _ _ _ => ?_⟩
  · match i, h1, h2 with
    | 0, h1, h2 => cases h1; trivial
    | 1, h1, h2 => cases h1; trivial
    | 2, h1, h2 => cases h1; cases h2; exact ⟨v, rfl, h⟩
  · exfalso
    match i, h1 with
    | 0, h1 => cases h1; cases o1
    | 1, h1 => cases h1; cases o1
    | 2, h1 => cases h1; cases o1
theorem SqL.except {K : PySem.W.Frag} {H H' : Hp} {x a : Addr} {xs : List V} (k : ∀ b o, b ≠ x → H b = some o → H' b = some o) (ne : a ≠ x) (h : SqL K H a xs) : SqL K H' a xs := by
  rcases h with (h | ⟨o, h⟩) | h
  · exact .inl (.inl (k _ _ ne h))
  · exact .inl (.inr ⟨o, k _ _ ne h⟩)
  · exact .inr h
theorem SigAt.ne {K : PySem.W.Frag} {x dx : Addr} {H1 G1 H G : Hp} {l n : Addr} {lv : List V} {kv : List (Key × V)} {dl ks vs : List D} (a : SigAt K x dx H1 G1 H G l n lv kv dl ks vs) : x ≠ l ∧ x ≠ n ∧ l ≠ n :=
  ⟨ne_of a.ob a.hl (by intro z; cases z), ne_of a.ob a.hn (by intro z; cases z), ne_of a.hl a.hn (by intro z; cases z)⟩
theorem SigAt.putN {K : PySem.W.Frag} {x dx : Addr} {H1 G1 H G : Hp} {l n : Addr} {lv : List V} {kv : List (Key × V)} {dl ks vs : List D} (a : SigAt K x dx H1 G1 H G l n lv kv dl ks vs) {k : Key} {v : V} {dk dv : D} (h1 : Dp K G (kV k) dk) (h2 : Dp K G v dv) :
    SigAt K x dx H1 G1 (upd H n (.dK (kv ++ [(k, v)]))) G l n lv (kv ++ [(k, v)]) dl (ks ++ [dk]) (vs ++ [dv]) := by
  obtain ⟨n1, n2, n3⟩ := a.ne
  refine ⟨by rw [upd_ne n2]; exact a.ob, by rw [upd_ne n3]; exact a.hl, upd_same, a.gx, a.gl, a.gn, a.l1, a.n1, ⟨fun b o c h => ?_, a.gr.gg, fun b o h => ?_, a.gr.nw⟩, a.dl, ?_, ?_⟩
  · rw [upd_ne (ne_of_none h a.n1)]; exact a.gr.hh b o c h
  · rw [upd_ne (ne_of_none h a.gn)]; exact a.gr.gh b o h
  · rw [List.map_append]; exact a.dk.append (.cons h1 .nil)
  · rw [List.map_append]; exact a.dv.append (.cons h2 .nil)
theorem SigAt.putL {K : PySem.W.Frag} {x dx : Addr} {H1 G1 H G : Hp} {l n : Addr} {lv : List V} {kv : List (Key × V)} {dl ks vs : List D} (a : SigAt K x dx H1 G1 H G l n lv kv dl ks vs) {v : V} {d : D} (h1 : Dp K G v d) :
    SigAt K x dx H1 G1 (upd H l (.lst (lv ++ [v]))) G l n (lv ++ [v]) kv (dl ++ [d]) ks vs := by
  obtain ⟨n1, n2, n3⟩ := a.ne
  refine ⟨by rw [upd_ne n1]; exact a.ob, upd_same, by rw [upd_ne (Ne.symm n3)]; exact a.hn, a.gx, a.gl, a.gn, a.l1, a.n1, ⟨fun b o c h => ?_, a.gr.gg, fun b o h => ?_, a.gr.nw⟩, a.dl.append (.cons h1 .nil), a.dk, a.dv⟩
  · rw [upd_ne (ne_of_none h a.l1)]; exact a.gr.hh b o c h
  · rw [upd_ne (ne_of_none h a.gl)]; exact a.gr.gh b o h
/-- the end: the object and its two things become data -/
theorem SigAt.done {K : PySem.W.Frag} {x dx : Addr} {H1 G1 H G : Hp} {l n : Addr} {lv : List V} {kv : List (Key × V)} {dl ks vs : List D} (a : SigAt K x dx H1 G1 H G l n lv kv dl ks vs) : ∃ G', GrowX x H1 G1 H G' ∧ Dp K G' (.ref x) (sigOb dl ks vs) := by
  obtain ⟨n1, n2, n3⟩ := a.ne
  have s1 : Same G (upd G l (.lst lv)) := same_upd a.gl
  have e2 : upd G l (.lst lv) n = none := by rw [upd_ne (Ne.symm n3)]; exact a.gn
  have s2 : Same (upd G l (.lst lv)) (upd (upd G l (.lst lv)) n (.dK kv)) := same_upd e2
  have e3 : upd (upd G l (.lst lv)) n (.dK kv) x = none := by rw [upd_ne n2, upd_ne n1]; exact a.gx
  have s3 : Same (upd (upd G l (.lst lv)) n (.dK kv)) (upd (upd (upd G l (.lst lv)) n (.dK kv)) x (.ins (He.ga K "Signature") dx [("listed", .ref l), ("numbers", .ref n)])) := same_upd e3
  refine ⟨_, ⟨a.gr.hh, a.gr.gg.trans (s1.trans (s2.trans s3)), fun b o h => ?_, fun b o h => ?_⟩, ?_⟩
  · by_cases c1 : b = x
    · subst c1; rw [upd_same] at h; cases h; exact a.ob
    · rw [upd_ne c1] at h
      by_cases c2 : b = n
      · subst c2; rw [upd_same] at h; cases h; exact a.hn
      · rw [upd_ne c2] at h
        by_cases c3 : b = l
        · subst c3; rw [upd_same] at h; cases h; exact a.hl
        · rw [upd_ne c3] at h; exact a.gr.gh b o h
  · by_cases c1 : b = x
    · exact .inr (.inr c1)
    · rw [upd_ne c1] at h
      by_cases c2 : b = n
      · subst c2; exact .inr (.inl a.n1)
      · rw [upd_ne c2] at h
        by_cases c3 : b = l
        · subst c3; exact .inr (.inl a.l1)
        · rw [upd_ne c3] at h; exact a.gr.nw b o h
  · have hd : DpAll K (upd (upd (upd G l (.lst lv)) n (.dK kv)) x (.ins (He.ga K "Signature") dx [("listed", .ref l), ("numbers", .ref n)])) ([("listed", V.ref l), ("numbers", V.ref n)].map (·.2)) [.lst dl, .dic ks vs] := by
      refine .cons (.lst (by rw [upd_ne (Ne.symm n1), upd_ne n3, upd_same]) ((a.dl.up s1).up (s2.trans s3))) (.cons (.dic (kvs := kv) (by rw [upd_ne (Ne.symm n2), upd_same]) (a.dk.up (s1.trans (s2.trans s3))) (a.dv.up (s1.trans (s2.trans s3)))) .nil)
    exact Dp.ob (c := "Signature") (fs := [("listed", V.ref l), ("numbers", V.ref n)]) upd_same hd
theorem pure_sig {K : PySem.W.Frag} {chk : List D → Rs D} (cl : Cls K (He.ga K "Signature")) (nl : NoAttr K (He.ga K "Signature") "listed") (nn : NoAttr K (He.ga K "Signature") "numbers") (vs : List V) (H : Hp) (Q : VK) (E : XK) (h : spS K chk vs H Q E) :
    t_sig K E chk { nx := fun _ H' => Q .non H', rt := Q } (start ["self", "symbols", "row"] vs) H := by
  obtain ⟨x, dx, a, xs, G1, rows, rfl, hx, hS, nax, sg, ngx, dp, fi⟩ := h
  refine ⟨Nat.zero_le _, fun l hl => ?_⟩
  have nxl : x ≠ l := ne_of_none hx hl
  refine ⟨_, rfl, x, _, dx, [], rfl, (by rw [upd_ne nxl]; exact hx), cl, nl, (by show 0 < 1000; decide), ?_⟩
  intro n hn
  have nxn : x ≠ n := ne_of_none upd_same hn
  have nln : l ≠ n := fun e => by
    rw [← e, upd_ne (Ne.symm nxl), upd_same] at hn; cases hn
  refine ⟨_, rfl, x, _, dx, _, rfl, (by rw [upd_ne nxn, upd_same]), cl, nn, (by show 1 < 1000; decide), ?_⟩
  rw [put2]
  have n1 : H n = none := by
    rw [upd_ne (Ne.symm nxn), upd_ne (Ne.symm nln)] at hn; exact hn
  -- the start
  have A0 : SigAt K x dx H G1 (upd (upd (upd (upd H l (.lst [])) x (.ins (He.ga K "Signature") dx (putF "listed" (.ref l) []))) n (.dK [])) x (.ins (He.ga K "Signature") dx [("listed", .ref l), ("numbers", .ref n)])) G1 l n [] [] [] [] [] := by
    refine ⟨upd_same, by rw [upd_ne (Ne.symm nxl), upd_ne nln, upd_ne (Ne.symm nxl), upd_same], by rw [upd_ne (Ne.symm nxn), upd_same], ngx, sg.free hl, sg.free n1, hl, n1, ⟨fun b o c q => ?_, Same.refl _, fun b o q => ?_, fun b o q => .inl q⟩, .nil, .nil, .nil⟩
    · rw [upd_ne c, upd_ne (ne_of_none q n1), upd_ne c, upd_ne (ne_of_none q hl)]; exact q
    · have c : b ≠ x := fun e => by rw [e, ngx] at q; cases q
      have q1 := sg b o q
      rw [upd_ne c, upd_ne (ne_of_none q1 n1), upd_ne c, upd_ne (ne_of_none q1 hl)]; exact q1
  refine ⟨_, rfl, a, rfl, ⟨xs, SqL.except A0.gr.hh nax hS⟩, for_list (K := K) (a := a) (xs := xs) (fun i σ H2 => ∃ (v : Option V) (G : Hp) (lv : List V) (kv : List (Key × V)) (dl ks vs : List D), σ = [some (.ref x), some (.ref a), v] ∧ SigAt K x dx H G1 H2 G l n lv kv dl ks vs ∧ FiX K E x H G1 (sigL chk (rows.drop i) dl ks vs) (fun d H' G' => Dp K G' (.ref x) d → Q .non H'))
    ⟨none, G1, [], [], [], [], [], rfl, A0, by rw [List.drop_zero]; exact fi⟩ (fun i σ H2 _ ⟨v, G, lv, kv, dl, ks, vs, _, A, _⟩ => SqL.except A.gr.hh nax hS) ?_ ?_⟩
  · rintro i y σ H2 hi ⟨v, G, lv, kv, dl, ks, vs, rfl, A, fi⟩
    obtain ⟨row, hrow, hy1⟩ := dp.get hi
    have hil : i < rows.length := (List.getElem?_eq_some_iff.mp hrow).1
    have ed : rows.drop i = row :: rows.drop (i + 1) := by
      rw [List.drop_eq_getElem_cons hil]
      rw [List.getElem?_eq_getElem hil] at hrow
      rw [Option.some.inj hrow]
    rw [ed] at fi
    have x1 : ∃ o, H x = some o := ⟨_, hx⟩
    have hy : Dp K G y row := hy1.up A.gr.gg
    unfold sigL at fi
    -- check_symbol(row, list(self.numbers))
    refine ⟨y, rfl, _, rfl, x, _, dx, _, _, rfl, A.ob, cl, nn, lk_numbers _ _, n, kv, rfl, .inl A.hn, fun p np => ?_⟩
    have gp := Grow.laid (o := .lst (kv.map fun kv => kV kv.1)) A.gr.gh np
    have np' : G p = none := A.gr.gh.free np
    refine ⟨upd G p (.lst (kv.map fun kv => kV kv.1)), [row, .lst ks], gp.gh, .cons (hy.up (same_upd np')) (.cons (.lst upd_same (A.dk.up (same_upd np'))) .nil), rfl, ?_⟩
    cases qc : chk [row, .lst ks] with
    | bot => rw [qc] at fi; exact False.elim fi
    | xc c ns fs =>
      rw [qc] at fi
      exact fun od H' G' g xd => fi od H' G' (A.grow x1 (gp.trans g)).gr xd
    | ok d =>
      rw [qc, Rs.bind_ok] at fi
      intro H3 G3 g3 _ _
      have A3 := A.grow x1 (gp.trans g3)
      have hy3 : Dp K G3 y row := hy.up (gp.trans g3).gg
      -- self.numbers[row[0]] = len(self.listed)
      refine ⟨_, rfl, x, _, dx, _, _, rfl, A3.ob, cl, nl, lk_listed _ _, _, lv.length, rfl, .inl ⟨lv, SqL.of A3.hl, rfl⟩, _, rfl, x, _, dx, _, _, rfl, A3.ob, cl, nn, lk_numbers _ _, [.no, .no, .dt row], G3, A3.gr.gh, rowRep hy3, ?_⟩
      show Fi K E H3 G3 (gIx row (.int 0)) _
      cases q0 : gIx row (.int 0) with
      | bot => rw [q0] at fi; exact False.elim fi
      | xc c ns fs => rw [q0] at fi; exact fun od H' G' g xd => fi od H' G' (A3.grow x1 g).gr xd
      | ok nme =>
        rw [q0, Rs.bind_ok] at fi
        intro H4 G4 g4 w hw
        have A4 := A3.grow x1 g4
        cases qk : nme.key with
        | none => rw [qk] at fi; exact False.elim fi
        | some k =>
          rw [qk] at fi
          dsimp only at fi
          cases ql : lookD ks vs k with
          | some _ => rw [ql] at fi; exact False.elim fi
          | none =>
            rw [ql] at fi
            dsimp only at fi
            have ew := hw.keyV qk
            subst ew
            have vnone : valV kv k = none := (look_val A4.dk A4.dv).2 ql
            -- what the rest of the row is
            cases q1 : gIx row (.int 1) with
            | bot => rw [q1] at fi; exact False.elim fi
            | xc c ns fs => exact False.elim (by
                have z : ∀ (y : D), gIx row (.int 1) ≠ .xc c ns fs := by
                  intro _; unfold gIx atD; split <;> (try split) <;> (try split) <;> simp
                exact z .non q1)
            | ok a1 =>
              rw [q1, Rs.bind_ok] at fi
              cases q2 : gIx row (.int 2) with
              | bot => rw [q2] at fi; exact False.elim fi
              | xc c ns fs => exact False.elim (by
                  have z : ∀ (y : D), gIx row (.int 2) ≠ .xc c ns fs := by
                    intro _; unfold gIx atD; split <;> (try split) <;> (try split) <;> simp
                  exact z .non q2)
              | ok a2 =>
                rw [q2, Rs.bind_ok] at fi
                cases q3 : gIx row (.int 3) with
                | bot => rw [q3] at fi; exact False.elim fi
                | xc c ns fs => exact False.elim (by
                    have z : ∀ (y : D), gIx row (.int 3) ≠ .xc c ns fs := by
                      intro _; unfold gIx atD; split <;> (try split) <;> (try split) <;> simp
                    exact z .non q3)
                | ok a3 =>
                  rw [q3, Rs.bind_ok] at fi
                  cases q4 : cTuple [a3] with
                  | bot => rw [q4] at fi; exact False.elim fi
                  | xc c ns fs => exact False.elim (by
                      have z : ∀ (y : D), cTuple [a3] ≠ .xc c ns fs := by
                        intro _; unfold cTuple; split <;> simp
                      exact z .non q4)
                  | ok t =>
                    rw [q4, Rs.bind_ok] at fi
                    by_cases hc : dl.length < 1000 ∧ ks.length < 1000
                    · rw [if_pos hc] at fi
                      have lk : kv.length = ks.length := by have := A4.dk.length; rwa [List.length_map] at this
                      have ll : lv.length = dl.length := A4.dl.length
                      refine ⟨n, _, rfl, .inl ⟨kv, k, A4.hn, rfl, by rw [sizeLine_eq]; omega, rfl⟩, ?_⟩
                      rw [putK_new _ vnone]
                      have A5 := A4.putN (k := k) (v := .int lv.length) (dk := nme) (dv := .int lv.length) hw (.int _)
                      have hy5 : Dp K G4 y row := hy3.up g4.gg
                      -- self.listed.append(..)
                      refine ⟨_, rfl, x, _, dx, _, _, rfl, A5.ob, cl, nl, lk_listed _ _, .inl ⟨rfl, _, SqL.of A5.hl⟩, [.no, .no, .dt row], G4, A5.gr.gh, rowRep hy5, ?_⟩
                      have ev : dTup (dCons (dRow 0) (dCons (dRow 1) (dCons (dRow 2) (dCons (dCall cTuple (dCons (dRow 3) dNil)) dNil)))) [.no, .no, .dt row] = .ok (.tup [nme, a1, a2, t]) := by
                        have r0 : dRow 0 [.no, .no, .dt row] = .ok nme := q0
                        have r1 : dRow 1 [.no, .no, .dt row] = .ok a1 := q1
                        have r2 : dRow 2 [.no, .no, .dt row] = .ok a2 := q2
                        have r3 : dRow 3 [.no, .no, .dt row] = .ok a3 := q3
                        simp [dTup, dCons, dCall, dNil, r0, r1, r2, r3, q4]
                      rw [ev]
                      intro H6 G6 g6 z hz
                      have A6 := A5.grow x1 g6
                      refine ⟨l, lv, z, rfl, rfl, A6.hl, by rw [sizeLine_eq]; omega, ?_⟩
                      have A7 := A6.putL hz
                      refine ⟨_, G6, _, _, _, _, _, rfl, A7, ?_⟩
                      rw [ll]; exact fi
                    · rw [if_neg hc] at fi; exact False.elim fi
  · rintro σ H2 ⟨v, G, lv, kv, dl, ks, vs, rfl, A, fi⟩
    obtain ⟨G', gx, hd⟩ := A.done
    have e : rows.drop xs.length = [] := by rw [dp.length, List.drop_length]
    rw [e] at fi
    exact fi H2 G' gx hd
end KD

/-! KD7: Signature(..), owned lists by list(..), clear. -/
namespace KD
open PySem L2
section
variable {X : Cx} {E : XK} {e : Expr} {es : List Expr} {fs : Ev → Rs (List D)} {fa : Ev → Rs D} {pos p : Pos} {st : Stmt}
def mkS (chk : List D → Rs D) : D → Rs D
  | .lst rows => sigD chk rows
  | _ => .bot
def dMakeS (chk : List D → Rs D) (f : Ev → Rs D) : Ev → Rs D := fun ρ => (f ρ).bind (mkS chk)
theorem FiX.out {K : PySem.W.Frag} {E : XK} {x dx C : Addr} {H1 G1 : Hp} {r : Rs D} {Q : VK} (nx : H1 x = none) (nd : H1 dx = none) (ne : dx ≠ x) (fi : Fi K E H1 G1 r (fun d H' G' => ∀ v, Dp K G' v d → Q v H')) :
    FiX K E x (upd (upd H1 dx (.own x)) x (.ins C dx [])) G1 r (fun d H' G' => Dp K G' (.ref x) d → V.non = .non ∧ Q (.ref x) H') := by
  cases r with
  | ok d => exact fun H' G' gx hd => ⟨rfl, fi H' G' (gx.out nx nd ne) _ hd⟩
  | xc c n f => exact fun od H' G' gx hd => fi od H' G' (gx.out nx nd ne) hd
  | bot => exact fi
theorem de_makeS {CX : CXT} {k : Nat} {f : Addr} {fd : FuncData} {ps : List Str} {chk : List D → Rs D} (M : Mk X.K (He.ga X.K "Signature") f) (F : FnOk X.prog X.w X.K X.mg X.base CX k f fd ps (spS X.K chk)) (hr : Room (k + 1) X.A) (hm : X.mg "Signature" = some (.ref (He.ga X.K "Signature"))) (hb : Binds X.K fd ps []) (hx : Passes CX X E)
    (ha : DE X E e fa) (hg : Gl X "Signature" := by rfl) (he : starEach [e] X.env = [(false, eval e X.env)] := by rfl) (hpl : (backTo pos (starEach [] X.env)).any (·.1) = false := by rfl) :
    DE X E (.Call (.Name "Signature" p) [e] [] pos) (dMakeS chk fa) := by
  refine peI (pe_make M F hr hg hm hb .nil hx (pa_cons ha pa_nil (by rw [he]; rfl)) (by decide) (by rw [he]; rfl) hpl) fun σ H Q ⟨ρ, G, s, r, fi⟩ => ?_
  refine ⟨ρ, G, s, r, fi.bind.imp fun d H1 G1 g1 fi1 v hv x dx nx nd ne => ?_⟩
  cases hv with
  | @lst a xs rows h1 h2 =>
    have hH := g1.gh _ _ h1
    have nax : a ≠ x := ne_of_none hH nx
    refine ⟨x, dx, a, xs, G1, rows, rfl, upd_same, ?_, nax, made_same nx nd g1.gh, made_none nx g1.gh, h2, FiX.out nx nd ne fi1⟩
    exact SqL.of (by rw [upd_ne nax, upd_ne (ne_of_none hH nd)]; exact hH)
  | _ => exact False.elim fi1
def dMakeSO (chk : List D → Rs D) (i : Nat) : Ev → Rs D := fun ρ => match ρ[i]? with
  | some (.ol rows) => sigD chk rows
  | _ => .bot
theorem de_makeSO {CX : CXT} {k i : Nat} {f : Addr} {fd : FuncData} {ps : List Str} {chk : List D → Rs D} (M : Mk X.K (He.ga X.K "Signature") f) (F : FnOk X.prog X.w X.K X.mg X.base CX k f fd ps (spS X.K chk)) (hr : Room (k + 1) X.A) (hm : X.mg "Signature" = some (.ref (He.ga X.K "Signature"))) (hb : Binds X.K fd ps []) (hx : Passes CX X E)
    (ha : PE X e (tVar i)) (hg : Gl X "Signature" := by rfl) (he : starEach [e] X.env = [(false, eval e X.env)] := by rfl) (hpl : (backTo pos (starEach [] X.env)).any (·.1) = false := by rfl) :
    DE X E (.Call (.Name "Signature" p) [e] [] pos) (dMakeSO chk i) := by
  refine peI (pe_make M F hr hg hm hb .nil hx (pa_cons ha pa_nil (by rw [he]; rfl)) (by decide) (by rw [he]; rfl) hpl) fun σ H Q ⟨ρ, G, s, r, fi⟩ => ?_
  unfold dMakeSO at fi
  split at fi
  · rename_i rows q
    obtain ⟨a, vs, e, hH, nG, dp⟩ := r.ol q
    refine ⟨_, e, fun x dx nx nd ne => ?_⟩
    have nax : a ≠ x := ne_of_none hH nx
    refine ⟨x, dx, a, vs, G, rows, rfl, upd_same, ?_, nax, made_same nx nd s, made_none nx s, dp, FiX.out nx nd ne fi⟩
    exact SqL.of (by rw [upd_ne nax, upd_ne (ne_of_none hH nd)]; exact hH)
  · exact False.elim fi
/-! ### x = list(e), owned; x.clear() -/
theorem At.newOlx {K : PySem.W.Frag} {H0 G0 H G : Hp} {σ : L2.St} {ρ : Ev} (a : At K H0 G0 H G σ ρ) {i : Nat} {p : Addr} {vs : List V} {xs : List D} (n : H p = none) (dp : DpAll K G vs xs) : At K H0 G0 (upd H p (.lst vs)) G (σ.set i (some (.ref p))) (ρ.set i (.ol xs)) := by
  have g := Grow.beside (o := .lst vs) a.gr.gh n
  have a' := a.grow g
  refine ⟨a'.gr, a'.rep.set ⟨p, vs, rfl, upd_same, a.gr.gh.free n, dp⟩ fun b _ e j t _ h1 h2 h3 => ?_, fun j s b h1 h2 h3 => ?_⟩
  · cases e
    obtain ⟨⟨u, hu⟩, _⟩ := a.rep.addr h1 h2 h3
    rw [n] at hu; cases hu
  · by_cases hj : i = j
    · subst hj
      have hi : i < σ.length := by have := (List.getElem?_eq_some_iff.mp h3).1; simpa using this
      rw [List.getElem?_set_self hi] at h3; cases h3
      exact a.gr.hh.free n
    · rw [List.getElem?_set_ne hj] at h1 h3; exact a.own j s b h1 h2 h3
def seqOf : D → Option (List D)
  | .lst xs => some xs
  | .tup xs => some xs
  | _ => none
def sLst (i : Nat) (f : Ev → Rs D) : Ev → SR := fun ρ => (f ρ).sr fun d => match seqOf d with
  | some xs => .nx (ρ.set i (.ol xs))
  | none => .bot
abbrev rListOf (K : PySem.W.Frag) : List V → Hp → VK → Prop := fun xs H Q => ∃ p ys, xs = [.ref p] ∧ (SqL K H p ys ∨ SqT K H p ys) ∧ ∀ l, H l = none → Q (.ref l) (upd H l (.lst ys))
theorem ds_lst {i : Nat} (h : PS X st (tAsg (tCB (rListOf X.K) (tCons (tD X.K E fa) tNil)) (gName i))) : DS X E st (sLst i fa) := by
  refine psI h fun D σ H ⟨H0, G0, ρ, G, at_, fi⟩ => ?_
  refine ⟨ρ, G, at_.gr.gh, at_.rep, (fi.sr at_).imp fun d H1 G1 g1 ⟨a1, fi1⟩ v hv => ?_⟩
  cases hv with
  | lst h1 h2 => exact ⟨_, _, rfl, .inl (SqL.of (g1.gh _ _ h1)), fun l nl => fi1 _ _ G1 (Same.refl _) (a1.newOlx nl h2)⟩
  | tup h1 h2 => exact ⟨_, _, rfl, .inr (KD.SqT.mono g1.gh h1), fun l nl => fi1 _ _ G1 (Same.refl _) (a1.newOlx nl h2)⟩
  | _ => exact False.elim fi1
def sClear (i : Nat) : Ev → SR := fun ρ => match ρ[i]? with
  | some (.ol _) => .nx (ρ.set i (.ol []))
  | _ => .bot
theorem ds_clear {i : Nat} (h : PS X st (tDrop (tBM0 X.K "list" rClear (tVar i)))) : DS X E st (sClear i) := by
  refine psI h fun D σ H ⟨H0, G0, ρ, G, at_, fi⟩ => ?_
  unfold sClear at fi
  split at fi
  · rename_i xs q
    obtain ⟨a, vs, e, hH, nG, dp⟩ := at_.rep.ol q
    refine ⟨_, e, .inl ⟨rfl, _, SqL.of hH⟩, a, vs, rfl, rfl, hH, ?_⟩
    exact fi σ _ G (Same.refl _) (at_.put q rfl e ⟨a, [], rfl, upd_same, nG, .nil⟩)
  · exact False.elim fi
end
/-- Signature.__init__ keeps its promise -/
def SigF (P : Program) (w : World) (K : PySem.W.Frag) (mg : Str → Option Value) (base : Heap) (k : Nat) (chk : List D → Rs D) : Prop :=
  ∃ fd ps, FnOk P w K mg base (L2N.CX P w) k (He.ma K (He.ga K "Signature") "__init__") fd ps (spS K chk) ∧ Binds K fd ps []
section
variable {X : Cx} {E : XK} {e : Expr} {fa : Ev → Rs D} {pos p : Pos}
theorem de_makeSF {k : Nat} {chk : List D → Rs D} (F : SigF X.prog X.w X.K X.mg X.base k chk) (M : Mk X.K (He.ga X.K "Signature") (He.ma X.K (He.ga X.K "Signature") "__init__")) (hr : Room (k + 1) X.A) (hm : X.mg "Signature" = some (.ref (He.ga X.K "Signature"))) (hx : Passes (L2N.CX X.prog X.w) X E)
    (ha : DE X E e fa) (hg : Gl X "Signature" := by rfl) (he : starEach [e] X.env = [(false, eval e X.env)] := by rfl) (hpl : (backTo pos (starEach [] X.env)).any (·.1) = false := by rfl) :
    DE X E (.Call (.Name "Signature" p) [e] [] pos) (dMakeS chk fa) := by
  obtain ⟨fd, ps, a, b⟩ := F
  exact de_makeS M a hr hm b hx ha hg he hpl
theorem de_makeSFO {k i : Nat} {chk : List D → Rs D} (F : SigF X.prog X.w X.K X.mg X.base k chk) (M : Mk X.K (He.ga X.K "Signature") (He.ma X.K (He.ga X.K "Signature") "__init__")) (hr : Room (k + 1) X.A) (hm : X.mg "Signature" = some (.ref (He.ga X.K "Signature"))) (hx : Passes (L2N.CX X.prog X.w) X E)
    (ha : PE X e (tVar i)) (hg : Gl X "Signature" := by rfl) (he : starEach [e] X.env = [(false, eval e X.env)] := by rfl) (hpl : (backTo pos (starEach [] X.env)).any (·.1) = false := by rfl) :
    DE X E (.Call (.Name "Signature" p) [e] [] pos) (dMakeSO chk i) := by
  obtain ⟨fd, ps, a, b⟩ := F
  exact de_makeSO M a hr hm b hx ha hg he hpl
end
end KD

/-! KD8: the law's end. -/
namespace KD
open PySem L2
/-! ### products by written numbers -/
theorem mul_48271 (i : Int) : okMul i 48271 = true := okMul_r i (by decide)
theorem mul_7919 (i : Int) : okMul i 7919 = true := okMul_r i (by decide)
theorem mul_69621 (i : Int) : okMul i 69621 = true := okMul_r i (by decide)
theorem mul_5 (i : Int) : okMul 5 i = true := okMul_l i (by decide)
theorem pow_18 : gPow (.int 10) (.int 18) = .ok (.int 1000000000000000000) := by
  have h : okPow 10 18 = true := by decide
  simp [gPow, h]
theorem dp_ints' {K : PySem.W.Frag} {G : Hp} : ∀ ns : List Int, DpAll K G (ns.map V.int) (ns.map D.int)
  | [] => .nil
  | n :: ns => .cons (.int n) (dp_ints' ns)
theorem law_end {l : PySem.W.OpenLaw} {n k : Nat} {q : Program} {loose : List Str} {XP : (Str → Option Value) → Heap → Prop} {YP : World → Heap → Prop} {d : DefRec} {x : Str}
    (hn : l.most = some n) (hn2 : n ≤ sizeLine) (hdf : d.params.defaults = []) (hr : Room k callerA)
    (F : ∀ (w : World) (mg : Str → Option Value) (fa : Addr) (h : Heap), YP w h → h.Ns mainGlobals mg → mg d.name = some (.ref fa) →
      ∃ (K : PySem.W.Frag) (fd : FuncData) (g : List D → Rs D), K.In h ∧ (∀ (s : Shared) (u : Value), BindsTo s fd ⟨[u], []⟩ [(x, u)]) ∧
        (∀ ns : List Int, ns.length ≤ n → g [.fls (ns.map D.int)] = .ok (.bl true)) ∧
        ∀ base : Heap, K.In base → base.Ns mainGlobals mg → FnOk l.prog w K mg base (L2N.CX l.prog w) k fa fd [x] (spD K 1 g)) :
    PySem.W.WalkO q loose XP YP l.row.toRowW d [] (fun f vs => PySem.call f vs) := by
  refine Att.attach_call hn hdf fun w s₀ s₁ mg mb fa o pm cd doc a vs ns G Y ho hd hcd hmg hobj hints hlen hg => ?_
  obtain ⟨K, fd, g, KX, hb, hg1, hF⟩ := F w mg fa _ Y G.T.g hmg
  refine law_call KX G.T.g G.T.b G.T.builtins G.T.nolimit hg hobj hints (Nat.le_trans hlen hn2) hr hF hb (fun H hO hS => ?_) fun H e s' ⟨_, _, _, _, _, _, _, _, _, _, _, _, z⟩ => z
  refine ⟨H, [.fls (ns.map D.int)], Same.refl _, .cons (.fls hS (dp_ints' ns)) .nil, rfl, ?_⟩
  rw [hg1 ns hlen]
  intro H' G' _ v hv
  cases hv
  rfl
end KD

/-! KD9: walking lists, tuples and texts by one rule. -/
namespace L2
open PySem PySem.Spec PyProof.Rows
def iSeq (K : PySem.W.Frag) (tl : TE) : TI := fun σ H R => tl σ H fun x H1 =>
  (∃ a, x = .ref a ∧ (∃ xs, SqL K H1 a xs) ∧ R (Itl K a) H1) ∨ (∃ a, x = .ref a ∧ (∃ xs, SqT K H1 a xs) ∧ R (Itt K a) H1) ∨ ∃ z, x = .str z ∧ R (Its z) H1
theorem pi_seq {X : Cx} {tg l : Expr} {tl : TE} (hl : PE X l tl) : PI X tg l (iSeq X.K tl) := by
  refine ⟨fun pins s σ H R I h => ?_⟩
  refine thn (hl.run pins s σ H _ I h) fun v s1 ⟨x, H1, I1, r1, q1⟩ => ?_
  rcases q1 with ⟨a, e, ⟨xs, hq⟩, q⟩ | ⟨a, e, ⟨xs, hq⟩, q⟩ | ⟨z, e, q⟩
  · subst e
    cases r1
    obtain ⟨its, rv, p, hz⟩ := I1.list hq
    refine wpAny_pyIter_list p.isList ?_
    refine ⟨s1.heap.objs.size, [s1.heap.objs.size], _, _, H1, rfl, I1.kept (t' := s1.toks) fun b o e => Heap.get?_push_of_some _ e, turn_list a _, ⟨_, Heap.get?_push_size _ rfl, rfl, rfl⟩, fun b hb => ?_, q⟩
    have e : b = s1.heap.objs.size := by simpa using hb
    subst e
    exact I1.fpOk (Nat.le_refl _) (I1.hok.fresh (Nat.le_refl _))
  · subst e
    cases r1
    obtain ⟨its, rv, p, hz⟩ := I1.tuple hq
    refine wpAny_pyIter_tuple (show s1.heap.IsTuple a its.toArray from p) ?_
    refine ⟨s1.heap.objs.size, [s1.heap.objs.size], _, _, H1, rfl, I1.kept (t' := s1.toks) fun b o e => Heap.get?_push_of_some _ e, turn_tuple a _, ⟨_, Heap.get?_push_size _ rfl, rfl, rfl⟩, fun b hb => ?_, q⟩
    have e : b = s1.heap.objs.size := by simpa using hb
    subst e
    exact I1.fpOk (Nat.le_refl _) (I1.hok.fresh (Nat.le_refl _))
  · subst e
    obtain ⟨t, rfl⟩ := r1
    cases ha : z.cps.all (· < 128)
    · exact wpAny_pyIter_wide ha (pi_one (tk := s1.toks) I1 _ (turn_str _ z t "str_iterator" (.inr rfl)) ⟨_, Heap.get?_push_size _ rfl, rfl, rfl⟩ q)
    · exact wpAny_pyIter_ascii ha (pi_one (tk := s1.toks) I1 _ (turn_str _ z t "str_ascii_iterator" (.inl rfl)) ⟨_, Heap.get?_push_size _ rfl, rfl, rfl⟩ q)
end L2
namespace KD
open PySem L2
def asSeq : D → Rs (List D)
  | .lst xs => .ok xs
  | .fls xs => .ok xs
  | .tup xs => .ok xs
  | .str z => .ok (signs z)
  | _ => .bot
def dItA (f : Ev → Rs D) : Ev → Rs (List D) := fun ρ => (f ρ).bind asSeq
theorem di_seq {X : Cx} {E : XK} {tg e : Expr} {fa : Ev → Rs D} (h : DE X E e fa) : DI X E tg e (dItA fa) := by
  refine piI (pi_seq h) fun σ H R ⟨ρ, G, s, r, fi⟩ => ?_
  refine ⟨ρ, G, s, r, fi.bind.imp fun d H1 G1 g1 fi1 v hv => ?_⟩
  cases hv with
  | lst h1 h2 => exact .inl ⟨_, rfl, ⟨_, SqL.of (g1.gh _ _ h1)⟩, fi1.now g1.gh _ (itD_list (SqL.of h1) h2)⟩
  | fls h1 h2 => exact .inl ⟨_, rfl, ⟨_, g1.gh.seq h1⟩, fi1.now g1.gh _ (itD_list h1 h2)⟩
  | tup h1 h2 => exact .inr (.inl ⟨_, rfl, ⟨_, KD.SqT.mono g1.gh h1⟩, fi1.now g1.gh _ (itD_tup h1 h2)⟩)
  | str z hz => exact .inr (.inr ⟨z, rfl, fi1.now g1.gh _ (itD_str hz)⟩)
  | _ => exact False.elim fi1
/-! ### comprehensions and loops, as functions of lists -/
theorem compL_map {t : D → Ev → Option Ev} {c : Ev → Rs Bool} {f : Ev → Rs D} {ρ : Ev} (h : D → D) : ∀ ds : List D, (∀ d ∈ ds, ∃ ρ', t d ρ = some ρ' ∧ c ρ' = .ok true ∧ f ρ' = .ok (h d)) → compL t c f ρ ds = .ok (ds.map h)
  | [], _ => rfl
  | d :: ds, hs => by
    obtain ⟨ρ', e1, e2, e3⟩ := hs d List.mem_cons_self
    have ih := compL_map (t := t) (c := c) (f := f) (ρ := ρ) h ds fun d hd => hs d (List.mem_cons_of_mem _ hd)
    unfold compL
    rw [e1]
    simp [e2, e3, ih]
theorem compL_filter {t : D → Ev → Option Ev} {c : Ev → Rs Bool} {f : Ev → Rs D} {ρ : Ev} (p : D → Bool) (h : D → D) : ∀ ds : List D, (∀ d ∈ ds, ∃ ρ', t d ρ = some ρ' ∧ c ρ' = .ok (p d) ∧ (p d = true → f ρ' = .ok (h d))) → compL t c f ρ ds = .ok ((ds.filter p).map h)
  | [], _ => rfl
  | d :: ds, hs => by
    obtain ⟨ρ', e1, e2, e3⟩ := hs d List.mem_cons_self
    have ih := compL_filter (t := t) (c := c) (f := f) (ρ := ρ) p h ds fun d hd => hs d (List.mem_cons_of_mem _ hd)
    unfold compL
    rw [e1]
    cases q : p d with
    | true => simp [e2, e3 q, ih, q]
    | false => simp [e2, ih, q]
theorem forL_ind {t : D → Ev → Option Ev} {wp : List Nat} {body : Ev → SR} (P : Nat → Ev → Prop) : ∀ (ds : List D) (ρ : Ev) (i : Nat), P i ρ →
    (∀ j d ρ, ds[j]? = some d → P (i + j) ρ → ∃ ρ' ρ2, t d ρ = some ρ' ∧ (body ρ' = .nx ρ2 ∨ body ρ' = .ct ρ2) ∧ P (i + j + 1) (wipeE wp ρ2)) → ∃ ρ', forL t wp body ds ρ = .nx ρ' ∧ P (i + ds.length) ρ'
  | [], ρ, i, h0, _ => ⟨ρ, rfl, h0⟩
  | d :: ds, ρ, i, h0, hs => by
    obtain ⟨ρ', ρ2, e1, e2, h1⟩ := hs 0 d ρ rfl h0
    obtain ⟨ρ3, e3, h3⟩ := forL_ind P ds (wipeE wp ρ2) (i + 1) h1 (fun j d ρ hd hp => by
      obtain ⟨a, b, q1, q2, q3⟩ := hs (j + 1) d ρ (by simpa using hd) (by rw [show i + (j + 1) = i + 1 + j by omega]; exact hp)
      exact ⟨a, b, q1, q2, by rw [show i + 1 + j + 1 = i + (j + 1) + 1 by omega]; exact q3⟩)
    refine ⟨ρ3, ?_, by rw [List.length_cons, show i + (ds.length + 1) = i + 1 + ds.length by omega]; exact h3⟩
    unfold forL
    rw [e1]
    rcases e2 with e2 | e2 <;> (dsimp only; rw [e2]; exact e3)
/-- a loop that carries a state s, by its function -/
theorem forL_fold {S : Type} {t : D → Ev → Option Ev} {wp : List Nat} {body : Ev → SR} (enc : S → Ev) (step : S → D → S) : ∀ (ds : List D) (s : S),
    (∀ s d, d ∈ ds → ∃ ρ' ρ2, t d (enc s) = some ρ' ∧ (body ρ' = .nx ρ2 ∨ body ρ' = .ct ρ2) ∧ wipeE wp ρ2 = enc (step s d)) → forL t wp body ds (enc s) = .nx (enc (ds.foldl step s))
  | [], s, _ => rfl
  | d :: ds, s, hs => by
    obtain ⟨ρ', ρ2, e1, e2, e3⟩ := hs s d List.mem_cons_self
    have ih := forL_fold enc step ds (step s d) fun s d hd => hs s d (List.mem_cons_of_mem _ hd)
    unfold forL
    rw [e1, List.foldl_cons]
    rcases e2 with e2 | e2 <;> (dsimp only; rw [e2]; dsimp only; rw [e3]; exact ih)
/-- a loop whose body does nothing but may return -/
theorem forL_same {t : D → Ev → Option Ev} {wp : List Nat} {body : Ev → SR} {ρ : Ev} : ∀ (ds : List D),
    (∀ d ∈ ds, ∃ ρ' ρ2, t d ρ = some ρ' ∧ (body ρ' = .nx ρ2 ∨ body ρ' = .ct ρ2) ∧ wipeE wp ρ2 = ρ) → forL t wp body ds ρ = .nx ρ
  | [], _ => rfl
  | d :: ds, hs => by
    obtain ⟨ρ', ρ2, e1, e2, e3⟩ := hs d List.mem_cons_self
    have ih := forL_same (t := t) (wp := wp) (body := body) (ρ := ρ) ds fun d hd => hs d (List.mem_cons_of_mem _ hd)
    unfold forL
    rw [e1]
    rcases e2 with e2 | e2 <;> (dsimp only; rw [e2]; dsimp only; rw [e3]; exact ih)
end KD

/-! KD10: order of nested tuples, list.index, owned lists read in place, fresh owned lists, recursion. -/
namespace KD
open PySem L2
/-! ### nested order -/
mutual
def ltP : PyData → PyData → Bool
  | .int i, .int j => decide (i < j)
  | .tuple xs, .tuple ys => ltPs xs ys
  | _, _ => false
def ltPs : List PyData → List PyData → Bool
  | [], ys => decide (0 < ys.length)
  | _ :: _, [] => false
  | x :: xs, y :: ys => if PyData.eqv x y = true then ltPs xs ys else ltP x y
end
mutual
def ltOk : PyData → PyData → Bool
  | .int _, .int _ => true
  | .tuple xs, .tuple ys => ltOks xs ys
  | _, _ => false
def ltOks : List PyData → List PyData → Bool
  | [], _ => true
  | _ :: _, [] => true
  | x :: xs, y :: ys => ltOk x y && ltOks xs ys
end
theorem lexAt_shift (e r : Nat → Bool) (z : Bool) : ∀ (k i : Nat), Ob.lexAt e r z (i + 1) k = Ob.lexAt (fun j => e (j + 1)) (fun j => r (j + 1)) z i k
  | 0, i => rfl
  | k + 1, i => by
    rw [Ob.lexAt_succ, Ob.lexAt_succ, lexAt_shift e r z k (i + 1)]
theorem lex_ltPs : ∀ (xs ys : List PyData), Ob.lexAt (SeqAt.pairEq xs ys) (fun j => ltP (xs.getD j .none) (ys.getD j .none)) (decide (xs.length < ys.length)) 0 (min xs.length ys.length) = ltPs xs ys
  | [], ys => by simp [Ob.lexAt, ltPs]
  | x :: xs, [] => by simp [Ob.lexAt, ltPs]
  | x :: xs, y :: ys => by
    have ih := lex_ltPs xs ys
    have e1 : min (x :: xs).length (y :: ys).length = min xs.length ys.length + 1 := by simp [Nat.succ_min_succ]
    rw [e1, Ob.lexAt_succ, lexAt_shift]
    have e2 : decide ((x :: xs).length < (y :: ys).length) = decide (xs.length < ys.length) := by simp
    rw [e2]
    have e3 : SeqAt.pairEq (x :: xs) (y :: ys) 0 = PyData.eqv x y := rfl
    rw [e3, ltPs]
    have e4 : (fun j => SeqAt.pairEq (x :: xs) (y :: ys) (j + 1)) = SeqAt.pairEq xs ys := rfl
    have e5 : (fun j => (fun j => ltP ((x :: xs).getD j .none) ((y :: ys).getD j .none)) (j + 1)) = fun j => ltP (xs.getD j .none) (ys.getD j .none) := rfl
    rw [e4, e5, ih]
    rfl
mutual
theorem rc_ltP : ∀ (d e : PyData) (A : Around) (s : Shared) (a b : Value) (as bs : List Addr), Reads s.heap a d as → Reads s.heap b e bs → d.canLay0 = true → e.canLay0 = true → ltOk d e = true → A.units + d.depth < cLine → Ob.RcOp .Lt A s a b (ltP d e)
  | .int i, e, A, s, a, b, as, bs, ra, rb, ha, hb, ho, hu => by
    cases rb <;> first | (simp [ltOk] at ho; done) | skip
    cases ra
    exact Ob.RcOp.lt_int _ _ _ _
  | .tuple xs, e, A, s, a, b, as, bs, ra, rb, ha, hb, ho, hu => by
    cases rb <;> first | (simp [ltOk] at ho; done) | skip
    rename_i l o vs n ys h1 h2 h3 h4
    cases ra with
    | tuple k1 k2 k3 k4 =>
      rename_i l' o' vs' n'
      have hl := SeqAt.ReadsAll.length xs vs'.toList _ k4
      have hl2 := SeqAt.ReadsAll.length ys vs.toList _ h4
      have hd : A.units + 1 + PyData.depthAll xs < cLine := by
        have : (PyData.tuple xs).depth = PyData.depthAll xs + 1 := by simp [PyData.depth]
        omega
      have g1 : ltP (.tuple xs) (.tuple ys) = ltPs xs ys := by simp [ltP]
      have ho' : ltOks xs ys = true := by simpa [ltOk] using ho
      have ha' : PyData.canLayAll0 xs = true := by simpa [PyData.canLay0] using ha
      have hb' : PyData.canLayAll0 ys = true := by simpa [PyData.canLay0] using hb
      rw [g1, ← lex_ltPs xs ys, ← hl, ← hl2]
      have R := Ob.RcOp.tuples_lt (A := A) (s := s) (items := vs') (items2 := vs) (e := SeqAt.pairEq xs ys) (r := fun j => ltP (xs.getD j .none) (ys.getD j .none)) ⟨_, k1, k2, _, k3⟩ ⟨_, h1, h2, _, h3⟩ (by omega)
        (fun j j1 j2 => by
          have := SeqAt.eqAt_readsAll xs ys A.in1 s vs'.toList vs.toList _ _ k4 h4 ha' hb' (by show A.units + 1 + _ < cLine; omega) j (by simpa using j1) (by simpa using j2)
          simpa using this)
        (fun j j1 j2 _ => by
          have := rc_ltPs xs ys A.in1 s vs'.toList vs.toList _ _ k4 h4 ha' hb' ho' hd j (by simpa using j1) (by simpa using j2)
          simpa using this)
      simpa using R
  | .none, e, A, s, a, b, as, bs, ra, rb, ha, hb, ho, hu => by simp [ltOk] at ho
  | .bool _, e, A, s, a, b, as, bs, ra, rb, ha, hb, ho, hu => by simp [ltOk] at ho
  | .str _, e, A, s, a, b, as, bs, ra, rb, ha, hb, ho, hu => by simp [ltOk] at ho
  | .list _, e, A, s, a, b, as, bs, ra, rb, ha, hb, ho, hu => by simp [ltOk] at ho
  | .dict _, e, A, s, a, b, as, bs, ra, rb, ha, hb, ho, hu => by simp [ltOk] at ho
theorem rc_ltPs : ∀ (xs ys : List PyData) (A : Around) (s : Shared) (vs ws : List Value) (as bs : List Addr), ReadsAll s.heap vs xs as → ReadsAll s.heap ws ys bs → PyData.canLayAll0 xs = true → PyData.canLayAll0 ys = true → ltOks xs ys = true → A.units + PyData.depthAll xs < cLine →
    ∀ j (h1 : j < vs.length) (h2 : j < ws.length), Ob.RcOp .Lt A s vs[j] ws[j] (ltP (xs.getD j .none) (ys.getD j .none))
  | [], _, _, _, _, _, _, _, ra, _, _, _, _, _, j, h1, _ => by cases ra; exact absurd h1 (Nat.not_lt_zero _)
  | _ :: _, [], _, _, _, _, _, _, _, rb, _, _, _, _, j, _, h2 => by cases rb; exact absurd h2 (Nat.not_lt_zero _)
  | x :: xs, y :: ys, A, s, _, _, _, _, ra, rb, ha, hb, ho, hu, j, h1, h2 => by
    have ha' : x.canLay0 = true ∧ PyData.canLayAll0 xs = true := by simpa [PyData.canLayAll0] using ha
    have hb' : y.canLay0 = true ∧ PyData.canLayAll0 ys = true := by simpa [PyData.canLayAll0] using hb
    have ho' : ltOk x y = true ∧ ltOks xs ys = true := by simpa [ltOks] using ho
    have hd : PyData.depthAll (x :: xs) = max x.depth (PyData.depthAll xs) := by simp [PyData.depthAll]
    have m1 := Nat.le_max_left x.depth (PyData.depthAll xs)
    have m2 := Nat.le_max_right x.depth (PyData.depthAll xs)
    cases ra with
    | cons r rs =>
      cases rb with
      | cons r' rs' =>
        cases j with
        | zero => exact rc_ltP x y A s _ _ _ _ r r' ha'.1 hb'.1 ho'.1 (by omega)
        | succ j => exact rc_ltPs xs ys A s _ _ _ _ rs rs' ha'.2 hb'.2 ho'.2 (by omega) j (Nat.lt_of_succ_lt_succ h1) (Nat.lt_of_succ_lt_succ h2)
end
/-- <, of ints and of nested tuples -/
def gLtT (x y : D) : Rs D := match x, y with
  | .int i, .int j => .ok (.bl (decide (i < j)))
  | x, y => if x.plain && y.plain && decide (x.dep ≤ 190) && ltOk x.py y.py then .ok (.bl (ltP x.py y.py)) else .bot
theorem dd_ltT {X : Cx} (hu : X.A.units + 200 < cLine) : OpDD X (compareOp .Lt) gLtT := by
  refine ⟨fun x y H Q => ∃ d e, L2.Dp X.K H x d ∧ L2.Dp X.K H y e ∧ d.canLay0 = true ∧ e.canLay0 = true ∧ d.depth ≤ 190 ∧ ltOk d e = true ∧ Q (.bl (ltP d e)) H, ?_, fun E G H x y dx dy Q s hx hy fi => ?_⟩
  · intro pins st σ H x y v u Q I rx ry h
    obtain ⟨d, e, hd, he, sd, se, sm, so, q⟩ := h
    obtain ⟨as, r1⟩ := Dp.reads I d x v hd rx
    obtain ⟨bs, r2⟩ := Dp.reads I e y u he ry
    have z : wpAny (model X.prog X.w) X.A (compareOp .Lt v u) (EP X pins σ Q) X.xe st := rc_ltP d e X.A st v u as bs r1 r2 sd se so (by omega) X.prog X.w X.xe (EP X pins σ Q) ⟨.bl _, H, I, rfl, q⟩
    exact z
  · have fi2 : Fi X.K E H G (if dx.plain && dy.plain && decide (dx.dep ≤ 190) && ltOk dx.py dy.py then .ok (.bl (ltP dx.py dy.py)) else .bot) (fun d H' G' => ∀ v, Dp X.K G' v d → Q v H') := by
      unfold gLtT at fi
      split at fi
      · rename_i i j
        have : (D.plain (.int i) && D.plain (.int j) && decide (D.dep (.int i) ≤ 190) && ltOk (D.py (.int i)) (D.py (.int j))) = true := by simp [D.plain, D.dep, D.py, ltOk]
        rw [if_pos this]
        have e : ltP (D.py (.int i)) (D.py (.int j)) = decide (i < j) := by simp [D.py, ltP]
        rw [e]; exact fi
      · exact fi
    by_cases c : (dx.plain && dy.plain && decide (dx.dep ≤ 190) && ltOk dx.py dy.py) = true
    · rw [if_pos c] at fi2
      have c' : ((dx.plain = true ∧ dy.plain = true) ∧ dx.dep ≤ 190) ∧ ltOk dx.py dy.py = true := by simpa using c
      obtain ⟨a1, a2, a3⟩ := Dp.pyD dx x c'.1.1.1 hx
      obtain ⟨b1, b2, b3⟩ := Dp.pyD dy y c'.1.1.2 hy
      exact ⟨_, _, hDp_up s _ _ a1, hDp_up s _ _ b1, a2, b2, by omega, c'.2, fi0 s fi2 (.bl _)⟩
    · rw [if_neg c] at fi2; exact False.elim fi2
end KD

/-! KD11: owned lists read in place, fresh owned lists, list.index, methods without arguments, recursion. -/
namespace KD
open PySem L2
section
variable {K : PySem.W.Frag} {G H : Hp} {σ : L2.St} {ρ : Ev}
theorem Rep.frz' (s : Same G H) (r : Rep K G H σ ρ) (i : Nat) : ∃ G', Same G G' ∧ Same G' H ∧ Rep K G' H σ (KD.frz i ρ) := by
  have a : At K (fun _ => none) (fun _ => none) H G σ ρ := ⟨⟨(fun _ _ h => by cases h), (fun _ _ h => by cases h), s, (fun _ _ _ => Or.inr rfl)⟩, r, fun _ _ _ _ _ _ => rfl⟩
  obtain ⟨G', sg, a'⟩ := a.frz i
  exact ⟨G', sg, a'.gr.gh, a'.rep⟩
end
def D.flat : D → Bool
  | .non => true
  | .bl _ => true
  | .int _ => true
  | .str _ => true
  | _ => false
theorem Dp.flatUp {K : PySem.W.Frag} {G G' : Hp} {v : V} {d : D} (f : d.flat = true) (h : Dp K G v d) : Dp K G' v d := by
  cases h with
  | non => exact .non
  | bl b => exact .bl b
  | int i => exact .int i
  | str x hx => exact .str x hx
  | _ => cases f
def flatR (r : Rs D) : Rs D := r.nox.bind fun d => if d.flat = true then .ok d else .bot
def dTmp (i : Nat) (f : Ev → Rs D) : Ev → Rs D := fun ρ => flatR (f (frz i ρ))
def dtTmp (i : Nat) (f : Ev → Rs Bool) : Ev → Rs Bool := fun ρ => (f (frz i ρ)).nox
section
variable {X : Cx} {E : XK} {e a b : Expr} {es : List Expr} {fa fb : Ev → Rs D} {fs : Ev → Rs (List D)} {ft : Ev → Rs Bool} {pos p p2 : Pos} {st : Stmt}
theorem Grow.back {G G1 G2 H H2 : Hp} (s : Same G G1) (g : Grow H G1 H2 G2) : Grow H G H2 G := ⟨g.hh, Same.refl _, (s.trans g.gg).trans g.gh, fun _ _ h => .inl h⟩
theorem de_tmp (i : Nat) (h : DE X E e fa) : DE X E e (dTmp i fa) := by
  refine peI h fun σ H Q ⟨ρ, G, s, r, fi⟩ => ?_
  obtain ⟨G', s1, s2, r2⟩ := r.frz' s i
  refine ⟨_, G', s2, r2, ?_⟩
  unfold dTmp flatR at fi
  cases q : fa (frz i ρ) with
  | ok d =>
    rw [q] at fi
    by_cases c : d.flat = true
    · have fi' : Fi X.K E H G (.ok d) (fun d H' G' => ∀ v, Dp X.K G' v d → Q v H') := by
        have e : ((Rs.ok d).nox.bind fun d => if d.flat = true then Rs.ok d else .bot) = .ok d := by rw [Rs.nox_ok, Rs.bind_ok, if_pos c]
        rw [e] at fi; exact fi
      exact fun H' G2 g v hv => fi' H' G (Grow.back s1 g) v (hv.flatUp c)
    · have e : ((Rs.ok d).nox.bind fun d => if d.flat = true then Rs.ok d else .bot) = .bot := by rw [Rs.nox_ok, Rs.bind_ok, if_neg c]
      rw [e] at fi; exact False.elim fi
  | xc c n f => rw [q] at fi; exact False.elim fi
  | bot => rw [q] at fi; exact False.elim fi
theorem dt_tmp (i : Nat) (h : DT X E e ft) : DT X E e (dtTmp i ft) := by
  refine ptI h fun σ H Q ⟨ρ, G, s, r, fi⟩ => ?_
  obtain ⟨G', s1, s2, r2⟩ := r.frz' s i
  refine ⟨_, G', s2, r2, ?_⟩
  unfold dtTmp at fi
  cases q : ft (frz i ρ) with
  | ok d =>
    rw [q] at fi
    exact fun H' G2 g => fi H' G (Grow.back s1 g)
  | xc c n f => rw [q] at fi; exact False.elim fi
  | bot => rw [q] at fi; exact False.elim fi
/-- x[e], x owned or data -/
def dIxO (i : Nat) (fb : Ev → Rs D) : Ev → Rs D := fun ρ => match ρ[i]? with
  | some (.ol xs) => (fb ρ).bind (gIx (.lst xs))
  | some (.dt d) => (fb ρ).bind (gIx d)
  | _ => .bot
theorem de_ixO {i : Nat} (hu : X.A.units + 1 < cLine) (ha : PE X a (tVar i)) (hb : DE X E b fb) (hs : PlainIx b) : DE X E (.Subscript a b pos) (dIxO i fb) := by
  obtain ⟨r, ho, hg⟩ := ixd (X := X) hu
  refine peI (pe_ix (ix_seq.or ho) ha hb hs) fun σ H Q ⟨ρ, G, s, rp, fi⟩ => ?_
  unfold dIxO at fi
  split at fi
  · rename_i xs q
    obtain ⟨l, vs, e1, e2, e3, e4⟩ := rp.ol q
    refine ⟨_, e1, ρ, G, s, rp, fi.bind.imp fun y H2 G2 g2 fi2 w hw => ?_⟩
    cases hw <;> try exact False.elim fi2
    rename_i j
    unfold gIx atD at fi2
    dsimp only at fi2
    cases z : atI xs j with
    | none => rw [z] at fi2; exact False.elim fi2
    | some d =>
      rw [z] at fi2
      obtain ⟨v, z1, z2⟩ := atI_dp e4 z
      exact .inl (.inl ⟨_, _, _, v, rfl, rfl, SqL.of (g2.hh _ _ e2), z1, fi0 g2.gh fi2 (z2.up g2.gg)⟩)
  · rename_i d q
    obtain ⟨v, h1, h2⟩ := rp.dt q
    refine ⟨v, h1, ρ, G, s, rp, fi.bind.imp fun y H2 G2 g2 fi2 w hw => ?_⟩
    exact .inr (hg E G2 H2 v w d y Q g2.gh (h2.up g2.gg) hw fi2)
  · exact False.elim fi
/-- len(x), x owned or data -/
def dLenX (i : Nat) : Ev → Rs D := fun ρ => match ρ[i]? with
  | some (.ol xs) => .ok (.int xs.length)
  | some (.dt d) => cLen [d]
  | _ => .bot
theorem de_lenX {i : Nat} {x : Str} {p1 p2 : Pos} (hg : Gl X "len") (hm : X.mg "len" = none) (hv : PE X (.Name x p2) (tVar i)) (hs : starEach [.Name x p2] X.env = [(false, eval (.Name x p2) X.env)] := by rfl)
    (hpl : (backTo pos (starEach [] X.env)).any (·.1) = false := by rfl) : DE X E (.Call (.Name "len" p1) [.Name x p2] [] pos) (dLenX i) := by
  obtain ⟨r2, hr2, hq⟩ := cd_len (X := X)
  refine peI (pe_callB (id := "len") (call_len.or hr2) hg hm PySem.boot_len (pa_cons hv pa_nil (by rw [hs]; rfl)) (by decide) (by decide) (by rw [hs]; rfl) hpl) fun σ H Q ⟨ρ, G, s, r, fi⟩ => ?_
  unfold dLenX at fi
  split at fi
  · rename_i xs q
    obtain ⟨a, vs, e, hH, nG, dp⟩ := r.ol q
    exact ⟨_, e, .inl ⟨_, vs.length, rfl, .inl ⟨_, SqL.of hH, rfl⟩, by rw [dp.length]; exact fi0 s fi (.int _)⟩⟩
  · rename_i d q
    obtain ⟨v, h1, h2⟩ := r.dt q
    exact ⟨v, h1, .inr (hq E G H [v] [d] Q s (.cons h2 .nil) fi)⟩
  · exact False.elim fi
/-! ### fresh lists -/
def tFr (K : PySem.W.Frag) (E : XK) (f : Ev → Rs (List D)) : TE := fun σ H Q => tG K E f (fun xs H' G' => ∀ vs, DpAll K G' vs xs → ∀ l, H' l = none → Q (.ref l) (upd H' l (.lst vs))) σ H
def sOwn (i : Nat) (f : Ev → Rs (List D)) : Ev → SR := fun ρ => (f ρ).sr fun xs => .nx (ρ.set i (.ol xs))
theorem ds_own {i : Nat} {f : Ev → Rs (List D)} (h : PS X st (tAsg (tFr X.K E f) (gName i))) : DS X E st (sOwn i f) := by
  refine psI h fun D σ H ⟨H0, G0, ρ, G, at_, fi⟩ => ?_
  exact ⟨ρ, G, at_.gr.gh, at_.rep, (fi.sr at_).imp fun d H1 G1 g1 ⟨a1, fi1⟩ vs hv l nl => fi1 _ _ G1 (Same.refl _) (a1.newOlx nl hv)⟩
def dFrL (fs : Ev → Rs (List D)) : Ev → Rs (List D) := fun ρ => (fs ρ).bind fun xs => if xs.length ≤ 1000 then .ok xs else .bot
theorem fr_lst (h : DA X E es fs) : PE X (.List es pos) (tFr X.K E (dFrL fs)) := by
  refine peI (pe_lst h) fun σ H Q ⟨ρ, G, s, r, fi⟩ => ?_
  refine ⟨ρ, G, s, r, fi.bind.imp fun ds H1 G1 g1 fi1 vs hvs => ?_⟩
  have l := hvs.length
  by_cases c : ds.length ≤ 1000
  · rw [if_pos c] at fi1
    exact ⟨le_line (by omega), fun p np => fi1 _ _ (Grow.refl g1.gh) vs hvs p np⟩
  · rw [if_neg c] at fi1; exact False.elim fi1
def slL (x : D) (lo hi : Option Int) : Rs (List D) := match x with
  | .lst xs => .ok (cutD xs lo hi)
  | _ => .bot
def dFrS (f : Ev → Rs D) (l h : Ev → Rs (Option Int)) : Ev → Rs (List D) := fun ρ => (f ρ).bind fun x => (l ρ).bind fun lo => (h ρ).bind fun hi => slL x lo hi
theorem fr_slice {lo hi : Option Expr} {l h : Ev → Rs (Option Int)} {p2 : Pos} (he : DE X E e fa) (hl : DO X E lo l) (hh : DO X E hi h) : PE X (.Subscript e (.Slice lo hi none p2) pos) (tFr X.K E (dFrS fa l h)) := by
  refine peI (pe_slice sl_list he hl hh) fun σ H Q ⟨ρ, G, s, r, fi⟩ => ?_
  refine ⟨ρ, G, s, r, fi.bind.imp fun x H1 G1 g1 fi1 v hv => ?_⟩
  refine ⟨ρ, G1, g1.gh, r.grow g1, fi1.bind.imp fun lo H2 G2 g2 fi2 => ?_⟩
  refine ⟨ρ, G2, g2.gh, (r.grow g1).grow g2, fi2.bind.imp fun hi H3 G3 g3 fi3 => ?_⟩
  have gg := g2.trans g3
  cases hv with
  | lst h1 h2 =>
    refine ⟨_, _, rfl, SqL.of (g3.gh _ _ (gg.gg _ _ h1)), fun p np => ?_⟩
    exact fi3 _ _ (Grow.refl g3.gh) _ (cut_dp (h2.up gg.gg) _ _) p np
  | _ => exact False.elim fi3
def addL (x y : D) : Rs (List D) := match x, y with
  | .lst a, .lst b => if a.length + b.length ≤ sizeLine then .ok (a ++ b) else .bot
  | _, _ => .bot
def dFrA (f g : Ev → Rs D) : Ev → Rs (List D) := fun ρ => (f ρ).bind fun x => (g ρ).bind fun y => addL x y
theorem fr_add (ha : DE X E a fa) (hb : DE X E b fb) : PE X (.BinOp a .Add b pos) (tFr X.K E (dFrA fa fb)) := by
  refine peI (pe_op op_cat ha hb) fun σ H Q ⟨ρ, G, s, r, fi⟩ => ?_
  refine ⟨ρ, G, s, r, fi.bind.imp fun x H1 G1 g1 fi1 v hv => ?_⟩
  refine ⟨ρ, G1, g1.gh, r.grow g1, fi1.bind.imp fun y H2 G2 g2 fi2 w hw => ?_⟩
  cases hv <;> cases hw <;> try exact False.elim fi2
  rename_i a xs ds h1 h2 b ys es h3 h4
  unfold addL at fi2
  dsimp only at fi2
  by_cases c : ds.length + es.length ≤ sizeLine
  · rw [if_pos c] at fi2
    have l1 := h2.length; have l2 := h4.length
    exact ⟨_, _, _, _, rfl, rfl, g2.gh _ _ (g2.gg _ _ h1), g2.gh _ _ h3, by omega, fun p np => fi2 _ _ (Grow.refl g2.gh) _ ((h2.up g2.gg).append h4) p np⟩
  · rw [if_neg c] at fi2; exact False.elim fi2
/-! ### l.index(x) -/
def gIndex (l x : D) : Rs D := match l with
  | .lst ys => if D.plains ys && x.plain && decide (D.deps ys ≤ 60) && decide (x.dep ≤ 60) then (match ys.findIdx? (fun z => eqD z x) with | some j => .ok (.int j) | none => .bot) else .bot
  | _ => .bot
def dIndex (f g : Ev → Rs D) : Ev → Rs D := fun ρ => (f ρ).bind fun l => match l with
  | .lst ys => (g ρ).bind (gIndex (.lst ys))
  | _ => .bot
theorem pys_get : ∀ (ys : List D) (j : Nat), (D.pys ys)[j]? = (ys[j]?).map D.py
  | [], j => by simp [D.pys]
  | y :: ys, 0 => by simp [D.pys]
  | y :: ys, j + 1 => by simp [D.pys, pys_get ys j]
theorem de_index {o : Expr} {apos : Pos} (hu : X.A.units + 65 < cLine) (ho : DE X E o fa) (ha : DE X E e fb)
    (hbase : attributeBase o "index" X.env (eval o X.env) = eval o X.env := by rfl)
    (hfew : ((backTo pos (starEach [e] X.env)).all (fun x => !x.1) && (backToKw pos (keywordEach [] X.env)).all (fun x => x.1.isSome)
      && decide ([e].length + ([] : List Keyword).length + (if ([] : List Keyword).isEmpty then 0 else 1) < 30)) = true := by rfl)
    (hline : (apos.endLine == pos.line) = true := by rfl) (hs : starEach [e] X.env = (false, eval e X.env) :: starEach [] X.env := by rfl) (hplain : (backTo pos (starEach [] X.env)).any (·.1) = false := by rfl) :
    DE X E (.Call (.Attribute o "index" apos) [e] [] pos) (dIndex fa fb) := by
  refine peI (pe_bm PySem.F.plainAttrs_list PySem.F.slot_list_index PySem.F.type_list_index (mt_indexD hu) ho (pa_cons ha pa_nil hs) hbase hfew hline hs hplain) fun σ H Q ⟨ρ, G, s, r, fi⟩ => ?_
  refine ⟨ρ, G, s, r, fi.bind.imp fun l H1 G1 g1 fi1 v hv => ?_⟩
  cases hv with
  | @lst a xs ys h1 h2 =>
    refine ⟨.inl ⟨rfl, _, SqL.of (g1.gh _ _ h1)⟩, ρ, G1, g1.gh, r.grow g1, fi1.bind.imp fun x H2 G2 g2 fi2 w hw => ?_⟩
    unfold gIndex at fi2
    dsimp only at fi2
    by_cases c : (D.plains ys && x.plain && decide (D.deps ys ≤ 60) && decide (x.dep ≤ 60)) = true
    · rw [if_pos c] at fi2
      have c' : ((D.plains ys = true ∧ x.plain = true) ∧ D.deps ys ≤ 60) ∧ x.dep ≤ 60 := by simpa using c
      cases q : ys.findIdx? (fun z => eqD z x) with
      | none => rw [q] at fi2; exact False.elim fi2
      | some j =>
        rw [q] at fi2
        obtain ⟨a1, a2, a3⟩ := Dp.pyD x w c'.1.1.2 hw
        obtain ⟨b1, b2, b3⟩ := DpAll.pyD ys _ c'.1.1.1 (h2.up g2.gg)
        obtain ⟨q1, q2, q3⟩ := List.findIdx?_eq_some_iff_getElem.mp q
        refine ⟨a, w, x.py, D.pys ys, j, (ys[j]).py, rfl, rfl, .lst (SqL.of (g2.gh _ _ (g2.gg _ _ h1))) (hDpAll_up g2.gh _ _ b1), hDp_up g2.gh _ _ a1, ?_, ?_, ?_, q2, ?_, fi0 g2.gh fi2 (.int _)⟩
        · have : (PyData.list (D.pys ys)).depth = PyData.depthAll (D.pys ys) + 1 := by simp [PyData.depth]
          have h3 : (PyData.list (D.pys ys)).canLay0 = true := by simpa [PyData.canLay0] using b2
          unfold SeqAt.shaped
          rw [h3, decide_eq_true (by omega)]; rfl
        · unfold SeqAt.shaped
          rw [a2, decide_eq_true (by omega)]; rfl
        · rw [pys_get, List.getElem?_eq_getElem q1]; rfl
        · intro m z' hm hz
          rw [pys_get] at hz
          have hml : m < ys.length := by omega
          rw [List.getElem?_eq_getElem hml] at hz
          have hz' : (ys[m]).py = z' := Option.some.inj hz
          subst hz'
          have := q3 m hm
          simpa [eqD] using this
    · rw [if_neg c] at fi2; exact False.elim fi2
  | _ => exact False.elim fi1
theorem de_meth0F {k n : Nat} {c m : Str} {g : List D → Rs D} {o : Expr} {apos : Pos} {pl : Sem Bool} (F : FnD X.prog X.w X.K X.mg X.base k (mAd c m) n g) (hr : Room k X.A) (cl : Cls X.K (He.ga X.K c)) (hm : Meth X.K (He.ga X.K c) m (He.ma X.K (He.ga X.K c) m)) (hx : Passes (L2N.CX X.prog X.w) X E) (he : DE X E o fa)
    (ht : eval (.Call (.Attribute o m apos) [] [] pos) X.env = (do
      let ov ← eval o X.env
      standAt apos.atName
      let (f, first) ← holding [ov] (getMethod ov m pl)
      callWith pos f first (backTo pos (starEach [] X.env)) (backToKw pos (keywordEach [] X.env))) := by rfl) :
    DE X E (.Call (.Attribute o m apos) [] [] pos) (dMeth c m n g fa dNil) := by
  obtain ⟨fd, ps, a, b, _⟩ := F
  exact de_meth0 (pl := pl) he cl hm a hr b hx ht
end
section
variable {P : Program} {w : World} {K : PySem.W.Frag} {mg : Str → Option Value} {base : Heap}
/-- recursion: nothing is told at 0 -/
def fuel (F : (List D → Rs D) → List D → Rs D) : Nat → List D → Rs D
  | 0 => fun _ => .bot
  | n + 1 => F (fuel F n)
theorem dss_never {X : Cx} {E : XK} {body : List Stmt} : DSs X E body (fun _ => .bot) := ⟨fun pins s σ H D I ⟨H0, G0, ρ, G, a, fi⟩ => False.elim fi⟩
theorem fnD_bot {d : DefP} {N ps : List Str} {fd : FuncData} (F : FunD K d.name d.qual d.params d.body d.scope [] (d.kws K) (d.ad K) fd) (S : FnScope N ps d.scope)
    (hbd : ∀ (dV kV doc pm : Value) (an : Option Addr) (cdv ct : Value) (us : List Value), us.length = ps.length → bindArgs (PySem.W.fnOf d.name d.qual d.params d.body d.scope .none kV doc pm an cdv ct) ⟨us, []⟩ = pure (ps.zip us)) (k : Nat) :
    FnD P w K mg base (k + 1) d.ad ps.length (fun _ => .bot) :=
  (fnD_of (k := k) (b := fun _ => .bot) F S hbd fun cdv A outer s H E hr => dss_never).imp fun ds hl h => (h rfl).elim
theorem fuelOk {ad : PySem.W.Frag → Addr} {j n : Nat} {Fb : (List D → Rs D) → List D → Rs D} (h0 : FnD P w K mg base j ad n (fun _ => .bot)) (hs : ∀ (k : Nat) (g : List D → Rs D), j ≤ k → FnD P w K mg base k ad n g → FnD P w K mg base (k + 1) ad n (Fb g)) :
    ∀ m : Nat, FnD P w K mg base (j + m) ad n (fuel Fb m)
  | 0 => h0
  | m + 1 => hs (j + m) _ (Nat.le_add_right _ _) (fuelOk h0 hs m)
end
end KD
namespace KD
open PySem L2
theorem u65 {k : Nat} {A : Around} (hr : Room k A) : A.units + 65 < cLine := by have := hr.un; omega
end KD

/-! KD12: dicts whose keys are nested tuples, owned. -/
namespace KD
open PySem L2
mutual
theorem nk_reads {h : Heap} : ∀ (d : D) (k : NestedKey) (u : Value) (as : List Addr), d.nk = some k → Reads h u d.py as → NestedIs h k u
  | .non, _, _, _, e, r => by cases e; cases r; exact .none
  | .bl b, _, _, _, e, r => by cases e; cases r; exact .bool rfl
  | .int i, _, _, _, e, r => by cases e; cases r; exact .int _ _
  | .str x, _, _, _, e, r => by cases e; cases r; exact .text _ _
  | .tup xs, _, _, _, e, r => by
    simp only [D.nk, Option.map_eq_some_iff] at e
    obtain ⟨ks, e1, rfl⟩ := e
    cases r with
    | tuple h1 h2 h3 h4 => exact .tup h1 h2 h3 (nks_reads xs ks _ _ e1 h4)
  | .lst _, _, _, _, e, _ => by cases e
  | .fls _, _, _, _, e, _ => by cases e
  | .dic _ _, _, _, _, e, _ => by cases e
  | .ob _ _ _, _, _, _, e, _ => by cases e
theorem nks_reads {h : Heap} : ∀ (ds : List D) (ks : List NestedKey) (us : List Value) (as : List Addr), D.nks ds = some ks → ReadsAll h us (D.pys ds) as → NestedAll h ks us
  | [], _, _, _, e, r => by cases e; cases r; exact .nil
  | d :: ds, _, _, _, e, r => by
    simp only [D.nks, Option.bind_eq_some_iff, Option.map_eq_some_iff] at e
    obtain ⟨k, e1, ks, e2, rfl⟩ := e
    cases r with
    | cons r1 r2 => exact .cons (nk_reads d k _ _ e1 r1) (nks_reads ds ks _ _ e2 r2)
end
mutual
theorem nk_plain : ∀ (d : D) (k : NestedKey), d.nk = some k → d.plain = true ∧ k.depth = d.dep
  | .non, _, e => by cases e; exact ⟨rfl, rfl⟩
  | .bl b, _, e => by cases e; exact ⟨rfl, rfl⟩
  | .int i, _, e => by cases e; exact ⟨rfl, rfl⟩
  | .str x, _, e => by cases e; exact ⟨rfl, rfl⟩
  | .tup xs, _, e => by
    simp only [D.nk, Option.map_eq_some_iff] at e
    obtain ⟨ks, e1, rfl⟩ := e
    obtain ⟨a, b⟩ := nks_plain xs ks e1
    exact ⟨by simpa [D.plain] using a, by simp [NestedKey.depth, D.dep, b]⟩
  | .lst _, _, e => by cases e
  | .fls _, _, e => by cases e
  | .dic _ _, _, e => by cases e
  | .ob _ _ _, _, e => by cases e
theorem nks_plain : ∀ (ds : List D) (ks : List NestedKey), D.nks ds = some ks → D.plains ds = true ∧ NestedKey.depthAll ks = D.deps ds
  | [], _, e => by cases e; exact ⟨rfl, rfl⟩
  | d :: ds, _, e => by
    simp only [D.nks, Option.bind_eq_some_iff, Option.map_eq_some_iff] at e
    obtain ⟨k, e1, ks, e2, rfl⟩ := e
    obtain ⟨a, b⟩ := nk_plain d k e1
    obtain ⟨a', b'⟩ := nks_plain ds ks e2
    exact ⟨by simp [D.plains, a, a'], by simp [NestedKey.depthAll, D.deps, b, b']⟩
end
section
variable {X : Cx} {pins : List (Addr × Obj)} {σ : L2.St} {G H : Hp} {s : Shared} {a b : Addr}
theorem key_is (I : Inv X pins σ H s) (sg : Same G H) {d : D} {k : NestedKey} (hd : Dp X.K G (.ref b) d) (hk : d.nk = some k) (h8 : k.depth ≤ 8) : (nestedKind X.prog X.w).is s.heap k b := by
  obtain ⟨p1, _⟩ := nk_plain d k hk
  obtain ⟨q, _, _⟩ := Dp.pyD d _ p1 hd
  obtain ⟨as, r⟩ := L2.Dp.reads I d.py (.ref b) (.ref b) (hDp_up sg _ _ q) rfl
  exact ⟨nk_reads d k _ _ hk r, h8⟩
abbrev PrN : List (NestedKey × Addr × V) → List (NestedKey × Addr × Value) → Prop := Paired fun p q => p.1 = q.1 ∧ p.2.1 = q.2.1 ∧ RelV p.2.2 q.2.2
theorem PrN.is {knd : NestedKey → Addr → Prop} : ∀ {xs : List (NestedKey × Addr × V)} {us : List (NestedKey × Addr × Value)}, PrN xs us → (∀ x ∈ xs, knd x.1 x.2.1) → ∀ u ∈ us, knd u.1 u.2.1
  | _, _, .nil, _, u, hu => by cases hu
  | _, _, .cons r t, h, u, hu => by
    rcases List.mem_cons.mp hu with e | hu
    · subst e
      have := h _ List.mem_cons_self
      rw [r.1, r.2.1] at this
      exact this
    · exact PrN.is t (fun x hx => h x (List.mem_cons_of_mem _ hx)) u hu
theorem nks_all {K : PySem.W.Frag} : ∀ {xs : List (NestedKey × Addr × V)} {ks : List D}, D.nks ks = some (xs.map (·.1)) → DpAll K G (xs.map fun p => V.ref p.2.1) ks → ∀ x ∈ xs, ∃ d, d.nk = some x.1 ∧ Dp K G (.ref x.2.1) d
  | [], _, _, _, x, hx => by cases hx
  | y :: ys, ks, e, h, x, hx => by
    cases h with
    | @cons _ _ d ds h1 h2 =>
      simp only [D.nks, Option.bind_eq_some_iff, Option.map_eq_some_iff, List.map_cons] at e
      obtain ⟨k, e1, ks', e2, e3⟩ := e
      injection e3 with e4 e5
      rcases List.mem_cons.mp hx with e | hx
      · subst e; exact ⟨d, by rw [← e4]; exact e1, h1⟩
      · exact nks_all (xs := ys) (by rw [e2, e5]) h2 x hx
/-- the dict at a, as the library tells it -/
theorem dn_of (I : Inv X pins σ H s) (sg : Same G H) {xs : List (NestedKey × Addr × V)} {ks : List D} (h : H a = some (dnO X.w a xs)) (hk : D.nks ks = some (xs.map (·.1))) (hd : DpAll X.K G (xs.map fun p => V.ref p.2.1) ks) :
    xs.length ≤ sizeLine ∧ (a == sysModules) = false ∧ (∀ x ∈ xs, x.1.depth ≤ 8) ∧ ∃ us, PrN xs us ∧ s.heap.DictOfH (nestedKind X.prog X.w) a us := by
  have ok := I.hok a _ h
  obtain ⟨⟨l, m, h8, us, o, es, ep, r, q1, q2, q3, q4, q5⟩, _, _⟩ := ok
  refine ⟨l, m, h8, us, r, o, es, ep, q1, q2, q3, q4, ?_, q5⟩
  exact PrN.is (knd := fun k b => (nestedKind X.prog X.w).is s.heap k b) r fun x hx => by
    obtain ⟨d, e, hd'⟩ := nks_all hk hd x hx
    exact key_is I sg hd' e (h8 x hx)
theorem dn_new {P : Program} {w : World} {H' : Hp} {h : Heap} {xs : List (NestedKey × Addr × V)} {us : List (NestedKey × Addr × Value)} (l : xs.length ≤ sizeLine) (m : (a == sysModules) = false) (h8 : ∀ x ∈ xs, x.1.depth ≤ 8) (r : PrN xs us) (dd : h.DictOfH (nestedKind P w) a us) : ObjOk P w H' h a (dnO w a xs) := by
  obtain ⟨o, es, ep, q1, q2, q3, q4, _, q5⟩ := dd
  refine ⟨⟨l, m, h8, us, o, es, ep, r, q1, q2, q3, q4, q5⟩, ⟨o, q1⟩, ?_⟩
  rintro h1 h2 ⟨l, m, h8, us, o, es, ep, r, q1, q2, q3, q4, q5⟩ k
  exact ⟨l, m, h8, us, o, es, ep, r, k _ q1, q2, q3, q4, q5⟩
/-- what stands under a key; the dict behind a store -/
def atN (xs : List (NestedKey × Addr × V)) (k : NestedKey) : Option V := (xs.find? fun x => decide (x.1 = k)).map (·.2.2)
def putN (xs : List (NestedKey × Addr × V)) (k : NestedKey) (b : Addr) (v : V) : List (NestedKey × Addr × V) :=
  if (atN xs k).isSome then xs.map fun x => if x.1 = k then (x.1, x.2.1, v) else x else xs ++ [(k, b, v)]
theorem PrN.at_ : ∀ {xs : List (NestedKey × Addr × V)} {us : List (NestedKey × Addr × Value)}, PrN xs us → ∀ k : NestedKey, RelO (atN xs k) ((atKey us k).map (·.2))
  | _, _, .nil, k => trivial
  | _, _, .cons (a := p) (b := q) (l₁ := ps) (l₂ := qs) r t, k => by
    by_cases e : p.1 = k
    · have e' : q.1 = k := r.1.symm.trans e
      simp only [atN, atKey, List.find?_cons, e, e', decide_true, Option.map_some]
      exact r.2.2
    · have e' : ¬ q.1 = k := fun z => e (r.1.trans z)
      have ih := PrN.at_ t k
      simp only [atN, atKey, List.find?_cons, e, e', decide_false] at ih ⊢
      exact ih
theorem PrN.put {xs : List (NestedKey × Addr × V)} {us : List (NestedKey × Addr × Value)} (r : PrN xs us) (k : NestedKey) (b : Addr) {v : V} {u : Value} (rv : RelV v u) : PrN (putN xs k b v) (storedH us k b u) := by
  have e : (atN xs k).isSome = (atKey us k).isSome := by
    rw [(r.at_ k).isSome_eq, Option.isSome_map]
  unfold putN storedH
  rw [e]
  by_cases q : (atKey us k).isSome = true
  · rw [if_pos q, if_pos q]
    clear e q
    induction r with
    | nil => exact .nil
    | @cons p q ps qs h t ih =>
      refine .cons ?_ ih
      unfold putAt
      dsimp only
      by_cases c : p.1 = k
      · rw [if_pos c, if_pos (h.1.symm.trans c)]; exact ⟨h.1, h.2.1, rv⟩
      · rw [if_neg c, if_neg (fun z => c (h.1.trans z))]; exact h
  · rw [if_neg q, if_neg q]
    exact Paired.snoc r ⟨rfl, rfl, rv⟩
theorem putN_len (xs : List (NestedKey × Addr × V)) (k : NestedKey) (b : Addr) (v : V) : (putN xs k b v).length ≤ xs.length + 1 := by
  unfold putN
  split
  · simp
  · simp
theorem putN_dep {xs : List (NestedKey × Addr × V)} {k : NestedKey} (b : Addr) (v : V) (h : ∀ x ∈ xs, x.1.depth ≤ 8) (hk : k.depth ≤ 8) : ∀ x ∈ putN xs k b v, x.1.depth ≤ 8 := by
  unfold putN
  split
  · intro x hx
    obtain ⟨y, hy, rfl⟩ := List.mem_map.mp hx
    split
    · exact h y hy
    · exact h y hy
  · intro x hx
    rcases List.mem_append.mp hx with q | q
    · exact h x q
    · rw [List.mem_singleton.mp q]; exact hk
variable {A : Around} {E : Value → Shared → Prop} {xs : List (NestedKey × Addr × V)} {ks : List D} {k : NestedKey} {d : D}
theorem room_n (hu : A.units + 9 < cLine) : (nestedKind X.prog X.w).room A.in1 := by
  show A.in1.units + 8 < cLine
  rw [Around.in1_units]
  omega
theorem n_in {Q : Value → Shared → Prop} (hu : A.units + 9 < cLine) (I : Inv X pins σ H s) (sg : Same G H) (h : H a = some (dnO X.w a xs)) (hk : D.nks ks = some (xs.map (·.1))) (hd : DpAll X.K G (xs.map fun p => V.ref p.2.1) ks)
    (hb : Dp X.K G (.ref b) d) (hn : d.nk = some k) (h8 : k.depth ≤ 8) (q : ∀ s', Inv X pins σ H s' → Q (.bool (atN xs k).isSome) s') : wpAny (model X.prog X.w) A (compareOp .In (.ref b) (.ref a)) Q E s := by
  obtain ⟨_, m, _, us, r, dd⟩ := dn_of I sg h hk hd
  refine wpAny_in_heap (room_n hu) (key_is I sg hb hn h8) m dd ?_
  have e := (r.at_ k).isSome_eq
  rw [Option.isSome_map] at e
  rw [← e]
  exact q _ (I.tok _)
theorem n_notIn {Q : Value → Shared → Prop} (hu : A.units + 9 < cLine) (I : Inv X pins σ H s) (sg : Same G H) (h : H a = some (dnO X.w a xs)) (hk : D.nks ks = some (xs.map (·.1))) (hd : DpAll X.K G (xs.map fun p => V.ref p.2.1) ks)
    (hb : Dp X.K G (.ref b) d) (hn : d.nk = some k) (h8 : k.depth ≤ 8) (q : ∀ s', Inv X pins σ H s' → Q (.bool (!(atN xs k).isSome)) s') : wpAny (model X.prog X.w) A (compareOp .NotIn (.ref b) (.ref a)) Q E s := by
  obtain ⟨_, m, _, us, r, dd⟩ := dn_of I sg h hk hd
  refine PyProof.Rows.wpAny_notIn_heap (room_n hu) (key_is I sg hb hn h8) m dd ?_
  have e := (r.at_ k).isSome_eq
  rw [Option.isSome_map] at e
  rw [← e]
  exact q _ (I.tok _)
theorem n_get {Q : Value → Shared → Prop} {v : V} (hu : A.units + 9 < cLine) (I : Inv X pins σ H s) (sg : Same G H) (h : H a = some (dnO X.w a xs)) (hk : D.nks ks = some (xs.map (·.1))) (hd : DpAll X.K G (xs.map fun p => V.ref p.2.1) ks)
    (hb : Dp X.K G (.ref b) d) (hn : d.nk = some k) (h8 : k.depth ≤ 8) (hv : atN xs k = some v) (q : ∀ u s', RelV v u → Inv X pins σ H s' → Q u s') : wpAny (model X.prog X.w) A (getItem (.ref a) (.ref b)) Q E s := by
  obtain ⟨_, m, _, us, r, dd⟩ := dn_of I sg h hk hd
  obtain ⟨u, hu', ru⟩ := RelO.some_of (v := v) (o := (atKey us k).map (·.2)) (by rw [← hv]; exact r.at_ k)
  obtain ⟨p, hp, hp2⟩ := Option.map_eq_some_iff.mp hu'
  refine wpAny_getItem_heap (room_n hu) (key_is I sg hb hn h8) dd hp ?_
  rw [hp2]
  exact q u _ ru (I.tok _)
theorem n_put {Q : Unit → Shared → Prop} {v : V} {u : Value} (hu : A.units + 9 < cLine) (I : Inv X pins σ H s) (sg : Same G H) (h : H a = some (dnO X.w a xs)) (hk : D.nks ks = some (xs.map (·.1))) (hd : DpAll X.K G (xs.map fun p => V.ref p.2.1) ks)
    (hb : Dp X.K G (.ref b) d) (hn : d.nk = some k) (h8 : k.depth ≤ 8) (hl : xs.length < sizeLine) (rv : RelV v u) (q : ∀ s', Inv X pins σ (upd H a (dnO X.w a (putN xs k b v))) s' → Q () s') : wpAny (model X.prog X.w) A (setItem (.ref a) (.ref b) u) Q E s := by
  obtain ⟨l, m, h8s, us, r, dd⟩ := dn_of I sg h hk hd
  have hz : us.length ≤ sizeLine := by rw [← Paired.length r]; exact l
  refine wpAny_setItem_heap (hsz := hz) (room_n hu) (key_is I sg hb hn h8) dd fun h' dd' hs => q _ ?_
  have he : ∃ z, h'.get? a = some z := let ⟨z, _, _, hq, _⟩ := dd'; ⟨z, hq⟩
  refine d_write I (by rw [h]; exact True.intro) hs he (dn_new ?_ m (putN_dep b v h8s h8) (r.put k b rv) dd')
  have := putN_len xs k b v
  omega
end

/-! ### the rules on slots -/
def lookN : List D → List D → NestedKey → Option D
  | k :: ks, v :: vs, q => if k.nk = some q then some v else lookN ks vs q
  | _, _, _ => none
def storeN : List D → List D → NestedKey → D → List D
  | k :: ks, v :: vs, q, y => if k.nk = some q then y :: storeN ks vs q y else v :: storeN ks vs q y
  | _, vs, _, _ => vs
/-- keys and values behind d[k] = v -/
def setN (ks vs : List D) (k : D) (q : NestedKey) (y : D) : List D × List D :=
  if (lookN ks vs q).isSome then (ks, storeN ks vs q y) else (ks ++ [k], vs ++ [y])
theorem nks_cons {d : D} {ds : List D} {k : NestedKey} {ks : List NestedKey} : D.nks (d :: ds) = some (k :: ks) ↔ d.nk = some k ∧ D.nks ds = some ks := by
  simp only [D.nks, Option.bind_eq_some_iff, Option.map_eq_some_iff]
  constructor
  · rintro ⟨a, h1, b, h2, e⟩
    injection e with e1 e2
    subst e1 e2
    exact ⟨h1, h2⟩
  · rintro ⟨h1, h2⟩
    exact ⟨k, h1, ks, h2, rfl⟩
theorem nks_snoc : ∀ {ds : List D} {ks : List NestedKey} {d : D} {k : NestedKey}, D.nks ds = some ks → d.nk = some k → D.nks (ds ++ [d]) = some (ks ++ [k])
  | [], _, d, k, e, h => by cases e; simp [D.nks, h]
  | a :: ds, ks, d, k, e, h => by
    cases ks with
    | nil => simp [D.nks, Option.bind_eq_some_iff] at e
    | cons b ks =>
      obtain ⟨h1, h2⟩ := nks_cons.mp e
      exact nks_cons.mpr ⟨h1, nks_snoc h2 h⟩
theorem look_at {K : PySem.W.Frag} {G : Hp} {q : NestedKey} : ∀ {xs : List (NestedKey × Addr × V)} {ks vs : List D}, D.nks ks = some (xs.map (·.1)) → DpAll K G (xs.map fun p => p.2.2) vs → ks.length = xs.length →
    (match lookN ks vs q with | some d => ∃ v, atN xs q = some v ∧ Dp K G v d | none => atN xs q = none)
  | [], ks, vs, e, h, hl => by
    cases ks with
    | nil => simp [lookN, atN]
    | cons k ks => simp at hl
  | x :: xs, ks, vs, e, h, hl => by
    cases ks with
    | nil => simp at hl
    | cons k ks =>
      obtain ⟨e1, e2⟩ := nks_cons.mp e
      cases h with
      | @cons _ _ v vs h1 h2 =>
        unfold lookN
        by_cases c : x.1 = q
        · rw [if_pos (by rw [e1]; exact congrArg some c)]
          exact ⟨x.2.2, by simp [atN, c], h1⟩
        · rw [if_neg (by rw [e1]; intro z; exact c (Option.some.inj z))]
          have ih := look_at (q := q) (xs := xs) e2 h2 (by simpa using hl)
          have z : atN (x :: xs) q = atN xs q := by simp [atN, c]
          rw [z]
          exact ih
theorem store_at {K : PySem.W.Frag} {G : Hp} {q : NestedKey} {y : V} {d : D} (hy : Dp K G y d) : ∀ {xs : List (NestedKey × Addr × V)} {ks vs : List D}, D.nks ks = some (xs.map (·.1)) → DpAll K G (xs.map fun p => p.2.2) vs → ks.length = xs.length →
    DpAll K G ((xs.map fun x => if x.1 = q then (x.1, x.2.1, y) else x).map fun p => p.2.2) (storeN ks vs q d)
  | [], ks, vs, e, h, hl => by
    cases ks with
    | nil => cases h; exact .nil
    | cons k ks => simp at hl
  | x :: xs, ks, vs, e, h, hl => by
    cases ks with
    | nil => simp at hl
    | cons k ks =>
      obtain ⟨e1, e2⟩ := nks_cons.mp e
      cases h with
      | @cons _ _ v vs h1 h2 =>
        have ih := store_at (q := q) hy (xs := xs) e2 h2 (by simpa using hl)
        unfold storeN
        by_cases c : x.1 = q
        · rw [if_pos (by rw [e1]; exact congrArg some c)]
          simp only [List.map_cons, if_pos c]
          exact .cons hy ih
        · rw [if_neg (by rw [e1]; intro z; exact c (Option.some.inj z))]
          simp only [List.map_cons, if_neg c]
          exact .cons h1 ih
theorem nks_len : ∀ {ds : List D} {ks : List NestedKey}, D.nks ds = some ks → ds.length = ks.length
  | [], _, e => by cases e; rfl
  | d :: ds, ks, e => by
    cases ks with
    | nil => simp [D.nks, Option.bind_eq_some_iff] at e
    | cons k ks => simp [nks_len (nks_cons.mp e).2]
/-- the store, by data -/
theorem set_at {K : PySem.W.Frag} {G : Hp} {q : NestedKey} {y : V} {d dk : D} {b : Addr} (hy : Dp K G y d) (hb : Dp K G (.ref b) dk) (hq : dk.nk = some q) {xs : List (NestedKey × Addr × V)} {ks vs : List D} (e : D.nks ks = some (xs.map (·.1))) (hk : DpAll K G (xs.map fun p => V.ref p.2.1) ks) (h : DpAll K G (xs.map fun p => p.2.2) vs) :
    D.nks (setN ks vs dk q d).1 = some ((putN xs q b y).map (·.1)) ∧ DpAll K G ((putN xs q b y).map fun p => V.ref p.2.1) (setN ks vs dk q d).1 ∧ DpAll K G ((putN xs q b y).map fun p => p.2.2) (setN ks vs dk q d).2 := by
  have hl : ks.length = xs.length := by rw [nks_len e, List.length_map]
  have la := look_at (q := q) e h hl
  unfold setN putN
  cases c : lookN ks vs q with
  | some z =>
    rw [c] at la
    obtain ⟨v, ev, _⟩ := la
    rw [if_pos (by rfl), if_pos (by rw [ev]; rfl)]
    have e1 : ((xs.map fun x => if x.1 = q then (x.1, x.2.1, y) else x).map (·.1)) = xs.map (·.1) := by
      rw [List.map_map]
      refine List.map_congr_left fun x _ => ?_
      show (if x.1 = q then (x.1, x.2.1, y) else x).1 = x.1
      split <;> rfl
    have e2 : ((xs.map fun x => if x.1 = q then (x.1, x.2.1, y) else x).map fun p => V.ref p.2.1) = xs.map fun p => V.ref p.2.1 := by
      rw [List.map_map]
      refine List.map_congr_left fun x _ => ?_
      show V.ref (if x.1 = q then (x.1, x.2.1, y) else x).2.1 = V.ref x.2.1
      split <;> rfl
    exact ⟨by rw [e1]; exact e, by rw [e2]; exact hk, store_at hy e h hl⟩
  | none =>
    rw [c] at la
    rw [if_neg (by decide), if_neg (by rw [la]; decide)]
    refine ⟨?_, ?_, ?_⟩
    · rw [List.map_append]; exact nks_snoc e hq
    · rw [List.map_append]; exact hk.append (.cons hb .nil)
    · rw [List.map_append]; exact h.append (.cons hy .nil)
def keyOk (d : D) : Option NestedKey := match d with
  | .tup xs => (D.tup xs).nk.bind fun k => if k.depth ≤ 8 then some k else none
  | _ => none
theorem keyOk_is {d : D} {k : NestedKey} (h : keyOk d = some k) : d.nk = some k ∧ k.depth ≤ 8 ∧ ∃ xs, d = .tup xs := by
  unfold keyOk at h
  split at h
  · rename_i xs
    simp only [Option.bind_eq_some_iff] at h
    obtain ⟨q, e, h⟩ := h
    split at h
    · rename_i c
      cases h
      exact ⟨e, c, xs, rfl⟩
    · cases h
  · cases h
open Classical in
noncomputable def dInN (neg : Bool) (w : World) (i : Nat) (fa : Ev → Rs D) : Ev → Rs D := fun ρ => match ρ[i]? with
  | some (.on w' ks vs) => if w' = w then (fa ρ).bind fun d => match keyOk d with
    | some k => .ok (.bl (neg ^^ (lookN ks vs k).isSome))
    | none => .bot else .bot
  | _ => .bot
open Classical in
noncomputable def dGetN (w : World) (i : Nat) (fa : Ev → Rs D) : Ev → Rs D := fun ρ => match ρ[i]? with
  | some (.on w' ks vs) => if w' = w then (fa ρ).bind fun d => match keyOk d with
    | some k => (match lookN ks vs k with | some v => .ok v | none => .bot)
    | none => .bot else .bot
  | _ => .bot
open Classical in
noncomputable def sPutN (w : World) (i : Nat) (fk fv : Ev → Rs D) : Ev → SR := fun ρ => match ρ[i]? with
  | some (.on w' ks vs) => if w' = w then (fv ρ).sr fun y => (fk ρ).sr fun d => match keyOk d with
    | some k => if ks.length < 1000000 then .nx (ρ.set i (.on w (setN ks vs d k y).1 (setN ks vs d k y).2)) else .bot
    | none => .bot else .bot
  | _ => .bot
def sNewN (w : World) (i : Nat) : Ev → SR := fun ρ => .nx (ρ.set i (.on w [] []))
section
variable {X : Cx} {E : XK} {e a b : Expr} {fa fb : Ev → Rs D} {pos p pos' : Pos} {st : Stmt}
theorem tup_ref {K : PySem.W.Frag} {G : Hp} {v : V} {xs : List D} (h : Dp K G v (.tup xs)) : ∃ b, v = .ref b := by cases h with | tup h1 h2 => exact ⟨_, rfl⟩
theorem op_inN (neg : Bool) (hu : X.A.units + 9 < cLine) {op : CmpOp} (hop : op = if neg then .NotIn else .In) : OpR X (compareOp op) (fun x y H Q => ∃ (a : Addr) (G : Hp) (xs : List (NestedKey × Addr × V)) (ks : List D) (d : D) (k : NestedKey), y = .ref a ∧ Same G H ∧ H a = some (dnO X.w a xs) ∧ D.nks ks = some (xs.map (·.1)) ∧ DpAll X.K G (xs.map fun p => V.ref p.2.1) ks ∧ Dp X.K G x d ∧ keyOk d = some k ∧ Q (.bl (neg ^^ (atN xs k).isSome)) H) := by
  intro pins s σ H x y v u Q I rx ry ⟨a, G, xs, ks, d, k, ey, sg, ha, hk, hd, hx, ek, q⟩
  subst ey
  obtain ⟨e1, e2, ds, rfl⟩ := keyOk_is ek
  obtain ⟨b, rfl⟩ := tup_ref hx
  cases (show u = Value.ref a from ry)
  cases (show v = Value.ref b from rx)
  cases neg with
  | false =>
    subst hop
    exact n_in hu I sg ha hk hd hx e1 e2 fun s' I' => ⟨.bl _, H, I', by rw [Bool.false_xor]; rfl, q⟩
  | true =>
    subst hop
    exact n_notIn hu I sg ha hk hd hx e1 e2 fun s' I' => ⟨.bl _, H, I', by rw [Bool.true_xor]; rfl, q⟩
theorem de_inN (neg : Bool) {i : Nat} {op : CmpOp} (hop : op = if neg then .NotIn else .In) (hu : X.A.units + 9 < cLine) (ha : DE X E a fa) (hb : PE X b (tVar i)) (hm : behindInMarks op b = false) : DE X E (.Compare a [op] [b] pos) (dInN neg X.w i fa) := by
  refine peI (pe_cmpR (op_inN neg hu hop) ha hb hm) fun σ H Q ⟨ρ, G, s, r, fi⟩ => ?_
  unfold dInN at fi
  split at fi
  · rename_i w' ks vs q
    by_cases c : w' = X.w
    · rw [if_pos c] at fi
      subst c
      obtain ⟨a, us, e, hH, nG, z1, z2, z3⟩ := r.on q
      refine ⟨ρ, G, s, r, fi.bind.imp fun d H1 G1 g1 fi1 v hv => ⟨_, e, ?_⟩⟩
      cases ek : keyOk d with
      | none => rw [ek] at fi1; exact False.elim fi1
      | some k =>
        rw [ek] at fi1
        have hl : ks.length = us.length := by rw [nks_len z1, List.length_map]
        have la := look_at (q := k) z1 z3 hl
        have eq : (lookN ks vs k).isSome = (atN us k).isSome := by
          cases c : lookN ks vs k with
          | some d => rw [c] at la; obtain ⟨v, ev, _⟩ := la; rw [ev]; rfl
          | none => rw [c] at la; rw [la]; rfl
        refine ⟨a, G1, us, ks, d, k, rfl, g1.gh, g1.hh _ _ hH, z1, z2.up g1.gg, hv, ek, ?_⟩
        have q := fi0 (v := .bl _) g1.gh fi1 (.bl _)
        rw [eq] at q
        exact q
    · rw [if_neg c] at fi; exact False.elim fi
  · exact False.elim fi
theorem dt_inN (neg : Bool) {i : Nat} {op : CmpOp} (hop : op = if neg then .NotIn else .In) (hu : X.A.units + 9 < cLine) (ha : DE X E a fa) (hb : PE X b (tVar i)) (hm : behindInMarks op b = false) : DT X E (.Compare a [op] [b] pos) (dTest (dInN neg X.w i fa)) := by
  refine ptI (pt_cmpR (op_inN neg hu hop) ha hb hm) fun σ H Q ⟨ρ, G, s, r, fi⟩ => ?_
  have fi' := fi.bind
  unfold dInN at fi'
  split at fi'
  · rename_i w' ks vs q
    by_cases c : w' = X.w
    · rw [if_pos c] at fi'
      subst c
      obtain ⟨a, us, e, hH, nG, z1, z2, z3⟩ := r.on q
      refine ⟨ρ, G, s, r, fi'.bind.imp fun d H1 G1 g1 fi1 v hv => ⟨_, e, ?_⟩⟩
      cases ek : keyOk d with
      | none => rw [ek] at fi1; exact False.elim fi1
      | some k =>
        rw [ek] at fi1
        have hl : ks.length = us.length := by rw [nks_len z1, List.length_map]
        have la := look_at (q := k) z1 z3 hl
        have eq : (lookN ks vs k).isSome = (atN us k).isSome := by
          cases c : lookN ks vs k with
          | some d => rw [c] at la; obtain ⟨v, ev, _⟩ := la; rw [ev]; rfl
          | none => rw [c] at la; rw [la]; rfl
        refine ⟨a, G1, us, ks, d, k, rfl, g1.gh, g1.hh _ _ hH, z1, z2.up g1.gg, hv, ek, _, rfl, ?_⟩
        have q := (fi1.now g1.gh).now g1.gh
        rw [eq] at q
        exact q
    · rw [if_neg c] at fi'; exact False.elim fi'
  · exact False.elim fi'
theorem ix_dictN (hu : X.A.units + 9 < cLine) : IxR X (fun x y H Q => ∃ (a : Addr) (G : Hp) (xs : List (NestedKey × Addr × V)) (ks : List D) (d : D) (k : NestedKey) (v : V), x = .ref a ∧ Same G H ∧ H a = some (dnO X.w a xs) ∧ D.nks ks = some (xs.map (·.1)) ∧ DpAll X.K G (xs.map fun p => V.ref p.2.1) ks ∧ Dp X.K G y d ∧ keyOk d = some k ∧ atN xs k = some v ∧ Q v H) := by
  intro value slice pins s σ H x y v u Q I rx ry ⟨a, G, xs, ks, d, k, v', ex, sg, ha, hk, hd, hy, ek, hv, q⟩ hs
  subst ex
  obtain ⟨e1, e2, ds, rfl⟩ := keyOk_is ek
  obtain ⟨b, rfl⟩ := tup_ref hy
  cases (show u = Value.ref b from ry)
  cases (show v = Value.ref a from rx)
  obtain ⟨_, _, _, us, _, dd⟩ := dn_of I sg ha hk hd
  exact PyProof.Rows.tail_any dd.typeIs PySem.F.slot_dict_getitem.lookup (n_get hu I sg ha hk hd hy e1 e2 hv fun u s' ru I' => ⟨v', H, I', ru, q⟩) hs
theorem de_getN {i : Nat} (hu : X.A.units + 9 < cLine) (ha : PE X a (tVar i)) (hb : DE X E b fb) (hs : PlainIx b) : DE X E (.Subscript a b pos) (dGetN X.w i fb) := by
  refine peI (pe_ix (ix_dictN hu) ha hb hs) fun σ H Q ⟨ρ, G, s, r, fi⟩ => ?_
  unfold dGetN at fi
  split at fi
  · rename_i w' ks vs q
    by_cases c : w' = X.w
    · rw [if_pos c] at fi
      subst c
      obtain ⟨a, us, e, hH, nG, z1, z2, z3⟩ := r.on q
      refine ⟨_, e, ρ, G, s, r, fi.bind.imp fun d H1 G1 g1 fi1 v hv => ?_⟩
      cases ek : keyOk d with
      | none => rw [ek] at fi1; exact False.elim fi1
      | some k =>
        rw [ek] at fi1
        have hl : ks.length = us.length := by rw [nks_len z1, List.length_map]
        have la := look_at (q := k) z1 (z3.up g1.gg) hl
        dsimp only at fi1
        cases cl : lookN ks vs k with
        | none => rw [cl] at fi1; exact False.elim fi1
        | some y =>
          rw [cl] at fi1 la
          obtain ⟨y', ey, hy⟩ := la
          exact ⟨a, G1, us, ks, d, k, y', rfl, g1.gh, g1.hh _ _ hH, z1, z2.up g1.gg, hv, ek, ey, fi0 g1.gh fi1 hy⟩
    · rw [if_neg c] at fi; exact False.elim fi
  · exact False.elim fi
def sPutNT (w : World) (K : PySem.W.Frag) (td ty tv : TE) : TS := fun Dn σ H => tv σ H fun v H1 => td σ H1 fun x H2 => ty σ H2 fun y H3 => ∃ (a b : Addr) (G : Hp) (xs : List (NestedKey × Addr × V)) (ks : List KD.D) (d : KD.D) (k : NestedKey), x = .ref a ∧ y = .ref b ∧ Same G H3 ∧ H3 a = some (dnO w a xs) ∧ D.nks ks = some (xs.map (·.1)) ∧ DpAll K G (xs.map fun p => V.ref p.2.1) ks ∧ Dp K G y d ∧ keyOk d = some k ∧ xs.length < sizeLine ∧ Dn.nx σ (upd H3 a (dnO w a (putN xs k b v)))
theorem ps_putN {td ty tv : TE} {o i value : Expr} (hu : X.A.units + 9 < cLine) (ho : PE X o td) (hi : PE X i ty) (hv : PE X value tv) (hs : swapsWith value (some (.Subscript o i pos')) pos.line X.env = pure false := by rfl) : PS X (.Assign [.Subscript o i pos'] value pos) (sPutNT X.w X.K td ty tv) := by
  refine ⟨fun pins s σ H D I h => wpAny_Assign_Subscript ?_ hs⟩
  refine thn (hv.run pins s σ H _ I h) fun r s1 ⟨v, H1, I1, rv, q1⟩ => ?_
  refine thn (ho.run pins s1 σ H1 _ I1 q1) fun u s2 ⟨x, H2, I2, rx, q2⟩ => ?_
  refine thn (hi.run pins s2 σ H2 _ I2 q2) fun iv s3 ⟨y, H3, I3, ry, a, b, G, xs, ks, d, k, ex, ey, sg, ha, hk, hd, hy, ek, hl, q3⟩ => ?_
  subst ex ey
  cases (show u = Value.ref a from rx)
  cases (show iv = Value.ref b from ry)
  obtain ⟨e1, e2, ds, rfl⟩ := keyOk_is ek
  exact n_put hu I3 sg ha hk hd hy e1 e2 hl rv fun s4 I4 => ⟨σ, _, I4, q3⟩
/-- best[k] = v -/
theorem ds_putN {i : Nat} {fk fv : Ev → Rs D} (h : PS X st (sPutNT X.w X.K (tVar i) (tD X.K E fk) (tD X.K E fv))) : DS X E st (sPutN X.w i fk fv) := by
  refine psI h fun D σ H ⟨H0, G0, ρ, G, at_, fi⟩ => ?_
  unfold sPutN at fi
  split at fi
  · rename_i w' ks vs q
    by_cases c : w' = X.w
    · rw [if_pos c] at fi
      subst c
      refine ⟨ρ, G, at_.gr.gh, at_.rep, (fi.sr at_).imp fun y H1 G1 g1 ⟨a1, fi1⟩ v hv => ?_⟩
      obtain ⟨a, us, e, _⟩ := a1.rep.on q
      refine ⟨_, e, ρ, G1, a1.gr.gh, a1.rep, (fi1.sr a1).imp fun d H2 G2 g2 ⟨a2, fi2⟩ z hz => ?_⟩
      obtain ⟨a', us, e', hH, nG, z1, z2, z3⟩ := a2.rep.on q
      rw [e] at e'; cases e'
      cases ek : keyOk d with
      | none => rw [ek] at fi2; exact False.elim fi2
      | some k =>
        rw [ek] at fi2
        dsimp only at fi2
        by_cases cl : ks.length < 1000000
        · rw [if_pos cl] at fi2
          obtain ⟨e1, e2, ds, rfl⟩ := keyOk_is ek
          obtain ⟨b, rfl⟩ := tup_ref hz
          have hl : ks.length = us.length := by rw [nks_len z1, List.length_map]
          obtain ⟨w1, w2, w3⟩ := set_at (hv.up g2.gg) hz e1 z1 z2 z3
          refine ⟨a, b, G2, us, ks, _, k, rfl, rfl, a2.gr.gh, hH, z1, z2, hz, ek, lt_line (by omega), ?_⟩
          exact fi2 σ _ G2 (Same.refl _) (a2.put q rfl e ⟨a, putN us k b v, rfl, upd_same, nG, w1, w2, w3⟩)
        · rw [if_neg cl] at fi2; exact False.elim fi2
    · rw [if_neg c] at fi; exact False.elim fi
  · exact False.elim fi
theorem dn_empty {P : Program} {w : World} {H : Hp} (h : Heap) (hb : sysModules < h.objs.size) : ObjOk P w H (h.push { cls := .type "dict", data := .dict #[] }) h.objs.size (dnO w h.objs.size []) :=
  dn_new (Nat.zero_le _) (beq_eq_false_iff_ne.mpr (Nat.ne_of_gt hb)) (by simp) .nil (Heap.DictOfH.new h)
def tNewN (w : World) : TE := fun _ H Q => ∀ p, H p = none → Q (.ref p) (upd H p (dnO w p []))
theorem pe_newN : PE X (.Dict [] [] pos) (tNewN X.w) := ⟨fun pins s σ H Q I h => by
  have J := I.laid (a := s.heap.objs.size) (o := dnO X.w s.heap.objs.size []) (t' := s.toks) (fun _ _ q => Heap.get?_push_of_some { cls := .type "dict", data := .dict #[] } q) (Nat.le_refl _) (dn_empty s.heap I.big)
  exact wpAny_Dict_empty ⟨.ref s.heap.objs.size, _, J, rfl, h _ (I.hok.fresh (Nat.le_refl _))⟩⟩
theorem At.newOn {K : PySem.W.Frag} {H0 G0 H G : Hp} {σ : L2.St} {ρ : Ev} (a : At K H0 G0 H G σ ρ) {i : Nat} {p : Addr} {w : World} {xs : List (NestedKey × Addr × V)} {ks vs : List D} (n : H p = none) (z1 : D.nks ks = some (xs.map (·.1))) (z2 : DpAll K G (xs.map fun p => V.ref p.2.1) ks) (z3 : DpAll K G (xs.map fun p => p.2.2) vs) :
    At K H0 G0 (upd H p (dnO w p xs)) G (σ.set i (some (.ref p))) (ρ.set i (.on w ks vs)) := by
  have g := Grow.beside (o := dnO w p xs) a.gr.gh n
  have a' := a.grow g
  refine ⟨a'.gr, a'.rep.set ⟨p, xs, rfl, upd_same, a.gr.gh.free n, z1, z2, z3⟩ fun b _ e j t _ h1 h2 h3 => ?_, fun j s b h1 h2 h3 => ?_⟩
  · cases e
    obtain ⟨⟨u, hu⟩, _⟩ := a.rep.addr h1 h2 h3
    rw [n] at hu; cases hu
  · by_cases hj : i = j
    · subst hj
      have hi : i < σ.length := by have := (List.getElem?_eq_some_iff.mp h3).1; simpa using this
      rw [List.getElem?_set_self hi] at h3; cases h3
      exact a.gr.hh.free n
    · rw [List.getElem?_set_ne hj] at h1 h3; exact a.own j s b h1 h2 h3
theorem ds_newN {i : Nat} (h : PS X st (tAsg (tNewN X.w) (gName i))) : DS X E st (sNewN X.w i) := by
  refine psI h fun D σ H ⟨H0, G0, ρ, G, at_, fi⟩ => ?_
  exact fun p np => fi _ _ G (Same.refl _) (at_.newOn np rfl .nil .nil)
end
end KD

/-! KD13: dict comprehensions with nested keys. -/
namespace KD
open PySem L2 PySem.Spec PyProof.Rows
section
variable {X : Cx} {pins : List (Addr × Obj)} {σ : L2.St} {G H : Hp} {s : Shared} {a b : Addr}
theorem n_set {Ex : Value → Shared → Prop} {xs : List (NestedKey × Addr × V)} {ks : List D} {k : NestedKey} {d : D} {v : V} {u : Value} {Q : Unit → Shared → Prop} (hu : X.A.units + 9 < cLine) (J : Inv X pins σ H s) (sg : Same G H) (h : H a = some (dnO X.w a xs)) (hk : D.nks ks = some (xs.map (·.1))) (hd : DpAll X.K G (xs.map fun p => V.ref p.2.1) ks)
    (hb : Dp X.K G (.ref b) d) (hn : d.nk = some k) (h8 : k.depth ≤ 8) (hl : xs.length < sizeLine) (rv : RelV v u) (q : ∀ s', Inv X pins σ (upd H a (dnO X.w a (putN xs k b v))) s' → Q () s') : wpAny (model X.prog X.w) X.A (dictSet a (.ref b) u) Q Ex s := by
  obtain ⟨l, m, h8s, us, r, dd⟩ := dn_of J sg h hk hd
  have hr : (nestedKind X.prog X.w).room X.A := by show X.A.units + 8 < cLine; omega
  refine wpAny_dictSet_heap (hsz := by rw [← Paired.length r]; exact l) hr (key_is J sg hb hn h8) dd fun h' dd' hs => q _ ?_
  obtain ⟨z, hz⟩ : ∃ z, h'.get? a = some z := let ⟨z, _, _, hq, _⟩ := dd'; ⟨z, hq⟩
  refine d_write J (by rw [h]; exact True.intro) hs ⟨z, hz⟩ (dn_new ?_ m (putN_dep b v h8s h8) (r.put k b rv) dd')
  have := putN_len xs k b v
  omega
/-- the reading: W by turns left, the dict's keys told in G -/
def tDcN (w : World) (K : PySem.W.Frag) (wi : TI) (g : TG) (tt : TT) (tk tv : TE) (vs : List Nat) : TE := fun σ H Q => wi σ H fun J H1 => ∀ dd, H1 dd = none → ∃ W : Nat → Nat → Hp → Prop, (∃ m, W 0 m (upd H1 dd (dnO w dd []))) ∧ ∀ i m H, W i m H →
  (J.stop i H ∧ Q (.ref dd) H) ∨ (J.go i H ∧ ∃ Nx : Hp → Prop, (∀ H', Nx H' → ∃ m', m' < m ∧ W (i + 1) m' H') ∧ ∀ x H', J.yld i H x H' → g x (wipe σ vs) H' fun σ2 H2 => wipe σ2 vs = wipe σ vs ∧ tt σ2 H2 fun c H3 =>
    if c = true then tk σ2 H3 fun y H4 => tv σ2 H4 fun z H5 => ∃ (b : Addr) (G : Hp) (xs : List (NestedKey × Addr × V)) (ks : List D) (d : D) (k : NestedKey), y = .ref b ∧ Same G H5 ∧ H5 dd = some (dnO w dd xs) ∧ D.nks ks = some (xs.map (·.1)) ∧ DpAll K G (xs.map fun p => V.ref p.2.1) ks ∧ Dp K G y d ∧ keyOk d = some k ∧ xs.length < sizeLine ∧ Nx (upd H5 dd (dnO w dd (putN xs k b z)))
    else Nx H3)
theorem dcN_core {Q : VK} {kx vx tg iter : Expr} {ifs : List Expr} {scope : Scope} {own : List (Str × Nat)} {pos pos' : Pos} {wi : TI} {g : TG} {tt : TT} {tk tv : TE} {use : Option (Value → Sem Unit)} {Qf : Value → Shared → Prop}
    (hu : X.A.units + 9 < cLine) (calm : X.calm = true) (nd : X.N.Nodup) (J : Inv X pins σ H s) (pi : PI X tg iter wi) (bo : BlkOk X.N X.env.scope scope own)
    (pgA : ∀ (s : Shared) (H : Hp) (C : Addr) (cl : List (Str × Addr)) (fp : List Addr), PG (X.blk s H scope (compEnvC scope cl C X.env) fp) tg g)
    (ptA : ∀ (s : Shared) (H : Hp) (C : Addr) (cl : List (Str × Addr)) (fp : List Addr), PTs (X.blk s H scope (compEnvC scope cl C X.env) fp) ifs tt)
    (pkA : ∀ (s : Shared) (H : Hp) (C : Addr) (cl : List (Str × Addr)) (fp : List Addr), PE (X.blk s H scope (compEnvC scope cl C X.env) fp) kx tk)
    (pvA : ∀ (s : Shared) (H : Hp) (C : Addr) (cl : List (Str × Addr)) (fp : List Addr), PE (X.blk s H scope (compEnvC scope cl C X.env) fp) vx tv) (fold : ∀ x, foldedSetIterable iter X.env x = pure x)
    (h : tDcN X.w X.K wi g tt tk tv (own.map (·.2)) σ H Q)
    (last : ∀ dd C s' m H', Inv X pins σ H' s' → Q (.ref dd) H' → s'.heap.Ns C m → FpOk X pins H' C → compPost (model X.prog X.w) X.A X.xe use Qf (.ref dd) C (.ok .next) s') :
    wpAny (model X.prog X.w) X.A (comprehension (.DictComp kx vx [⟨tg, iter, ifs, 0⟩] scope pos) scope X.env pos' newDict false (eval iter X.env) use) Qf X.xe s := by
  have cells : ∀ y ∈ scope.names, y.2 = .free → ∃ c, X.env.cells.lookup y.1 = some c := fun y hy e =>
    (bo.free y hy e).elim (fun k => J.ok.has _ (.inl k)) (fun k => J.ok.has _ (.inr k))
  refine wpAny_comprehension_free (use := use) rfl fold (closure_ok cells) bo.kind (fun y hy e => by rw [bo.uniq y hy, e]) ?_
  refine thn (pi.run pins s σ H _ J h) fun xv s1 hx => thn hx fun itv s2 ⟨it, fp, tn, Jt, H2, e, J2, T, st2, f2, q⟩ => ?_
  subst e
  refine wpAny_newObj_type (newEnv_comp ?_)
  generalize hdd : s2.heap.objs.size = dd
  have free2 : H2 dd = none := J2.hok.fresh (Nat.le_of_eq hdd)
  obtain ⟨W, ⟨m0, w0⟩, turn⟩ := q dd free2
  generalize hs3 : ({ s2 with heap := s2.heap.push { cls := .type "dict", data := .dict #[] } } : Shared) = s3
  have h3 : s3.heap = s2.heap.push { cls := .type "dict", data := .dict #[] } := by subst hs3; rfl
  have J3 : Inv X pins σ (upd H2 dd (dnO X.w dd [])) s3 := by
    subst hs3 hdd
    exact J2.laid (t' := s2.toks) (fun _ _ z => Heap.get?_push_of_some _ z) (Nat.le_refl _) (dn_empty s2.heap J2.big)
  have f3 : ∀ b ∈ fp, FpOk X pins (upd H2 dd (dnO X.w dd [])) b ∧ b < s3.heap.objs.size := fun b hb => by
    obtain ⟨o, z, _⟩ := T.obj _ _ st2 b hb
    have lt := Heap.lt_size z
    have ne : b ≠ dd := by rw [← hdd]; exact Nat.ne_of_lt lt
    exact ⟨⟨by rw [upd_ne ne]; exact (f2 b hb).1, (f2 b hb).2⟩, by rw [h3, Heap.size_push]; exact Nat.lt_succ_of_lt lt⟩
  have st3 : tn 0 s3.heap := T.keep _ _ _ st2 fun b _ o z => by rw [h3]; exact Heap.get?_push_of_some _ z
  have J4 := block_start J3 bo nd f3
  generalize hH3 : upd H2 dd (dnO X.w dd []) = H3 at J3 J4 w0 f3
  have cle : cellsFrom (s3.heap.objs.size + 1) scope.names (cloFrom X.env.cells scope.names []) = cellsFrom (s3.heap.objs.size + 1) scope.names (cloFrom X.env.cells scope.names []) := rfl
  revert cle
  generalize cellsFrom (s3.heap.objs.size + 1) scope.names (cloFrom X.env.cells scope.names []) = cl at J4 ⊢
  intro _
  have pg := pgA s3 H3 s3.heap.objs.size cl fp
  have pt := ptA s3 H3 s3.heap.objs.size cl fp
  have pk := pkA s3 H3 s3.heap.objs.size cl fp
  have pv := pvA s3 H3 s3.heap.objs.size cl fp
  show codeAny _ _ (.compStart (.DictComp kx vx [⟨tg, iter, ifs, 0⟩] scope pos) 0 (.ref it) (.ref dd) (compEnvC scope cl s3.heap.objs.size X.env)) (compPost (model X.prog X.w) X.A X.xe use Qf (.ref dd) s3.heap.objs.size) _
  generalize hce : compEnvC scope cl s3.heap.objs.size X.env = ce at J4 pg pt pk pv ⊢
  have cL : ce.locals = s3.heap.objs.size := by subst hce; rfl
  generalize hs4 : ({ s3 with heap := pushCells (s3.heap.push { cls := .type "dict", data := .dict #[] }) scope.names } : Shared) = s4 at J4 ⊢
  have st4 : tn 0 s4.heap := T.keep _ _ _ st3 fun b _ o z => by subst hs4; exact pushCells_keeps _ _ _ _ (Heap.get?_push_of_some _ z)
  have fpo : ∀ {σ' : L2.St} {H' : Hp} {s' : Shared}, Inv (X.blk s3 H3 scope ce fp) [] σ' H' s' → (∀ b ∈ fp, H' b = none) → ∀ b ∈ fp, FpOk (X.blk s3 H3 scope ce fp) [] H' b := fun {σ' H' s'} J' hn b hb =>
    ⟨hn b hb, (J'.ok.exf b hb).1, J'.ok.exfs b hb, .inl hb, fun x c z => (J'.ok.exf b hb).2 x c z, fun p hp => by simp at hp⟩
  have loop : codeAny (model X.prog X.w) X.A (.compLoop (.DictComp kx vx [⟨tg, iter, ifs, 0⟩] scope pos) 0 (.ref it) (.ref dd) ce) (compPost (model X.prog X.w) X.A X.xe use Qf (.ref dd) s3.heap.objs.size) s4 := by
    refine compLoop_anyD (fun n s' => ∃ i H', Inv (X.blk s3 H3 scope ce fp) [] (wipe σ (own.map (·.2))) H' s' ∧ tn i s'.heap ∧ (∀ b ∈ fp, H' b = none) ∧ W i n H') ?_ m0 ⟨0, H3, J4, st4, fun b hb => (f3 b hb).1.1, w0⟩
    intro n s5 ⟨i, H5, J5, st5, n5, w5⟩
    rcases turn i n H5 w5 with ⟨stop, qq⟩ | ⟨go, Nx, hNx, step⟩
    · refine thnF (T.done (X.blk s3 H3 scope ce fp) rfl rfl rfl calm i [] s5 _ H5 (fun _ _ => False) J5 (fpo J5 n5) st5 stop) fun r s6 ⟨hr, J6⟩ => ?_
      subst hr
      have J7 : Inv X pins σ H5 s6 := J3.call' (ch := fp) J6.os J6.base J6.hok J6.bare fun b hb => by
        obtain ⟨_, y1, y2, y3, y4, y5⟩ := (f3 b hb).1
        exact ⟨y3, y1, y4, y5⟩
      have nC : H5 s3.heap.objs.size = none := by rw [← cL]; exact J6.free
      obtain ⟨m, hn, _⟩ := J6.loc
      exact last dd s3.heap.objs.size s6 m H5 J7 qq (by rw [← cL]; exact hn) (J3.fpOk (Nat.le_refl _) nC)
    · refine thnF (T.item (X.blk s3 H3 scope ce fp) rfl rfl rfl calm i [] s5 _ H5 (fun _ _ => False) J5 (fpo J5 n5) st5 go) fun r s6 ⟨u, hr, h6⟩ => ?_
      subst hr
      refine thnF h6 fun _ s7 ⟨x, H7, J7, r7, y7, st7, n7⟩ => ?_
      refine thnF (pg.run _ s7 _ H7 x u _ (J7.pinned (fpo J7 n7) (T.obj _ _ st7)) r7 (step x H7 y7)) fun _ s8 ⟨σ8, H8, J8, hw8, q8⟩ => ?_
      refine thnF (pt.run _ s8 σ8 H8 _ J8 q8) fun c s9 ⟨H9, J9, q9⟩ => ?_
      have fin : ∀ {s' : Shared} {H' : Hp}, Inv (X.blk s3 H3 scope ce fp) ([] ++ pinsAt fp s7.heap) σ8 H' s' → Nx H' → ∃ m, m < n ∧ ∃ i H', Inv (X.blk s3 H3 scope ce fp) [] (wipe σ (own.map (·.2))) H' s' ∧ tn i s'.heap ∧ (∀ b ∈ fp, H' b = none) ∧ W i m H' := fun {s' H'} J' nx => by
        obtain ⟨m', hm, w'⟩ := hNx H' nx
        have pin' : ∀ b ∈ fp, ∀ o, s7.heap.get? b = some o → s'.heap.get? b = some o ∧ H' b = none := fun b hb o z => by
          have y := J'.pin (b, o) (List.mem_append_right _ (List.mem_append_right _ (mem_pinsAt hb z)))
          exact ⟨y.1, y.2.1⟩
        refine ⟨m', hm, i + 1, H', (J'.unpinned (pins := [])).weak (by rw [← hw8, wipe_length]) (fun j v z => ?_), T.keep _ _ _ st7 fun b hb o z => (pin' b hb o z).1, fun b hb => ?_, w'⟩
        · rw [← hw8] at z; exact (wipe_some z).1
        · obtain ⟨o, z, _⟩ := T.obj _ _ st7 b hb
          exact (pin' b hb o z).2
      cases c with
      | false => exact fin J9 (by simpa using q9)
      | true =>
        simp only [if_true] at q9 ⊢
        refine thnF (pk.run _ s9 σ8 H9 _ J9 q9) fun z s10 ⟨yk, H10, J10, r10, q10⟩ => ?_
        refine thnF (pv.run _ s10 σ8 H10 _ J10 q10) fun z2 s11 ⟨yv, H11, J11, r11, b, G, xs, ks, d, k, ey, sg, hD, hk, hd, hy, ek, hl, nx⟩ => ?_
        subst ey
        cases (show z = Value.ref b from r10)
        obtain ⟨e1, e2, _⟩ := keyOk_is ek
        exact n_set (X := X.blk s3 H3 scope ce fp) hu J11 sg hD hk hd hy e1 e2 hl r11 fun s12 J12 => fin J12 nx
  exact codeAny_compStart_dict loop (T.self X.A 0 _ _ _ st4 loop)
theorem pe_dcN {kx vx tg iter : Expr} {ifs : List Expr} {scope : Scope} {own : List (Str × Nat)} {pos : Pos} {wi : TI} {g : TG} {tt : TT} {tk tv : TE} (hu : X.A.units + 9 < cLine) (calm : X.calm = true) (nd : X.N.Nodup) (pi : PI X tg iter wi) (bo : BlkOk X.N X.env.scope scope own)
    (pgA : ∀ (s : Shared) (H : Hp) (C : Addr) (cl : List (Str × Addr)) (fp : List Addr), PG (X.blk s H scope (compEnvC scope cl C X.env) fp) tg g)
    (ptA : ∀ (s : Shared) (H : Hp) (C : Addr) (cl : List (Str × Addr)) (fp : List Addr), PTs (X.blk s H scope (compEnvC scope cl C X.env) fp) ifs tt)
    (pkA : ∀ (s : Shared) (H : Hp) (C : Addr) (cl : List (Str × Addr)) (fp : List Addr), PE (X.blk s H scope (compEnvC scope cl C X.env) fp) kx tk)
    (pvA : ∀ (s : Shared) (H : Hp) (C : Addr) (cl : List (Str × Addr)) (fp : List Addr), PE (X.blk s H scope (compEnvC scope cl C X.env) fp) vx tv) (fold : ∀ x, foldedSetIterable iter X.env x = pure x := by intro _; rfl) :
    PE X (.DictComp kx vx [⟨tg, iter, ifs, 0⟩] scope pos) (tDcN X.w X.K wi g tt tk tv (own.map (·.2))) := by
  refine ⟨fun pins s σ H Q J h => ?_⟩
  rw [arm_eval_DictComp]
  refine dcN_core hu calm nd J pi bo pgA ptA pkA pvA fold h fun dd C s' m H' J' q hn ⟨f0, f1, f2, f3, f4, f5⟩ => ⟨m, hn, fun h'' sb => ?_⟩
  exact ⟨.ref dd, H', J'.turned (t' := s'.toks) (fun b o hb e => (sb.2 b hb).trans e) f0 f1 f3 f4 f5, rfl, q⟩
end
end KD

/-! KD14: comprehensions over data: dicts, two clauses. -/
namespace KD
open PySem L2
/-- a new thing stands at L, beside the data -/
structure AccAt (L : Addr) (H1 G1 H G : Hp) : Prop where
  nL : H1 L = none
  nG : G L = none
  sG : Same G H
  gr : Grow H1 G1 (fun b => if b = L then none else H b) G
section
variable {K : PySem.W.Frag} {L : Addr} {H1 G1 H G H' G' : Hp} {o : HO} {σ : L2.St} {ρ : Ev}
theorem AccAt.new (s : Same G1 H1) (n : H1 L = none) : AccAt L H1 G1 (upd H1 L o) G1 := by
  have e : (fun b => if b = L then none else upd H1 L o b) = H1 := by
    funext b
    by_cases c : b = L
    · rw [if_pos c, c, n]
    · rw [if_neg c, upd_ne c]
  exact ⟨n, s.free n, s.trans (same_upd n), by rw [e]; exact Grow.refl s⟩
theorem AccAt.same (a : AccAt L H1 G1 H G) : Same H1 H := fun b o q => by
  have z := a.gr.hh b o q
  by_cases c : b = L
  · rw [c, a.nL] at q; cases q
  · simp only [if_neg c] at z; exact z
theorem AccAt.less (a : AccAt L H1 G1 H G) : Same (fun b => if b = L then none else H b) H := fun b o q => by
  by_cases c : b = L
  · simp only [if_pos c] at q; cases q
  · simp only [if_neg c] at q; exact q
theorem AccAt.grow (a : AccAt L H1 G1 H G) (hL : ∃ o, H L = some o) (g : Grow H G H' G') : AccAt L H1 G1 H' G' := by
  obtain ⟨o, hL⟩ := hL
  have nL2 : G' L = none := by
    cases e : G' L with
    | none => rfl
    | some u =>
      rcases g.nw L u e with z | z
      · rw [a.nG] at z; cases z
      · rw [hL] at z; cases z
  refine ⟨a.nL, nL2, g.gh, fun b o z => ?_, a.gr.gg.trans g.gg, fun b o z => ?_, fun b o z => ?_⟩
  · have c : b ≠ L := fun e => by rw [e, a.nL] at z; cases z
    simp only [if_neg c]; exact g.hh b o (a.same b o z)
  · have c : b ≠ L := fun e => by rw [e, nL2] at z; cases z
    simp only [if_neg c]; exact g.gh b o z
  · rcases g.nw b o z with z | z
    · exact a.gr.nw b o z
    · exact .inr (a.same.free z)
theorem AccAt.upd (a : AccAt L H1 G1 H G) : AccAt L H1 G1 (upd H L o) G := by
  have e : (fun b => if b = L then none else L2.upd H L o b) = (fun b => if b = L then none else H b) := by
    funext b
    by_cases c : b = L
    · rw [if_pos c, if_pos c]
    · rw [if_neg c, if_neg c, upd_ne c]
  exact ⟨a.nL, a.nG, fun b o z => by rw [upd_ne (ne_of_none z a.nG)]; exact a.sG b o z, by rw [e]; exact a.gr⟩
theorem AccAt.fin (a : AccAt L H1 G1 H G) (hL : H L = some o) : Grow H1 G1 H (L2.upd G L o) := by
  refine ⟨a.same, a.gr.gg.trans (same_upd a.nG), fun b o q => ?_, fun b o q => ?_⟩
  · by_cases c : b = L
    · subst c; rw [upd_same] at q; cases q; exact hL
    · rw [upd_ne c] at q; exact a.sG b o q
  · by_cases c : b = L
    · subst c; exact .inr a.nL
    · rw [upd_ne c] at q; exact a.gr.nw b o q
theorem AccAt.beside (a : AccAt L H1 G1 H G) : Grow H1 G1 H G := ⟨a.same, a.gr.gg, a.sG, a.gr.nw⟩
theorem AccAt.rep (a : AccAt L H1 G1 H G) (r : Rep K G1 H1 σ ρ) : Rep K G H σ ρ := r.grow a.beside
theorem AccAt.whole (a : AccAt L H1 G1 H G) (hL : H L = some o) : L2.upd (fun b => if b = L then none else H b) L o = H := by
  funext b
  by_cases c : b = L
  · subst c; rw [upd_same, hL]
  · rw [upd_ne c, if_neg c]
end
theorem wipe_wipe (σ : L2.St) (vs : List Nat) : L2.wipe (L2.wipe σ vs) vs = L2.wipe σ vs := by
  apply List.ext_getElem?
  intro j
  rw [wipe_get, wipe_get, L2.wipe_length]
  by_cases c : j ∈ vs ∧ j < σ.length
  · rw [if_pos c, if_pos c]
  · rw [if_neg c]
/-! ### x = {k: v for ..}, the keys nested -/
def dcL (t : D → Ev → Option Ev) (c : Ev → Rs Bool) (fk fv : Ev → Rs D) (ρ : Ev) : List D → List D → List D → Rs (List D × List D)
  | [], ks, vs => .ok (ks, vs)
  | d :: ds, ks, vs => match t d ρ with
    | none => .bot
    | some ρ' => (c ρ').nox.bind fun b => if b = true then (fk ρ').nox.bind fun k => (fv ρ').nox.bind fun v => (match keyOk k with
      | some q => dcL t c fk fv ρ ds (setN ks vs k q v).1 (setN ks vs k q v).2
      | none => .bot) else dcL t c fk fv ρ ds ks vs
def sDcN (w : World) (i : Nat) (vs : List Nat) (it : Ev → Rs (List D)) (t : D → Ev → Option Ev) (c : Ev → Rs Bool) (fk fv : Ev → Rs D) : Ev → SR := fun ρ => (it ρ).sr fun ds =>
  if ds.length ≤ 1000000 then (dcL t c fk fv (wipeE vs ρ) ds [] []).sr fun p => .nx (ρ.set i (.on w p.1 p.2)) else .bot
theorem setN_len (ks vs : List D) (k : D) (q : NestedKey) (y : D) : (setN ks vs k q y).1.length ≤ ks.length + 1 := by
  unfold setN
  split
  · simp
  · simp
section
variable {X : Cx} {E : XK} {it : Ev → Rs (List D)} {t : D → Ev → Option Ev} {g : TG} {fc : Ev → Rs Bool} {fk fv fe : Ev → Rs D} {st : Stmt}
theorem ds_dcN {vs : List Nat} {i : Nat} (ht : TgOk X.K g t vs) (h : PS X st (tAsg (tDcN X.w X.K (tDI X.K E it) g (tDT X.K E0 fc) (tD X.K E0 fk) (tD X.K E0 fv) vs) (gName i))) : DS X E st (sDcN X.w i vs it t fc fk fv) := by
  refine psI h fun Dn σ H ⟨H0, G0, ρ, G, at_, fi⟩ => ?_
  refine ⟨ρ, G, at_.gr.gh, at_.rep, (fi.sr at_).imp fun ds H1 G1 g1 ⟨a1, fi1⟩ J hJ L nL => ?_⟩
  have hz : ds.length ≤ 1000000 := by
    by_cases c : ds.length ≤ 1000000
    · exact c
    · rw [if_neg c] at fi1; exact False.elim fi1
  rw [if_pos hz] at fi1
  refine ⟨fun j m H => m = ds.length - j ∧ j ≤ ds.length ∧ ∃ G xs ks ys, H L = some (dnO X.w L xs) ∧ AccAt L H1 G1 H G ∧ D.nks ks = some (xs.map (·.1)) ∧ DpAll X.K G (xs.map fun p => V.ref p.2.1) ks ∧ DpAll X.K G (xs.map fun p => p.2.2) ys ∧ ks.length ≤ j ∧ FiS X.K E H0 G0 G1 ((dcL t fc fk fv (wipeE vs ρ) (ds.drop j) ks ys).sr fun p => .nx (ρ.set i (.on X.w p.1 p.2))) Dn,
    ⟨ds.length, by simp, Nat.zero_le _, G1, [], [], [], upd_same, AccAt.new a1.gr.gh nL, rfl, .nil, .nil, Nat.le_refl _, by simpa using fi1⟩, ?_⟩
  rintro j m H ⟨rfl, hj, G, xs, ks, ys, hL, ac, z1, z2, z3, hk, fi⟩
  have sJ : Same G1 H := a1.gr.gh.trans ac.same
  by_cases hlt : j < ds.length
  · refine .inr ⟨hJ.go j H sJ hlt, fun H' => ∃ G xs ks ys, H' L = some (dnO X.w L xs) ∧ AccAt L H1 G1 H' G ∧ D.nks ks = some (xs.map (·.1)) ∧ DpAll X.K G (xs.map fun p => V.ref p.2.1) ks ∧ DpAll X.K G (xs.map fun p => p.2.2) ys ∧ ks.length ≤ j + 1 ∧ FiS X.K E H0 G0 G1 ((dcL t fc fk fv (wipeE vs ρ) (ds.drop (j + 1)) ks ys).sr fun p => .nx (ρ.set i (.on X.w p.1 p.2))) Dn, fun H' q => ⟨ds.length - (j + 1), by omega, rfl, hlt, q⟩, fun x H' hy' => ?_⟩
    obtain ⟨rfl, hy2⟩ := hJ.yld j H x H' sJ hy'
    have hx : Dp X.K G x ds[j] := (hy2 ds[j] (by simp [hlt])).up ac.gr.gg
    rw [List.drop_eq_getElem_cons hlt] at fi
    unfold dcL at fi
    cases q : t ds[j] (wipeE vs ρ) with
    | none => rw [q] at fi; exact False.elim fi
    | some ρ' =>
      rw [q] at fi
      dsimp only at fi
      have rep0 := wipe_rep vs (ac.rep a1.rep)
      refine ht x ds[j] _ _ ρ' _ G _ ac.sG hx rep0 q fun σ' hw hr _ => ⟨by rw [hw]; exact wipe_wipe σ vs, ?_⟩
      cases qc : fc ρ' with
      | xc => rw [qc] at fi; exact False.elim fi
      | bot => rw [qc] at fi; exact False.elim fi
      | ok b =>
        rw [qc, Rs.nox_ok, Rs.bind_ok] at fi
        refine ⟨ρ', G, ac.sG, hr rep0, ?_⟩
        rw [qc]
        intro H2 G2 g2
        have ac2 := ac.grow ⟨_, hL⟩ g2
        have hL2 := g2.hh _ _ hL
        cases b with
        | false => exact iteF ⟨G2, xs, ks, ys, hL2, ac2, z1, z2.up g2.gg, z3.up g2.gg, by omega, fi⟩
        | true =>
          rw [if_pos rfl] at fi
          refine iteT ?_
          cases qk : fk ρ' with
          | xc => rw [qk] at fi; exact False.elim fi
          | bot => rw [qk] at fi; exact False.elim fi
          | ok dk =>
            rw [qk, Rs.nox_ok, Rs.bind_ok] at fi
            refine ⟨ρ', G2, g2.gh, (hr rep0).grow g2, ?_⟩
            rw [qk]
            intro H3 G3 g3 vk hvk
            have ac3 := ac2.grow ⟨_, hL2⟩ g3
            have hL3 := g3.hh _ _ hL2
            cases qv : fv ρ' with
            | xc => rw [qv] at fi; exact False.elim fi
            | bot => rw [qv] at fi; exact False.elim fi
            | ok dv =>
              rw [qv, Rs.nox_ok, Rs.bind_ok] at fi
              refine ⟨ρ', G3, g3.gh, ((hr rep0).grow g2).grow g3, ?_⟩
              rw [qv]
              intro H4 G4 g4 vv hvv
              have ac4 := ac3.grow ⟨_, hL3⟩ g4
              have hL4 := g4.hh _ _ hL3
              cases ek : keyOk dk with
              | none => rw [ek] at fi; exact False.elim fi
              | some kq =>
                rw [ek] at fi
                dsimp only at fi
                have hvk4 := hvk.up g4.gg
                obtain ⟨e1, e2, dz, rfl⟩ := keyOk_is ek
                obtain ⟨b, rfl⟩ := tup_ref hvk4
                have gg := (g2.gg.trans g3.gg).trans g4.gg
                obtain ⟨w1, w2, w3⟩ := set_at hvv hvk4 e1 z1 (z2.up gg) (z3.up gg)
                have hlen : ks.length = xs.length := by rw [nks_len z1, List.length_map]
                have sl := setN_len ks ys (.tup dz) kq dv
                exact ⟨b, G4, xs, ks, _, kq, rfl, ac4.sG, hL4, z1, z2.up gg, hvk4, ek, lt_line (by omega), G4, putN xs kq b vv, _, _, upd_same, ac4.upd, w1, w2, w3, by omega, fi⟩
  · have e : j = ds.length := by omega
    subst e
    rw [List.drop_length] at fi
    refine .inl ⟨hJ.stop H sJ, ?_⟩
    have a2 : At X.K H0 G0 (fun b => if b = L then none else H b) G σ ρ := a1.grow ac.gr
    have a3 := a2.newOn (i := i) (p := L) (w := X.w) (xs := xs) (ks := ks) (vs := ys) (by simp) z1 z2 z3
    rw [ac.whole hL] at a3
    exact fi _ H G ac.gr.gg a3
end
/-! ### {k: v for ..}, the keys texts or ints: data -/
def storeD : List D → List D → Key → D → List D
  | k :: ks, v :: vs, q, y => if k.key = some q then y :: storeD ks vs q y else v :: storeD ks vs q y
  | _, vs, _, _ => vs
def setD (ks vs : List D) (k : D) (q : Key) (y : D) : List D × List D :=
  if (lookD ks vs q).isSome then (ks, storeD ks vs q y) else (ks ++ [k], vs ++ [y])
theorem store_val {K : PySem.W.Frag} {G : Hp} {q : Key} {y : V} {d : D} (hy : Dp K G y d) : ∀ {kvs : List (Key × V)} {ks vs : List D}, DpAll K G (kvs.map fun p => kV p.1) ks → DpAll K G (kvs.map (·.2)) vs →
    DpAll K G ((kvs.map fun kv => if kv.1 = q then (kv.1, y) else kv).map (·.2)) (storeD ks vs q d)
  | [], ks, vs, e, h => by cases e; cases h; exact .nil
  | p :: kvs, ks, vs, e, h => by
    cases e with
    | @cons _ _ k ks e1 e2 =>
      cases h with
      | @cons _ _ v vs h1 h2 =>
        have ih := store_val (q := q) hy e2 h2
        have ek := Dp.keyD e1
        unfold storeD
        by_cases c : p.1 = q
        · rw [if_pos (by rw [ek, c])]
          simp only [List.map_cons, if_pos c]
          exact .cons hy ih
        · rw [if_neg (by rw [ek]; intro z; exact c (Option.some.inj z))]
          simp only [List.map_cons, if_neg c]
          exact .cons h1 ih
theorem set_val {K : PySem.W.Frag} {G : Hp} {q : Key} {y : V} {d dk : D} (hy : Dp K G y d) (hb : Dp K G (kV q) dk) {kvs : List (Key × V)} {ks vs : List D} (e : DpAll K G (kvs.map fun p => kV p.1) ks) (h : DpAll K G (kvs.map (·.2)) vs) :
    DpAll K G ((putK kvs q y).map fun p => kV p.1) (setD ks vs dk q d).1 ∧ DpAll K G ((putK kvs q y).map (·.2)) (setD ks vs dk q d).2 := by
  have la := look_val (q := q) e h
  unfold setD putK
  rw [valV_any]
  cases c : lookD ks vs q with
  | some z =>
    obtain ⟨v, ev, _⟩ := la.1 z c
    rw [if_pos (by rw [ev]; rfl), if_pos (by rfl)]
    have e1 : ((kvs.map fun kv => if kv.1 = q then (kv.1, y) else kv).map fun p => kV p.1) = kvs.map fun p => kV p.1 := by
      rw [List.map_map]
      refine List.map_congr_left fun x _ => ?_
      show kV (if x.1 = q then (x.1, y) else x).1 = kV x.1
      split <;> rfl
    exact ⟨by rw [e1]; exact e, store_val hy e h⟩
  | none =>
    have ln := la.2 c
    rw [if_neg (by rw [ln]; simp), if_neg (by simp)]
    refine ⟨?_, ?_⟩
    · rw [List.map_append]; exact e.append (.cons hb .nil)
    · rw [List.map_append]; exact h.append (.cons hy .nil)
theorem setD_len (ks vs : List D) (k : D) (q : Key) (y : D) : (setD ks vs k q y).1.length ≤ ks.length + 1 := by
  unfold setD
  split
  · simp
  · simp
def dcK (t : D → Ev → Option Ev) (c : Ev → Rs Bool) (fk fv : Ev → Rs D) (ρ : Ev) : List D → List D → List D → Rs (List D × List D)
  | [], ks, vs => .ok (ks, vs)
  | d :: ds, ks, vs => match t d ρ with
    | none => .bot
    | some ρ' => (c ρ').nox.bind fun b => if b = true then (fk ρ').nox.bind fun k => (fv ρ').nox.bind fun v => (match k.key with
      | some q => dcK t c fk fv ρ ds (setD ks vs k q v).1 (setD ks vs k q v).2
      | none => .bot) else dcK t c fk fv ρ ds ks vs
def dDc (vs : List Nat) (it : Ev → Rs (List D)) (t : D → Ev → Option Ev) (c : Ev → Rs Bool) (fk fv : Ev → Rs D) : Ev → Rs D := fun ρ => (it ρ).bind fun ds =>
  if ds.length ≤ 1000000 then (dcK t c fk fv (wipeE vs ρ) ds [] []).bind fun p => .ok (.dic p.1 p.2) else .bot
section
variable {X : Cx} {E : XK} {e : Expr} {it : Ev → Rs (List D)} {t : D → Ev → Option Ev} {g : TG} {fc : Ev → Rs Bool} {fk fv fe : Ev → Rs D} {st : Stmt}
theorem de_dc {vs : List Nat} (ht : TgOk X.K g t vs) (h : PE X e (tDc (tDI X.K E it) g (tDT X.K E0 fc) (tD X.K E0 fk) (tD X.K E0 fv) vs)) : DE X E e (dDc vs it t fc fk fv) := by
  refine peI h fun σ H Q ⟨ρ, G, s, r, fi⟩ => ?_
  refine ⟨ρ, G, s, r, fi.bind.imp fun ds H1 G1 g1 fi1 J hJ L nL => ?_⟩
  have hz : ds.length ≤ 1000000 := by
    by_cases c : ds.length ≤ 1000000
    · exact c
    · rw [if_neg c] at fi1; exact False.elim fi1
  rw [if_pos hz] at fi1
  have r1 := r.grow g1
  refine ⟨fun j m H => m = ds.length - j ∧ j ≤ ds.length ∧ ∃ G kvs ks ys, H L = some (.dK kvs) ∧ AccAt L H1 G1 H G ∧ DpAll X.K G (kvs.map fun p => kV p.1) ks ∧ DpAll X.K G (kvs.map (·.2)) ys ∧ ks.length ≤ j ∧ Fi X.K E H1 G1 ((dcK t fc fk fv (wipeE vs ρ) (ds.drop j) ks ys).bind fun p => .ok (.dic p.1 p.2)) (fun d H' G' => ∀ v, Dp X.K G' v d → Q v H'),
    ⟨ds.length, by simp, Nat.zero_le _, G1, [], [], [], upd_same, AccAt.new g1.gh nL, .nil, .nil, Nat.le_refl _, by simpa using fi1⟩, ?_⟩
  rintro j m H ⟨rfl, hj, G, xs, ks, ys, hL, ac, z2, z3, hk, fi⟩
  have sJ : Same G1 H := g1.gh.trans ac.same
  by_cases hlt : j < ds.length
  · refine .inr ⟨hJ.go j H sJ hlt, fun H' => ∃ G kvs ks ys, H' L = some (.dK kvs) ∧ AccAt L H1 G1 H' G ∧ DpAll X.K G (kvs.map fun p => kV p.1) ks ∧ DpAll X.K G (kvs.map (·.2)) ys ∧ ks.length ≤ j + 1 ∧ Fi X.K E H1 G1 ((dcK t fc fk fv (wipeE vs ρ) (ds.drop (j + 1)) ks ys).bind fun p => .ok (.dic p.1 p.2)) (fun d H' G' => ∀ v, Dp X.K G' v d → Q v H'), fun H' q => ⟨ds.length - (j + 1), by omega, rfl, hlt, q⟩, fun x H' hy' => ?_⟩
    obtain ⟨rfl, hy2⟩ := hJ.yld j H x H' sJ hy'
    have hx : Dp X.K G x ds[j] := (hy2 ds[j] (by simp [hlt])).up ac.gr.gg
    rw [List.drop_eq_getElem_cons hlt] at fi
    unfold dcK at fi
    cases q : t ds[j] (wipeE vs ρ) with
    | none => rw [q] at fi; exact False.elim fi
    | some ρ' =>
      rw [q] at fi
      dsimp only at fi
      have rep0 := wipe_rep vs (ac.rep r1)
      refine ht x ds[j] _ _ ρ' _ G _ ac.sG hx rep0 q fun σ' hw hr _ => ⟨by rw [hw]; exact wipe_wipe σ vs, ?_⟩
      cases qc : fc ρ' with
      | xc => rw [qc] at fi; exact False.elim fi
      | bot => rw [qc] at fi; exact False.elim fi
      | ok b =>
        rw [qc, Rs.nox_ok, Rs.bind_ok] at fi
        refine ⟨ρ', G, ac.sG, hr rep0, ?_⟩
        rw [qc]
        intro H2 G2 g2
        have ac2 := ac.grow ⟨_, hL⟩ g2
        have hL2 := g2.hh _ _ hL
        cases b with
        | false => exact iteF ⟨G2, xs, ks, ys, hL2, ac2, z2.up g2.gg, z3.up g2.gg, by omega, fi⟩
        | true =>
          rw [if_pos rfl] at fi
          refine iteT ?_
          cases qk : fk ρ' with
          | xc => rw [qk] at fi; exact False.elim fi
          | bot => rw [qk] at fi; exact False.elim fi
          | ok dk =>
            rw [qk, Rs.nox_ok, Rs.bind_ok] at fi
            refine ⟨ρ', G2, g2.gh, (hr rep0).grow g2, ?_⟩
            rw [qk]
            intro H3 G3 g3 vk hvk
            have ac3 := ac2.grow ⟨_, hL2⟩ g3
            have hL3 := g3.hh _ _ hL2
            cases qv : fv ρ' with
            | xc => rw [qv] at fi; exact False.elim fi
            | bot => rw [qv] at fi; exact False.elim fi
            | ok dv =>
              rw [qv, Rs.nox_ok, Rs.bind_ok] at fi
              refine ⟨ρ', G3, g3.gh, ((hr rep0).grow g2).grow g3, ?_⟩
              rw [qv]
              intro H4 G4 g4 vv hvv
              have ac4 := ac3.grow ⟨_, hL3⟩ g4
              have hL4 := g4.hh _ _ hL3
              cases ek : dk.key with
              | none => rw [ek] at fi; exact False.elim fi
              | some kq =>
                rw [ek] at fi
                dsimp only at fi
                have hvk4 := hvk.up g4.gg
                have ev := Dp.keyV hvk4 ek
                subst ev
                have gg := (g2.gg.trans g3.gg).trans g4.gg
                obtain ⟨w2, w3⟩ := set_val hvv hvk4 (z2.up gg) (z3.up gg)
                have hlen : xs.length = ks.length := by have := z2.length; rwa [List.length_map] at this
                have sl := setD_len ks ys dk kq dv
                exact ⟨xs, kq, rfl, hL4, lt_line (by omega), G4, putK xs kq vv, _, _, upd_same, ac4.upd, w2, w3, by omega, fi⟩
  · have e : j = ds.length := by omega
    subst e
    rw [List.drop_length] at fi
    refine .inl ⟨hJ.stop H sJ, ?_⟩
    have fi2 : Fi X.K E H1 G1 (.ok (.dic ks ys)) (fun d H' G' => ∀ v, Dp X.K G' v d → Q v H') := fi
    exact fi2 H _ (ac.fin hL) _ (.dic upd_same (z2.up (same_upd ac.nG)) (z3.up (same_upd ac.nG)))
end
end KD

/-! KD15: list comprehensions of two clauses. -/
namespace KD
open PySem L2
def less (L : Addr) (H : Hp) : Hp := fun b => if b = L then none else H b
section
variable {K : PySem.W.Frag} {L : Addr} {H1 G1 H2 G2 H G H' G' : Hp} {o : HO} {σ : L2.St} {ρ : Ev}
theorem AccAt.trans (a : AccAt L H1 G1 H2 G2) (b : AccAt L (KD.less L H2) G2 H G) : AccAt L H1 G1 H G := ⟨a.nL, b.nG, b.sG, a.gr.trans b.gr⟩
theorem same_less (s : Same G H) (n : G L = none) : Same G (less L H) := fun b o q => by
  have c : b ≠ L := fun e => by rw [e, n] at q; cases q
  show (if b = L then none else H b) = some o
  rw [if_neg c]; exact s b o q
theorem AccAt.self (a : AccAt L H1 G1 H G) : AccAt L (KD.less L H) G H G := ⟨if_pos rfl, a.nG, a.sG, Grow.refl (same_less a.sG a.nG)⟩
theorem Rep.less (r : Rep K G H σ ρ) (h : ∀ (i : Nat) (s : Sl) (a : Addr), ρ[i]? = some s → s.own = true → σ[i]? = some (some (.ref a)) → a ≠ L) : Rep K G (less L H) σ ρ := by
  refine ⟨r.len, fun i s o h1 h2 => ?_, r.dis⟩
  have q := r.sl i s o h1 h2
  have at_ : ∀ (a : Addr) (u : HO), s.own = true → o = some (.ref a) → H a = some u → KD.less L H a = some u := fun a u ho e z => by
    subst e
    show (if a = L then none else H a) = some u
    rw [if_neg (h i s a h1 ho h2)]; exact z
  cases s with
  | no => trivial
  | dt d => exact q
  | ol xs => obtain ⟨b, vs, e, q1, q2⟩ := q; exact ⟨b, vs, e, at_ b _ rfl e q1, q2⟩
  | od ks vs => obtain ⟨b, us, e, q1, q2⟩ := q; exact ⟨b, us, e, at_ b _ rfl e q1, q2⟩
  | oo pp c ns fs => obtain ⟨b, dx, us, ep, e, q1, q2⟩ := q; exact ⟨b, dx, us, ep, e, at_ b _ rfl e q1, q2⟩
  | on w ks vs => obtain ⟨b, us, e, q1, q2⟩ := q; exact ⟨b, us, e, at_ b _ rfl e q1, q2⟩
  | rf a => exact q
  | ex a od ns fs => exact q
theorem Rep.noL (r : Rep K G1 H1 σ ρ) (n : H1 L = none) : ∀ (i : Nat) (s : Sl) (a : Addr), ρ[i]? = some s → s.own = true → σ[i]? = some (some (.ref a)) → a ≠ L := fun i s a h1 h2 h3 e => by
  obtain ⟨⟨u, hu⟩, _⟩ := r.addr h1 h2 h3
  rw [e, n] at hu; cases hu
/-- a target's slots, L not among them -/
theorem tg_noL (sG : Same G H) (nG : G L = none) (hL : H L = some o) (r : Rep K G H σ ρ) (h : ∀ (i : Nat) (s : Sl) (a : Addr), ρ[i]? = some s → s.own = true → σ[i]? = some (some (.ref a)) → a ≠ L) {σ' : L2.St} {ρ' : Ev}
    (f : ∀ H0 G0, At K H0 G0 H G σ ρ → At K H0 G0 H G σ' ρ') : ∀ (i : Nat) (s : Sl) (a : Addr), ρ'[i]? = some s → s.own = true → σ'[i]? = some (some (.ref a)) → a ≠ L := by
  have a0 : At K (fun b => if b = L then some o else none) (fun _ => none) H G σ ρ := by
    refine ⟨⟨fun b u q => ?_, (fun _ _ q => by cases q), sG, fun b u q => ?_⟩, r, fun i s a h1 h2 h3 => ?_⟩
    · by_cases c : b = L
      · simp only [if_pos c] at q; cases q; rw [c]; exact hL
      · simp only [if_neg c] at q; cases q
    · by_cases c : b = L
      · rw [c, nG] at q; cases q
      · right; simp only [if_neg c]
    · simp only [if_neg (h i s a h1 h2 h3)]
  have a1 := f _ _ a0
  intro i s a h1 h2 h3 e
  have z := a1.own i s a h1 h2 h3
  subst e
  simp only [if_true] at z
  cases z
end
def comp2L (t : D → Ev → Option Ev) (c : Ev → Rs Bool) (vs1 : List Nat) (it1 : Ev → Rs (List D)) (t1 : D → Ev → Option Ev) (c1 : Ev → Rs Bool) (f : Ev → Rs D) (ρ : Ev) : List D → Rs (List D)
  | [] => .ok []
  | d :: ds => match t d ρ with
    | none => .bot
    | some ρ' => (c ρ').nox.bind fun b => if b = true then (it1 ρ').nox.bind fun es => (if es.length ≤ 100 then
        (compL t1 c1 f (wipeE vs1 ρ') es).bind fun ys => (comp2L t c vs1 it1 t1 c1 f ρ ds).bind fun zs => .ok (ys ++ zs) else .bot)
      else comp2L t c vs1 it1 t1 c1 f ρ ds
def dComp2 (vs vs1 : List Nat) (it : Ev → Rs (List D)) (t : D → Ev → Option Ev) (c : Ev → Rs Bool) (it1 : Ev → Rs (List D)) (t1 : D → Ev → Option Ev) (c1 : Ev → Rs Bool) (f : Ev → Rs D) : Ev → Rs D := fun ρ => (it ρ).bind fun ds =>
  if ds.length ≤ 100000 then (comp2L t c vs1 it1 t1 c1 f (wipeE vs ρ) ds).bind fun ys => .ok (.lst ys) else .bot
section
variable {X : Cx} {E : XK} {e : Expr} {it it1 : Ev → Rs (List D)} {t t1 : D → Ev → Option Ev} {g g1 : TG} {fc fc1 : Ev → Rs Bool} {fe : Ev → Rs D} {st : Stmt}
theorem lc2_imp {vs vs1 : List Nat} (ht : TgOk X.K g t vs) (ht1 : TgOk X.K g1 t1 vs1) : ∀ σ H Q, tD X.K E (dComp2 vs vs1 it t fc it1 t1 fc1 fe) σ H Q → tLc2 (tDI X.K E it) g (tDT X.K E0 fc) (tDI X.K E0 it1) g1 (tDT X.K E0 fc1) (tD X.K E0 fe) vs vs1 σ H Q := by
  intro σ H Q ⟨ρ, G, s, r, fi⟩
  refine ⟨ρ, G, s, r, fi.bind.imp fun ds H1 G1 g1' fi1 J hJ L nL => ?_⟩
  have hz : ds.length ≤ 100000 := by
    by_cases c : ds.length ≤ 100000
    · exact c
    · rw [if_neg c] at fi1; exact False.elim fi1
  rw [if_pos hz] at fi1
  have r1 := r.grow g1'
  refine ⟨fun j m H => m = ds.length - j ∧ j ≤ ds.length ∧ ∃ G acc ys, H L = some (.lst acc) ∧ AccAt L H1 G1 H G ∧ DpAll X.K G acc ys ∧ ys.length ≤ 100 * j ∧ Fi X.K E H1 G1 ((comp2L t fc vs1 it1 t1 fc1 fe (wipeE vs ρ) (ds.drop j)).bind fun zs => .ok (.lst (ys ++ zs))) (fun d H' G' => ∀ v, Dp X.K G' v d → Q v H'),
    ⟨ds.length, by simp, Nat.zero_le _, G1, [], [], upd_same, AccAt.new g1'.gh nL, .nil, Nat.le_refl _, by simpa using fi1⟩, ?_⟩
  rintro j m H ⟨rfl, hj, G, acc, ys, hL, ac, da, hy, fi⟩
  have sJ : Same G1 H := g1'.gh.trans ac.same
  by_cases hlt : j < ds.length
  · refine .inr ⟨hJ.go j H sJ hlt, fun H' => ∃ G acc ys, H' L = some (.lst acc) ∧ AccAt L H1 G1 H' G ∧ DpAll X.K G acc ys ∧ ys.length ≤ 100 * (j + 1) ∧ Fi X.K E H1 G1 ((comp2L t fc vs1 it1 t1 fc1 fe (wipeE vs ρ) (ds.drop (j + 1))).bind fun zs => .ok (.lst (ys ++ zs))) (fun d H' G' => ∀ v, Dp X.K G' v d → Q v H'), fun H' q => ⟨ds.length - (j + 1), by omega, rfl, hlt, q⟩, fun x H' hy' => ?_⟩
    obtain ⟨rfl, hy2⟩ := hJ.yld j H x H' sJ hy'
    have hx : Dp X.K G x ds[j] := (hy2 ds[j] (by simp [hlt])).up ac.gr.gg
    rw [List.drop_eq_getElem_cons hlt] at fi
    unfold comp2L at fi
    cases q : t ds[j] (wipeE vs ρ) with
    | none => rw [q] at fi; exact False.elim fi
    | some ρ' =>
      rw [q] at fi
      dsimp only at fi
      have rep0 := wipe_rep vs (ac.rep r1)
      have nl0 := (wipe_rep vs r1).noL nL
      refine ht x ds[j] _ _ ρ' _ G _ ac.sG hx rep0 q fun σ2 hw hr hat => ⟨by rw [hw]; exact wipe_wipe σ vs, ?_⟩
      have nl2 := tg_noL ac.sG ac.nG hL rep0 nl0 hat
      cases qc : fc ρ' with
      | xc => rw [qc] at fi; exact False.elim fi
      | bot => rw [qc] at fi; exact False.elim fi
      | ok b =>
        rw [qc, Rs.nox_ok, Rs.bind_ok] at fi
        refine ⟨ρ', G, ac.sG, hr rep0, ?_⟩
        rw [qc]
        intro H3 G3 g3
        have ac3 := ac.grow ⟨_, hL⟩ g3
        have hL3 := g3.hh _ _ hL
        cases b with
        | false => exact iteF ⟨G3, acc, ys, hL3, ac3, da.up g3.gg, by omega, fi⟩
        | true =>
          rw [if_pos rfl] at fi
          refine iteT ?_
          cases qi : it1 ρ' with
          | xc => rw [qi] at fi; exact False.elim fi
          | bot => rw [qi] at fi; exact False.elim fi
          | ok es =>
            rw [qi, Rs.nox_ok, Rs.bind_ok] at fi
            have hes : es.length ≤ 100 := by
              by_cases c : es.length ≤ 100
              · exact c
              · rw [if_neg c] at fi; exact False.elim fi
            rw [if_pos hes] at fi
            refine ⟨ρ', G3, g3.gh, (hr rep0).grow g3, ?_⟩
            rw [qi]
            intro H4 G4 g4 J1 hJ1
            have ac4 := ac3.grow ⟨_, hL3⟩ g4
            have hL4 := g4.hh _ _ hL3
            have r4 : Rep X.K G4 (less L H4) σ2 ρ' := Rep.less (((hr rep0).grow g3).grow g4) nl2
            refine ⟨fun k m H => m = es.length - k ∧ k ≤ es.length ∧ ∃ G acc us, H L = some (.lst acc) ∧ AccAt L (less L H4) G4 H G ∧ DpAll X.K G acc us ∧ us.length ≤ 100 * j + k ∧ Fi X.K E H1 G1 ((compL t1 fc1 fe (wipeE vs1 ρ') (es.drop k)).bind fun zs => (comp2L t fc vs1 it1 t1 fc1 fe (wipeE vs ρ) (ds.drop (j + 1))).bind fun ws => .ok (.lst (us ++ (zs ++ ws)))) (fun d H' G' => ∀ v, Dp X.K G' v d → Q v H'),
              ⟨es.length, by simp, Nat.zero_le _, G4, acc, ys, hL4, ac4.self, da.up (g3.gg.trans g4.gg), by omega, ?_⟩, ?_⟩
            · rw [List.drop_zero]
              cases q3 : compL t1 fc1 fe (wipeE vs1 ρ') es with
              | xc => rw [q3] at fi; exact fi
              | bot => rw [q3] at fi; exact fi
              | ok zs =>
                rw [q3] at fi
                simp only [Rs.bind_ok] at fi ⊢
                cases q4 : comp2L t fc vs1 it1 t1 fc1 fe (wipeE vs ρ) (ds.drop (j + 1)) with
                | xc => rw [q4] at fi; exact fi
                | bot => rw [q4] at fi; exact fi
                | ok ws => rw [q4] at fi; exact fi
            rintro k m H5 ⟨rfl, hk, G5, acc5, us, hL5, ac5, da5, hu5, fi5⟩
            have sJ5 : Same G4 H5 := fun b o z => ac5.sG b o (ac5.gr.gg b o z)
            by_cases hlk : k < es.length
            · refine .inr ⟨hJ1.go k H5 sJ5 hlk, fun H => ∃ G acc us, H L = some (.lst acc) ∧ AccAt L (less L H4) G4 H G ∧ DpAll X.K G acc us ∧ us.length ≤ 100 * j + (k + 1) ∧ Fi X.K E H1 G1 ((compL t1 fc1 fe (wipeE vs1 ρ') (es.drop (k + 1))).bind fun zs => (comp2L t fc vs1 it1 t1 fc1 fe (wipeE vs ρ) (ds.drop (j + 1))).bind fun ws => .ok (.lst (us ++ (zs ++ ws)))) (fun d H' G' => ∀ v, Dp X.K G' v d → Q v H'), fun H' q => ⟨es.length - (k + 1), by omega, rfl, hlk, q⟩, fun x5 H5' hy5 => ?_⟩
              obtain ⟨rfl, hy6⟩ := hJ1.yld k H5 x5 H5' sJ5 hy5
              have hx5 : Dp X.K G5 x5 es[k] := (hy6 es[k] (by simp [hlk])).up ac5.gr.gg
              rw [List.drop_eq_getElem_cons hlk] at fi5
              unfold compL at fi5
              cases q5 : t1 es[k] (wipeE vs1 ρ') with
              | none => rw [q5] at fi5; exact False.elim fi5
              | some ρ5 =>
                rw [q5] at fi5
                dsimp only at fi5
                have rep5 := wipe_rep vs1 (ac5.rep r4)
                refine ht1 x5 es[k] _ _ ρ5 _ G5 _ ac5.sG hx5 rep5 q5 fun σ5 hw5 hr5 _ => ⟨by rw [hw5]; exact wipe_wipe σ2 vs1, ?_⟩
                cases qc5 : fc1 ρ5 with
                | xc => rw [qc5] at fi5; exact False.elim fi5
                | bot => rw [qc5] at fi5; exact False.elim fi5
                | ok b5 =>
                  rw [qc5, Rs.nox_ok, Rs.bind_ok] at fi5
                  refine ⟨ρ5, G5, ac5.sG, hr5 rep5, ?_⟩
                  rw [qc5]
                  intro H6 G6 g6
                  have ac6 := ac5.grow ⟨_, hL5⟩ g6
                  have hL6 := g6.hh _ _ hL5
                  cases b5 with
                  | false => exact iteF ⟨G6, acc5, us, hL6, ac6, da5.up g6.gg, by omega, fi5⟩
                  | true =>
                    rw [if_pos rfl] at fi5
                    refine iteT ?_
                    cases qe : fe ρ5 with
                    | xc => rw [qe] at fi5; exact False.elim fi5
                    | bot => rw [qe] at fi5; exact False.elim fi5
                    | ok y =>
                      rw [qe, Rs.nox_ok, Rs.bind_ok] at fi5
                      refine ⟨ρ5, G6, g6.gh, (hr5 rep5).grow g6, ?_⟩
                      rw [qe]
                      intro H7 G7 g7 v hv
                      have ac7 := ac6.grow ⟨_, hL6⟩ g7
                      have hL7 := g7.hh _ _ hL6
                      have la := da5.length
                      refine ⟨acc5, hL7, by rw [sizeLine_eq]; omega, G7, acc5 ++ [v], us ++ [y], upd_same, ac7.upd, (da5.up (g6.trans g7).gg).append (.cons hv .nil), by simp; omega, ?_⟩
                      cases q7 : compL t1 fc1 fe (wipeE vs1 ρ') (es.drop (k + 1)) with
                      | xc => rw [q7] at fi5; exact fi5
                      | bot => rw [q7] at fi5; exact fi5
                      | ok zs =>
                        rw [q7] at fi5
                        simp only [Rs.bind_ok] at fi5 ⊢
                        cases q8 : comp2L t fc vs1 it1 t1 fc1 fe (wipeE vs ρ) (ds.drop (j + 1)) with
                        | xc => rw [q8] at fi5; exact fi5
                        | bot => rw [q8] at fi5; exact fi5
                        | ok ws =>
                          rw [q8] at fi5
                          simp only [Rs.bind_ok] at fi5 ⊢
                          rw [List.append_assoc]
                          exact fi5
            · have e : k = es.length := by omega
              subst e
              rw [List.drop_length] at fi5
              refine .inl ⟨hJ1.stop H5 sJ5, G5, acc5, us, hL5, ac4.trans ac5, da5, by omega, ?_⟩
              simpa [compL] using fi5
  · have e : j = ds.length := by omega
    subst e
    rw [List.drop_length] at fi
    refine .inl ⟨hJ.stop H sJ, ?_⟩
    have fi2 : Fi X.K E H1 G1 (.ok (.lst ys)) (fun d H' G' => ∀ v, Dp X.K G' v d → Q v H') := by simpa [comp2L] using fi
    exact fi2 H _ (ac.fin hL) _ (.lst upd_same (da.up (same_upd ac.nG)))
theorem de_lc2 {vs vs1 : List Nat} (ht : TgOk X.K g t vs) (ht1 : TgOk X.K g1 t1 vs1) (h : PE X e (tLc2 (tDI X.K E it) g (tDT X.K E0 fc) (tDI X.K E0 it1) g1 (tDT X.K E0 fc1) (tD X.K E0 fe) vs vs1)) : DE X E e (dComp2 vs vs1 it t fc it1 t1 fc1 fe) := peI h (lc2_imp ht ht1)
theorem ds_setLc2 {vs vs1 : List Nat} {i : Nat} (ht : TgOk X.K g t vs) (ht1 : TgOk X.K g1 t1 vs1) (h : PS X st (tAsg (tLc2 (tDI X.K E it) g (tDT X.K E0 fc) (tDI X.K E0 it1) g1 (tDT X.K E0 fc1) (tD X.K E0 fe) vs vs1) (gName i))) : DS X E st (sSet i (dComp2 vs vs1 it t fc it1 t1 fc1 fe)) :=
  ds_set (psI h fun D σ H q => lc2_imp ht ht1 σ H _ q)
end
end KD

/-! KD16: owned dicts with plain keys; owned objects, their making. -/
namespace KD
open PySem L2
/-! ### owned dicts -/
section
variable {X : Cx} {E : XK} {e a b : Expr} {fa fb : Ev → Rs D} {pos p pos' : Pos} {st : Stmt}
theorem ds_newD {i : Nat} (h : PS X st (tAsg tDNewK (gName i))) : DS X E st (sNewD i) := by
  refine psI h fun D σ H ⟨H0, G0, ρ, G, at_, fi⟩ => ?_
  exact fun p np => fi _ _ G (Same.refl _) (at_.newOd np)
def sPutD (i : Nat) (fk fv : Ev → Rs D) : Ev → SR := fun ρ => match ρ[i]? with
  | some (.od ks vs) => (fv ρ).sr fun y => (fk ρ).sr fun d => (match d.key with
    | some k => if ks.length < 1000000 then .nx (ρ.set i (.od (setD ks vs d k y).1 (setD ks vs d k y).2)) else .bot
    | none => .bot)
  | _ => .bot
theorem ds_putD {i : Nat} {fk fv : Ev → Rs D} (h : PS X st (sDPut (tVar i) (tD X.K E fk) (tD X.K E fv))) : DS X E st (sPutD i fk fv) := by
  refine psI h fun Dn σ H ⟨H0, G0, ρ, G, at_, fi⟩ => ?_
  unfold sPutD at fi
  split at fi
  · rename_i ks vs q
    refine ⟨ρ, G, at_.gr.gh, at_.rep, (fi.sr at_).imp fun y H1 G1 g1 ⟨a1, fi1⟩ v hv => ?_⟩
    obtain ⟨a, us, e, _⟩ := a1.rep.od q
    refine ⟨_, e, ρ, G1, a1.gr.gh, a1.rep, (fi1.sr a1).imp fun d H2 G2 g2 ⟨a2, fi2⟩ z hz => ?_⟩
    obtain ⟨a', us, e', hH, nG, z2, z3⟩ := a2.rep.od q
    rw [e] at e'; cases e'
    cases ek : d.key with
    | none => rw [ek] at fi2; exact False.elim fi2
    | some k =>
      rw [ek] at fi2
      dsimp only at fi2
      by_cases cl : ks.length < 1000000
      · rw [if_pos cl] at fi2
        have ez := Dp.keyV hz ek
        subst ez
        have hlen : us.length = ks.length := by have := z2.length; rwa [List.length_map] at this
        obtain ⟨w2, w3⟩ := set_val (hv.up g2.gg) hz z2 z3
        refine ⟨a, _, rfl, DPut.k (k := k) hH (lt_line (by omega)), ?_⟩
        exact fi2 σ _ G2 (Same.refl _) (a2.put q rfl e ⟨a, putK us k v, rfl, upd_same, nG, w2, w3⟩)
      · rw [if_neg cl] at fi2; exact False.elim fi2
  · exact False.elim fi
def dInD (neg : Bool) (i : Nat) (fa : Ev → Rs D) : Ev → Rs D := fun ρ => match ρ[i]? with
  | some (.od ks vs) => (fa ρ).bind fun d => (match d.key with
    | some k => .ok (.bl (neg ^^ (lookD ks vs k).isSome))
    | none => .bot)
  | _ => .bot
theorem look_some {K : PySem.W.Frag} {G : Hp} {q : Key} {kvs : List (Key × V)} {ks vs : List D} (e : DpAll K G (kvs.map fun p => kV p.1) ks) (h : DpAll K G (kvs.map (·.2)) vs) : (lookD ks vs q).isSome = (valV kvs q).isSome := by
  have la := look_val (q := q) e h
  cases c : lookD ks vs q with
  | some d => obtain ⟨v, ev, _⟩ := la.1 d c; rw [ev]; rfl
  | none => rw [la.2 c]; rfl
theorem op_inDk (neg : Bool) (hu : X.A.units + 1 < cLine) {op : CmpOp} (hop : op = if neg then .NotIn else .In) : OpR X (compareOp op) (fun x y H Q => ∃ (a : Addr) (kvs : List (Key × V)) (k : Key), y = .ref a ∧ x = kV k ∧ H a = some (.dK kvs) ∧ Q (.bl (neg ^^ (valV kvs k).isSome)) H) := by
  intro pins s σ H x y v u Q I rx ry ⟨a, kvs, k, ey, ex, ha, q⟩
  subst ey ex
  cases (show u = Value.ref a from ry)
  cases neg with
  | false =>
    subst hop
    exact d_in hu I (DGet.k ha) rx fun s' I' => ⟨.bl _, H, I', by rw [Bool.false_xor]; rfl, q⟩
  | true =>
    subst hop
    exact d_notIn hu I (DGet.k ha) rx fun s' I' => ⟨.bl _, H, I', by rw [Bool.true_xor]; rfl, q⟩
theorem de_inD (neg : Bool) {i : Nat} {op : CmpOp} (hop : op = if neg then .NotIn else .In) (hu : X.A.units + 1 < cLine) (ha : DE X E a fa) (hb : PE X b (tVar i)) (hm : behindInMarks op b = false) : DE X E (.Compare a [op] [b] pos) (dInD neg i fa) := by
  refine peI (pe_cmpR (op_inDk neg hu hop) ha hb hm) fun σ H Q ⟨ρ, G, s, r, fi⟩ => ?_
  unfold dInD at fi
  split at fi
  · rename_i ks vs q
    obtain ⟨a, us, e, hH, nG, z2, z3⟩ := r.od q
    refine ⟨ρ, G, s, r, fi.bind.imp fun d H1 G1 g1 fi1 v hv => ⟨_, e, ?_⟩⟩
    cases ek : d.key with
    | none => rw [ek] at fi1; exact False.elim fi1
    | some k =>
      rw [ek] at fi1
      refine ⟨a, us, k, rfl, Dp.keyV hv ek, g1.hh _ _ hH, ?_⟩
      have q := fi0 (v := .bl _) g1.gh fi1 (.bl _)
      rw [look_some z2 z3] at q
      exact q
  · exact False.elim fi
theorem dt_inD (neg : Bool) {i : Nat} {op : CmpOp} (hop : op = if neg then .NotIn else .In) (hu : X.A.units + 1 < cLine) (ha : DE X E a fa) (hb : PE X b (tVar i)) (hm : behindInMarks op b = false) : DT X E (.Compare a [op] [b] pos) (dTest (dInD neg i fa)) := by
  refine ptI (pt_cmpR (op_inDk neg hu hop) ha hb hm) fun σ H Q ⟨ρ, G, s, r, fi⟩ => ?_
  have fi' := fi.bind
  unfold dInD at fi'
  split at fi'
  · rename_i ks vs q
    obtain ⟨a, us, e, hH, nG, z2, z3⟩ := r.od q
    refine ⟨ρ, G, s, r, fi'.bind.imp fun d H1 G1 g1 fi1 v hv => ⟨_, e, ?_⟩⟩
    cases ek : d.key with
    | none => rw [ek] at fi1; exact False.elim fi1
    | some k =>
      rw [ek] at fi1
      refine ⟨a, us, k, rfl, Dp.keyV hv ek, g1.hh _ _ hH, _, rfl, ?_⟩
      have q := (fi1.now g1.gh).now g1.gh
      rw [look_some z2 z3] at q
      exact q
  · exact False.elim fi'
def dIxD (i : Nat) (fb : Ev → Rs D) : Ev → Rs D := fun ρ => match ρ[i]? with
  | some (.od ks vs) => (fb ρ).bind fun d => (match d.key with
    | some k => (match lookD ks vs k with | some v => .ok v | none => .bot)
    | none => .bot)
  | _ => .bot
theorem de_ixD {i : Nat} (hu : X.A.units + 1 < cLine) (ha : PE X a (tVar i)) (hb : DE X E b fb) (hs : PlainIx b) : DE X E (.Subscript a b pos) (dIxD i fb) := by
  refine peI (pe_ix (ix_dict hu) ha hb hs) fun σ H Q ⟨ρ, G, s, r, fi⟩ => ?_
  unfold dIxD at fi
  split at fi
  · rename_i ks vs q
    obtain ⟨a, us, e, hH, nG, z2, z3⟩ := r.od q
    refine ⟨_, e, ρ, G, s, r, fi.bind.imp fun d H1 G1 g1 fi1 v hv => ?_⟩
    cases ek : d.key with
    | none => rw [ek] at fi1; exact False.elim fi1
    | some k =>
      rw [ek] at fi1
      dsimp only at fi1
      cases cl : lookD ks vs k with
      | none => rw [cl] at fi1; exact False.elim fi1
      | some y =>
        rw [cl] at fi1
        obtain ⟨y', ey, hy⟩ := (look_val (q := k) (z2.up g1.gg) (z3.up g1.gg)).1 y cl
        have ev := Dp.keyV hv ek
        subst ev
        exact ⟨a, y', rfl, by rw [← ey]; exact DGet.k (k := k) (g1.hh _ _ hH), fi0 g1.gh fi1 hy⟩
  · exact False.elim fi
end
/-! ### owned objects -/
def putS : List Str → List D → Str → D → List Str × List D
  | n :: ns, d :: ds, f, y => if n = f then (n :: ns, y :: ds) else (n :: (putS ns ds f y).1, d :: (putS ns ds f y).2)
  | _, _, f, y => ([f], [y])
theorem putS_dp {K : PySem.W.Frag} {G : Hp} {f : Str} {y : V} {d : D} (hy : Dp K G y d) : ∀ {us : List (Str × V)} {fs : List D}, DpAll K G (us.map (·.2)) fs →
    (putF f y us).map (·.1) = (putS (us.map (·.1)) fs f d).1 ∧ DpAll K G ((putF f y us).map (·.2)) (putS (us.map (·.1)) fs f d).2
  | [], _, h => by cases h; exact ⟨rfl, .cons hy .nil⟩
  | (n, x) :: us, _, h => by
    cases h with
    | @cons _ _ z zs h1 h2 =>
      obtain ⟨i1, i2⟩ := putS_dp (f := f) hy h2
      simp only [List.map_cons, putF, putS]
      by_cases c : n = f
      · rw [if_pos c, if_pos c]
        exact ⟨rfl, .cons hy h2⟩
      · rw [if_neg c, if_neg c]
        exact ⟨by simp [i1], .cons h1 i2⟩
/-- self.f = e -/
def sFldS (i : Nat) (c f : Str) (fv : Ev → Rs D) : Ev → SR := fun ρ => match ρ[i]? with
  | some (.oo p c' ns fs) => if c' = c ∧ ns.length < 1000 then (fv ρ).sr fun y => .nx (ρ.set i (.oo p c (putS ns fs f y).1 (putS ns fs f y).2)) else .bot
  | _ => .bot
section
variable {X : Cx} {E : XK} {e a b : Expr} {es : List Expr} {fa fb fv : Ev → Rs D} {fs : Ev → Rs (List D)} {pos p pos' : Pos} {st : Stmt}
theorem ds_fldS {i : Nat} {c f : Str} (cl : Cls X.K (He.ga X.K c)) (na : NoAttr X.K (He.ga X.K c) f) (h : PS X st (sFld X.K (tVar i) (tD X.K E fv) f)) : DS X E st (sFldS i c f fv) := by
  refine psI h fun Dn σ H ⟨H0, G0, ρ, G, at_, fi⟩ => ?_
  unfold sFldS at fi
  split at fi
  · rename_i pp c' ns fs q
    by_cases c1 : c' = c ∧ ns.length < 1000
    · rw [if_pos c1] at fi
      obtain ⟨rfl, c2⟩ := c1
      refine ⟨ρ, G, at_.gr.gh, at_.rep, (fi.sr at_).imp fun y H1 G1 g1 ⟨a1, fi1⟩ v hv => ?_⟩
      obtain ⟨a, dx, us, ep, e, hH, nG, en, dp⟩ := a1.rep.oo q
      subst en
      obtain ⟨w1, w2⟩ := putS_dp (f := f) hv dp
      refine ⟨_, e, a, _, dx, us, rfl, hH, cl, na, by simpa using c2, ?_⟩
      exact fi1 σ _ G1 (Same.refl _) (a1.put q rfl e ⟨a, dx, putF f v us, ep, rfl, upd_same, nG, w1, w2⟩)
    · rw [if_neg c1] at fi; exact False.elim fi
  · exact False.elim fi
/-- self.f -/
def dFldO (i : Nat) (c f : Str) : Ev → Rs D := fun ρ => match ρ[i]? with
  | some (.oo _ c' ns fs) => if c' = c then (match fldD ns fs f with | some d => .ok d | none => .bot) else .bot
  | _ => .bot
theorem de_fldO {i : Nat} {c f : Str} (cl : Cls X.K (He.ga X.K c)) (na : NoAttr X.K (He.ga X.K c) f) (he : PE X e (tVar i)) (hb : attributeBase e f X.env (eval e X.env) = eval e X.env := by rfl) : DE X E (.Attribute e f pos) (dFldO i c f) := by
  refine peI (pe_fld he hb) fun σ H Q ⟨ρ, G, s, r, fi⟩ => ?_
  unfold dFldO at fi
  split at fi
  · rename_i pp c' ns fs q
    by_cases c1 : c' = c
    · rw [if_pos c1] at fi
      subst c1
      obtain ⟨a, dx, us, ep, e, hH, nG, en, dp⟩ := r.oo q
      subst en
      cases cf : fldD (us.map (·.1)) fs f with
      | none => rw [cf] at fi; exact False.elim fi
      | some d =>
        rw [cf] at fi
        obtain ⟨v, lk, hv⟩ := (fld_dp (f := f) dp).1 d cf
        exact ⟨_, e, a, _, dx, us, v, rfl, hH, cl, na, lk, fi0 s fi hv⟩
    · rw [if_neg c1] at fi; exact False.elim fi
  · exact False.elim fi
end
/-! ### __init__ -/
def initD (n : Nat) (c : Str) (b : Ev → SR) (x : Addr) (ds : List D) : Rs D := match (b (.oo (some x) c [] [] :: ev0 n ds) : SR) with
  | .nx ρ => (match (ρ : List Sl)[0]? with
    | some (Sl.oo p c' ns fs) => if p = some x then .ok (.ob c' ns fs) else .bot
    | _ => .bot)
  | .xc c n f => .xc c n f
  | _ => .bot
/-- __init__ of the class c: the object's data by g of the object's place and the arguments' -/
def spIx (K : PySem.W.Frag) (c : Str) (n : Nat) (g : Addr → List D → Rs D) : Sp := fun vs H Q E => ∃ (x dx : Addr) (ws : List V) (H1 G : Hp) (ds : List D), vs = .ref x :: ws ∧ H1 x = none ∧ H1 dx = none ∧ dx ≠ x ∧ H = upd (upd H1 dx (.own x)) x (.ins (He.ga K c) dx []) ∧ Same G H1 ∧ DpAll K G ws ds ∧ ds.length = n ∧
  Fi K E H1 G (g x ds) (fun d H' G' => Dp K G' (.ref x) d → Q .non H')
section
variable {P : Program} {w : World} {K : PySem.W.Frag} {mg : Str → Option Value} {base : Heap}
theorem fn_I {x qual c : Str} {params : Arguments} {body : List Stmt} {scope : Scope} {dvs : List V} {kws : List (Str × V)} {f : Addr} {fd : FuncData} {N ps : List Str} {s0 : Str} {k : Nat} {b : Ev → SR} (F : FunD K x qual params body scope dvs kws f fd) (S : FnScope (s0 :: N) (s0 :: ps) scope)
    (hb : ∀ (cdv : Value) (A : Around) (outer : List Env) (s : Shared) (H : Hp) (E : XK), Room k (A.deeper (PyProof.Rows.envOfC qual scope s.heap.objs.size f cdv)) → DSs (cxOf (L2N.CX P w) P w K mg base (s0 :: N) qual scope f cdv A outer s H E) E body b) :
    FnOk P w K mg base (L2N.CX P w) (k + 1) f fd (s0 :: ps) (spIx K c ps.length (initD N.length c b)) := by
  refine F.ok S (fun vs H Q E ⟨x, dx, ws, H1, G, ds, e, _, _, _, _, _, dp, l, _⟩ => by rw [e]; simp [dp.length, l]) fun cdv A outer s H vs Q E hr ⟨x, dx, ws, H1, G, ds, ev, nx, nd, ne, eH, sg, dp, l, fi⟩ => ⟨_, hb cdv A outer s H E hr, ?_⟩
  subst ev eH
  have hn : ws.length ≤ N.length := by
    have h1 := dp.length
    have h2 : ((s0 :: N).take (s0 :: ps).length).length = (s0 :: ps).length := by rw [S.pre]
    rw [List.length_take] at h2
    simp at h2
    omega
  have noown : ∀ (i : Nat) (s : Sl), (ev0 N.length ds)[i]? = some s → s.own = true → False := fun i s h1 o1 => by
    unfold ev0 at h1
    by_cases c : i < ds.length
    · rw [List.getElem?_append_left (by simpa using c), List.getElem?_map] at h1
      cases q : ds[i]? with
      | none => rw [q] at h1; cases h1
      | some d => rw [q] at h1; cases h1; cases o1
    · rw [List.getElem?_append_right (by simpa using c), List.getElem?_replicate] at h1
      split at h1
      · cases h1; cases o1
      · cases h1
  have g1 : Grow H1 G (upd (upd H1 dx (.own x)) x (.ins (He.ga K c) dx [])) G := by
    have nx' : (upd H1 dx (.own x)) x = none := by rw [upd_ne (Ne.symm ne)]; exact nx
    exact (Grow.beside sg nd).trans (Grow.beside (sg.trans (same_upd nd)) nx')
  have nG : G x = none := sg.free nx
  have r0 : Rep K G (upd (upd H1 dx (.own x)) x (.ins (He.ga K c) dx [])) (start N ws) (ev0 N.length ds) := rep0 dp hn
  have est : start (s0 :: N) (.ref x :: ws) = some (.ref x) :: start N ws := by simp [L2.start]
  have at0 : At K H1 G (upd (upd H1 dx (.own x)) x (.ins (He.ga K c) dx [])) G (start (s0 :: N) (.ref x :: ws)) (.oo (some x) c [] [] :: ev0 N.length ds) := by
    rw [est]
    refine ⟨g1, ⟨by simp [r0.len], fun i s o h1 h2 => ?_, fun i j s t a h1 h2 o1 o2 e1 e2 => ?_⟩, fun i s a h1 h2 h3 => ?_⟩
    · cases i with
      | zero => cases h1; cases h2; exact ⟨x, dx, [], (fun b e => Option.some.inj e), rfl, upd_same, nG, rfl, .nil⟩
      | succ i => exact r0.sl i s o (by simpa using h1) (by simpa using h2)
    · cases i with
      | zero =>
        cases j with
        | zero => rfl
        | succ j => exact (noown j t (by simpa using h2) o2).elim
      | succ i => exact (noown i s (by simpa using h1) o1).elim
    · cases i with
      | zero => cases h1; cases h3; exact nx
      | succ i => exact (noown i s (by simpa using h1) h2).elim
  refine ⟨H1, G, _, G, at0, ?_⟩
  unfold initD at fi
  cases q : b (.oo (some x) c [] [] :: ev0 N.length ds) with
  | nx ρ =>
    rw [q] at fi
    dsimp only at fi
    intro σ H' G' sg' a
    split at fi
    · rename_i p c' ns fs q2
      by_cases c1 : p = some x
      · rw [if_pos c1] at fi
        obtain ⟨a', dx', us, ep, e, hH, nG', en, dpf⟩ := a.rep.oo q2
        have ea := ep x c1
        subst ea en
        have n0 := a.own 0 _ a' q2 rfl e
        have gf : Grow H1 G H' (upd G' a' (.ins (He.ga K c') dx' us)) := by
          refine ⟨a.gr.hh, a.gr.gg.trans (same_upd nG'), fun b u z => ?_, fun b u z => ?_⟩
          · by_cases cb : b = a'
            · subst cb; rw [upd_same] at z; cases z; exact hH
            · rw [upd_ne cb] at z; exact a.gr.gh b u z
          · by_cases cb : b = a'
            · subst cb; exact .inr n0
            · rw [upd_ne cb] at z; exact a.gr.nw b u z
        exact fi H' _ gf (.ob upd_same (dpf.up (same_upd nG')))
      · rw [if_neg c1] at fi; exact False.elim fi
    · exact False.elim fi
  | rt d => rw [q] at fi; exact False.elim fi
  | ro d => rw [q] at fi; exact False.elim fi
  | bk ρ => rw [q] at fi; exact False.elim fi
  | ct ρ => rw [q] at fi; exact False.elim fi
  | xc c n f => rw [q] at fi; exact fi
  | bot => rw [q] at fi; exact False.elim fi
end
open Classical in
/-- the new object's data, wherever it stands -/
noncomputable def mkD (g : Addr → List D → Rs D) (ds : List D) : Rs D := if ∀ x, g x ds = g 0 ds then g 0 ds else .bot
theorem mkD_eq {g : Addr → List D → Rs D} {ds : List D} {r : Rs D} (h : ∀ x, g x ds = r) : mkD g ds = r := by
  unfold mkD
  rw [if_pos (fun x => (h x).trans (h 0).symm), h 0]
theorem mkD_at {K : PySem.W.Frag} {E : XK} {H G : Hp} {g : Addr → List D → Rs D} {ds : List D} {P : D → Hp → Hp → Prop} (x : Addr) (fi : Fi K E H G (mkD g ds) P) : Fi K E H G (g x ds) P := by
  unfold mkD at fi
  split at fi
  · rename_i c; rw [c x]; exact fi
  · exact False.elim fi
section
variable {X : Cx} {E : XK} {e : Expr} {es : List Expr} {fs fk : Ev → Rs (List D)} {fa : Ev → Rs D} {pos p : Pos} {kws : List Keyword}
def MkF (P : Program) (w : World) (K : PySem.W.Frag) (mg : Str → Option Value) (base : Heap) (k : Nat) (c : Str) (n : Nat) (g : Addr → List D → Rs D) : Prop :=
  ∃ (fd : FuncData) (ps : List Str), FnOk P w K mg base (L2N.CX P w) k (He.ma K (He.ga K c) "__init__") fd ps (spIx K c n g) ∧ Binds K fd ps []
/-- C(e, ..) -/
theorem de_mk {k n : Nat} {c : Str} {g : Addr → List D → Rs D} (F : MkF X.prog X.w X.K X.mg X.base k c n g) (M : Mk X.K (He.ga X.K c) (He.ma X.K (He.ga X.K c) "__init__")) (hr : Room (k + 1) X.A) (hm : X.mg c = some (.ref (He.ga X.K c))) (hx : Passes (L2N.CX X.prog X.w) X E)
    (ha : DA X E (e :: es) fs) (hg : Gl X c := by rfl) (hdb : (c == ("__debug__" : Str)) = false := by decide) (he : starEach (e :: es) X.env = (false, eval e X.env) :: starEach es X.env := by rfl) (hpl : (backTo pos (starEach es X.env)).any (·.1) = false := by rfl) :
    DE X E (.Call (.Name c p) (e :: es) [] pos) (dCallN n (mkD g) fs) := by
  obtain ⟨fd, ps, F, hb⟩ := F
  refine peI (pe_make M F hr hg hm hb .nil hx ha hdb he hpl) fun σ H Q ⟨ρ, G, s, r, fi⟩ => ?_
  refine ⟨ρ, G, s, r, fi.bind.imp fun ds H1 G1 g1 fi1 vs hvs x dx nx nd ne => ?_⟩
  by_cases cn : ds.length = n
  · rw [if_pos cn] at fi1
    rw [List.append_nil]
    exact ⟨x, dx, vs, H1, G1, ds, rfl, nx, nd, ne, rfl, g1.gh, hvs, cn, (mkD_at x fi1).imp fun d H' G' _ h hd => ⟨rfl, h _ hd⟩⟩
  · rw [if_neg cn] at fi1; exact False.elim fi1
/-- keywords -/
abbrev DK (X : Cx) (E : XK) (kws : List Keyword) (f : Ev → Rs (List D)) : Prop := PK X kws (tDA X.K E f)
theorem pkI {t t' : TA} (h : PK X kws t) (f : ∀ σ H Q, t' σ H Q → t σ H Q) : PK X kws t' := ⟨fun pos pins s σ H Q I q => h.run pos pins s σ H Q I (f σ H Q q)⟩
theorem dk_nil : DK X E [] dNil := pkI pk_nil fun σ H Q ⟨ρ, G, s, r, fi⟩ => fi.now s [] .nil
theorem dk_cons {nm : Option Str} {kpos : Pos} (ha : DE X E e fa) (hr : DK X E kws fs) : DK X E (⟨nm, e, kpos⟩ :: kws) (dCons fa fs) := by
  refine pkI (pk_cons ha hr) fun σ H Q ⟨ρ, G, s, r, fi⟩ => ?_
  refine ⟨ρ, G, s, r, fi.bind.imp fun x H1 G1 g1 fi1 v hv => ?_⟩
  refine ⟨ρ, G1, g1.gh, r.grow g1, fi1.bind.imp fun xs H2 G2 g2 fi2 vs hvs => ?_⟩
  exact fi2.now g2.gh _ (.cons (hv.up g2.gg) hvs)
/-- f(e, .., k = v, ..): the values one behind another are the parameters -/
def dCallK (n m : Nat) (g : List D → Rs D) (fs fk : Ev → Rs (List D)) : Ev → Rs D := fun ρ => (fs ρ).bind fun xs => (fk ρ).bind fun ys => if xs.length = n ∧ ys.length = m then g (xs ++ ys) else .bot
def MkK (P : Program) (w : World) (K : PySem.W.Frag) (mg : Str → Option Value) (base : Heap) (k : Nat) (c : Str) (n m : Nat) (ks : List Str) (g : Addr → List D → Rs D) : Prop :=
  ∃ (fd : FuncData) (ps : List Str) (gU : List Value → List Value → List Value), FnOk P w K mg base (L2N.CX P w) k (He.ma K (He.ga K c) "__init__") fd ps (spIx K c (n + m) g) ∧ KBn K fd ps (n + 1) ks gU (fun vs zs => vs ++ zs) ∧ ks.length = m
theorem de_mkK {k n m : Nat} {c : Str} {ks : List Str} {g : Addr → List D → Rs D} (F : MkK X.prog X.w X.K X.mg X.base k c n m ks g) (M : Mk X.K (He.ga X.K c) (He.ma X.K (He.ga X.K c) "__init__")) (hr : Room (k + 1) X.A) (hm : X.mg c = some (.ref (He.ga X.K c))) (hx : Passes (L2N.CX X.prog X.w) X E)
    (ha : DA X E (e :: es) fs) (hkw : DK X E kws fk) (hg : Gl X c := by rfl) (hall : (backToKw pos (keywordEach kws X.env)).all (·.1.isSome) = true := by rfl) (hks : (backToKw pos (keywordEach kws X.env)).filterMap (·.1) = ks := by rfl) (hdb : (c == ("__debug__" : Str)) = false := by decide)
    (he : starEach (e :: es) X.env = (false, eval e X.env) :: starEach es X.env := by rfl) (hpl : ((backTo pos (starEach (e :: es) X.env)).any (·.1) || (backToKw pos (keywordEach kws X.env)).any (·.1.isNone)) = false := by rfl) :
    DE X E (.Call (.Name c p) (e :: es) kws pos) (dCallK n m (mkD g) fs fk) := by
  obtain ⟨fd, ps, gU, F, hb, hl⟩ := F
  refine peI (pe_makeK M F hr hg hm hb hx ha hkw hall hks hdb he hpl) fun σ H Q ⟨ρ, G, s, r, fi⟩ => ?_
  refine ⟨ρ, G, s, r, fi.bind.imp fun ds H1 G1 g1 fi1 vs hvs => ?_⟩
  refine ⟨ρ, G1, g1.gh, r.grow g1, fi1.bind.imp fun zs H2 G2 g2 fi2 us hus => ?_⟩
  by_cases cn : ds.length = n ∧ zs.length = m
  · rw [if_pos cn] at fi2
    have l1 := hvs.length
    have l2 := hus.length
    refine ⟨by omega, by omega, fun x dx nx nd ne => ?_⟩
    exact ⟨x, dx, vs ++ us, H2, G2, ds ++ zs, rfl, nx, nd, ne, rfl, g2.gh, (hvs.up g2.gg).append hus, by simp; omega, (mkD_at x fi2).imp fun d H' G' _ h hd => ⟨rfl, h _ hd⟩⟩
  · rw [if_neg cn] at fi2; exact False.elim fi2
end
end KD

/-! KD17: "..".find(e); x op= e; all keywords told; d = {..}. -/
namespace KD
open PySem L2
theorem u9 {X : Cx} (h : X.A.units + 200 < cLine) : X.A.units + 9 < cLine := by omega
section
variable {X : Cx} {E : XK} {e a b : Expr} {es : List Expr} {fa fb fv : Ev → Rs D} {fs : Ev → Rs (List D)} {pos p pos' : Pos} {st : Stmt}
def gFind (z : Str) (x : D) : Rs D := match x with
  | .str y => .ok (.int (Txt.find z y))
  | _ => .bot
def dFind (z : Str) (f : Ev → Rs D) : Ev → Rs D := fun ρ => (f ρ).bind (gFind z)
theorem de_find {z : Str} {j} {p1 apos : Pos} (hz : PyData.strOk z = true) (he : DE X E e fa) (hs : starEach [e] X.env = [(false, eval e X.env)] := by rfl)
    (hbase : attributeBase (.Constant (.str z) j p1) "find" X.env (eval (.Constant (.str z) j p1) X.env) = eval (.Constant (.str z) j p1) X.env := by rfl) (hline : (apos.endLine == pos.line) = true := by rfl) :
    DE X E (.Call (.Attribute (.Constant (.str z) j p1) "find" apos) [e] [] pos) (dFind z fa) := by
  refine peI (pe_m1 PySem.F.slot_str_find PySem.F.type_str_find mt_find (de_str (E := E) hz) he hs hbase hline) fun σ H Q ⟨ρ, G, s, r, fi⟩ => ?_
  refine ⟨ρ, G, s, r, fun H' G' g v hv => ?_⟩
  cases hv
  refine ⟨⟨z, rfl⟩, ρ, G', g.gh, r.grow g, (fi.grow g).bind.imp fun x H1 G1 g1 fi1 u hu => ?_⟩
  cases hu with
  | str y hy => exact ⟨z, y, rfl, rfl, fi0 g1.gh fi1 (.int _)⟩
  | _ => exact False.elim fi1
/-- x op= e, ints -/
def asN : D → Rs Int
  | .int j => .ok j
  | _ => .bot
def sAug (g : Int → Int → Int) (i : Nat) (fb : Ev → Rs D) : Ev → SR := fun ρ => match ρ[i]? with
  | some (.dt (.int j)) => (fb ρ).sr fun y => (asN y).sr fun k => .nx (ρ.set i (.dt (.int (g j k))))
  | _ => .bot
theorem ds_aug {i : Nat} {g : Int → Int → Int} (h : PS X st (tAug i (tD X.K E fb) (ipI g))) : DS X E st (sAug g i fb) := by
  refine psI h fun Dn σ H ⟨H0, G0, ρ, G, at_, fi⟩ => ?_
  unfold sAug at fi
  split at fi
  · rename_i j q
    obtain ⟨v, e, hv⟩ := at_.rep.dt q
    cases hv
    refine ⟨_, e, ρ, G, at_.gr.gh, at_.rep, (fi.sr at_).imp fun y H1 G1 g1 ⟨a1, fi1⟩ u hu => ?_⟩
    cases hu with
    | int k => exact ⟨j, k, rfl, rfl, fi1 _ _ G1 (Same.refl _) (a1.setDt (.int _))⟩
    | _ => exact False.elim fi1
  · exact False.elim fi
end
theorem kbindsA {K : PySem.W.Frag} {x qual : Str} {params : Arguments} {body : List Stmt} {scope : Scope} {kws : List (Str × V)} {f : Addr} {fd : FuncData} {ps ks : List Str} {n : Nat} (F : FunD K x qual params body scope [] kws f fd)
    (h : ∀ (kV doc pm : Value) (an : Option Addr) (cdv ct : Value) (us ws : List Value), us.length = n → ws.length = ks.length → bindArgs (PySem.W.fnOf x qual params body scope .none kV doc pm an cdv ct) ⟨us, ks.zip ws⟩ = pure (ps.zip (us ++ ws))) :
    KBn K fd ps n ks (fun us ws => us ++ ws) (fun vs zs => vs ++ zs) := by
  obtain ⟨oc, od, dV, kV, doc, pm, an, cdv, ct, osl, rfl, lk, hcd, hD, hK⟩ := F.ex
  rcases hD with ⟨_, rfl⟩ | ⟨e, _⟩
  · exact ⟨fun s us ws X l1 l2 => .of_eq (h kV doc pm an cdv ct us ws l1 l2), fun r1 r2 => r1.append r2⟩
  · exact absurd rfl e
/-! ### d = {k: v for ..}, d a local name -/
theorem sw_trueD {kx vx : Expr} {gs : List Comprehension} {scope : Scope} {pos py : Pos} {y : Str} {l : Nat} {env : Env} (h1 : env.scope.kind = .function) (h2 : env.scope.names.lookup y = some .local) (h3 : (py.line == pos.line) = true)
    (h4 : (scope.names.any fun (n, k) => n == y && (k == .local || k == .cell)) = false) : swapsWith (.DictComp kx vx gs scope pos) (some (.Name y py)) l env = pure true := by
  have k1 : env.kindOf y = some .local := h2
  have k2 : env.blockKind = .function := by unfold Env.blockKind; rw [h1]; rfl
  unfold swapsWith
  simp only [k2, k1, h4, Expr.pos, h3]
  rfl
section
variable {X : Cx} {pos spos : Pos}
theorem ps_setDcN {i : Nat} {y : Str} {py : Pos} {kx vx tg iter : Expr} {ifs : List Expr} {scope : Scope} {own : List (Str × Nat)} {wi : TI} {g : TG} {tt : TT} {tk tv : TE} (hu : X.A.units + 9 < cLine) (calm : X.calm = true) (nd : X.N.Nodup) (hy : X.N[i]? = some y) (hyl : X.env.scope.names.lookup y = some .local)
    (sw : swapsWith (.DictComp kx vx [⟨tg, iter, ifs, 0⟩] scope pos) (some (.Name y py)) spos.line X.env = pure true) (pi : PI X tg iter wi) (bo : BlkOk X.N X.env.scope scope own)
    (pgA : ∀ (s : Shared) (H : Hp) (C : Addr) (cl : List (Str × Addr)) (fp : List Addr), PG (X.blk s H scope (compEnvC scope cl C X.env) fp) tg g)
    (ptA : ∀ (s : Shared) (H : Hp) (C : Addr) (cl : List (Str × Addr)) (fp : List Addr), PTs (X.blk s H scope (compEnvC scope cl C X.env) fp) ifs tt)
    (pkA : ∀ (s : Shared) (H : Hp) (C : Addr) (cl : List (Str × Addr)) (fp : List Addr), PE (X.blk s H scope (compEnvC scope cl C X.env) fp) kx tk)
    (pvA : ∀ (s : Shared) (H : Hp) (C : Addr) (cl : List (Str × Addr)) (fp : List Addr), PE (X.blk s H scope (compEnvC scope cl C X.env) fp) vx tv) (fold : ∀ x, foldedSetIterable iter X.env x = pure x := by intro _; rfl) :
    PS X (.Assign [.Name y py] (.DictComp kx vx [⟨tg, iter, ifs, 0⟩] scope pos) spos) (tAsg (tDcN X.w X.K wi g tt tk tv (own.map (·.2))) (gName i)) := by
  refine ⟨fun pins s σ H D J h => ?_⟩
  rw [exec_Assign_Name_used _ _ _ _ sw]
  refine wpAny_bind (wpAny_standAt (wpAny_bind ?_))
  show wpAny _ X.A (do let _ ← comprehension (.DictComp kx vx [⟨tg, iter, ifs, 0⟩] scope pos) scope X.env (firstIterPos [⟨tg, iter, ifs, 0⟩] pos) newDict false (eval iter X.env) (some (assign (.Name y py) X.env))) _ _ s
  have h : tDcN X.w X.K wi g tt tk tv (own.map (·.2)) σ H (fun x H1 => gName i x σ H1 D.nx) := h
  refine wpAny_bind (thn (dcN_core (Qf := fun _ s' => SP X pins D .next s') hu calm nd J pi bo pgA ptA pkA pvA fold h fun L C s' m H' J' q hn f => ?_) fun _ s' hq => wpAny_pure (wpAny_pure hq))
  show wpAny _ _ (assign (.Name y py) X.env (.ref L)) _ _ _
  refine wpAny_assign_Name (store_ok2 (v := V.ref L) J' nd hy (.inl hyl) rfl (fun s2 J2 ⟨a, sb, ha⟩ => ?_) (.inr hyl))
  obtain ⟨f0, f1, f2, f3, f4, f5⟩ := f
  have haC : C ≠ a := by
    rcases ha with z | z
    · rw [z]; exact f1
    · exact fun e => f4 y a z e.symm
  refine ⟨m, hn.sameBut sb haC, fun h3 sb3 => ?_⟩
  exact ⟨_, H', J2.turned (t' := s2.toks) (fun b o hb e => (sb3.2 b hb).trans e) f0 f1 f3 f4 f5, q⟩
end
end KD

/-! KD18: self.f = []; for ..: ..; self.f.append(e) in __init__. -/
namespace KD
open PySem L2
def noOwn (ρ : Ev) : Bool := (ρ : List Sl).all fun s => !s.own
theorem noOwn_at {ρ : Ev} (h : noOwn ρ = true) {j : Nat} {s : Sl} (e : ρ[j]? = some s) : s.own = false := by
  have := List.all_eq_true.mp h s (List.mem_of_getElem? e)
  simpa using this
theorem Rep.any {K : PySem.W.Frag} {G H H' : Hp} {σ : L2.St} {ρ : Ev} (h : noOwn ρ = true) (r : Rep K G H σ ρ) : Rep K G H' σ ρ := by
  refine ⟨r.len, fun i s o h1 h2 => ?_, fun i j s t a h1 _ o1 => ?_⟩
  · have q := r.sl i s o h1 h2
    have n := noOwn_at h h1
    cases s with
    | no => trivial
    | dt d => exact q
    | rf a => exact q
    | ex a od ns fs => exact q
    | ol xs => cases n
    | od ks vs => cases n
    | oo p c ns fs => cases n
    | on w ks vs => cases n
  · rw [noOwn_at h h1] at o1; cases o1
theorem noOwn_set {ρ : Ev} (h : noOwn ρ = true) (j : Nat) : noOwn (ρ.set j .no) = true := by
  refine List.all_eq_true.mpr fun s hs => ?_
  rcases List.mem_or_eq_of_mem_set hs with z | z
  · exact List.all_eq_true.mp h s z
  · subst z; rfl
theorem noOwn_wipe : ∀ (wp : List Nat) {ρ : Ev}, noOwn ρ = true → noOwn (wipeE wp ρ) = true
  | [], _, h => h
  | i :: is, _, h => noOwn_wipe is (noOwn_set h i)
theorem wipe_other : ∀ (wp : List Nat) {i : Nat}, i ∉ wp → ∀ {ρ : Ev}, (wipeE wp ρ)[i]? = ρ[i]?
  | [], _, _, _ => rfl
  | j :: is, i, h, ρ => by
    have h1 : ¬ j = i := fun e => h (by simp [e])
    have h2 : i ∉ is := fun e => h (by simp [e])
    show (wipeE is (ρ.set j .no))[i]? = _
    rw [wipe_other is h2, List.getElem?_set_ne h1]
def fldL (x : Addr) (i : Nat) (t : D → Ev → Option Ev) (wp : List Nat) (f1 f2 : Ev → SR) (fe : Ev → Rs D) : List D → Ev → List D → Rs (Ev × List D)
  | [], ρ, xs => .ok (ρ, xs)
  | d :: ds, ρ, xs => match t d ρ with
    | none => .bot
    | some ρ' => (match (f1 ρ').seq f2 with
      | .nx ρ2 => (match (ρ2 : List Sl)[i]? with
        | some (.rf y) => if y = x ∧ noOwn ρ2 = true ∧ xs.length < 1000000 then (fe ρ2).bind fun z => fldL x i t wp f1 f2 fe ds (wipeE wp ρ2) (xs ++ [z]) else .bot
        | _ => .bot)
      | .xc c n f => .xc c n f
      | _ => .bot)
def sFldLoop (i : Nat) (c f : Str) (it : Ev → Rs (List D)) (t : D → Ev → Option Ev) (wp : List Nat) (f1 f2 : Ev → SR) (fe : Ev → Rs D) : Ev → SR := fun ρ => match ρ[i]? with
  | some (.oo (some x) c' ns fs) => if c' = c ∧ f ∉ ns ∧ ns.length < 999 ∧ noOwn (ρ.set i (.rf x)) = true ∧ i ∉ wp then (it (ρ.set i (.rf x))).sr fun ds => (fldL x i t wp f1 f2 fe ds (ρ.set i (.rf x)) []).sr fun p =>
      (match (p.1 : List Sl)[i]? with
        | some (.rf y) => if y = x ∧ noOwn p.1 = true then .nx (p.1.set i (.oo (some x) c (ns ++ [f]) (fs ++ [.lst p.2]))) else .bot
        | _ => .bot) else .bot
  | _ => .bot
theorem putF_new {f : Str} {y : V} : ∀ {us : List (Str × V)}, f ∉ us.map (·.1) → putF f y us = us ++ [(f, y)]
  | [], _ => rfl
  | (n, v) :: us, h => by
    have h1 : ¬ n = f := fun e => h (by simp [e])
    have h2 : f ∉ us.map (·.1) := fun e => h (by simp at e ⊢; exact .inr e)
    unfold putF
    rw [if_neg h1, putF_new h2]
    rfl
theorem lookup_last {f : Str} {y : V} : ∀ {us : List (Str × V)}, f ∉ us.map (·.1) → (us ++ [(f, y)]).lookup f = some y
  | [], _ => by simp [List.lookup]
  | (n, v) :: us, h => by
    have h1 : ¬ f = n := fun e => h (by simp [e])
    have h2 : f ∉ us.map (·.1) := fun e => h (by simp at e ⊢; exact .inr e)
    have e : (f == n) = false := by simpa using h1
    simp only [List.cons_append, List.lookup, e]
    exact lookup_last h2
theorem DpAll.snoc {K : PySem.W.Frag} {G : Hp} {vs : List V} {ds : List D} {v : V} {d : D} (h : DpAll K G vs ds) (q : Dp K G v d) : DpAll K G (vs ++ [v]) (ds ++ [d]) := h.append (.cons q .nil)
section
variable {X : Cx} {E : XK} {st1 st2 : Stmt} {it : Ev → Rs (List D)} {t : D → Ev → Option Ev} {g : TG} {f1 f2 : Ev → SR} {fe : Ev → Rs D}
theorem ds_fldLoop (wp : List Nat) {vs : List Nat} {i : Nat} {c f : Str} (cl : Cls X.K (He.ga X.K c)) (na : NoAttr X.K (He.ga X.K c) f) (ht : TgOk X.K g t vs) (h1 : PS X st1 (sFld X.K (tVar i) (tLst tNil) f))
    (h2 : PS X st2 (tFor (tDI X.K E it) g (tSeq (tS X.K E f1) (tSeq (tS X.K E f2) (tDrop (tBM X.K "list" rAppend (tFld X.K (tVar i) f) (tCons (tD X.K E fe) tNil))))))) : DSs X E [st1, st2] (sFldLoop i c f it t wp f1 f2 fe) := by
  refine pssI (pss_cons h1 (pss_one h2)) fun Dn σ H ⟨H0, G0, ρ, G, at_, fi⟩ => ?_
  unfold sFldLoop at fi
  split at fi
  · rename_i x c' ns fs q
    by_cases cc : c' = c ∧ f ∉ ns ∧ ns.length < 999 ∧ noOwn (ρ.set i (.rf x)) = true ∧ i ∉ wp
    · rw [if_pos cc] at fi
      obtain ⟨rfl, hf, hns, hno, hwp⟩ := cc
      obtain ⟨a, dx, us, ep, e, hH, nG, en, dp⟩ := at_.rep.oo q
      have ea : a = x := ep x rfl
      subst ea en
      have n0 : H0 a = none := at_.own i _ a q rfl e
      unfold tSeq sFld tLst tNil
      refine ⟨Nat.zero_le _, fun b nb => ?_⟩
      have hba : b ≠ a := fun z => by rw [z, hH] at nb; cases nb
      have nGb : G b = none := at_.gr.gh.free nb
      have nb0 : H0 b = none := at_.gr.hh.free nb
      have hH1 : (upd H b (.lst [])) a = some (.ins (He.ga X.K c') dx us) := by rw [upd_ne (Ne.symm hba)]; exact hH
      refine ⟨_, e, a, _, dx, us, rfl, hH1, cl, na, by simp at hns; omega, ?_⟩
      rw [putF_new hf]
      -- what stands through the loop
      let St : List V → List D → L2.St → Ev → Hp → Hp → Prop := fun vs xs σ ρ H G => Grow H0 G0 H G ∧ H a = some (.ins (He.ga X.K c') dx (us ++ [(f, .ref b)])) ∧ H b = some (.lst vs) ∧ G a = none ∧ G b = none ∧ DpAll X.K G vs xs ∧ Rep X.K G H σ ρ ∧ noOwn ρ = true ∧ ρ[i]? = some (.rf a) ∧ DpAll X.K G (us.map (·.2)) fs
      have hi : i < ρ.length := (List.getElem?_eq_some_iff.mp q).1
      have gr1 : Grow H0 G0 (upd (upd H b (.lst [])) a (.ins (He.ga X.K c') dx (us ++ [(f, .ref b)]))) G := by
        refine ⟨fun p o hp => ?_, at_.gr.gg, fun p o hp => ?_, at_.gr.nw⟩
        · have p1 : p ≠ a := fun z => by rw [z, n0] at hp; cases hp
          have p2 : p ≠ b := fun z => by rw [z, nb0] at hp; cases hp
          rw [upd_ne p1, upd_ne p2]; exact at_.gr.hh p o hp
        · have p1 : p ≠ a := fun z => by rw [z, nG] at hp; cases hp
          have p2 : p ≠ b := fun z => by rw [z, nGb] at hp; cases hp
          rw [upd_ne p1, upd_ne p2]; exact at_.gr.gh p o hp
      have rep1 : Rep X.K G H σ (ρ.set i (.rf a)) := by
        have r := at_.rep
        refine ⟨by simp [r.len], fun j s o h1 h2 => ?_, fun j k s t' p h1 _ o1 => ?_⟩
        · by_cases hj : i = j
          · subst hj
            rw [List.getElem?_set_self hi] at h1
            cases h1
            rw [e] at h2; cases h2
            exact rfl
          · rw [List.getElem?_set_ne hj] at h1
            exact r.sl j s o h1 h2
        · rw [noOwn_at hno h1] at o1; cases o1
      have st1_ : St [] [] σ (ρ.set i (.rf a)) (upd (upd H b (.lst [])) a (.ins (He.ga X.K c') dx (us ++ [(f, .ref b)]))) G :=
        ⟨gr1, upd_same, by rw [upd_ne hba, upd_same], nG, nGb, .nil, rep1.any hno, hno, List.getElem?_set_self hi, dp⟩
      have fi' := fi
      -- the iterable
      have hst := st1_
      obtain ⟨g1, a1, b1, na1, nb1, d1, r1, o1, i1, u1⟩ := st1_
      refine ⟨ρ.set i (.rf a), G, g1.gh, r1, ?_⟩
      have key : ∀ (ds : List D) (σ : L2.St) (ρ : Ev) (Hc Gc : Hp) (vs : List V) (xs : List D), St vs xs σ ρ Hc Gc → FiS X.K E H0 G0 Gc ((fldL a i t wp f1 f2 fe ds ρ xs).sr fun p => (match (p.1 : List Sl)[i]? with
        | some (.rf y) => if y = a ∧ noOwn p.1 = true then .nx (p.1.set i (.oo (some a) c' (us.map (·.1) ++ [f]) (fs ++ [.lst p.2]))) else .bot
        | _ => .bot)) Dn → True := fun _ _ _ _ _ _ _ _ _ => trivial
      cases qi : it (ρ.set i (.rf a)) with
      | bot => rw [qi] at fi; exact False.elim fi
      | xc cx nx fx => rw [qi] at fi; exact fun od H' G' gg x => fi od H' G' (g1.trans gg) x
      | ok ds =>
        rw [qi, Rs.sr_ok] at fi
        intro H1 G1 gr2 J hJ
        have stay : ∀ {vs : List V} {xs : List D} {σ : L2.St} {ρ : Ev} {Hc Gc H' G' : Hp}, St vs xs σ ρ Hc Gc → Grow Hc Gc H' G' → St vs xs σ ρ H' G' := fun {vs xs σ ρ Hc Gc H' G'} ⟨g1, a1, b1, na1, nb1, d1, r1, o1, i1, u1⟩ gg => by
          have fr : ∀ p o, Hc p = some o → Gc p = none → G' p = none := fun p o hp np => by
            cases z : G' p with
            | none => rfl
            | some w =>
              rcases gg.nw p w z with k | k
              · rw [np] at k; cases k
              · rw [hp] at k; cases k
          exact ⟨g1.trans gg, gg.hh _ _ a1, gg.hh _ _ b1, fr a _ a1 na1, fr b _ b1 nb1, d1.up gg.gg, r1.grow gg, o1, i1, u1.up gg.gg⟩
        refine ⟨fun k m σ H => m = ds.length - k ∧ k ≤ ds.length ∧ ∃ (ρ : Ev) (G : Hp) (vs : List V) (xs : List D), Same G1 G ∧ St vs xs σ ρ H G ∧ FiS X.K E H0 G0 G ((fldL a i t wp f1 f2 fe (ds.drop k) ρ xs).sr fun p => (match (p.1 : List Sl)[i]? with
          | some (.rf y) => if y = a ∧ noOwn p.1 = true then .nx (p.1.set i (.oo (some a) c' (us.map (·.1) ++ [f]) (fs ++ [.lst p.2]))) else .bot
          | _ => .bot)) Dn, ⟨ds.length, by simp, Nat.zero_le _, _, G1, _, _, Same.refl _, stay hst gr2, by simpa using fi.up gr2.gg⟩, ?_⟩
        rintro k m σ H ⟨rfl, hk, ρ, G, vs, xs, sg, hst, fi⟩
        have hst' := hst
        obtain ⟨g1, a1, b1, na1, nb1, d1, r1, o1, i1, u1⟩ := hst
        by_cases hlt : k < ds.length
        · let Nx : L2.St → Hp → Prop := fun σ' H' => ∃ (ρ : Ev) (G : Hp) (vs : List V) (xs : List D), Same G1 G ∧ St vs xs σ' ρ H' G ∧ FiS X.K E H0 G0 G ((fldL a i t wp f1 f2 fe (ds.drop (k + 1)) ρ xs).sr fun p => (match (p.1 : List Sl)[i]? with
            | some (.rf y) => if y = a ∧ noOwn p.1 = true then .nx (p.1.set i (.oo (some a) c' (us.map (·.1) ++ [f]) (fs ++ [.lst p.2]))) else .bot
            | _ => .bot)) Dn
          refine .inr ⟨hJ.go k H (sg.trans g1.gh) hlt, Nx, fun σ' H' ⟨ρ', G', vs', xs', qq⟩ => ⟨ds.length - (k + 1), by omega, rfl, hlt, ρ', G', vs', xs', qq⟩, fun x H' hy => ?_⟩
          obtain ⟨rfl, hy2⟩ := hJ.yld k H x H' (sg.trans g1.gh) hy
          have hx := (hy2 ds[k] (by simp [hlt])).up sg
          have ed : ds.drop k = ds[k] :: ds.drop (k + 1) := List.drop_eq_getElem_cons hlt
          rw [ed] at fi
          unfold fldL at fi
          cases qt : t ds[k] ρ with
          | none => rw [qt] at fi; exact False.elim fi
          | some ρ' =>
            rw [qt] at fi
            dsimp only at fi
            have at0 : At X.K H' G H' G σ ρ := ⟨Grow.refl g1.gh, r1, fun j s p h1 h2 => by rw [noOwn_at o1 h1] at h2; cases h2⟩
            refine ht x ds[k] σ ρ ρ' _ G _ g1.gh hx r1 qt fun σ' _ _ ha => ?_
            refine ⟨H', G, ρ', G, ha H' G at0, ?_⟩
            -- the last statement
            have last : ∀ (ρ2 : Ev), FiS X.K E H0 G0 G ((match (ρ2 : List Sl)[i]? with
                | some (.rf y) => if y = a ∧ noOwn ρ2 = true ∧ xs.length < 1000000 then (fe ρ2).bind fun z => fldL a i t wp f1 f2 fe (ds.drop (k + 1)) (wipeE wp ρ2) (xs ++ [z]) else .bot
                | _ => .bot : Rs (Ev × List D)).sr fun p => (match (p.1 : List Sl)[i]? with
                | some (.rf y) => if y = a ∧ noOwn p.1 = true then .nx (p.1.set i (.oo (some a) c' (us.map (·.1) ++ [f]) (fs ++ [.lst p.2]))) else .bot
                | _ => .bot)) Dn → ∀ (σ2 : L2.St) (H2 G2 : Hp), Same G G2 → At X.K H' G H2 G2 σ2 ρ2 → tDrop (tBM X.K "list" rAppend (tFld X.K (tVar i) f) (tCons (tD X.K E fe) tNil)) { Dn with nx := Nx, ct := Nx, bk := Dn.nx } σ2 H2 := by
              intro ρ2 fi σ2 H2 G2 sg2 at2
              split at fi
              · rename_i y qy
                by_cases cy : y = a ∧ noOwn ρ2 = true ∧ xs.length < 1000000
                · rw [if_pos cy] at fi
                  obtain ⟨rfl, no2, xl⟩ := cy
                  have hi2 : i < σ2.length := by rw [at2.rep.len]; exact (List.getElem?_eq_some_iff.mp qy).1
                  have e2 : σ2[i]? = some (some (.ref y)) := by
                    have := at2.rep.sl i _ (σ2[i]) qy (by simp [hi2])
                    rw [List.getElem?_eq_getElem hi2]
                    exact congrArg some this
                  have st2 := stay hst' at2.gr
                  obtain ⟨g3, a3, b3, na3, nb3, d3, _, _, _, u3⟩ := st2
                  refine ⟨_, e2, y, _, dx, _, _, rfl, a3, cl, na, lookup_last hf, .inl ⟨rfl, _, SqL.of b3⟩, ?_⟩
                  refine ⟨ρ2, G2, at2.gr.gh, at2.rep, ?_⟩
                  have fi2 : FiS X.K E H0 G0 G ((fe ρ2).sr fun z => (fldL y i t wp f1 f2 fe (ds.drop (k + 1)) (wipeE wp ρ2) (xs ++ [z])).sr fun p => (match (p.1 : List Sl)[i]? with
                    | some (.rf y') => if y' = y ∧ noOwn p.1 = true then .nx (p.1.set i (.oo (some y) c' (us.map (·.1) ++ [f]) (fs ++ [.lst p.2]))) else .bot
                    | _ => .bot)) Dn := by
                    cases qe : fe ρ2 with
                    | ok z => rw [qe] at fi; exact fi
                    | xc => rw [qe] at fi; exact fi
                    | bot => rw [qe] at fi; exact fi
                  cases qe : fe ρ2 with
                  | bot => rw [qe] at fi2; exact False.elim fi2
                  | xc cx nx fx => rw [qe] at fi2; exact fun od H3 G3 gg xd => fi2 od H3 G3 (g3.trans gg) xd
                  | ok z =>
                    rw [qe, Rs.sr_ok] at fi2
                    intro H3 G3 gg v hv
                    have st3 : St vs xs σ2 ρ H3 G3 → True := fun _ => trivial
                    have b4 : H3 b = some (.lst vs) := gg.hh _ _ b3
                    have a4 := gg.hh _ _ a3
                    have fr : ∀ p o, H2 p = some o → G2 p = none → G3 p = none := fun p o hp np => by
                      cases zz : G3 p with
                      | none => rfl
                      | some w =>
                        rcases gg.nw p w zz with kk | kk
                        · rw [np] at kk; cases kk
                        · rw [hp] at kk; cases kk
                    have na4 := fr _ _ a3 na3
                    have nb4 := fr _ _ b3 nb3
                    have g4 := g3.trans gg
                    have ln := d3.length
                    refine ⟨b, vs, v, rfl, rfl, b4, lt_line (by omega), ?_⟩
                    have g5 : Grow H0 G0 (upd H3 b (.lst (vs ++ [v]))) G3 := by
                      refine ⟨fun p o hp => ?_, g4.gg, fun p o hp => ?_, g4.nw⟩
                      · have p2 : p ≠ b := fun z => by rw [z, nb0] at hp; cases hp
                        rw [upd_ne p2]; exact g4.hh p o hp
                      · have p2 : p ≠ b := fun z => by rw [z, nb4] at hp; cases hp
                        rw [upd_ne p2]; exact g4.gh p o hp
                    have now2 : noOwn (wipeE wp ρ2) = true := noOwn_wipe wp no2
                    have iw : (wipeE wp ρ2)[i]? = some (.rf y) := by rw [wipe_other wp hwp]; exact qy
                    refine ⟨wipeE wp ρ2, G3, vs ++ [v], xs ++ [z], (sg.trans sg2).trans gg.gg, ⟨g5, by rw [upd_ne (Ne.symm hba)]; exact a4, upd_same, na4, nb4, (d3.up gg.gg).snoc hv, ((at2.rep.grow gg).wipe wp).any now2, now2, iw, u3.up gg.gg⟩, ?_⟩
                    exact FiS.up fi2 (sg2.trans gg.gg)
                · rw [if_neg cy] at fi; exact False.elim fi
              · exact False.elim fi
            have seq : (f1 ρ').seq f2 = (f1 ρ').seq f2 := rfl
            cases q1 : f1 ρ' with
            | nx ρ1 =>
              rw [q1] at fi
              rw [SR.seq_nx] at fi
              intro σ1 H1' G1' s1 at1
              refine ⟨H', G, ρ1, G1', at1, ?_⟩
              cases q2 : f2 ρ1 with
              | nx ρ2 =>
                rw [q2] at fi
                intro σ2 H2 G2 s2 at2
                exact last ρ2 fi σ2 H2 G2 (s1.trans s2) at2
              | xc cx nx fx => rw [q2] at fi; exact fun od H3 G3 gg xd => fi od H3 G3 (g1.trans gg) xd
              | rt d => rw [q2] at fi; exact False.elim fi
              | ro d => rw [q2] at fi; exact False.elim fi
              | bk d => rw [q2] at fi; exact False.elim fi
              | ct d => rw [q2] at fi; exact False.elim fi
              | bot => rw [q2] at fi; exact False.elim fi
            | xc cx nx fx => rw [q1] at fi; exact fun od H3 G3 gg xd => fi od H3 G3 (g1.trans gg) xd
            | rt d => rw [q1] at fi; exact False.elim fi
            | ro d => rw [q1] at fi; exact False.elim fi
            | bk d => rw [q1] at fi; exact False.elim fi
            | ct d => rw [q1] at fi; exact False.elim fi
            | bot => rw [q1] at fi; exact False.elim fi
        · have ek : k = ds.length := by omega
          subst ek
          rw [List.drop_length] at fi
          refine .inl ⟨hJ.stop H (sg.trans g1.gh), ?_⟩
          unfold fldL at fi
          rw [Rs.sr_ok] at fi
          dsimp only at fi
          rw [i1] at fi
          dsimp only at fi
          rw [if_pos ⟨rfl, o1⟩] at fi
          have hi3 : i < ρ.length := (List.getElem?_eq_some_iff.mp i1).1
          have hi4 : i < σ.length := by rw [r1.len]; exact hi3
          have e3 : σ[i]? = some (some (.ref a)) := by
            have := r1.sl i _ (σ[i]) i1 (by simp [hi4])
            rw [List.getElem?_eq_getElem hi4]
            exact congrArg some this
          have sgb : Same G (upd G b (.lst vs)) := same_upd nb1
          refine fi σ H (upd G b (.lst vs)) sgb ⟨⟨g1.hh, g1.gg.trans sgb, fun p o hp => ?_, fun p o hp => ?_⟩, ⟨by simp [r1.len], fun j s o h1 h2 => ?_, fun j k s t' p h1 h2 o1' o2' _ _ => ?_⟩, fun j s p h1 h2 h3 => ?_⟩
          · by_cases c1 : p = b
            · subst c1; rw [upd_same] at hp; cases hp; exact b1
            · rw [upd_ne c1] at hp; exact g1.gh p o hp
          · by_cases c1 : p = b
            · subst c1; exact .inr nb0
            · rw [upd_ne c1] at hp; exact g1.nw p o hp
          · by_cases hj : i = j
            · subst hj
              rw [List.getElem?_set_self hi3] at h1
              cases h1
              rw [e3] at h2; cases h2
              refine ⟨a, dx, us ++ [(f, .ref b)], (fun b' e' => Option.some.inj e'), rfl, a1, by rw [upd_ne (Ne.symm hba)]; exact na1, by simp, ?_⟩
              rw [List.map_append]
              exact (u1.up sgb).snoc (.lst upd_same (d1.up sgb))
            · rw [List.getElem?_set_ne hj] at h1
              have qq := r1.sl j s o h1 h2
              have nn := noOwn_at o1 h1
              cases s with
              | no => trivial
              | dt d => obtain ⟨v, e1, z⟩ := qq; exact ⟨v, e1, z.up sgb⟩
              | rf p => exact qq
              | ex a od ns fs => exact ⟨qq.1, qq.2.up sgb⟩
              | ol xs => cases nn
              | od ks vs => cases nn
              | oo p c ns fs => cases nn
              | on w ks vs => cases nn
          · by_cases hj : i = j
            · by_cases hk2 : i = k
              · omega
              · rw [List.getElem?_set_ne hk2] at h2
                rw [noOwn_at o1 h2] at o2'; cases o2'
            · rw [List.getElem?_set_ne hj] at h1
              rw [noOwn_at o1 h1] at o1'; cases o1'
          · by_cases hj : i = j
            · subst hj
              rw [e3] at h3; cases h3; exact n0
            · rw [List.getElem?_set_ne hj] at h1
              rw [noOwn_at o1 h1] at h2; cases h2
    · rw [if_neg cc] at fi; exact False.elim fi
  · exact False.elim fi
end
end KD

/-! KD19: a def that answers a new list, which becomes its caller's own. -/
namespace KD
open PySem L2
def asLs : D → Rs (List D)
  | .lst xs => .ok xs
  | _ => .bot
/-- return x, x an owned list -/
def sRetO (i : Nat) : Ev → SR := fun ρ => match ρ[i]? with
  | some (.ol xs) => .ro xs
  | _ => .bot
def sRetF (f : Ev → Rs (List D)) : Ev → SR := fun ρ => (f ρ).sr .ro
def NoR (f : Ev → SR) : Prop := ∀ ρ d, f ρ ≠ .rt d
section
variable {X : Cx} {E : XK} {st : Stmt} {rest body : List Stmt} {f g h : Ev → SR} {e : Expr} {es : List Expr} {fa fb : Ev → Rs D} {fs : Ev → Rs (List D)} {ft : Ev → Rs Bool} {pos : Pos}
theorem ds_retO {i : Nat} (hv : PE X e (tVar i)) : DS X E (.Return (some e) pos) (sRetO i) := by
  refine psI (ps_ret hv) fun D σ H ⟨H0, G0, ρ, G, at_, fi⟩ => ?_
  unfold sRetO at fi
  split at fi
  · rename_i xs q
    obtain ⟨a, vs, e, hH, nG, dp⟩ := at_.rep.ol q
    have n0 := at_.own i _ a q rfl e
    let H1 : Hp := fun b => if b = a then none else H b
    have e1 : upd H1 a (.lst vs) = H := by
      funext b
      by_cases c : b = a
      · subst c; rw [upd_same, hH]
      · rw [upd_ne c]; exact if_neg c
    have ga := at_.gr
    have gr : Grow H0 G0 H1 G := by
      refine ⟨fun b u hb => ?_, ga.gg, fun b u hb => ?_, ga.nw⟩
      · have : b ≠ a := fun c => by subst c; rw [n0] at hb; cases hb
        exact (if_neg this).trans (ga.hh b u hb)
      · have : b ≠ a := fun c => by subst c; rw [nG] at hb; cases hb
        exact (if_neg this).trans (ga.gh b u hb)
    refine ⟨_, e, ?_⟩
    have := fi vs H1 G gr dp a (if_pos rfl)
    rw [e1] at this
    exact this
  · exact False.elim fi
theorem ds_retF {f : Ev → Rs (List D)} (he : PE X e (tFr X.K E f)) : DS X E (.Return (some e) pos) (sRetF f) := by
  refine psI (ps_ret he) fun D σ H ⟨H0, G0, ρ, G, at_, fi⟩ => ?_
  exact ⟨ρ, G, at_.gr.gh, at_.rep, (fi.sr at_).imp fun d H1 G1 g1 ⟨a1, fi1⟩ vs hv l nl => fi1 vs H1 G1 a1.gr hv l nl⟩
theorem noR_sr {α : Type} {r : Rs α} {k : α → SR} (h : ∀ a d, k a ≠ .rt d) (d : D) : r.sr k ≠ .rt d := by
  cases r with
  | ok a => exact h a d
  | xc c n f => exact fun e => by cases e
  | bot => exact fun e => by cases e
theorem noR_seq (h1 : NoR f) (h2 : NoR g) : NoR (sSeq f g) := fun ρ d e => by
  unfold sSeq at e
  cases q : f ρ with
  | nx ρ' => rw [q] at e; exact h2 _ _ e
  | rt d' => exact h1 _ _ q
  | _ => rw [q] at e; cases e
theorem noR_nil : NoR sNil := fun ρ d e => by cases e
theorem noR_if (h1 : NoR f) (h2 : NoR g) : NoR (sIf ft f g) := fun ρ d => noR_sr (fun a d e => by
  cases a with
  | true => exact h1 ρ d e
  | false => exact h2 ρ d e) d
theorem noR_set {i : Nat} : NoR (sSet i fa) := fun ρ d => noR_sr (fun a d e => by cases e) d
theorem noR_new {i : Nat} : NoR (sNew i) := fun ρ d e => by cases e
theorem noR_app {i : Nat} : NoR (sApp i fa) := fun ρ d e => by
  unfold sApp at e
  split at e
  · refine noR_sr (fun a d e => ?_) d e
    split at e <;> cases e
  · cases e
theorem noR_retO {i : Nat} : NoR (sRetO i) := fun ρ d e => by
  unfold sRetO at e
  split at e <;> cases e
theorem noR_retF : NoR (sRetF fs) := fun ρ d => noR_sr (fun a d e => by cases e) d
theorem noR_unp {is : List Nat} : NoR (sUnp is fa) := fun ρ d e => by
  unfold sUnp at e
  refine noR_sr (fun a d e => ?_) d e
  split at e <;> first | cases e | (split at e <;> cases e)
theorem noR_frz {i : Nat} (h : NoR f) : NoR (fun ρ => f (KD.frz i ρ)) := fun ρ d => h _ d
theorem noR_forL {t : D → Ev → Option Ev} {wp : List Nat} (h : NoR f) : ∀ (ds : List D) (ρ : Ev) (d : D), forL t wp f ds ρ ≠ .rt d
  | [], ρ, d, e => by cases e
  | x :: ds, ρ, d, e => by
    unfold forL at e
    split at e
    · cases e
    · split at e
      · exact noR_forL h ds _ d e
      · exact noR_forL h ds _ d e
      · cases e
      · rename_i q; exact h _ _ q
      · cases e
      · cases e
      · cases e
theorem noR_for {it : Ev → Rs (List D)} {t : D → Ev → Option Ev} {wp : List Nat} (h : NoR f) : NoR (sFor it t wp f) := fun ρ d => noR_sr (fun ds d => noR_forL h ds ρ d) d
end

def spL (K : PySem.W.Frag) (n : Nat) (g : List D → Rs D) : Sp := fun vs H Q E => ∃ G ds, Same G H ∧ DpAll K G vs ds ∧ ds.length = n ∧ Fi K E H G ((g ds).bind asLs) (fun xs H' G' => ∀ vs, DpAll K G' vs xs → ∀ l, H' l = none → Q (.ref l) (upd H' l (.lst vs)))
def FnL (P : Program) (w : World) (K : PySem.W.Frag) (mg : Str → Option Value) (base : Heap) (k : Nat) (ad : PySem.W.Frag → Addr) (n : Nat) (g : List D → Rs D) : Prop :=
  ∃ fd ps, FnOk P w K mg base (L2N.CX P w) k (ad K) fd ps (spL K n g) ∧ Binds K fd ps [] ∧ PySem.W.keepIn K (.ref (ad K)) = true
section
variable {P : Program} {w : World} {K : PySem.W.Frag} {mg : Str → Option Value} {base : Heap}
theorem FnL.mono {j k : Nat} {ad : PySem.W.Frag → Addr} {n : Nat} {g : List D → Rs D} (F : FnL P w K mg base j ad n g) (h : j ≤ k) : FnL P w K mg base k ad n g :=
  let ⟨fd, ps, a, b, c⟩ := F
  ⟨fd, ps, a.mono h, b, c⟩
theorem fn_L {x qual : Str} {params : Arguments} {body : List Stmt} {scope : Scope} {dvs : List V} {kws : List (Str × V)} {f : Addr} {fd : FuncData} {N ps : List Str} {k : Nat} {b : Ev → SR} (nr : NoR b) (F : FunD K x qual params body scope dvs kws f fd) (S : FnScope N ps scope)
    (hb : ∀ (cdv : Value) (A : Around) (outer : List Env) (s : Shared) (H : Hp) (E : XK), Room k (A.deeper (PyProof.Rows.envOfC qual scope s.heap.objs.size f cdv)) → DSs (cxOf (L2N.CX P w) P w K mg base N qual scope f cdv A outer s H E) E body b) :
    FnOk P w K mg base (L2N.CX P w) (k + 1) f fd ps (spL K ps.length (runD N.length b)) := by
  refine F.ok S (fun vs H Q E ⟨G, ds, _, dp, l, _⟩ => dp.length.trans l) fun cdv A outer s H vs Q E hr ⟨G, ds, sg, dp, l, fi⟩ => ⟨_, hb cdv A outer s H E hr, ?_⟩
  have hn : vs.length ≤ N.length := by
    have h1 := dp.length
    have h2 : (N.take ps.length).length = ps.length := by rw [S.pre]
    rw [List.length_take] at h2
    omega
  have noown : ∀ (i : Nat) (s : Sl), (ev0 N.length ds)[i]? = some s → s.own = true → False := fun i s h1 o1 => by
    unfold ev0 at h1
    by_cases c : i < ds.length
    · rw [List.getElem?_append_left (by simpa using c), List.getElem?_map] at h1
      cases q : ds[i]? with
      | none => rw [q] at h1; cases h1
      | some d => rw [q] at h1; cases h1; cases o1
    · rw [List.getElem?_append_right (by simpa using c), List.getElem?_replicate] at h1
      split at h1
      · cases h1; cases o1
      · cases h1
  refine ⟨H, G, ev0 N.length ds, G, ⟨Grow.refl sg, rep0 dp hn, fun i s a h1 h2 _ => (noown i s h1 h2).elim⟩, ?_⟩
  unfold runD at fi
  cases q : b (ev0 N.length ds) with
  | nx ρ => rw [q] at fi; exact False.elim fi
  | rt d => exact absurd q (nr _ _)
  | ro xs => rw [q] at fi; exact fun vs H' G' g hv l nl => fi H' G' g vs hv l nl
  | bk ρ => rw [q] at fi; exact False.elim fi
  | ct ρ => rw [q] at fi; exact False.elim fi
  | xc c n f => rw [q] at fi; exact fi
  | bot => rw [q] at fi; exact False.elim fi
theorem fnL_of {d : DefP} {N ps : List Str} {k : Nat} {b : Ev → SR} {fd : FuncData} (nr : NoR b) (F : FunD K d.name d.qual d.params d.body d.scope [] (d.kws K) (d.ad K) fd) (S : FnScope N ps d.scope)
    (hbd : ∀ (dV kV doc pm : Value) (an : Option Addr) (cdv ct : Value) (us : List Value), us.length = ps.length → bindArgs (PySem.W.fnOf d.name d.qual d.params d.body d.scope .none kV doc pm an cdv ct) ⟨us, []⟩ = pure (ps.zip us))
    (hb : ∀ (cdv : Value) (A : Around) (outer : List Env) (s : Shared) (H : Hp) (E : XK), Room k (A.deeper (PyProof.Rows.envOfC d.qual d.scope s.heap.objs.size (d.ad K) cdv)) → DSs (cxOf (L2N.CX P w) P w K mg base N d.qual d.scope (d.ad K) cdv A outer s H E) E d.body b) :
    FnL P w K mg base (k + 1) d.ad ps.length (runD N.length b) :=
  ⟨fd, ps, fn_L nr F S hb, F.bindsN (ps := ps) fun kV doc pm an cdv ct us hl => hbd .none kV doc pm an cdv ct us hl, F.kp⟩
end
section
variable {X : Cx} {E : XK} {e : Expr} {es : List Expr} {fa : Ev → Rs D} {fs : Ev → Rs (List D)} {pos : Pos}
def dFrM (c m : Str) (n : Nat) (g : List D → Rs D) (fo : Ev → Rs D) (fs : Ev → Rs (List D)) : Ev → Rs (List D) := fun ρ => (fo ρ).bind fun x => (gSelf c m x).bind fun x => (fs ρ).bind fun ds => if ds.length + 1 = n then (g (x :: ds)).bind asLs else .bot
theorem fr_methF {k n : Nat} {c m : Str} {g : List D → Rs D} {o : Expr} {apos : Pos} {pl : Sem Bool} (F : FnL X.prog X.w X.K X.mg X.base k (mAd c m) n g) (hr : Room k X.A) (cl : Cls X.K (He.ga X.K c)) (hm : Meth X.K (He.ga X.K c) m (He.ma X.K (He.ga X.K c) m)) (hx : Passes (L2N.CX X.prog X.w) X E) (he : DE X E o fa) (ha : DA X E (e :: es) fs)
    (hst : starEach (e :: es) X.env = (false, eval e X.env) :: starEach es X.env := by rfl) (hpl : (backTo pos (starEach es X.env)).any (·.1) = false := by rfl)
    (ht : eval (.Call (.Attribute o m apos) (e :: es) [] pos) X.env = (do
      let ov ← eval o X.env
      standAt apos.atName
      let (f, first) ← holding [ov] (getMethod ov m pl)
      callWith pos f first (backTo pos (starEach (e :: es) X.env)) (backToKw pos (keywordEach [] X.env))) := by rfl) :
    PE X (.Call (.Attribute o m apos) (e :: es) [] pos) (tFr X.K E (dFrM c m n g fa fs)) := by
  obtain ⟨fd, ps, F, hb, _⟩ := F
  refine peI (pe_meth (pl := pl) he cl hm F hr hb .nil hx ha hst hpl ht) fun σ H Q ⟨ρ, G, s, r, fi⟩ => ?_
  refine ⟨ρ, G, s, r, fi.bind.imp fun d H1 G1 g1 fi1 v hv => ?_⟩
  obtain ⟨a, dx, fs, ds, rfl, rfl, h1, h2, fi2⟩ := gSelf_ok hv fi1.bind
  have fi3 := fi2.now g1.gh
  refine ⟨a, dx, fs, rfl, g1.gh _ _ h1, h2, ρ, G1, g1.gh, r.grow g1, fi3.bind.imp fun es H2 G2 g2 fi4 vs hvs => ?_⟩
  by_cases cn : es.length + 1 = n
  · rw [if_pos cn] at fi4
    rw [List.append_nil]
    exact ⟨G2, _ :: es, g2.gh, .cons (hv.up g2.gg) hvs, by simpa using cn, fi4⟩
  · rw [if_neg cn] at fi4; exact False.elim fi4
end
end KD

/-! KD20: the facts of the top read at given addresses. -/
namespace KD
open PySem L2
def obsA (as : List Addr) (fa : List Fb) (fn : List DefP) (g : Addr → Option Obj) : AlP := obsP fa fn (He.frG g as)
def hookA (as : List Addr) (fa : List Fb) (fn : List DefP) : PySem.W.Hook where
  α := AlP
  obs := fun s => obsA as fa fn s.heap.get?
  val := fun _ => valP fn
  says := fun _ h => ∃ K : PySem.W.Frag, K.In h ∧ SaysP fa fn K
  of := fun _ _ e => ⟨_, He.frG_in, e⟩
  keeps := fun _ _ _ ⟨K, hK, c⟩ k => ⟨K, PySem.W.Frag.In.keeps hK k, c⟩
theorem obsA_eq {as : List Addr} {fa : List Fb} {fn : List DefP} {g : Addr → Option Obj} {s : Shared} (h : ∀ a, g a = s.heap.get? a) : obsA as fa fn g = (hookA as fa fn).obs s := by
  have e : g = s.heap.get? := funext h
  rw [e] <;> rfl
end KD

/-! KX1: the __init__ of an own error: super().__init__(text); self.f = x. -/
namespace KD
open PySem L2 PyProof.Rows
/-- ValueError.__init__ through a method-wrapper -/
theorem call_mw {prog : Program} {w : World} {A : Around} {E : Value → Shared → Prop} {h : Heap} {g : Array GenState} {d : Drawn} {t : Nat} {os : OsState} {nm q : Str} {C N : Addr} {bs bm : List Value} {hdct : Bool} {sn : List Str} {sub : List Value} {ab : Bool} {col : Option Bool} {dd : Option Addr} {k0 k1 k2 k3 k5 : Option Value}
    {u e t0 : Addr} {rest : List Value} {Q : Value → Shared → Prop}
    (hC : h.get? C = some (excClassObj nm q C N bs bm hdct sn sub ab col dd k0 k1 k2 k3 k5 "ValueError.__new__")) (he : h.get? e = some (PySem.HandSPX.excO C t0)) (hu : h.get? u = some (PySem.W.kxs_mw "ValueError.__init__" e)) (hrest : rest.length ≤ sizeLine)
    (hq : ∀ h' t1, (∀ b o, b ≠ e → h.get? b = some o → h'.get? b = some o) → h'.get? e = some (PySem.HandSPX.excO C t1) → Q .none ⟨h', g, d, t, os⟩) :
    wpAny (model prog w) A (call (.ref u) rest) Q E ⟨h, g, d, t, os⟩ := by
  refine wpAny_call (codeAny_of_tree ?_)
  show wpAny _ A.in1 (callAny (.ref u) ⟨rest, []⟩) _ _ _
  simp only [callAny]
  refine wpAny_bind (wpAny_load hu ?_)
  simp only [PySem.W.kxs_mw, show (Value.type "method-wrapper" == Value.type "method" || Value.type "method-wrapper" == Value.type "builtin_function_or_method" || Value.type "method-wrapper" == Value.type "method-wrapper") = true by decide, if_true]
  refine PySem.W.KFB.if_so (by decide) ?_
  refine wpAny_bind (PySem.ESX.check_bound F.excBase_ValueError hC he rfl ?_)
  refine wpAny_bind (wpAny_pure (wpAny_pure ?_))
  refine ⟨Code.quiet_builtin _ (by decide +kernel), codeAny_builtin F.excBase_ValueError.initEntry ?_⟩
  rw [Around.under_plainId F.excBase_ValueError.init.plain _]
  wp_walk
  refine hq _ h.objs.size (fun b o hb ho => ?_) ?_
  · rw [Heap.get?_update_other _ _ (Ne.symm hb)]
    exact Heap.get?_push_of_some _ ho
  · rw [Heap.get?_update_self _ (Heap.get?_push_of_some _ he) rfl]
    rfl
/-- what the written part says of an error's __init__ -/
structure SupF (P : Program) (K : PySem.W.Frag) (mg : Str → Option Value) (C f cc cda : Addr) (fd : FuncData) : Prop where
  T : OexC K C
  lk : ∃ oc od osl, K.lookup f = some ⟨oc, od, .func fd, osl⟩
  cell : ∃ cl cld csl, K.lookup cc = some ⟨cl, cld, .cell (some (.ref C)), csl⟩
  code : ∃ ccl cdd vs ccs file tf, K.lookup cda = some ⟨ccl, cdd, .fields vs, ccs⟩ ∧ vs[2]? = some (.str file tf) ∧ ((P.main.file : Str) == file) = true
  st : PySem.W.nsIn K PySem.cStatics "thirdparty.any" = some none
  sup : mg "super" = none
  top : (P.main.scope.names.lookup ("super" : Str)).isSome = false
  mro : ∃ cd, PySem.W.clsIn K C = some cd ∧ PySem.W.alongIn K "__init__" ((cd.mro.dropWhile (· != .ref C)).drop 1) = some (some (.builtin "ValueError.__init__"))
  sub : PySem.W.mroIn K C (.ref C) = some true
  ve : PySem.W.mroIn K C (.type "ValueError") = some true
section
variable {X : Cx} {C f cc cda L a : Addr} {qual : Str} {scope : Scope} {fd : FuncData} {ar : Arg} {σ : L2.St} {H : Hp} {s : Shared} {i : Nat}
theorem super_stmt {body : List Stmt} {p0 p1 p2 p4 p5 : Pos} {e : Expr} {v : V} {Q : Flow → Shared → Prop} {pl : Sem Bool} (S : SupF X.prog X.K X.mg C f cc cda fd) (hE : X.env = PySem.W.ksEnv qual scope L f (.ref cda) cc)
    (hp : (fd.params.posonlyargs ++ fd.params.args).head? = some ar) (hks : scope.names.lookup ("super" : Str) = some .globalImplicit) (hkc : scope.names.lookup ("__class__" : Str) = some .free) (hka : scope.names.lookup ar.arg = some .local)
    (hN : X.N[i]? = some ar.arg) (hs : σ[i]? = some (some (.ref a))) (I : Inv X [] σ H s) (ea : H a = some (exo a C none))
    (ha : PA X [e] (tCons (tC v) tNil)) (he : starEach [e] X.env = (false, eval e X.env) :: starEach [] X.env) (hpl : (backTo p4 (starEach [] X.env)).any (·.1) = false)
    (hev : eval (.Call (.Attribute (.Call (.Name "super" p0) [] [] p1) "__init__" p2) [e] [] p4) X.env = (do
      let ov ← attributeBase (.Call (.Name "super" p0) [] [] p1) "__init__" X.env (eval (.Call (.Name "super" p0) [] [] p1) X.env)
      standAt p2.atName
      let (f, first) ← holding [ov] (getMethod ov "__init__" pl)
      callWith p4 f first (backTo p4 (starEach [e] X.env)) []))
    (hsw : swapsWith (.Call (.Attribute (.Call (.Name "super" p0) [] [] p1) "__init__" p2) [e] [] p4) none p5.line X.env = pure false)
    (hq : ∀ s', Inv X [] σ H s' → Q .next s') :
    _root_.PySem.wpAt (model X.prog X.w) X.A (.func body X.env) (exec (.Expr (.Call (.Attribute (.Call (.Name "super" p0) [] [] p1) "__init__" p2) [e] [] p4) p5) X.env) Q X.xe s := by
  obtain ⟨oc, od, osl, lk⟩ := S.lk
  obtain ⟨cl, cld, csl, hcell⟩ := S.cell
  obtain ⟨ccl, cdd, vs, ccs, file, tf, hcode, hvs, hfile⟩ := S.code
  obtain ⟨cd, hcd, hal⟩ := S.mro
  obtain ⟨hh, g, d, tk, os⟩ := s
  obtain ⟨t1, hx⟩ := exo_at I.hok ea
  have KX := I.kIn
  have kind : scope.kind = .function := by have := I.ok.kind; rw [hE] at this; exact this
  obtain ⟨oD, hD1, hD2⟩ : ∃ oD, hh.get? C = some oD ∧ oD.data = .cls cd := by
    have hcd' := hcd
    unfold PySem.W.clsIn at hcd'
    split at hcd'
    · rename_i ho
      cases hcd'
      exact ⟨_, KX _ _ ho, rfl⟩
    · cases hcd'
  refine PySem.ks_wpAt_Expr_any (PySem.ks_wpAt_MethodCall (pl := pl) ?_ hev) (by simp [interactive, I.ok.kind]) hsw
  · rw [hE]
    refine PySem.ks_wpAt_super_base (env := PySem.W.ksEnv qual scope L f (.ref cda) cc) hks hkc (by decide) rfl (KX _ _ lk) rfl hp rfl (KX _ _ hcode) rfl hvs hfile S.top ?_
    obtain ⟨mb, hb1, hb2⟩ := I.mod.blt
    obtain ⟨m, hns, hlook⟩ := I.loc
    have hboot : bootBuiltins "super" = some (.type "super") := by first | rfl | kernel_rfl
    refine PySem.W.ks_loadName_global kind hks (Calls.loadGlobal_builtin (env := PySem.W.ksEnv qual scope L f (.ref cda) cc) (I.mod.glob.keeps I.bk) S.sup (hb1.keeps I.bk) ((hb2 "super" (by decide)).trans hboot) ⟨rfl, ?_⟩)
    refine wpAny_loadName_free kind hkc rfl ⟨_, KX _ _ hcell, rfl⟩ ?_
    obtain ⟨u, ru, lu⟩ := hlook i ar.arg (.ref a) hN hs (.inl (by rw [hE]; exact hka))
    obtain rfl : u = Value.ref a := ru
    rw [hE] at lu hns
    have hm : m ar.arg = some (.ref a) := by
      rcases lu with ⟨_, q⟩ | ⟨q, _⟩
      · exact q
      · exfalso
        have hka' : (PySem.W.ksEnv qual scope L f (.ref cda) cc).kindOf ar.arg = some .local := hka
        rw [hka'] at q
        rcases q with q | q <;> cases q
    refine wpAny_loadName_local kind hka hns hm ?_
    refine ks_wpAny_isType_cls hD1 hD2 ⟨rfl, ?_⟩
    refine ks_wpAny_call_super hD1 hD2 hx rfl (fun c e => (by cases e)) (PySem.W.looks_mroIn KX S.sub) (fun h' e' k => ?_)
    have J := I.kept (h' := h') (t' := tk) k
    have xC : a ≠ C := fun z => by
      subst z
      rw [hx] at hD1
      cases hD1
      cases hD2
    have InA : PySem.W.InstAt h' a { cls := .ref C, dict := none, data := .fields #[.ref t1, .none, .none, .none, .bool false, .none] } C none := ⟨k _ _ hx, rfl, rfl, trivial⟩
    refine PySem.W.kxs_getMethod PySem.W.kxs_ValueError e' (PySem.W.looks_opaque (KX.keeps k) S.st) (l₀ := cd.mro) (fun A Q E s k' q => wpAny_bind ((PySem.W.looks_clsIn (KX.keeps k) hcd) A _ E s k' (wpAny_pure q))) rfl (KX.keeps k) hal (InA.type.andThen (PySem.W.looks_mroIn (KX.keeps k) S.ve)) xC (by decide) ?_
    show wpAny _ _ (callWith p4 (.ref h'.objs.size) [] (backTo p4 (starEach [e] (PySem.W.ksEnv qual scope L f (Value.ref cda) cc))) []) _ _ _
    rw [← hE, he]
    refine PySem.W.kxs_callWith (i := "ValueError.__init__") (x := a) (by show (false || (backTo p4 (starEach [] X.env)).any (·.1)) = false; rw [hpl]; rfl) ?_
    refine PySem.Calls.evalArgs_plain ?_
    have J2 : Inv X [] σ H ⟨h'.push (PySem.W.kxs_mw "ValueError.__init__" a), g, d, tk + 1, os⟩ := J.kept (t' := tk + 1) (fun b o q => Heap.get?_push_of_some _ q)
    have J3 : Inv X [(h'.objs.size, PySem.W.kxs_mw "ValueError.__init__" a)] σ H ⟨h'.push (PySem.W.kxs_mw "ValueError.__init__" a), g, d, tk + 1, os⟩ := J2.pins_of fun p hp => by
      rw [List.mem_singleton] at hp
      subst hp
      refine ⟨Heap.get?_push_at rfl rfl, J.hok.fresh (Nat.le_refl _), fun z => ?_, J.nofs (Nat.le_refl _), fun v z => (by cases z)⟩
      have := J.lt
      rw [← z] at this
      exact absurd this (Nat.lt_irrefl _)
    show wpAny _ _ (spliced (backTo p4 ((false, eval e X.env) :: starEach [] X.env))) _ _ _
    rw [← he]
    refine thn (ha.run p4 _ _ σ H (fun vs H1 => H1 = H ∧ vs.length = 1) J3 ⟨rfl, rfl⟩) ?_
    rintro us s1 ⟨vs1, H1, I1, r1, rfl, hl1⟩
    have hpin := I1.pin (h'.objs.size, PySem.W.kxs_mw "ValueError.__init__" a) (List.mem_append_right _ (List.mem_singleton.mpr rfl))
    have J4 : Inv X [] σ H1 s1 := I1.pins_of fun p hp => by cases hp
    obtain ⟨t2, hx2⟩ := exo_at J4.hok ea
    obtain ⟨nm, q, N, bs, bm, sn, sub, ab, col, dd, k0, k1, k2, k3, k5, hC, hbm⟩ := S.T.cls
    obtain ⟨hh2, g2, d2, tk2, os2⟩ := s1
    refine ⟨hpin.1, call_mw (J4.kIn _ _ hC) hx2 hpin.1 ?_ fun h3 t3 k3' hx3 => hq _ ?_⟩
    · have := Paired.length r1
      rw [sizeLine_eq]
      simp
      omega
    have Z := J4.write (t' := tk2) (x := a) (e := a) (o := exo a C none) (by rw [ea]; exact True.intro) (.inl rfl) k3' ⟨_, hx3⟩ (exo_ok hx3)
    have eu : upd H1 a (exo a C none) = H1 := by
      funext b
      by_cases hb : b = a
      · rw [hb, upd_same, ea]
      · rw [upd_ne hb]
    rw [eu] at Z
    exact Z
end
end KD

/-! KX2: FnOk of an error's __init__. -/
namespace KD
open PySem L2 PyProof.Rows
def cxS (CX : CXT) (P : Program) (w : World) (K : PySem.W.Frag) (mg : Str → Option Value) (base : Heap) (N : List Str) (qual : Str) (scope : Scope) (f : Addr) (cd : Value) (cc : Addr) (A : Around) (outer : List Env) (s : Shared) (H : Hp) (E : XK) : Cx where
  prog := P
  w := w
  K := K
  mg := mg
  base := base
  A := A.deeper (PySem.W.ksEnv qual scope s.heap.objs.size f cd cc)
  N := N
  s_0 := s
  H_0 := H
  env := PySem.W.ksEnv qual scope s.heap.objs.size f cd cc
  outer := outer
  stack := PySem.W.ksEnv qual scope s.heap.objs.size f cd cc :: outer
  ex := []
  calm := true
  fn := fun _ => false
  pn := []
  xe := fun e s' => wpAny (model P w) (A.deeper (PySem.W.ksEnv qual scope s.heap.objs.size f cd cc)) (leaving (PySem.W.ksEnv qual scope s.heap.objs.size f cd cc) e) (fun _ s'' => CX outer H s E e s'') (fun e' s'' => CX outer H s E e' s'') s'
theorem lookup_of_mem {x : Str} {v : Value} : ∀ {l : List (Str × Value)}, (l.map (·.1)).Nodup → (x, v) ∈ l → l.lookup x = some v
  | [], _, h => by cases h
  | (y, u) :: l, nd, h => by
    rw [List.map_cons, List.nodup_cons] at nd
    rw [List.lookup_cons]
    rcases List.mem_cons.mp h with e | h'
    · cases e; simp
    · have : x ≠ y := fun e => nd.1 (by rw [← e]; exact List.mem_map.mpr ⟨(x, v), h', rfl⟩)
      have hb : (x == y) = false := by simpa using this
      rw [hb]
      exact lookup_of_mem nd.2 h'
theorem lookup_zip {N : List Str} {us : List Value} {i : Nat} {y : Str} {u : Value} (nd : N.Nodup) (hl : us.length = N.length) (h1 : N[i]? = some y) (h2 : us[i]? = some u) : (N.zip us).reverse.lookup y = some u := by
  refine lookup_of_mem ?_ (List.mem_reverse.mpr ?_)
  · rw [List.map_reverse]
    show List.Pairwise _ _
    rw [List.pairwise_reverse, List.map_fst_zip (by omega)]
    exact List.Pairwise.imp (fun h => Ne.symm h) nd
  · have : (N.zip us)[i]? = some (y, u) := by simp [List.getElem?_zip_eq_some, h1, h2]
    exact List.mem_of_getElem? this
section
variable {CX : CXT} {P : Program} {w : World} {K : PySem.W.Frag} {mg : Str → Option Value} {base : Heap} {qual : Str} {scope : Scope} {f cc : Addr} {cd : Value} {A : Around} {outer : List Env} {s : Shared} {H : Hp} {E : XK}
theorem inv_startS {N : List Str} {vs : List V} {us : List Value} {h1 : Heap} {tk : Nat} (kind : scope.kind = .function) (nd : N.Nodup) (hN : ∀ x ∈ N, scope.names.lookup x = some .local)
    (hfree : ∀ x, (scope.names.lookup x = some .cell ∨ scope.names.lookup x = some .free) → x = "__class__") (hcell : ∃ cl cld v csl, K.lookup cc = some ⟨cl, cld, .cell v, csl⟩)
    (hd : A.handled = none) (e0 : Env0 P w K mg base A outer s H) (hl : vs.length = N.length) (r : Vals vs us)
    (hns : h1.Ns s.heap.objs.size (fun x => (N.zip us).reverse.lookup x)) (hk : ∀ b o, s.heap.get? b = some o → h1.get? b = some o) :
    Inv (cxS CX P w K mg base N qual scope f cd cc A outer s H E) [] (vs.map some) H { s with heap := h1, toks := tk } := by
  have noA : ∀ b : Addr, b ∉ (cxS CX P w K mg base N qual scope f cd cc A outer s H E).ex := fun b z => absurd (show b ∈ ([] : List Addr) from z) (by simp)
  have cl1 : ∀ (x : Str) (c : Addr), (cxS CX P w K mg base N qual scope f cd cc A outer s H E).env.cells.lookup x = some c → x = "__class__" ∧ c = cc := fun x c h => by
    have h' : ([("__class__", cc)] : List (Str × Addr)).lookup x = some c := h
    rw [List.lookup_cons] at h'
    split at h'
    · rename_i q
      cases h'
      exact ⟨by simpa using q, rfl⟩
    · cases h'
  obtain ⟨ccl, cld, cv, csl, hcc⟩ := hcell
  have hccb := e0.bs _ _ (e0.mod.kin _ _ hcc)
  refine ⟨⟨e0.mod, kind, rfl, rfl, Nat.le_refl _, fun y z c q1 q2 => ?_, fun y hy => ?_, fun y c q _ => (by cases q), fun _ => hd, Around.frames_deeper e0.frames, .inr ⟨rfl, rfl⟩, fun b z => absurd z (noA b), e0.bs, e0.bsz, fun b _ _ => noA b, fun b z => absurd z (noA b), e0.funs, e0.frf⟩,
    rfl, e0.bare, Un.kept hk, ⟨_, hns, fun i y v q1 q2 q3 => ?_⟩, fun y c q => ?_, e0.hok.fresh (Nat.le_refl _), fun y c q => ?_, fun p hp => absurd (show p ∈ ([] : List (Addr × Obj)) from hp) (by simp), e0.hok.kept hk, (by rw [List.length_map]; exact hl)⟩
  · rw [(cl1 _ _ q1).1, (cl1 _ _ q2).1]
  · obtain rfl := hfree y hy
    exact ⟨cc, rfl⟩
  · have ha : vs[i]? = some v := by
      rw [List.getElem?_map] at q2
      cases e : vs[i]? with
      | none => rw [e] at q2; cases q2
      | some a => rw [e] at q2; cases q2; rfl
    obtain ⟨u, hu, rv⟩ := r.get ha
    exact ⟨u, rv, .inl ⟨hN y (List.mem_of_getElem? q1), lookup_zip nd (by rw [← r.length]; exact hl) q1 hu⟩⟩
  · obtain ⟨_, rfl⟩ := cl1 _ _ q
    exact ⟨cv, _, hk _ _ hccb.1, rfl⟩
  · obtain ⟨_, rfl⟩ := cl1 _ _ q
    exact hccb.2
end
/-- C.__init__(self, ..): behind super().__init__(text) -/
def spX (C : Addr) (n : Nat) (t : TS) : Sp := fun vs H Q E => ∃ a ys, vs = .ref a :: ys ∧ ys.length = n ∧ H a = some (exo a C none) ∧ t { nx := fun _ H' => Q .non H', rt := Q } (vs.map some) H
section
variable {CX : CXT} {P : Program} {w : World} {K : PySem.W.Frag} {mg : Str → Option Value} {base : Heap} {qual x1 name : Str} {xs : List Str} {scope : Scope} {f cc cda C : Addr} {params : Arguments} {dV kV doc pm ct : Value} {an : Option Addr} {tx : Str} {j : Nat} {p3 p0 p1 p2 p4 p5 : Pos} {ar : Arg} {rest : List Stmt} {t : TS}
theorem fn_excS (S : SupF P K mg C f cc cda (PySem.W.ksFn name qual params (.Expr (.Call (.Attribute (.Call (.Name "super" p0) [] [] p1) "__init__" p2) [.Constant (.str tx) j p3] [] p4) p5 :: rest) scope dV kV doc pm an (.ref cda) ct cc))
    (hcd : PySem.W.codeIn K (.ref cda) qual = true)
    (kind : scope.kind = .function) (hco : scope.isCoroutine = false) (hgen : scope.isGenerator = false) (nd : (x1 :: xs).Nodup) (hN : ∀ x ∈ x1 :: xs, scope.names.lookup x = some .local)
    (hks : scope.names.lookup ("super" : Str) = some .globalImplicit) (hkc : scope.names.lookup ("__class__" : Str) = some .free)
    (hfree : ∀ x, (scope.names.lookup x = some .cell ∨ scope.names.lookup x = some .free) → x = "__class__") (hcells : ∀ x ∈ scope.names, x.2 ≠ .cell)
    (hp : (params.posonlyargs ++ params.args).head? = some ar) (har : ar.arg = x1)
    (hev : ∀ L : Addr, ∃ pl : Sem Bool, eval (.Call (.Attribute (.Call (.Name "super" p0) [] [] p1) "__init__" p2) [.Constant (.str tx) j p3] [] p4) (PySem.W.ksEnv qual scope L f (.ref cda) cc) = (do
      let ov ← attributeBase (.Call (.Name "super" p0) [] [] p1) "__init__" (PySem.W.ksEnv qual scope L f (.ref cda) cc) (eval (.Call (.Name "super" p0) [] [] p1) (PySem.W.ksEnv qual scope L f (.ref cda) cc))
      standAt p2.atName
      let (f0, first) ← holding [ov] (getMethod ov "__init__" pl)
      callWith p4 f0 first (backTo p4 (starEach [.Constant (.str tx) j p3] (PySem.W.ksEnv qual scope L f (.ref cda) cc))) []))
    (hsw : ∀ L : Addr, swapsWith (.Call (.Attribute (.Call (.Name "super" p0) [] [] p1) "__init__" p2) [.Constant (.str tx) j p3] [] p4) none p5.line (PySem.W.ksEnv qual scope L f (.ref cda) cc) = pure false)
    (hrest : ∀ (A : Around) (outer : List Env) (s : Shared) (H : Hp) (E : XK), PSs (cxS CX P w K mg base (x1 :: xs) qual scope f (.ref cda) cc A outer s H E) rest t) :
    FnOk P w K mg base CX 1 f (PySem.W.ksFn name qual params (.Expr (.Call (.Attribute (.Call (.Name "super" p0) [] [] p1) "__init__" p2) [.Constant (.str tx) j p3] [] p4) p5 :: rest) scope dV kV doc pm an (.ref cda) ct cc) (x1 :: xs) (spX C xs.length t) := by
  refine ⟨fun vs H Q E ⟨a, ys, hv, hl, _⟩ => (by rw [hv]; simp [hl]), fun A outer s H args us vs Q E hr e0 hb r hsp => ?_⟩
  obtain ⟨a, ys, hv, hyl, ea, hq⟩ := hsp
  have KX : K.In s.heap := e0.mod.kin.keeps fun b o e => (e0.bs b o e).1
  have lim : s.heap.NoLimit := e0.mod.nolimit.keeps fun b o e => (e0.bs b o e).1
  have hl : vs.length = (x1 :: xs).length := by rw [hv]; simp [hyl]
  obtain ⟨oc, od, osl, lk⟩ := S.lk
  obtain ⟨cl, cld, csl, hcell⟩ := S.cell
  refine ks_codeAny_call_defAt (fd := PySem.W.ksFn name qual params _ scope dV kV doc pm an (.ref cda) ct cc) (binds := (x1 :: xs).zip us) hr.depth (KX _ _ lk) rfl lim (PySem.W.codeRec_of KX hcd) rfl hb hcells (fun y hy => ?_) (fun h1 hns hk => ?_) hco hgen kind
  · obtain ⟨y1, y2⟩ := y
    exact hN y1 (List.of_mem_zip hy).1
  have I := inv_startS (CX := CX) (P := P) (w := w) (K := K) (mg := mg) (base := base) (qual := qual) (scope := scope) (f := f) (cc := cc) (cd := .ref cda) (A := A) (outer := outer) (s := s) (H := H) (E := E) (tk := s.toks + ((x1 :: xs).zip us).length) kind nd hN hfree ⟨_, _, _, _, hcell⟩ hr.hd e0 hl r hns hk
  obtain ⟨pl, hpl⟩ := hev s.heap.objs.size
  refine ks_wpAt_execs_cons (super_stmt (pl := pl) (X := cxS CX P w K mg base (x1 :: xs) qual scope f (.ref cda) cc A outer s H E) (i := 0) (v := .str tx) S rfl hp hks hkc (by rw [har]; exact hN _ (List.mem_cons_self ..)) (by rw [har]; rfl) (by rw [hv]; rfl) I ea (pa_cons pe_str pa_nil) (by rfl) (by rfl) hpl (hsw _) fun s' J => ?_)
  refine wpAt_of_wpAny (wpAny_mono ((hrest A outer s H E).run [] s' _ H _ J hq) (fun fl s2 hs => ?_) fun e s2 hs => hs)
  have fin : ∀ {σ' : L2.St} {H' : Hp} {v : V} {u : Value}, Inv (cxS CX P w K mg base (x1 :: xs) qual scope f (.ref cda) cc A outer s H E) [] σ' H' s2 → RelV v u → Q v H' → CE outer P w H s Q u s2 :=
    fun {σ' H' v u} J rv q => ⟨v, H', J.os, J.bare, J.base, J.hok, rv, q⟩
  cases fl with
  | ret u =>
    obtain ⟨v, σ', H', J, rv, q⟩ := hs
    exact fin J rv q
  | next =>
    obtain ⟨σ', H', J, q⟩ := hs
    exact fin (v := V.non) (u := Value.none) J rfl q
  | brk =>
    obtain ⟨_, _, _, q⟩ := hs
    exact False.elim q
  | cont =>
    obtain ⟨_, _, _, q⟩ := hs
    exact False.elim q
end
end KD

/-! KX3: raise C(..), C an own error. -/
namespace KD
open PySem L2 PyProof.Rows
section
variable {X : Cx} {e : Expr} {es : List Expr} {ta : TA} {p pos : Pos}
theorem mk_endN {pins : List (Addr × Obj)} {σ : L2.St} {H1 H2 : Hp} {Q : XK} {hp hp2 h2 : Heap} {g1 g2 : Array GenState} {d1 d2 : Drawn} {t1 t2 : Nat} {os1 os2 : OsState} {a C d : Addr} {fs : List (Str × V)} (T : Raises X (.ref C)) (I1 : Inv X pins σ H1 ⟨hp, g1, d1, t1, os1⟩)
    (ha : hp.objs.size ≤ a) (k : ∀ b o, hp.get? b = some o → hp2.get? b = some o) (un : Un (frs X.stack) [] (upd H1 a (exo a C none)) H2 hp2 h2) (hok : HOk X.prog X.w H2 h2) (ho : os2 = os1) (hb : AllBare g2)
    (ea : H2 a = some (exo a C (some d))) (ed : H2 d = some (exd d fs)) (hd1 : H1 d = none) (q : Q (.ref C) (some d) (upd (L2.del H2 a) d (.xd fs))) : L2N.MkP X pins σ Q (.ref a) ⟨h2, g2, d2, t2, os2⟩ := by
  obtain ⟨t0, G, J, kG, ge, hoe, na⟩ := mk_end0 (d2 := d2) (t2 := t2) I1 ha k un hok ho hb ea ed hd1
  exact ⟨a, _, _, ⟨G, g2, d2, t2, os2⟩, _, .ref C, some d, rfl, J, kG, ge, hoe, ⟨rfl, rfl, fun vs e => by cases e; rfl⟩, rfl, rfl, na, rfl, hb, T, q⟩
theorem pmk_oexN {CX : CXT} {x : Str} {C fI : Addr} {k : Nat} {fd : FuncData} {ps : List Str} {sp : Sp} {ds : List Value} {dvs : List V} (T : OexC X.K C) (iC : PySem.W.findIn X.K (.ref C) "__init__" = some (some (.ref fI))) (tI : PySem.W.typeIn X.K (.ref fI) = some (.type "function"))
    (F1 : FnOk X.prog X.w X.K X.mg X.base CX k fI fd ps sp) (hr : Room (k + 1) X.A) (hb : Binds X.K fd ps ds) (hd : Vals dvs ds) (hx : Passes CX X (fun _ _ _ => False)) (hg : Gl X x) (hm : X.mg x = some (.ref C)) (ha : PA X (e :: es) ta)
    (hdb : (x == ("__debug__" : Str)) = false := by decide) (he : starEach (e :: es) X.env = (false, eval e X.env) :: starEach es X.env := by rfl) (hpl : (backTo pos (starEach es X.env)).any (·.1) = false := by rfl) :
    L2N.PMk X (.Call (.Name x p) (e :: es) [] pos) (tMkO C sp dvs ta) := by
  intro pins s σ H Q I h
  obtain ⟨nm, q, N, bs, bm, sn, sub, ab, col, dd, k0, k1, k2, k3, k5, hC, hbm⟩ := T.cls
  refine wpAny_Call_Name_kw (ld_glob I hg hm ?_ hdb)
  refine PySem.W.callWith_K (h₀ := X.base) I.ok.mod.kin T.kC (thn (ha.run pos pins s σ H _ I h) fun us s1 ⟨vs, H1, I1, r1, hz, q1⟩ => ⟨I1.kIn, ?_⟩) he hpl
  show wpAny _ _ (call (.ref C) us) _ _ _
  obtain ⟨hp, g, dr, tk, os⟩ := s1
  have hsz : hp.objs.size ≤ hp.objs.size + 1 := Nat.le_succ _
  have hn : H1 (hp.objs.size + 1) = none := I1.hok.fresh hsz
  have hq := q1 (hp.objs.size + 1) hn
  have kk : ∀ b o, hp.get? b = some o → ((hp.push (PySem.W.kdv_tup us)).push (PySem.HandSPX.excO C hp.objs.size)).get? b = some o := fun b o e => Heap.get?_push_of_some _ (Heap.get?_push_of_some _ e)
  have hget : ((hp.push (PySem.W.kdv_tup us)).push (PySem.HandSPX.excO C hp.objs.size)).get? (hp.objs.size + 1) = some (PySem.HandSPX.excO C hp.objs.size) := by heap_get
  have I2 : Inv X pins σ (upd H1 (hp.objs.size + 1) (exo (hp.objs.size + 1) C none)) ⟨(hp.push (PySem.W.kdv_tup us)).push (PySem.HandSPX.excO C hp.objs.size), g, dr, tk, os⟩ :=
    I1.laid (t' := tk) (a := hp.objs.size + 1) (o := exo (hp.objs.size + 1) C none) (h' := (hp.push (PySem.W.kdv_tup us)).push (PySem.HandSPX.excO C hp.objs.size)) kk hsz (exo_ok hget)
  have r2 : Vals (V.ref (hp.objs.size + 1) :: (vs ++ dvs)) (Value.ref (hp.objs.size + 1) :: (us ++ ds)) := .cons rfl (r1.append hd)
  have hl : (Value.ref (hp.objs.size + 1) :: us ++ ds).length = ps.length := by
    have e := r2.length
    rw [F1.len _ _ _ _ hq] at e
    exact e.symm
  have hus : us.length ≤ sizeLine := by
    rw [← Paired.length r1, sizeLine_eq]
    omega
  refine wpAny_call (PySem.HandSPX.call_own F.excBase_ValueError (fun Y => PySem.HandSPX.refsVE_contains Y bm hbm) (I1.kIn _ _ hC) (PySem.W.looks_findIn I1.kIn iC) (fun self => PySem.W.bind_fn I1.kIn self tI) hus
    (codeAny_mono (F1.run _ X.stack _ _ ⟨Value.ref (hp.objs.size + 1) :: us, []⟩ (Value.ref (hp.objs.size + 1) :: (us ++ ds)) _ _ (fun _ _ _ => False) (hr.make C us []) (I2.env0.make C us []) (hb _ (Value.ref (hp.objs.size + 1) :: us) I2.kIn hl) r2 hq) fun r s' hq' => ?_))
  cases r with
  | error er => exact hx pins σ _ _ er s' I2 hq'
  | ok fl =>
    cases fl with
    | ret u =>
      obtain ⟨v, H2, os2, bare2, un2, hok2, rv, ev, d, fs, ea, ed, hd1, q2⟩ := hq'
      subst ev
      obtain ⟨h2, g2, d2, t2, os'⟩ := s'
      exact ⟨rv, mk_endN (raises_own T.exC T.tyC) I1 hsz kk un2 hok2 os2 bare2 ea ed hd1 q2⟩
    | next => exact False.elim hq'
    | brk => exact False.elim hq'
    | cont => exact False.elim hq'
end
/-- C.__init__(self, ..) sets the fields ns, in turn -/
def spXF (C : Addr) (ns : List Str) : Sp := fun vs H Q _ => ∃ a ys, vs = .ref a :: ys ∧ ys.length = ns.length ∧ H a = some (exo a C none) ∧ ∀ dx, H dx = none → dx ≠ a → Q .non (upd (upd H dx (exd dx (ns.zip ys).reverse)) a (exo a C (some dx)))
theorem DpAll.reverse {K : PySem.W.Frag} {G : Hp} : ∀ {vs : List V} {ds : List D}, DpAll K G vs ds → DpAll K G vs.reverse ds.reverse
  | _, _, .nil => .nil
  | _, _, .cons a t => by rw [List.reverse_cons, List.reverse_cons]; exact (DpAll.reverse t).append (.cons a .nil)
/-- the error class c with the fields ns can be made -/
structure MkX (P : Program) (w : World) (K : PySem.W.Frag) (mg : Str → Option Value) (base : Heap) (c : Str) (ns : List Str) : Prop where
  T : OexC K (He.ga K c)
  mgc : mg c = some (.ref (He.ga K c))
  iC : PySem.W.findIn K (.ref (He.ga K c)) "__init__" = some (some (.ref (He.ma K (He.ga K c) "__init__")))
  tI : PySem.W.typeIn K (.ref (He.ma K (He.ga K c) "__init__")) = some (.type "function")
  ne : ns ≠ []
  F : ∃ fd ps, FnOk P w K mg base (L2N.CX P w) 1 (He.ma K (He.ga K c) "__init__") fd ps (spXF (He.ga K c) ns) ∧ Binds K fd ps []
def sRaise (c : Str) (ns : List Str) (fs : Ev → Rs (List D)) : Ev → SR := fun ρ => (fs ρ).sr fun ds => if ds.length = ns.length ∧ ds.length ≤ 1000 then .xc c ns.reverse ds.reverse else .bot
theorem ds_raise {X : Cx} {E : XK} {c : Str} {ns : List Str} {e : Expr} {es : List Expr} {fs : Ev → Rs (List D)} {p pos pos' : Pos} (M : MkX X.prog X.w X.K X.mg X.base c ns) (hr : Room 2 X.A) (hc : X.calm = true) (tk : L2N.Takes X (fun cls d _ H => E cls d H)) (hg : Gl X c) (ha : DA X E (e :: es) fs)
    (hdb : (c == ("__debug__" : Str)) = false := by decide) (he : starEach (e :: es) X.env = (false, eval e X.env) :: starEach es X.env := by rfl) (hpl : (backTo pos (starEach es X.env)).any (·.1) = false := by rfl) :
    DS X E (.Raise (some (.Call (.Name c p) (e :: es) [] pos)) none pos') (sRaise c ns fs) := by
  obtain ⟨fd, ps, F, B⟩ := M.F
  refine psI (L2N.ps_raise hc tk (pmk_oexN (dvs := []) (ds := []) M.T M.iC M.tI F hr B .nil passN hg M.mgc ha hdb he hpl)) fun D σ H ⟨H0, G0, ρ, G, at_, fi⟩ => ?_
  refine ⟨ρ, G, at_.gr.gh, at_.rep, (fi.sr at_).imp fun ds H1 G1 g1 ⟨a1, fi1⟩ vs hvs => ?_⟩
  have hl := hvs.length
  by_cases q : ds.length = ns.length ∧ ds.length ≤ 1000
  · rw [if_pos q] at fi1
    refine ⟨by omega, fun a na => ?_⟩
    rw [List.append_nil]
    refine ⟨a, vs, rfl, by omega, upd_same, fun dx nd ne => ⟨rfl, dx, (ns.zip vs).reverse, upd_same, by rw [upd_ne ne, upd_same], ?_, ?_⟩⟩
    · rw [upd_ne ne] at nd; exact nd
    · rw [upd_ne ne] at nd
      have eH : upd (L2.del (upd (upd (upd H1 a (exo a (He.ga X.K c) none)) dx (exd dx (ns.zip vs).reverse)) a (exo a (He.ga X.K c) (some dx))) a) dx (.xd (ns.zip vs).reverse) = upd H1 dx (.xd (ns.zip vs).reverse) := by
        funext b
        by_cases hb : b = dx
        · subst hb; rw [upd_same, upd_same]
        · rw [upd_ne hb, upd_ne hb]
          by_cases hba : b = a
          · subst hba; rw [L2.del_same, na]
          · rw [L2.del_ne hba, upd_ne hba, upd_ne hb, upd_ne hba]
      rw [eH]
      have ng := a1.gr.gh.free nd
      have g2 := Grow.laid (o := .xd (ns.zip vs).reverse) a1.gr.gh nd
      refine fi1 (some dx) _ _ (a1.gr.trans g2) ⟨(ns.zip vs).reverse, upd_same, ?_, ?_⟩
      · rw [List.map_reverse, List.map_fst_zip (by omega)]
      · rw [List.map_reverse, List.map_snd_zip (by omega)]
        exact (hvs.up (same_upd ng)).reverse
  · rw [if_neg q] at fi1; exact False.elim fi1
end KD

/-! KX4: the facts of an own error. -/
namespace KD
open PySem L2 PyProof.Rows
theorem oexB_ok {K : PySem.W.Frag} {C : Addr} (h : oexB K C = true) : ∃ nm q N bs bm sn sub ab col dd k0 k1 k2 k3 k5, K.lookup C = some (excClassObj nm q C N bs bm true sn sub ab col dd k0 k1 k2 k3 k5 "ValueError.__new__") ∧ PySem.HandSPX.refsVE bm = true := by
  unfold oexB at h
  split at h
  · rename_i dd cd sl ho
    split at h
    · rename_i C' bm k0 k1 k2 k3 n k5 hm hs
      obtain ⟨h1, h⟩ := He.ba h
      obtain ⟨h2, h⟩ := He.ba h
      obtain ⟨h3, h⟩ := He.ba h
      obtain ⟨h4, h5⟩ := He.ba h
      have e1 := of_decide_eq_true h1
      have e2 := of_decide_eq_true h2
      obtain ⟨nm, bs, mro, ns, qn, hd, sn, sb, ab, col, del⟩ := cd
      dsimp only at hm h3 h4
      have h3' : del = false := by simpa using h3
      subst hm h3' e1 e2 h4
      have hsl : sl = #[k0, k1, k2, k3, some (.builtin "ValueError.__new__"), k5] := by
        obtain ⟨l⟩ := sl
        simp only at hs
        rw [hs]
      subst hsl
      exact ⟨nm, qn, ns, bs, bm, sn, sb, ab, col, dd, k0, k1, k2, k3, k5, ho, h5⟩
    · cases h
  · cases h
/-- all that the class says -/
structure OexF (K : PySem.W.Frag) (C : Addr) : Prop where
  T : OexC K C
  X : XfC K C
  I : ExcC K C
theorem oex_ok {K : PySem.W.Frag} {c : Str} (h : (Fb.oex c).ok K = true) : OexF K (He.ga K c) := by
  obtain ⟨h1, h⟩ := He.ba h
  obtain ⟨h2, h⟩ := He.ba h
  obtain ⟨h3, h⟩ := He.ba h
  obtain ⟨h4, h⟩ := He.ba h
  obtain ⟨h5, h⟩ := He.ba h
  obtain ⟨h6, h⟩ := He.ba h
  obtain ⟨h7, h⟩ := He.ba h
  obtain ⟨h8, h⟩ := He.ba h
  obtain ⟨h9, h⟩ := He.ba h
  obtain ⟨h10, h⟩ := He.ba h
  obtain ⟨h11, h12⟩ := He.ba h
  exact ⟨⟨oexB_ok h1, He.eqO_ok h2, of_decide_eq_true h3, of_decide_eq_true h4, h5⟩, ⟨He.eqO_ok h6, He.eqO_ok h7, of_decide_eq_true h3, h8⟩,
    ⟨He.eqO_ok h6, He.eqO_ok h7, of_decide_eq_true h3, h8, He.eqO_ok h9, He.eqO_ok h10, of_decide_eq_true h11, of_decide_eq_true h12⟩⟩
structure SupG (K : PySem.W.Frag) (C f : Addr) (z : Str) : Prop where
  iC : PySem.W.findIn K (.ref C) "__init__" = some (some (.ref f))
  tI : PySem.W.typeIn K (.ref f) = some (.type "function")
  fn : ∃ oc od fd osl cc cda, K.lookup f = some ⟨oc, od, .func fd, osl⟩ ∧ fd.closure = [(("__class__" : Str), cc)] ∧ fd.code = .ref cda ∧ (∃ cl cld csl, K.lookup cc = some ⟨cl, cld, .cell (some (.ref C)), csl⟩) ∧ ∃ ccl cdd vs ccs tf, K.lookup cda = some ⟨ccl, cdd, .fields vs, ccs⟩ ∧ vs[2]? = some (.str z tf)
  st : PySem.W.nsIn K PySem.cStatics "thirdparty.any" = some none
  mro : ∃ cd, PySem.W.clsIn K C = some cd ∧ PySem.W.alongIn K "__init__" ((cd.mro.dropWhile (· != .ref C)).drop 1) = some (some (.builtin "ValueError.__init__"))
  sub : PySem.W.mroIn K C (.ref C) = some true
  ve : PySem.W.mroIn K C (.type "ValueError") = some true
theorem sup_ok {K : PySem.W.Frag} {c z : Str} (h : (Fb.sup c z).ok K = true) : SupG K (He.ga K c) (He.ma K (He.ga K c) "__init__") z := by
  obtain ⟨h1, h⟩ := He.ba h
  obtain ⟨h2, h⟩ := He.ba h
  obtain ⟨h3, h⟩ := He.ba h
  obtain ⟨h4, h⟩ := He.ba h
  obtain ⟨h5, h⟩ := He.ba h
  obtain ⟨h6, h7⟩ := He.ba h
  refine ⟨He.eqO_ok h1, of_decide_eq_true h2, ?_, He.eqO_ok h4, ?_, of_decide_eq_true h6, of_decide_eq_true h7⟩
  · split at h3
    · rename_i oc od fd osl ho
      split at h3
      · rename_i y cc cda e1 e2
        obtain ⟨g1, g⟩ := He.ba h3
        obtain ⟨g2, g3⟩ := He.ba g
        have ey := of_decide_eq_true g1
        subst ey
        refine ⟨oc, od, fd, osl, cc, cda, ho, e1, e2, ?_, ?_⟩
        · split at g2
          · rename_i cl cld C' csl hcc
            have := of_decide_eq_true g2
            subst this
            exact ⟨_, _, _, hcc⟩
          · cases g2
        · split at g3
          · rename_i ccl cdd vs ccs hcd
            split at g3
            · rename_i y2 tf hvs
              have := of_decide_eq_true g3
              subst this
              exact ⟨_, _, _, _, _, hcd, hvs⟩
            · cases g3
          · cases g3
      · cases h3
    · cases h3
  · split at h5
    · rename_i cd hcd
      exact ⟨cd, hcd, He.eqO_ok h5⟩
    · cases h5
/-- what is asked of the program -/
structure ProgOk (P : Program) (z : Str) : Prop where
  file : (P.main.file : Str) = z
  top : (P.main.scope.names.lookup ("super" : Str)).isSome = false
section
variable {P : Program} {w : World} {K : PySem.W.Frag} {mg : Str → Option Value} {base : Heap} {fa : List Fb} {fn : List DefP} {c z x1 : Str} {xs ns : List Str} {d : DefP} {tx : Str} {j : Nat} {p3 p0 p1 p2 p4 p5 : Pos} {ar : Arg} {rest : List Stmt} {t : TS}
theorem mkX_of (TT : Tx fa fn K mg) (HP : ProgOk P z) (i1 i2 i3 i4 i5 : Nat) (h1 : fa[i1]? = some (.oex c)) (h2 : fa[i2]? = some (.sup c z)) (h3 : fa[i3]? = some (.fa (.glo c))) (h4 : fa[i4]? = some (.fa (.free "super"))) (h5 : fn[i5]? = some d) (hcl : d.cell = true) (hdf : d.dfl = []) (had : d.ad = mAd c "__init__")
    (hbody : d.body = .Expr (.Call (.Attribute (.Call (.Name "super" p0) [] [] p1) "__init__" p2) [.Constant (.str tx) j p3] [] p4) p5 :: rest)
    (kind : d.scope.kind = .function) (hco : d.scope.isCoroutine = false) (hgen : d.scope.isGenerator = false) (nd : (x1 :: xs).Nodup) (hN : ∀ x ∈ x1 :: xs, d.scope.names.lookup x = some .local)
    (hks : d.scope.names.lookup ("super" : Str) = some .globalImplicit) (hkc : d.scope.names.lookup ("__class__" : Str) = some .free)
    (hfree : ∀ x, (d.scope.names.lookup x = some .cell ∨ d.scope.names.lookup x = some .free) → x = "__class__") (hcells : ∀ x ∈ d.scope.names, x.2 ≠ .cell)
    (hp : (d.params.posonlyargs ++ d.params.args).head? = some ar) (har : ar.arg = x1)
    (hbd : ∀ (clo : List (Str × Addr)) (kV doc pm : Value) (an : Option Addr) (cdv ct : Value) (us : List Value), us.length = (x1 :: xs).length → bindArgs (PySem.W.fnX d.name d.qual d.params d.body d.scope clo .none kV doc pm an cdv ct) ⟨us, []⟩ = pure ((x1 :: xs).zip us))
    (hev : ∀ (L f cda cc : Addr), ∃ pl : Sem Bool, eval (.Call (.Attribute (.Call (.Name "super" p0) [] [] p1) "__init__" p2) [.Constant (.str tx) j p3] [] p4) (PySem.W.ksEnv d.qual d.scope L f (.ref cda) cc) = (do
      let ov ← attributeBase (.Call (.Name "super" p0) [] [] p1) "__init__" (PySem.W.ksEnv d.qual d.scope L f (.ref cda) cc) (eval (.Call (.Name "super" p0) [] [] p1) (PySem.W.ksEnv d.qual d.scope L f (.ref cda) cc))
      standAt p2.atName
      let (f0, first) ← holding [ov] (getMethod ov "__init__" pl)
      callWith p4 f0 first (backTo p4 (starEach [.Constant (.str tx) j p3] (PySem.W.ksEnv d.qual d.scope L f (.ref cda) cc))) []))
    (hsw : ∀ (L f cda cc : Addr), swapsWith (.Call (.Attribute (.Call (.Name "super" p0) [] [] p1) "__init__" p2) [.Constant (.str tx) j p3] [] p4) none p5.line (PySem.W.ksEnv d.qual d.scope L f (.ref cda) cc) = pure false)
    (hrest : ∀ (f cda cc : Addr) (A : Around) (outer : List Env) (s : Shared) (H : Hp) (E : XK), PSs (cxS (L2N.CX P w) P w K mg base (x1 :: xs) d.qual d.scope f (.ref cda) cc A outer s H E) rest t)
    (hne : ns ≠ []) (himp : OexC K (He.ga K c) → ∀ vs H Q E, spXF (He.ga K c) ns vs H Q E → spX (He.ga K c) xs.length t vs H Q E) : MkX P w K mg base c ns := by
  have O := oex_ok (TT.c.fact i1 h1)
  have S := sup_ok (TT.c.fact i2 h2)
  obtain ⟨oc, od, clo, kV, doc, pm, an, cdv, ct, osl, lk, hcd, kp⟩ := TT.c.defX i5 h5 hcl hdf
  obtain ⟨oc', od', fd', osl', cc, cda, lk', e1, e2, hcell, ccl, cdd, vs, ccs, tf, hcode, hvs⟩ := S.fn
  rw [had] at lk
  have z := lk'.symm.trans lk
  cases z
  dsimp only [PySem.W.fnX] at e1 e2
  subst e1 e2
  rw [hbody] at lk hbd
  refine ⟨O.T, TT.glo i3 h3, S.iC, S.tI, hne, _, x1 :: xs, (fn_excS (ar := ar) ⟨O.T, ⟨_, _, _, lk⟩, hcell, ⟨_, _, _, _, _, _, hcode, hvs, by rw [HP.file]; simp⟩, S.st, TT.free i4 h4, HP.top, S.mro, S.sub, S.ve⟩ hcd kind hco hgen nd hN hks hkc hfree hcells hp har (fun L => hev L _ _ _) (fun L => hsw L _ _ _) (fun A outer s H E => hrest _ _ _ A outer s H E)).imp (himp O.T), ?_⟩
  exact .all (hbd _ kV doc pm an _ ct)
end
end KD

/-! KX5: errors with one field, with three. -/
namespace KD
open PySem L2 PyProof.Rows
section
variable {P : Program} {w : World} {K : PySem.W.Frag} {mg : Str → Option Value} {base : Heap} {qual : Str} {scope : Scope} {N : List Str} {f cda cc : Addr} {A : Around} {outer : List Env} {s : Shared} {H : Hp} {E : XK} {x y fld : Str} {i k : Nat} {p6 p7 p8 p9 : Pos}
theorem fld1 (hN : ∀ x ∈ N, scope.names.lookup x = some .local) (hi : N[i]? = some x) (hk : N[k]? = some y) (d1 : (x == ("__debug__" : Str)) = false) (d2 : (x == ("__classdict__" : Str)) = false) (d3 : (y == ("__debug__" : Str)) = false) (d4 : (y == ("__classdict__" : Str)) = false) :
    PS (cxS (L2N.CX P w) P w K mg base N qual scope f (.ref cda) cc A outer s H E) (.Assign [.Attribute (.Name x p6) fld p7] (.Name y p8) p9) (tOst K fld (tVar i) (tVar k)) :=
  ps_ost (X := cxS (L2N.CX P w) P w K mg base N qual scope f (.ref cda) cc A outer s H E) (pe_var hi (.inl (hN _ (List.mem_of_getElem? hi))) d1 d2) (pe_var hk (.inl (hN _ (List.mem_of_getElem? hk))) d3 d4)
end
theorem himp1 {K : PySem.W.Frag} {C : Addr} {fld : Str} (hno : PySem.W.findIn K (.ref C) fld = some none) (T : OexC K C) : ∀ vs H Q E, spXF C [fld] vs H Q E → spX C 1 (tOst K fld (tVar 0) (tVar 1)) vs H Q E := by
  rintro vs H Q E ⟨a, ys, rfl, hl, ea, q⟩
  match ys, hl, q with
  | [y], hl, q =>
    refine ⟨a, [y], rfl, rfl, ea, y, rfl, .ref a, rfl, a, C, rfl, T, hno, .inl ⟨ea, fun dx nd ne => ?_⟩⟩
    exact q dx nd ne
theorem himp3 {K : PySem.W.Frag} {C : Addr} {f1 f2 f3 : Str} (hn1 : PySem.W.findIn K (.ref C) f1 = some none) (hn2 : PySem.W.findIn K (.ref C) f2 = some none) (hn3 : PySem.W.findIn K (.ref C) f3 = some none) (T : OexC K C) :
    ∀ vs H Q E, spXF C [f1, f2, f3] vs H Q E → spX C 3 (tSeq (tOst K f1 (tVar 0) (tVar 1)) (tSeq (tOst K f2 (tVar 0) (tVar 2)) (tOst K f3 (tVar 0) (tVar 3)))) vs H Q E := by
  rintro vs H Q E ⟨a, ys, rfl, hl, ea, q⟩
  match ys, hl, q with
  | [y1, y2, y3], hl, q =>
    refine ⟨a, [y1, y2, y3], rfl, rfl, ea, y1, rfl, .ref a, rfl, a, C, rfl, T, hn1, .inl ⟨ea, fun dx nd ne => ?_⟩⟩
    refine ⟨y2, rfl, .ref a, rfl, a, C, rfl, T, hn2, .inr ⟨dx, _, upd_same, by rw [upd_ne ne, upd_same], by simp, ?_⟩⟩
    refine ⟨y3, rfl, .ref a, rfl, a, C, rfl, T, hn3, .inr ⟨dx, [(f2, y2), (f1, y1)], by rw [upd_ne (Ne.symm ne), upd_same], upd_same, by simp, ?_⟩⟩
    have := q dx nd ne
    have e : upd (upd (upd (upd H dx (exd dx [(f1, y1)])) a (exo a C (some dx))) dx (exd dx [(f2, y2), (f1, y1)])) dx (exd dx [(f3, y3), (f2, y2), (f1, y1)]) = upd (upd H dx (exd dx ([f1, f2, f3].zip [y1, y2, y3]).reverse)) a (exo a C (some dx)) := by
      funext b
      by_cases hb : b = dx
      · subst hb; rw [upd_same, upd_ne ne, upd_same]; rfl
      · rw [upd_ne hb, upd_ne hb]
        by_cases ha : b = a
        · subst ha; rw [upd_same, upd_same]
        · rw [upd_ne ha, upd_ne ha, upd_ne hb, upd_ne hb]
    rw [← e] at this
    exact this
section
variable {P : Program} {w : World} {K : PySem.W.Frag} {mg : Str → Option Value} {base : Heap} {fa : List Fb} {fn : List DefP} {c z : Str} {d : DefP} {tx : Str} {j : Nat} {p3 p0 p1 p2 p4 p5 p6 p7 p8 p9 q6 q7 q8 q9 r6 r7 r8 r9 : Pos} {ar : Arg} {x1 x2 x3 x4 f1 f2 f3 : Str}
theorem mkX1 (TT : Tx fa fn K mg) (HP : ProgOk P z) (i1 i2 i3 i4 i5 i6 : Nat) (h1 : fa[i1]? = some (.oex c)) (h2 : fa[i2]? = some (.sup c z)) (h3 : fa[i3]? = some (.fa (.glo c))) (h4 : fa[i4]? = some (.fa (.free "super"))) (h5 : fn[i5]? = some d) (h6 : fa[i6]? = some (.nof c f1)) (hcl : d.cell = true) (hdf : d.dfl = []) (had : d.ad = mAd c "__init__")
    (hbody : d.body = [.Expr (.Call (.Attribute (.Call (.Name "super" p0) [] [] p1) "__init__" p2) [.Constant (.str tx) j p3] [] p4) p5, .Assign [.Attribute (.Name x1 p6) f1 p7] (.Name x2 p8) p9])
    (kind : d.scope.kind = .function) (hco : d.scope.isCoroutine = false) (hgen : d.scope.isGenerator = false) (nd : [x1, x2].Nodup) (hN : ∀ x ∈ [x1, x2], d.scope.names.lookup x = some .local)
    (hks : d.scope.names.lookup ("super" : Str) = some .globalImplicit) (hkc : d.scope.names.lookup ("__class__" : Str) = some .free)
    (hfree : ∀ x, (d.scope.names.lookup x = some .cell ∨ d.scope.names.lookup x = some .free) → x = "__class__") (hcells : ∀ x ∈ d.scope.names, x.2 ≠ .cell)
    (hp : (d.params.posonlyargs ++ d.params.args).head? = some ar) (har : ar.arg = x1)
    (hbd : ∀ (clo : List (Str × Addr)) (kV doc pm : Value) (an : Option Addr) (cdv ct : Value) (us : List Value), us.length = [x1, x2].length → bindArgs (PySem.W.fnX d.name d.qual d.params d.body d.scope clo .none kV doc pm an cdv ct) ⟨us, []⟩ = pure ([x1, x2].zip us))
    (hev : ∀ (L f cda cc : Addr), ∃ pl : Sem Bool, eval (.Call (.Attribute (.Call (.Name "super" p0) [] [] p1) "__init__" p2) [.Constant (.str tx) j p3] [] p4) (PySem.W.ksEnv d.qual d.scope L f (.ref cda) cc) = (do
      let ov ← attributeBase (.Call (.Name "super" p0) [] [] p1) "__init__" (PySem.W.ksEnv d.qual d.scope L f (.ref cda) cc) (eval (.Call (.Name "super" p0) [] [] p1) (PySem.W.ksEnv d.qual d.scope L f (.ref cda) cc))
      standAt p2.atName
      let (f0, first) ← holding [ov] (getMethod ov "__init__" pl)
      callWith p4 f0 first (backTo p4 (starEach [.Constant (.str tx) j p3] (PySem.W.ksEnv d.qual d.scope L f (.ref cda) cc))) []))
    (hsw : ∀ (L f cda cc : Addr), swapsWith (.Call (.Attribute (.Call (.Name "super" p0) [] [] p1) "__init__" p2) [.Constant (.str tx) j p3] [] p4) none p5.line (PySem.W.ksEnv d.qual d.scope L f (.ref cda) cc) = pure false)
    (d1 : (x1 == ("__debug__" : Str)) = false) (d2 : (x1 == ("__classdict__" : Str)) = false) (d3 : (x2 == ("__debug__" : Str)) = false) (d4 : (x2 == ("__classdict__" : Str)) = false) : MkX P w K mg base c [f1] := by
  have hno : PySem.W.findIn K (.ref (He.ga K c)) f1 = some none := He.eqO_ok (TT.c.fact i6 h6)
  exact mkX_of (xs := [x2]) TT HP i1 i2 i3 i4 i5 h1 h2 h3 h4 h5 hcl hdf had hbody kind hco hgen nd hN hks hkc hfree hcells hp har hbd hev hsw (fun f cda cc A outer s H E => pss_one (fld1 (i := 0) (k := 1) hN rfl rfl d1 d2 d3 d4)) (by simp) (himp1 hno)
theorem mkX3 (TT : Tx fa fn K mg) (HP : ProgOk P z) (i1 i2 i3 i4 i5 i6 i7 i8 : Nat) (h1 : fa[i1]? = some (.oex c)) (h2 : fa[i2]? = some (.sup c z)) (h3 : fa[i3]? = some (.fa (.glo c))) (h4 : fa[i4]? = some (.fa (.free "super"))) (h5 : fn[i5]? = some d) (h6 : fa[i6]? = some (.nof c f1)) (h7 : fa[i7]? = some (.nof c f2)) (h8 : fa[i8]? = some (.nof c f3)) (hcl : d.cell = true) (hdf : d.dfl = []) (had : d.ad = mAd c "__init__")
    (hbody : d.body = [.Expr (.Call (.Attribute (.Call (.Name "super" p0) [] [] p1) "__init__" p2) [.Constant (.str tx) j p3] [] p4) p5, .Assign [.Attribute (.Name x1 p6) f1 p7] (.Name x2 p8) p9, .Assign [.Attribute (.Name x1 q6) f2 q7] (.Name x3 q8) q9, .Assign [.Attribute (.Name x1 r6) f3 r7] (.Name x4 r8) r9])
    (kind : d.scope.kind = .function) (hco : d.scope.isCoroutine = false) (hgen : d.scope.isGenerator = false) (nd : [x1, x2, x3, x4].Nodup) (hN : ∀ x ∈ [x1, x2, x3, x4], d.scope.names.lookup x = some .local)
    (hks : d.scope.names.lookup ("super" : Str) = some .globalImplicit) (hkc : d.scope.names.lookup ("__class__" : Str) = some .free)
    (hfree : ∀ x, (d.scope.names.lookup x = some .cell ∨ d.scope.names.lookup x = some .free) → x = "__class__") (hcells : ∀ x ∈ d.scope.names, x.2 ≠ .cell)
    (hp : (d.params.posonlyargs ++ d.params.args).head? = some ar) (har : ar.arg = x1)
    (hbd : ∀ (clo : List (Str × Addr)) (kV doc pm : Value) (an : Option Addr) (cdv ct : Value) (us : List Value), us.length = [x1, x2, x3, x4].length → bindArgs (PySem.W.fnX d.name d.qual d.params d.body d.scope clo .none kV doc pm an cdv ct) ⟨us, []⟩ = pure ([x1, x2, x3, x4].zip us))
    (hev : ∀ (L f cda cc : Addr), ∃ pl : Sem Bool, eval (.Call (.Attribute (.Call (.Name "super" p0) [] [] p1) "__init__" p2) [.Constant (.str tx) j p3] [] p4) (PySem.W.ksEnv d.qual d.scope L f (.ref cda) cc) = (do
      let ov ← attributeBase (.Call (.Name "super" p0) [] [] p1) "__init__" (PySem.W.ksEnv d.qual d.scope L f (.ref cda) cc) (eval (.Call (.Name "super" p0) [] [] p1) (PySem.W.ksEnv d.qual d.scope L f (.ref cda) cc))
      standAt p2.atName
      let (f0, first) ← holding [ov] (getMethod ov "__init__" pl)
      callWith p4 f0 first (backTo p4 (starEach [.Constant (.str tx) j p3] (PySem.W.ksEnv d.qual d.scope L f (.ref cda) cc))) []))
    (hsw : ∀ (L f cda cc : Addr), swapsWith (.Call (.Attribute (.Call (.Name "super" p0) [] [] p1) "__init__" p2) [.Constant (.str tx) j p3] [] p4) none p5.line (PySem.W.ksEnv d.qual d.scope L f (.ref cda) cc) = pure false)
    (d1 : (x1 == ("__debug__" : Str)) = false) (d2 : (x1 == ("__classdict__" : Str)) = false) (d3 : (x2 == ("__debug__" : Str)) = false) (d4 : (x2 == ("__classdict__" : Str)) = false) (d5 : (x3 == ("__debug__" : Str)) = false) (d6 : (x3 == ("__classdict__" : Str)) = false) (d7 : (x4 == ("__debug__" : Str)) = false) (d8 : (x4 == ("__classdict__" : Str)) = false) : MkX P w K mg base c [f1, f2, f3] := by
  have n1 : PySem.W.findIn K (.ref (He.ga K c)) f1 = some none := He.eqO_ok (TT.c.fact i6 h6)
  have n2 : PySem.W.findIn K (.ref (He.ga K c)) f2 = some none := He.eqO_ok (TT.c.fact i7 h7)
  have n3 : PySem.W.findIn K (.ref (He.ga K c)) f3 = some none := He.eqO_ok (TT.c.fact i8 h8)
  exact mkX_of (xs := [x2, x3, x4]) TT HP i1 i2 i3 i4 i5 h1 h2 h3 h4 h5 hcl hdf had hbody kind hco hgen nd hN hks hkc hfree hcells hp har hbd hev hsw (fun f cda cc A outer s H E => pss_cons (fld1 (i := 0) (k := 1) hN rfl rfl d1 d2 d3 d4) (pss_cons (fld1 (i := 0) (k := 2) hN rfl rfl d1 d2 d5 d6) (pss_one (fld1 (i := 0) (k := 3) hN rfl rfl d1 d2 d7 d8)))) (by simp) (himp3 n1 n2 n3)
end
end KD

/-! KX6: calls whose error is caught in the same frame: the wish depends on the slots. -/
namespace KD
open PySem L2 PyProof.Rows
section
variable {X : Cx} {CX : CXT} {k n : Nat} {f C : Addr} {fd : FuncData} {ps ks : List Str} {sp : Sp} {E : L2.St → XK} {x m : Str} {p pos apos : Pos} {e o : Expr} {es : List Expr} {kws : List Keyword} {ta : TE} {t tk : TA} {g : List Value → List Value → List Value} {gV : List V → List V → List V}
def tMethE (C : Addr) (m : Str) (sp : Sp) (E : L2.St → XK) (ta : TE) (t : TA) : TE := fun σ H Q => ta σ H fun x H1 => ∃ a dx fs, x = .ref a ∧ H1 a = some (.ins C dx fs) ∧ fs.lookup m = none ∧ t σ H1 fun vs H2 => sp (x :: vs) H2 Q (E σ)
theorem pe_methE {pl : Sem Bool} (he : PE X o ta) (c : Cls X.K C) (hm : Meth X.K C m f) (F : FnOk X.prog X.w X.K X.mg X.base CX k f fd ps sp) (hr : Room k X.A) (hb : Binds X.K fd ps []) (hx : ∀ σ, PassesAt CX X σ (E σ)) (ha : PA X (e :: es) t)
    (hst : starEach (e :: es) X.env = (false, eval e X.env) :: starEach es X.env := by rfl) (hpl : (backTo pos (starEach es X.env)).any (·.1) = false := by rfl)
    (ht : eval (.Call (.Attribute o m apos) (e :: es) [] pos) X.env = (do
      let ov ← eval o X.env
      standAt apos.atName
      let (f, first) ← holding [ov] (getMethod ov m pl)
      callWith pos f first (backTo pos (starEach (e :: es) X.env)) (backToKw pos (keywordEach [] X.env))) := by rfl) :
    PE X (.Call (.Attribute o m apos) (e :: es) [] pos) (tMethE C m sp E ta t) := by
  refine ⟨fun pins s σ H Q I h => ?_⟩
  refine PySem.W.methodCall_KW (pl := pl) (thn (he.run pins s σ H _ I h) fun u s1 ⟨x, H1, I1, rx, a, dx, fs, ex, ea, l, q⟩ => ?_) ht
  subst ex
  obtain rfl : u = Value.ref a := rx
  refine getmeth_ok I1 ea c hm l ?_
  refine PySem.W.callWith_K (first := [.ref a]) (h₀ := X.base) I.ok.mod.kin hm.kp (thn (ha.run pos pins s1 σ H1 _ I1 q) fun us s2 ⟨vs, H2, I2, r, q2⟩ => ⟨I2.kIn, ?_⟩) hst hpl
  exact run_fnS (us := .ref a :: us) (vs := .ref a :: vs) F hr hb (hx σ) I2 (.cons rfl r) q2
theorem run_makeE {pins : List (Addr × Obj)} {σ : L2.St} {H : Hp} {s : Shared} {Q : VK} {us : List Value} {vs : List V} (M : Mk X.K C f) (F : FnOk X.prog X.w X.K X.mg X.base CX k f fd ps sp) (hr : Room (k + 1) X.A) (hb : Binds X.K fd ps [])
    (hx : PassesAt CX X σ (E σ)) (I : Inv X pins σ H s) (r : Vals vs us)
    (h : ∀ x dx, H x = none → H dx = none → dx ≠ x → sp (.ref x :: vs) (upd (upd H dx (.own x)) x (.ins C dx [])) (fun v H2 => v = .non ∧ Q (.ref x) H2) (E σ)) :
    wpAny (model X.prog X.w) X.A (call (.ref C) us) (EP X pins σ Q) X.xe s := by
  have hq := h (s.heap.objs.size + 1) s.heap.objs.size (I.hok.fresh (Nat.le_succ _)) (I.hok.fresh (Nat.le_refl _)) (Nat.ne_of_lt (Nat.lt_succ_self _))
  have I2 := Inv.made (C := C) I
  have r2 : Vals (V.ref (s.heap.objs.size + 1) :: vs) (Value.ref (s.heap.objs.size + 1) :: us) := .cons rfl r
  have hl : (Value.ref (s.heap.objs.size + 1) :: us).length = ps.length := by
    have e := r2.length
    rw [F.len _ _ _ _ hq] at e
    exact e.symm
  have b := hb _ (Value.ref (s.heap.objs.size + 1) :: us) I2.kIn (by rw [List.append_nil]; exact hl)
  rw [List.append_nil] at b
  refine wpAny_call (make_map (f := f) I.kIn M.makes M.init (beq_iff_eq.mp M.fn) (codeAny_mono (F.run _ X.stack _ _ ⟨Value.ref (s.heap.objs.size + 1) :: us, []⟩ (Value.ref (s.heap.objs.size + 1) :: us) _ _ (E σ) (hr.make C us [])
    (I2.env0.make C us []) b r2 hq) fun r s' hq' => ?_))
  cases r with
  | error e => exact hx pins _ _ e s' I2 hq'
  | ok fl =>
    cases fl with
    | ret u =>
      obtain ⟨v, H', I3, rv, ev, q3⟩ := I2.after hq'
      subst ev
      exact ⟨rv, ⟨V.ref (s.heap.objs.size + 1), H', I3, rfl, q3⟩⟩
    | next => exact False.elim hq'
    | brk => exact False.elim hq'
    | cont => exact False.elim hq'
def tMakeE (C : Addr) (sp : Sp) (E : L2.St → XK) (t : TA) : TE := fun σ H Q => t σ H fun vs H1 => ∀ x dx, H1 x = none → H1 dx = none → dx ≠ x → sp (.ref x :: vs) (upd (upd H1 dx (.own x)) x (.ins C dx [])) (fun v H2 => v = .non ∧ Q (.ref x) H2) (E σ)
theorem pe_makeE (M : Mk X.K C f) (F : FnOk X.prog X.w X.K X.mg X.base CX k f fd ps sp) (hr : Room (k + 1) X.A) (hg : Gl X x) (hm : X.mg x = some (.ref C)) (hb : Binds X.K fd ps []) (hx : ∀ σ, PassesAt CX X σ (E σ))
    (ha : PA X (e :: es) t) (hdb : (x == ("__debug__" : Str)) = false := by decide) (he : starEach (e :: es) X.env = (false, eval e X.env) :: starEach es X.env := by rfl) (hpl : (backTo pos (starEach es X.env)).any (·.1) = false := by rfl) :
    PE X (.Call (.Name x p) (e :: es) [] pos) (tMakeE C sp E t) := by
  refine ⟨fun pins s σ H Q I h => ?_⟩
  refine wpAny_Call_Name_kw (ld_glob I hg hm ?_ hdb)
  refine PySem.W.callWith_K (h₀ := X.base) I.ok.mod.kin M.kp (thn (ha.run pos pins s σ H _ I h) fun us s1 ⟨vs, H1, I1, r, q⟩ => ⟨I1.kIn, ?_⟩) he hpl
  exact run_makeE M F hr hb (hx σ) I1 r q
theorem run_makeKE {pins : List (Addr × Obj)} {σ : L2.St} {H : Hp} {s : Shared} {Q : VK} {us ws : List Value} {vs zs : List V} (M : Mk X.K C f) (F : FnOk X.prog X.w X.K X.mg X.base CX k f fd ps sp) (hr : Room (k + 1) X.A) (hb : KBn X.K fd ps (n + 1) ks g gV) (hx : PassesAt CX X σ (E σ))
    (I : Inv X pins σ H s) (r : Vals vs us) (rz : Vals zs ws) (l1 : vs.length = n) (l2 : zs.length = ks.length)
    (h : ∀ x dx, H x = none → H dx = none → dx ≠ x → sp (gV (.ref x :: vs) zs) (upd (upd H dx (.own x)) x (.ins C dx [])) (fun v H2 => v = .non ∧ Q (.ref x) H2) (E σ)) :
    wpAny (model X.prog X.w) X.A (call (.ref C) us (ks.zip ws)) (EP X pins σ Q) X.xe s := by
  have hq := h (s.heap.objs.size + 1) s.heap.objs.size (I.hok.fresh (Nat.le_succ _)) (I.hok.fresh (Nat.le_refl _)) (Nat.ne_of_lt (Nat.lt_succ_self _))
  have I2 := Inv.made (C := C) I
  have r1 : Vals (V.ref (s.heap.objs.size + 1) :: vs) (Value.ref (s.heap.objs.size + 1) :: us) := .cons rfl r
  have r2 := hb.rel r1 rz
  have n1 : (Value.ref (s.heap.objs.size + 1) :: us).length = n + 1 := by
    rw [List.length_cons, ← r.length, l1]
  refine wpAny_call (make_map (f := f) I.kIn M.makes M.init (beq_iff_eq.mp M.fn) (codeAny_mono (F.run _ X.stack _ _ ⟨Value.ref (s.heap.objs.size + 1) :: us, ks.zip ws⟩ (g (Value.ref (s.heap.objs.size + 1) :: us) ws) _ _ (E σ) (hr.make C us (ks.zip ws))
    (I2.env0.make C us (ks.zip ws)) (hb.to _ (Value.ref (s.heap.objs.size + 1) :: us) ws I2.kIn n1 (rz.length.symm.trans l2)) r2 hq) fun r s' hq' => ?_))
  cases r with
  | error e => exact hx pins _ _ e s' I2 hq'
  | ok fl =>
    cases fl with
    | ret u =>
      obtain ⟨v, H', I3, rv, ev, q3⟩ := I2.after hq'
      subst ev
      exact ⟨rv, ⟨V.ref (s.heap.objs.size + 1), H', I3, rfl, q3⟩⟩
    | next => exact False.elim hq'
    | brk => exact False.elim hq'
    | cont => exact False.elim hq'
def tMakeKE (C : Addr) (n m : Nat) (sp : Sp) (gV : List V → List V → List V) (E : L2.St → XK) (t tk : TA) : TE := fun σ H Q => t σ H fun vs H1 => tk σ H1 fun zs H2 => vs.length = n ∧ zs.length = m ∧ ∀ x dx, H2 x = none → H2 dx = none → dx ≠ x →
  sp (gV (.ref x :: vs) zs) (upd (upd H2 dx (.own x)) x (.ins C dx [])) (fun v H3 => v = .non ∧ Q (.ref x) H3) (E σ)
theorem pe_makeKE (M : Mk X.K C f) (F : FnOk X.prog X.w X.K X.mg X.base CX k f fd ps sp) (hr : Room (k + 1) X.A) (hg : Gl X x) (hm : X.mg x = some (.ref C)) (hb : KBn X.K fd ps (n + 1) ks g gV) (hx : ∀ σ, PassesAt CX X σ (E σ)) (ha : PA X (e :: es) t) (hkw : PK X kws tk)
    (hall : (backToKw pos (keywordEach kws X.env)).all (·.1.isSome) = true := by rfl) (hks : (backToKw pos (keywordEach kws X.env)).filterMap (·.1) = ks := by rfl) (hdb : (x == ("__debug__" : Str)) = false := by decide)
    (he : starEach (e :: es) X.env = (false, eval e X.env) :: starEach es X.env := by rfl) (hpl : ((backTo pos (starEach (e :: es) X.env)).any (·.1) || (backToKw pos (keywordEach kws X.env)).any (·.1.isNone)) = false := by rfl) :
    PE X (.Call (.Name x p) (e :: es) kws pos) (tMakeKE C n ks.length sp gV E t tk) := by
  refine ⟨fun pins s σ H Q I h => ?_⟩
  refine wpAny_Call_Name_kw (ld_glob I hg hm ?_ hdb)
  refine PySem.W.callWith_KW (h₀ := X.base) I.ok.mod.kin M.kp hall (thn (ha.run pos pins s σ H _ I h) fun us s1 ⟨vs, H1, I1, r, q⟩ => ?_) hpl he
  refine thn (hkw.run pos pins s1 σ H1 _ I1 q) fun ws s2 ⟨zs, H2, I2, rz, l1, l2, q2⟩ => ⟨I2.kIn, ?_⟩
  rw [hks]
  exact run_makeKE M F hr hb (hx σ) I2 r rz l1 l2 q2
end
/-! ### as functions of the slots -/
def tR (K : PySem.W.Frag) (E : L2.St → XK) (f : Ev → Rs D) : TE := fun σ H Q => ∃ ρ G, Same G H ∧ Rep K G H σ ρ ∧ Fi K (E σ) H G (f ρ) (fun d H' G' => ∀ v, Dp K G' v d → Q v H')
abbrev RE (X : Cx) (E : L2.St → XK) (e : Expr) (f : Ev → Rs D) : Prop := PE X e (tR X.K E f)
/-- no error is let out here -/
def noE {α : Type} (f : Ev → Rs α) : Ev → Rs α := fun ρ => (f ρ).nox
theorem Fi.noxE {α : Type} {K : PySem.W.Frag} {E E' : XK} {H G : Hp} {r : Rs α} {P : α → Hp → Hp → Prop} (h : Fi K E H G r.nox P) : Fi K E' H G r P := by
  cases r with
  | ok a => exact h
  | xc c n f => exact False.elim h
  | bot => exact False.elim h
/-- passing on: the first result without an error -/
theorem Fi.bindN {α β : Type} {K : PySem.W.Frag} {E E' : XK} {H G : Hp} {r : Rs α} {k : α → Rs β} {P : β → Hp → Hp → Prop} (h : Fi K E H G (r.nox.bind k) P) : Fi K E' H G r (fun a H' G' => Fi K E H' G' (k a) P) := by
  cases r with
  | ok a => exact fun H' G' g => Fi.grow (r := k a) h g
  | xc c n f => exact False.elim h
  | bot => exact False.elim h
section
variable {X : Cx} {E : L2.St → XK} {e : Expr} {es : List Expr} {fa : Ev → Rs D} {fs fk : Ev → Rs (List D)} {pos p : Pos} {kws : List Keyword}
theorem re_of (h : DE X E0 e fa) : RE X E e (noE fa) := peI h fun σ H Q ⟨ρ, G, s, r, fi⟩ => ⟨ρ, G, s, r, fi.noxE⟩
def rCallN (n : Nat) (g : List D → Rs D) (fs : Ev → Rs (List D)) : Ev → Rs D := fun ρ => (fs ρ).nox.bind fun ds => if ds.length = n then g ds else .bot
theorem re_callF {k n : Nat} {x : Str} {g : List D → Rs D} (F : FnD X.prog X.w X.K X.mg X.base k (gAd x) n g) (hr : Room k X.A) (hm : X.mg x = some (.ref (He.ga X.K x))) (hx : ∀ σ, PassesAt (L2N.CX X.prog X.w) X σ (E σ)) (ha : DA X E0 (e :: es) fs) (hg : Gl X x := by rfl)
    (hdb : (x == ("__debug__" : Str)) = false := by decide) (he : starEach (e :: es) X.env = (false, eval e X.env) :: starEach es X.env := by rfl) (hpl : (backTo pos (starEach es X.env)).any (·.1) = false := by rfl) :
    RE X E (.Call (.Name x p) (e :: es) [] pos) (rCallN n g fs) := by
  obtain ⟨fd, ps, F, hb, hk⟩ := F
  refine peI (pe_callS F hr hg hm hk hb hx ha hdb he hpl) fun σ H Q ⟨ρ, G, s, r, fi⟩ => ?_
  refine ⟨ρ, G, s, r, fi.bindN.imp fun ds H1 G1 g1 fi1 vs hvs => ?_⟩
  by_cases c : ds.length = n
  · rw [if_pos c] at fi1
    exact ⟨G1, ds, g1.gh, hvs, c, fi1⟩
  · rw [if_neg c] at fi1; exact False.elim fi1
def rMeth (c m : Str) (n : Nat) (g : List D → Rs D) (fo : Ev → Rs D) (fs : Ev → Rs (List D)) : Ev → Rs D := fun ρ => (fo ρ).nox.bind fun x => (gSelf c m x).nox.bind fun x => (fs ρ).nox.bind fun ds => if ds.length + 1 = n then g (x :: ds) else .bot
theorem re_methF {k n : Nat} {c m : Str} {g : List D → Rs D} {o : Expr} {apos : Pos} {pl : Sem Bool} (F : FnD X.prog X.w X.K X.mg X.base k (mAd c m) n g) (hr : Room k X.A) (cl : Cls X.K (He.ga X.K c)) (hm : Meth X.K (He.ga X.K c) m (He.ma X.K (He.ga X.K c) m)) (hx : ∀ σ, PassesAt (L2N.CX X.prog X.w) X σ (E σ)) (he : DE X E0 o fa) (ha : DA X E0 (e :: es) fs)
    (hst : starEach (e :: es) X.env = (false, eval e X.env) :: starEach es X.env := by rfl) (hpl : (backTo pos (starEach es X.env)).any (·.1) = false := by rfl)
    (ht : eval (.Call (.Attribute o m apos) (e :: es) [] pos) X.env = (do
      let ov ← eval o X.env
      standAt apos.atName
      let (f, first) ← holding [ov] (getMethod ov m pl)
      callWith pos f first (backTo pos (starEach (e :: es) X.env)) (backToKw pos (keywordEach [] X.env))) := by rfl) :
    RE X E (.Call (.Attribute o m apos) (e :: es) [] pos) (rMeth c m n g fa fs) := by
  obtain ⟨fd, ps, F, hb, _⟩ := F
  refine peI (pe_methE (pl := pl) he cl hm F hr hb hx ha hst hpl ht) fun σ H Q ⟨ρ, G, s, r, fi⟩ => ?_
  refine ⟨ρ, G, s, r, fi.bindN.imp fun d H1 G1 g1 fi1 v hv => ?_⟩
  have fi1' := Fi.bindN (E' := E σ) fi1
  obtain ⟨a, dx, fs, ds, rfl, rfl, h1, h2, fi2⟩ := gSelf_ok hv fi1'
  have fi3 := fi2.now g1.gh
  refine ⟨a, dx, fs, rfl, g1.gh _ _ h1, h2, ρ, G1, g1.gh, r.grow g1, fi3.bindN.imp fun es H2 G2 g2 fi4 vs hvs => ?_⟩
  by_cases cn : es.length + 1 = n
  · rw [if_pos cn] at fi4
    exact ⟨G2, _, g2.gh, .cons (hv.up g2.gg) hvs, cn, fi4⟩
  · rw [if_neg cn] at fi4; exact False.elim fi4
theorem re_mk {k n : Nat} {c : Str} {g : Addr → List D → Rs D} (F : MkF X.prog X.w X.K X.mg X.base k c n g) (M : Mk X.K (He.ga X.K c) (He.ma X.K (He.ga X.K c) "__init__")) (hr : Room (k + 1) X.A) (hm : X.mg c = some (.ref (He.ga X.K c))) (hx : ∀ σ, PassesAt (L2N.CX X.prog X.w) X σ (E σ))
    (ha : DA X E0 (e :: es) fs) (hg : Gl X c := by rfl) (hdb : (c == ("__debug__" : Str)) = false := by decide) (he : starEach (e :: es) X.env = (false, eval e X.env) :: starEach es X.env := by rfl) (hpl : (backTo pos (starEach es X.env)).any (·.1) = false := by rfl) :
    RE X E (.Call (.Name c p) (e :: es) [] pos) (rCallN n (mkD g) fs) := by
  obtain ⟨fd, ps, F, hb⟩ := F
  refine peI (pe_makeE M F hr hg hm hb hx ha hdb he hpl) fun σ H Q ⟨ρ, G, s, r, fi⟩ => ?_
  refine ⟨ρ, G, s, r, fi.bindN.imp fun ds H1 G1 g1 fi1 vs hvs x dx nx nd ne => ?_⟩
  by_cases cn : ds.length = n
  · rw [if_pos cn] at fi1
    exact ⟨x, dx, vs, H1, G1, ds, rfl, nx, nd, ne, rfl, g1.gh, hvs, cn, (mkD_at x fi1).imp fun d H' G' _ h hd => ⟨rfl, h _ hd⟩⟩
  · rw [if_neg cn] at fi1; exact False.elim fi1
def rCallK (n m : Nat) (g : List D → Rs D) (fs fk : Ev → Rs (List D)) : Ev → Rs D := fun ρ => (fs ρ).nox.bind fun xs => (fk ρ).nox.bind fun ys => if xs.length = n ∧ ys.length = m then g (xs ++ ys) else .bot
theorem re_mkK {k n m : Nat} {c : Str} {ks : List Str} {g : Addr → List D → Rs D} (F : MkK X.prog X.w X.K X.mg X.base k c n m ks g) (M : Mk X.K (He.ga X.K c) (He.ma X.K (He.ga X.K c) "__init__")) (hr : Room (k + 1) X.A) (hm : X.mg c = some (.ref (He.ga X.K c))) (hx : ∀ σ, PassesAt (L2N.CX X.prog X.w) X σ (E σ))
    (ha : DA X E0 (e :: es) fs) (hkw : DK X E0 kws fk) (hg : Gl X c := by rfl) (hall : (backToKw pos (keywordEach kws X.env)).all (·.1.isSome) = true := by rfl) (hks : (backToKw pos (keywordEach kws X.env)).filterMap (·.1) = ks := by rfl) (hdb : (c == ("__debug__" : Str)) = false := by decide)
    (he : starEach (e :: es) X.env = (false, eval e X.env) :: starEach es X.env := by rfl) (hpl : ((backTo pos (starEach (e :: es) X.env)).any (·.1) || (backToKw pos (keywordEach kws X.env)).any (·.1.isNone)) = false := by rfl) :
    RE X E (.Call (.Name c p) (e :: es) kws pos) (rCallK n m (mkD g) fs fk) := by
  obtain ⟨fd, ps, gU, F, hb, hl⟩ := F
  refine peI (pe_makeKE M F hr hg hm hb hx ha hkw hall hks hdb he hpl) fun σ H Q ⟨ρ, G, s, r, fi⟩ => ?_
  refine ⟨ρ, G, s, r, fi.bindN.imp fun ds H1 G1 g1 fi1 vs hvs => ?_⟩
  refine ⟨ρ, G1, g1.gh, r.grow g1, fi1.bindN.imp fun zs H2 G2 g2 fi2 us hus => ?_⟩
  by_cases cn : ds.length = n ∧ zs.length = m
  · rw [if_pos cn] at fi2
    have l1 := hvs.length
    have l2 := hus.length
    refine ⟨by omega, by omega, fun x dx nx nd ne => ?_⟩
    exact ⟨x, dx, vs ++ us, H2, G2, ds ++ zs, rfl, nx, nd, ne, rfl, g2.gh, (hvs.up g2.gg).append hus, by simp; omega, (mkD_at x fi2).imp fun d H' G' _ h hd => ⟨rfl, h _ hd⟩⟩
  · rw [if_neg cn] at fi2; exact False.elim fi2
end
end KD

/-! KX7: try: body, except C as n: suite. -/
namespace KD
open PySem L2 PyProof.Rows
/-- ends of a try's body -/
inductive TR where
  | nx (ρ : Ev) | rt (d : D) | xc (ρ : Ev) (c : Str) (ns : List Str) (fs : List D) | bot
def FiT (K : PySem.W.Frag) (E : L2.St → XK) (H0 G0 G : Hp) (r : TR) (Dn : Ends) : Prop := match r with
  | .nx ρ => ∀ σ H G', Same G G' → At K H0 G0 H G' σ ρ → Dn.nx σ H
  | .rt d => ∀ v H' G', Grow H0 G0 H' G' → Dp K G' v d → Dn.rt v H'
  | .xc ρ c ns fs => ∀ σ od H' G', Same G G' → At K H0 G0 H' G' σ ρ → XdOk K H' G' od ns fs → E σ (.ref (He.ga K c)) od H'
  | .bot => False
theorem FiT.up {K : PySem.W.Frag} {E : L2.St → XK} {H0 G0 G G' : Hp} {r : TR} {Dn : Ends} (h : FiT K E H0 G0 G r Dn) (s : Same G G') : FiT K E H0 G0 G' r Dn := by
  cases r with
  | nx ρ => exact fun σ H G'' q => h σ H G'' (s.trans q)
  | rt d => exact h
  | xc ρ c n f => exact fun σ od H G'' q => h σ od H G'' (s.trans q)
  | bot => exact h
def tT (K : PySem.W.Frag) (E : L2.St → XK) (f : Ev → TR) : TS := fun Dn σ H => ∃ H0 G0 ρ G, At K H0 G0 H G σ ρ ∧ FiT K E H0 G0 G (f ρ) Dn
abbrev TB (X : Cx) (E : L2.St → XK) (st : Stmt) (f : Ev → TR) : Prop := PS X st (tT X.K E f)
abbrev TBs (X : Cx) (E : L2.St → XK) (st : List Stmt) (f : Ev → TR) : Prop := PSs X st (tT X.K E f)
def bExpr (f : Ev → Rs D) : Ev → TR := fun ρ => match f ρ with
  | .ok _ => .nx ρ
  | .xc c n f => .xc ρ c n f
  | .bot => .bot
def bSet (i : Nat) (f : Ev → Rs D) : Ev → TR := fun ρ => match f ρ with
  | .ok d => .nx (ρ.set i (.dt d))
  | .xc c n f => .xc ρ c n f
  | .bot => .bot
def bIf (c : Ev → Rs Bool) (f g : Ev → TR) : Ev → TR := fun ρ => match c ρ with
  | .ok true => f ρ
  | .ok false => g ρ
  | _ => .bot
def bSt (f : Ev → SR) : Ev → TR := fun ρ => match f ρ with
  | .nx ρ => .nx ρ
  | .rt d => .rt d
  | _ => .bot
def TR.seq (r : TR) (k : Ev → TR) : TR := match r with
  | .nx ρ => k ρ
  | .rt d => .rt d
  | .xc ρ c n f => .xc ρ c n f
  | .bot => .bot
def bSeq (f g : Ev → TR) : Ev → TR := fun ρ => (f ρ).seq g
def bNil : Ev → TR := .nx
section
variable {X : Cx} {E : L2.St → XK} {st : Stmt} {rest : List Stmt} {e : Expr} {fa : Ev → Rs D} {ft : Ev → Rs Bool} {f g : Ev → TR} {fs : Ev → SR} {pos : Pos}
theorem tb_one (h : TB X E st f) : TBs X E [st] f := pss_one h
theorem tb_nil : TBs X E [] bNil := pssI pss_nil fun D σ H ⟨H0, G0, ρ, G, a, fi⟩ => fi σ H G (Same.refl _) a
theorem tb_cons (h1 : TB X E st f) (h2 : TBs X E rest g) : TBs X E (st :: rest) (bSeq f g) := by
  refine pssI (pss_cons h1 h2) fun D σ H ⟨H0, G0, ρ, G, a, fi⟩ => ⟨H0, G0, ρ, G, a, ?_⟩
  unfold bSeq at fi
  cases q : f ρ with
  | nx ρ' =>
    rw [q] at fi
    exact fun σ' H' G' s' a' => ⟨H0, G0, ρ', G', a', FiT.up (r := g ρ') fi s'⟩
  | rt d => rw [q] at fi; exact fi
  | xc ρ c n d => rw [q] at fi; exact fi
  | bot => rw [q] at fi; exact fi
theorem tb_st (h : DS X E0 st fs) : TB X E st (bSt fs) := by
  refine psI h fun D σ H ⟨H0, G0, ρ, G, a, fi⟩ => ⟨H0, G0, ρ, G, a, ?_⟩
  unfold bSt at fi
  cases q : fs ρ with
  | nx ρ' => rw [q] at fi; exact fi
  | rt d => rw [q] at fi; exact fi
  | ro d => rw [q] at fi; exact False.elim fi
  | bk d => rw [q] at fi; exact False.elim fi
  | ct d => rw [q] at fi; exact False.elim fi
  | xc c n d => rw [q] at fi; exact False.elim fi
  | bot => rw [q] at fi; exact False.elim fi
theorem tb_expr (he : RE X E e fa) (hs : swapsWith e none pos.line X.env = pure false := by rfl) : TB X E (.Expr e pos) (bExpr fa) := by
  refine psI (ps_expr he hs) fun D σ H ⟨H0, G0, ρ, G, at_, fi⟩ => ⟨ρ, G, at_.gr.gh, at_.rep, ?_⟩
  unfold bExpr at fi
  cases q : fa ρ with
  | ok d => rw [q] at fi; exact fun H' G' g v hv => fi σ H' G' g.gg (at_.grow g)
  | xc c n d => rw [q] at fi; exact fun od H' G' g x => fi σ od H' G' g.gg (at_.grow g) x
  | bot => rw [q] at fi; exact False.elim fi
theorem tb_set {i : Nat} (h : PS X st (tAsg (tR X.K E fa) (gName i))) : TB X E st (bSet i fa) := by
  refine psI h fun D σ H ⟨H0, G0, ρ, G, at_, fi⟩ => ⟨ρ, G, at_.gr.gh, at_.rep, ?_⟩
  unfold bSet at fi
  cases q : fa ρ with
  | ok d => rw [q] at fi; exact fun H' G' g v hv => fi _ H' G' g.gg ((at_.grow g).setDt hv)
  | xc c n d => rw [q] at fi; exact fun od H' G' g x => fi σ od H' G' g.gg (at_.grow g) x
  | bot => rw [q] at fi; exact False.elim fi
theorem tb_if {c : Expr} {a b : List Stmt} (hc : DT X E0 c ft) (ha : TBs X E a f) (hb : TBs X E b g) : TB X E (.If c a b pos) (bIf ft f g) := by
  refine psI (ps_if hc ha hb) fun D σ H ⟨H0, G0, ρ, G, at_, fi⟩ => ⟨ρ, G, at_.gr.gh, at_.rep, ?_⟩
  unfold bIf at fi
  cases q : ft ρ with
  | ok t =>
    rw [q] at fi
    intro H' G' g1
    cases t with
    | true => exact iteT ⟨H0, G0, ρ, G', at_.grow g1, FiT.up (r := f ρ) fi g1.gg⟩
    | false => exact iteF ⟨H0, G0, ρ, G', at_.grow g1, FiT.up (r := g ρ) fi g1.gg⟩
  | xc c n d => rw [q] at fi; exact False.elim fi
  | bot => rw [q] at fi; exact False.elim fi
end
/-! ### the suite -/
open Classical in
noncomputable def uni (f : Addr → Option Addr → SR) : SR := if h : ∃ r, ∀ a od, f a od = r then Classical.choose h else .bot
theorem uni_eq {f : Addr → Option Addr → SR} {r : SR} (h : ∀ a od, f a od = r) : uni f = r := by
  have hh : ∃ r, ∀ a od, f a od = r := ⟨r, h⟩
  unfold uni
  rw [dif_pos hh]
  have := Classical.choose_spec hh 0 none
  rw [← this, h]
theorem uni_at {f : Addr → Option Addr → SR} {K : PySem.W.Frag} {E : XK} {H0 G0 G : Hp} {Dn : Ends} (h : FiS K E H0 G0 G (uni f) Dn) (a : Addr) (od : Option Addr) : FiS K E H0 G0 G (f a od) Dn := by
  unfold uni at h
  split at h
  · rename_i hh
    rw [← Classical.choose_spec hh a od] at h
    exact h
  · exact False.elim h
/-- behind the suite: its name is gone -/
def SR.tail (i : Nat) (r : SR) : SR := match r with
  | .nx ρ => .nx (ρ.set i .no)
  | .rt d => .rt d
  | _ => .bot
noncomputable def sTry (C : Str) (i : Nat) (fb : Ev → TR) (fsu : Addr → Option Addr → Ev → SR) : Ev → SR := fun ρ => match fb ρ with
  | .nx ρ => .nx ρ
  | .rt d => .rt d
  | .xc ρ' c ns fs => if c = C then uni (fun a od => (fsu a od (ρ'.set i (.ex a od ns fs))).tail i) else .bot
  | .bot => .bot
section
variable {K : PySem.W.Frag} {H0 G0 H G : Hp} {σ : L2.St} {ρ : Ev}
theorem At.setEx (a : At K H0 G0 H G σ ρ) {i : Nat} {b : Addr} {od : Option Addr} {ns : List Str} {fs : List D} (h : XdOk K H G od ns fs) : At K H0 G0 H G (σ.set i (some (.ref b))) (ρ.set i (.ex b od ns fs)) := by
  refine ⟨a.gr, a.rep.set ⟨rfl, h⟩ (fun _ o => by cases o), fun j s c h1 h2 h3 => ?_⟩
  by_cases hj : i = j
  · subst hj
    have hi : i < ρ.length := by have := (List.getElem?_eq_some_iff.mp h1).1; simpa using this
    rw [List.getElem?_set_self hi] at h1; cases h1; cases h2
  · rw [List.getElem?_set_ne hj] at h1 h3; exact a.own j s c h1 h2 h3
theorem At.gone (a : At K H0 G0 H G σ ρ) (i : Nat) : At K H0 G0 H G (σ.set i none) (ρ.set i .no) := by
  refine ⟨a.gr, a.rep.set trivial (fun _ o => by cases o), fun j s c h1 h2 h3 => ?_⟩
  by_cases hj : i = j
  · subst hj
    have hi : i < ρ.length := by have := (List.getElem?_eq_some_iff.mp h1).1; simpa using this
    rw [List.getElem?_set_self hi] at h1; cases h1; cases h2
  · rw [List.getElem?_set_ne hj] at h1 h3; exact a.own j s c h1 h2 h3
end
theorem takesN0 {X : Cx} : L2N.Takes X (fun _ _ _ _ => False) := fun _ _ x => by
  obtain ⟨_, _, _, _, _, _, _, _, _, _, _, _, _, _, _, _, z⟩ := x
  exact z.elim
section
variable {X : Cx} {E : XK} {body suite : List Stmt} {b₀ : Stmt} {n C : Str} {i : Nat} {fb : Ev → TR} {fsu : Addr → Option Addr → Ev → SR} {np pos pos' : Pos}
theorem ds_try (hs : X.stack = X.env :: X.outer) (hf : X.env.frame = some X.env.locals) (hN : X.N.Nodup) (hi : X.N[i]? = some n) (hln : X.env.kindOf n = some .local) (hg : Gl X C) (hdb : (C == ("__debug__" : Str)) = false) (hm : X.mg C = some (.ref (He.ga X.K C))) (hex : PySem.W.exmOne X.K (.ref (He.ga X.K C)) (.ref (He.ga X.K C)) = some true)
    (hb : ∀ (W : WX) (pn : List (Addr × Obj)) (xe : Value → Shared → Prop), (∀ σ, PassesAt (L2N.CX X.prog X.w) (X.tr pn xe) σ (WE W σ)) → PassesOwn (model X.prog X.w) X.A X.env xe → TBs (X.tr pn xe) (WE W) body fb)
    (hsu : ∀ (a : Addr) (oe : Obj) (od : Option Addr) (pn : List (Addr × Obj)), L2N.Zn (.ref (He.ga X.K C)) od oe → (∃ vs, oe.data = .fields vs) → DSs (X.suite a ((a, oe) :: pn)) E0 (b₀ :: suite) (fsu a od)) :
    DS X E (.Try body [.ExceptHandler (some (.Name C np)) (some n) (b₀ :: suite) pos'] [] [] pos) (sTry C i fb fsu) := by
  refine psI (L2N.ps_try_as (Wout := fun _ _ _ _ => False) (tb := fun W => tT X.K (WE W) fb) (ts := fun a cls d => fun D σ H => cls = .ref (He.ga X.K C) ∧ tS X.K E0 (fsu a d) D σ H) hs hf hN hi hln ⟨hg, hdb, .inl hm⟩ takesN0 (fun W pn xe tk po => hb W pn xe (fun σ => L2N.passAt tk σ) po) fun a oe cls d pn hz hv => ?_) fun D σ H ⟨H0, G0, ρ, G, at_, fi⟩ => ⟨H0, G0, ρ, G, at_, ?_⟩
  · refine ⟨fun pins s σ H D I ⟨hc, h⟩ => ?_⟩
    subst hc
    exact (hsu a oe d pn hz hv).run pins s σ H D I h
  · unfold sTry at fi
    cases q : fb ρ with
    | nx ρ' => rw [q] at fi; exact fi
    | rt d => rw [q] at fi; exact fi
    | bot => rw [q] at fi; exact False.elim fi
    | xc ρ' c ns fs =>
      rw [q] at fi
      dsimp only at fi
      by_cases hc : c = C
      · rw [if_pos hc] at fi
        subst hc
        intro σ' od H' G' sg a' xd
        refine ⟨true, hex, fun _ a na => ⟨rfl, H0, G0, _, G', a'.setEx xd, ?_⟩, fun z => by cases z⟩
        have fi2 := (uni_at fi a od).up sg
        cases r : fsu a od (ρ'.set i (.ex a od ns fs)) with
        | nx ρ2 => rw [r] at fi2; exact fun σ2 H2 G2 s2 a2 => fi2 _ _ _ s2 (a2.gone i)
        | rt d => rw [r] at fi2; exact fi2
        | ro d => rw [r] at fi2; exact False.elim fi2
        | bk d => rw [r] at fi2; exact False.elim fi2
        | ct d => rw [r] at fi2; exact False.elim fi2
        | xc c n d => rw [r] at fi2; exact False.elim fi2
        | bot => rw [r] at fi2; exact False.elim fi2
      · rw [if_neg hc] at fi; exact False.elim fi
/-! ### e.f there -/
def dXf (a : Addr) (od : Option Addr) (i : Nat) (f : Str) : Ev → Rs D := fun ρ => match ρ[i]? with
  | some (.ex a' od' ns fs) => if a' = a ∧ od' = od then (match fldD ns fs f with | some d => .ok d | none => .bot) else .bot
  | _ => .bot
theorem Rep.ex {K : PySem.W.Frag} {G H : Hp} {σ : L2.St} {ρ : Ev} (r : Rep K G H σ ρ) {i : Nat} {a : Addr} {od : Option Addr} {ns : List Str} {fs : List D} (h : ρ[i]? = some (.ex a od ns fs)) : σ[i]? = some (some (.ref a)) ∧ XdOk K H G od ns fs := by
  have hi : i < σ.length := by rw [r.len]; exact (List.getElem?_eq_some_iff.mp h).1
  obtain ⟨e, q⟩ := r.sl i _ (σ[i]) h (by simp [hi])
  exact ⟨by rw [List.getElem?_eq_getElem hi, e], q⟩
theorem de_xf {a : Addr} {oe : Obj} {od : Option Addr} {pn : List (Addr × Obj)} {e : Expr} {f : Str} (O : XfC X.K (He.ga X.K C)) (hno : PySem.W.findIn X.K (.ref (He.ga X.K C)) f = some none) (hz : L2N.Zn (.ref (He.ga X.K C)) od oe) (hv : ∃ vs, oe.data = .fields vs)
    (he : PE (X.suite a ((a, oe) :: pn)) e (tVar i)) (hb : attributeBase e f X.env (eval e X.env) = eval e X.env := by rfl) : DE (X.suite a ((a, oe) :: pn)) E (.Attribute e f pos) (dXf a od i f) := by
  refine peI (pe_xf O hno hz.zc hv he hb) fun σ H Q ⟨ρ, G, s, r, fi⟩ => ?_
  unfold dXf at fi
  split at fi
  · rename_i a' od' ns fs q
    obtain ⟨e1, xd⟩ := r.ex q
    by_cases c : a' = a ∧ od' = od
    · rw [if_pos c] at fi
      obtain ⟨rfl, rfl⟩ := c
      cases od' with
      | none =>
        obtain ⟨rfl, rfl⟩ := xd
        exact False.elim fi
      | some dx =>
        obtain ⟨vs, h1, rfl, h3⟩ := xd
        cases w : fldD (vs.map (·.1)) fs f with
        | none => rw [w] at fi; exact False.elim fi
        | some d =>
          rw [w] at fi
          obtain ⟨v, l, dp⟩ := (fld_dp h3).1 d w
          exact ⟨.ref a', e1, rfl, rfl, dx, vs, v, rfl, s _ _ h1, l, fi0 s fi dp⟩
    · rw [if_neg c] at fi; exact False.elim fi
  · exact False.elim fi
end
end KD

/-! KX8: facts by number. -/
namespace KD
open PySem L2 PyProof.Rows
section
variable {fa : List Fb} {fn : List DefP} {K : PySem.W.Frag} {mg : Str → Option Value}
theorem Tx.exm (T : Tx fa fn K mg) (i : Nat) {x y : Str} {b : Bool} (h : fa[i]? = some (.fa (.exm x y b)) := by rfl) : PySem.W.exmOne K (.ref (He.ga K x)) (.ref (He.ga K y)) = some b := He.exm_ok (T.c.fact i h)
theorem Tx.oex (T : Tx fa fn K mg) (i : Nat) {x : Str} (h : fa[i]? = some (.oex x) := by rfl) : OexF K (He.ga K x) := oex_ok (T.c.fact i h)
theorem Tx.nof (T : Tx fa fn K mg) (i : Nat) {x f : Str} (h : fa[i]? = some (.nof x f) := by rfl) : PySem.W.findIn K (.ref (He.ga K x)) f = some none := He.eqO_ok (T.c.fact i h)
theorem Tx.subX (T : Tx fa fn K mg) (i : Nat) {c d : Str} {b : Bool} (h : fa[i]? = some (.sub c d b) := by rfl) : PySem.W.kitOne K (.ref (He.ga K c)) (.ref (He.ga K d)) = some b := of_decide_eq_true (He.ba (T.c.fact i h)).2
theorem Tx.subT (T : Tx fa fn K mg) (i : Nat) {c : Str} {t : String} {b : Bool} (h : fa[i]? = some (.subT c t b) := by rfl) : PySem.W.kitOne K (.ref (He.ga K c)) (.type t) = some b := of_decide_eq_true (T.c.fact i h)
end
theorem free_by {l : List (Str × NameKind)} (h : (l.all fun p => decide ((p.2 = .cell ∨ p.2 = .free) → p.1 = "__class__")) = true) : ∀ x, (l.lookup x = some .cell ∨ l.lookup x = some .free) → x = "__class__" := fun x hx => by
  rcases hx with hx | hx
  · exact of_decide_eq_true (List.all_eq_true.mp h _ (PySem.mem_of_lookup hx)) (.inl rfl)
  · exact of_decide_eq_true (List.all_eq_true.mp h _ (PySem.mem_of_lookup hx)) (.inr rfl)
end KD

/-! KX9: the caught error handed to a def; isinstance of it there. -/
namespace PySem.W
open PySem PySem.Spec PySem.Calls PyProof.Rows
section
variable {prog : Program} {w : World} {A : Around} {E : Value → Shared → Prop} {s : Shared} {K : Frag} {x D : Addr} {ox : Obj} {od : Option Obj}
theorem kdx_findObj {C : Addr} {name : Str} {a g : Value} (hc : (clsIn K C).isSome = true) (ha : findIn K (.ref C) name = some (some a)) (hg : specialIn K a "__get__" = some (some g)) (ht : takesIn K a = some true) : findObj K C od name = some (.bind g a) := by
  obtain ⟨cd, hc⟩ := Option.isSome_iff_exists.mp hc
  unfold findObj
  rw [hc, Option.bind_some, ha, Option.bind_some]
  simp [hg, ht]
theorem kdx_class {Q : Option Value → Shared → Prop} (hga : findIn K (.ref D) "__getattribute__" = some (some (.builtin "BaseException.__getattribute__"))) (hgt : findIn K (.ref D) "__getattr__" = some none) (hsub : subIn K (.ref D) (.type "BaseException") = some true)
    (hdct : hasDictIn K D = true) (ha : findIn K (.ref D) "__class__" = some (some (.builtin "object.__class__")))
    (hn : specialIn K (.builtin "object.__class__") "__get__" = some (some (.builtin "getset_descriptor.__get__"))) (htk : takesIn K (.builtin "object.__class__") = some true) (hm : mroIn K D (.type "object") = some true)
    (X : K.In s.heap) (I : InstAt s.heap x ox D od) (h : Q (some (.ref D)) { s with toks := s.toks + 1 }) : wpAny (model prog w) A (getAttr? (.ref x) "__class__") Q E s := by
  have hf : findObj K D od "__class__" = some (.bind (.builtin "getset_descriptor.__get__") (.builtin "object.__class__")) := kdx_findObj (by obtain ⟨cd, hc, _⟩ := any_some hdct; rw [hc]; rfl) ha hn htk
  obtain ⟨hp, g, d, t, os⟩ := s
  have L0 := I.type (M := model prog w)
  have L1 := looks_findIn (M := model prog w) X hga
  have L2 := looks_findIn (M := model prog w) X hgt
  have L3 := looks_find (M := model prog w) X I hf
  have sub : Looks (model prog w) hp (isInstance (.ref x) (.type "BaseException")) true := L0.andThen (looks_subIn X hsub)
  have hx0 : (false && onTheHeap (Value.builtin "BaseException.__getattribute__")) = false := rfl
  have hx2 : (Value.builtin "BaseException.__getattribute__" == Value.builtin "object.__getattribute__") = false := by decide +kernel
  have hx1 : (onTheHeap (Value.ref D) && Value.builtin "BaseException.__getattribute__" == Value.builtin "object.__getattribute__") = false := by rw [hx2]; rfl
  unfold getAttr? getAttrBy? getAttrBy
  refine wpAny_bind (wpAny_mkText (wpAny_bind (wpAny_attempt (wpAny_holding (wpAny_bind (L0.at (wpAny_bind (L1.at ?_))))))))
  show wpAny _ _ (if (onTheHeap (Value.ref D) && Value.builtin "BaseException.__getattribute__" == Value.builtin "object.__getattribute__") = true then _ else _) _ _ _
  rw [hx1, if_neg Bool.false_ne_true]
  unfold getAttrByItsOwn hookBefore
  refine wpAny_bind ?_
  rw [if_pos (show onTheHeap (Value.ref D) = true from rfl)]
  refine L2.at ?_
  refine wpAny_bind (wpAny_attempt (wpAny_holding ?_))
  unfold callGetattribute
  rw [hx0, if_neg Bool.false_ne_true]
  unfold boundAndCalled
  rw [PySem.F.excAttr_ValueError.ga.bind (.ref x)]
  refine wpAny_bind (wpAny_pure ?_)
  show wpAny _ _ (call (.builtin "BaseException.__getattribute__") [.ref x, .str "__class__" t]) _ _ _
  refine wpAny_call (codeAny_call_builtin PySem.F.excAttr_ValueError.ga.plain PySem.F.entry_bexc_ga ?_)
  refine @check_slot (model prog w) _ _ ⟨hp, g, d, t + 1, os⟩ "BaseException.__getattribute__" "BaseException" "__getattribute__" (.ref x) [.str "__class__" t] [] _ (by decide +kernel) (by decide +kernel) sub (PySem.F.args_bexc_ga (.ref x) (.str "__class__" t)) ?_
  unfold Builtin.«object.__getattribute__»
  refine wpAny_bind (wpAny_of_eq (a := ((Value.ref x : Value), [Value.str "__class__" t])) (by first | rfl | (simp only [slotArgs]; rfl)) ?_)
  refine wpAny_bind (wpAny_pure (wpAny_bind (L0.at (wpAny_bind (L3.at ?_)))))
  show wpAny _ _ (holding [Value.builtin "object.__class__"] (call (.builtin "getset_descriptor.__get__") [.builtin "object.__class__", .ref x, .ref D]) >>= ret) _ _ _
  refine wpAny_bind (wpAny_holding (wpAny_call (class_get (s := ⟨hp, g, d, t + 1, os⟩) (ox := ox) (od := od) X I hm ?_)))
  refine wpAny_pure ?_
  show wpAny _ _ (handedOut (.ref D)) _ _ _
  rw [handedOut_of (v := .ref D) rfl]
  first
    | exact wpAny_pure (wpAny_pure h)
    | exact wpAny_pure h
    | exact wpAny_pure (wpAny_bind (wpAny_pure (wpAny_pure h)))
theorem kdx_kitx (hga : findIn K (.ref D) "__getattribute__" = some (some (.builtin "BaseException.__getattribute__"))) (hgt : findIn K (.ref D) "__getattr__" = some none) (hsub : subIn K (.ref D) (.type "BaseException") = some true) (hdct : hasDictIn K D = true) (ha : findIn K (.ref D) "__class__" = some (some (.builtin "object.__class__")))
    (hn : specialIn K (.builtin "object.__class__") "__get__" = some (some (.builtin "getset_descriptor.__get__"))) (htk : takesIn K (.builtin "object.__class__") = some true) (hm : mroIn K D (.type "object") = some true) :
    KitX K (.ref x) (.ref D) (fun h => InstAt h x ox D od) where
  ty := fun _ _ _ I => I.type
  it := fun _ _ X _ => by
    obtain ⟨cdD, hcD, _⟩ := any_some hdct
    unfold clsIn at hcD
    split at hcD
    · rename_i c' d' cd' sl' ho
      intro A' Q' E' s' k q
      unfold isType loadHead
      exact wpAny_bind (wpAny_loadPart (k _ _ (X _ _ ho)) (wpAny_pure q))
    · cases hcD
  ne := fun h tp dd its n sl X htp => by
    obtain ⟨cdD, hcD, _⟩ := any_some hdct
    refine Bool.eq_false_iff.mpr fun q => ?_
    have e : D = tp := Value.ref.inj (beq_iff_eq.mp q)
    subst e
    unfold clsIn at hcD
    split at hcD
    · rename_i c' d' cd' sl' ho
      have z := (X _ _ ho).symm.trans htp
      cases z
    · cases hcD
  ca := fun X I k => kdx_class hga hgt hsub hdct ha hn htk hm X I k
end
end PySem.W
namespace KD
open PySem L2 PyProof.Rows L2H
/-- isinstance(e, c), e pinned -/
def rIsX (K : PySem.W.Frag) (D a : Addr) (dd : Option Addr) : List V → Hp → VK → Prop := fun xs H Q => ∃ (c : V) (cv : Value) (b : Bool), xs = [.ref a, c] ∧ (∀ u, RelV c u → u = cv) ∧ PySem.W.kitOne K (.ref D) cv = some b ∧ (∀ dx, dd = some dx → ∃ vs, H dx = some (.xd vs)) ∧ Q (.bl b) H
theorem call_isX {X : Cx} {p : Addr × Obj} {D : Addr} {dd : Option Addr} (hp : p ∈ X.pn) (C : ExcC X.K D) (hz : Zc (.ref D) dd p.2) (hf : ∃ vs, p.2.data = .fields vs) : CallR X (.builtin "isinstance") (rIsX X.K D p.1 dd) := by
  intro pins s σ H xs us Q I r h
  obtain ⟨c, cv, b, rfl, hcv, e, hdx, q⟩ := h
  cases r with
  | cons rx rr =>
    cases rr with
    | cons rt rr =>
      cases rr
      cases rx
      have ec := hcv _ rt
      subst ec
      obtain ⟨hget, _⟩ := I.pin p (List.mem_append.mpr (.inl hp))
      obtain ⟨vs, hv⟩ := hf
      obtain ⟨a, oe⟩ := p
      obtain ⟨oc, od, oda, osl⟩ := oe
      obtain ⟨h1, h2⟩ := hz
      dsimp only at h1 h2 hv hget
      subst h1 h2 hv
      cases od with
      | none =>
        have J : PySem.W.InstAt s.heap a ⟨.ref D, none, .fields vs, osl⟩ D none := ⟨hget, rfl, rfl, trivial⟩
        exact PySem.W.kia_one (PySem.W.kdx_kitx C.hg C.hk C.hs C.hd C.ha C.hn C.ht C.hm) I.kIn J e (fun z => nomatch z) fun tk => ⟨.bl b, H, I.kept (t' := tk) fun _ _ z => z, rfl, q⟩
      | some dx =>
        obtain ⟨ws, hw⟩ := hdx dx rfl
        have hx : ObjOk X.prog X.w H s.heap dx (.xd ws) := I.hok dx _ hw
        obtain ⟨mA, hns, hr⟩ := hx
        obtain ⟨od, ho, hl⟩ := lookIn_ns hns
        have J : PySem.W.InstAt s.heap a ⟨.ref D, some dx, .fields vs, osl⟩ D (some od) := ⟨hget, rfl, rfl, ho⟩
        exact PySem.W.kia_one (PySem.W.kdx_kitx C.hg C.hk C.hs C.hd C.ha C.hn C.ht C.hm) I.kIn J e (fun z => nomatch z) fun tk => ⟨.bl b, H, I.kept (t' := tk) fun _ _ z => z, rfl, q⟩
def dIsX (a : Addr) (od : Option Addr) (i : Nat) (b : Bool) : Ev → Rs D := fun ρ => match ρ[i]? with
  | some (.ex a' od' _ _) => if a' = a ∧ od' = od then .ok (.bl b) else .bot
  | _ => .bot
section
variable {X : Cx} {E : XK} {p : Addr × Obj} {c : Str} {od : Option Addr} {i : Nat} {b : Bool} {x : Str} {e : Expr} {v : V} {cv : Value} {p1 p2 pos : Pos}
theorem de_isX (hp : p ∈ X.pn) (O : ExcC X.K (He.ga X.K c)) (hz : Zc (.ref (He.ga X.K c)) od p.2) (hf : ∃ vs, p.2.data = .fields vs) (hg : Gl X "isinstance") (hm : X.mg "isinstance" = none) (he : PE X e (tVar i)) (hT : PE X (.Name x p2) (tC v)) (hcv : ∀ u, RelV v u → u = cv) (hk : PySem.W.kitOne X.K (.ref (He.ga X.K c)) cv = some b)
    (hs : starEach [e, .Name x p2] X.env = [(false, eval e X.env), (false, eval (.Name x p2) X.env)] := by rfl) (hs2 : starEach [.Name x p2] X.env = [(false, eval (.Name x p2) X.env)] := by rfl)
    (hpl : (backTo pos (starEach [.Name x p2] X.env)).any (·.1) = false := by rfl) : DE X E (.Call (.Name "isinstance" p1) [e, .Name x p2] [] pos) (dIsX p.1 od i b) := by
  refine peI (pe_callB (id := "isinstance") (call_isX hp O hz hf) hg hm PyProof.Rows.boot_isinstance (pa_cons he (pa_cons hT pa_nil (by rw [hs2]; rfl)) (by rw [hs, hs2])) (by decide) (by decide) (by rw [hs, hs2]) hpl) fun σ H Q ⟨ρ, G, s, r, fi⟩ => ?_
  unfold dIsX at fi
  split at fi
  · rename_i a' od' ns fs q
    obtain ⟨e1, xd⟩ := r.ex q
    by_cases cc : a' = p.1 ∧ od' = od
    · rw [if_pos cc] at fi
      obtain ⟨rfl, rfl⟩ := cc
      refine ⟨.ref p.1, e1, ?_⟩
      refine ⟨v, cv, b, rfl, hcv, hk, fun dx e => ?_, fi0 s fi (.bl _)⟩
      subst e
      obtain ⟨vs, h1, _⟩ := xd
      exact ⟨vs, s _ _ h1⟩
    · rw [if_neg cc] at fi; exact False.elim fi
  · exact False.elim fi
end
/-! ### defs that take the caught error -/
structure FnHp (P : Program) (w : World) (K : PySem.W.Frag) (mg : Str → Option Value) (base : Heap) (CX : CXT) (k : Nat) (f : Addr) (fd : FuncData) (ps : List Str) (sp : Addr × Obj → Sp) : Prop where
  len : ∀ p vs H Q E, sp p vs H Q E → vs.length = ps.length
  run : ∀ (A : Around) (outer : List Env) (s : Shared) (H : Hp) (args : Args) (us : List Value) (vs : List V) (Q : VK) (E : XK) (p : Addr × Obj), RoomH k A → Hot1 A p → PinOk outer H s p → Env0 P w K mg base A outer s H → BindsTo s fd args (ps.zip us) → Vals vs us → sp p vs H Q E →
    codeAny (model P w) A (.call (.ref f) args) (CR CX outer P w H s Q E) s
theorem fn_ofHp {CX : CXT} {P : Program} {w : World} {K : PySem.W.Frag} {mg : Str → Option Value} {base : Heap} {k : Nat} {f : Addr} {name qual : Str} {params : Arguments} {body : List Stmt} {scope : Scope} {dV kV doc pm cdv ct oc : Value} {an od : Option Addr}
    {osl : Array (Option Value)} {N ps : List Str} {sp : Addr × Obj → Sp} (lk : K.lookup f = some ⟨oc, od, .func (PySem.W.fnOf name qual params body scope dV kV doc pm an cdv ct), osl⟩) (hcd : PySem.W.codeIn K cdv qual = true) (S : FnScope N ps scope)
    (len : ∀ p vs H Q E, sp p vs H Q E → vs.length = ps.length)
    (hbody : ∀ (A : Around) (outer : List Env) (s : Shared) (H : Hp) (vs : List V) (Q : VK) (E : XK) (p : Addr × Obj), Hot1 A p → RoomH k (A.deeper (envOfC qual scope s.heap.objs.size f cdv)) → sp p vs H Q E →
      ∃ t, PSs (cxH CX P w K mg base N qual scope f cdv A outer s H E p) body t ∧ t { nx := fun _ H' => Q .non H', rt := Q } (L2.start N vs) H) :
    FnHp P w K mg base CX (k + 1) f (PySem.W.fnOf name qual params body scope dV kV doc pm an cdv ct) ps sp := by
  refine ⟨len, fun A outer s H args us vs Q E p hr hot hpin e0 hb r hsp => ?_⟩
  have hl := len _ _ _ _ _ hsp
  have KX : K.In s.heap := e0.mod.kin.keeps fun b o e => (e0.bs b o e).1
  have lim : s.heap.NoLimit := e0.mod.nolimit.keeps fun b o e => (e0.bs b o e).1
  have hkind : ∀ y ∈ ps.zip us, scope.names.lookup y.1 = some .local ∨ (scope.names.lookup y.1 = some .cell ∧ ((cellsFrom (s.heap.objs.size + 1) scope.names []).lookup y.1).isSome = true) := fun ⟨n, v⟩ hy => by
    rcases S.par n (List.of_mem_zip hy).1 with q | q
    · exact .inl q
    · exact .inr ⟨q, PySem.W.cellsFrom_some _ _ _ (.inl q)⟩
  refine codeAny_call_function hr.depth (KX _ _ lk) rfl S.co S.gen rfl (PySem.W.codeRec_of KX hcd) (hb _ _ _ _ ?_)
  refine wpAny_newFunctionEnv_cells S.kind hkind fun env he s1 x => ?_
  subst he
  refine ⟨lim.keeps x.toInCall.keep, codeAny_func ?_⟩
  obtain ⟨t, ht, hq⟩ := hbody A outer s H vs Q E p hot (hr.deeper _) hsp
  have I : Inv (cxH CX P w K mg base N qual scope f cdv A outer s H E p) [] (L2.start N vs) H s1 := inv_startH S hpin e0 hl r x
  refine wpAny_mono (ht.run [] s1 (L2.start N vs) H _ I hq) (fun fl s' hs => ?_) fun e s' hs => hs
  have fin : ∀ {σ' : L2.St} {H' : Hp} {v : V} {u : Value}, Inv (cxH CX P w K mg base N qual scope f cdv A outer s H E p) [] σ' H' s' → RelV v u → Q v H' → CE outer P w H s Q u s' :=
    fun {σ' H' v u} J rv q => ⟨v, H', J.os, J.bare, J.base, J.hok, rv, q⟩
  cases fl with
  | ret u =>
    obtain ⟨v, σ', H', J, rv, q⟩ := hs
    exact fin J rv q
  | next =>
    obtain ⟨σ', H', J, q⟩ := hs
    exact fin (v := V.non) (u := Value.none) J rfl q
  | brk =>
    obtain ⟨_, _, _, q⟩ := hs
    exact False.elim q
  | cont =>
    obtain ⟨_, _, _, q⟩ := hs
    exact False.elim q
/-- f(e): g, e the caught error of the class c -/
def spHx (K : PySem.W.Frag) (c : Str) (g : Rs D) : Addr × Obj → Sp := fun p vs H Q E => ∃ G od ns fs, vs = [.ref p.1] ∧ Zc (.ref (He.ga K c)) od p.2 ∧ (∃ ws, p.2.data = .fields ws) ∧ Same G H ∧ XdOk K H G od ns fs ∧ Fi K E H G g (fun d H' G' => ∀ v, Dp K G' v d → Q v H')
open Classical in
noncomputable def uniR (f : Addr → Option Addr → List Str → List D → Rs D) : Rs D := if h : ∃ r, ∀ a od ns fs, f a od ns fs = r then Classical.choose h else .bot
theorem uniR_eq {f : Addr → Option Addr → List Str → List D → Rs D} {r : Rs D} (h : ∀ a od ns fs, f a od ns fs = r) : uniR f = r := by
  have hh : ∃ r, ∀ a od ns fs, f a od ns fs = r := ⟨r, h⟩
  unfold uniR
  rw [dif_pos hh]
  have := Classical.choose_spec hh 0 none [] []
  rw [← this, h]
theorem uniR_at {f : Addr → Option Addr → List Str → List D → Rs D} {K : PySem.W.Frag} {E : XK} {H G : Hp} {P : D → Hp → Hp → Prop} (h : Fi K E H G (uniR f) P) (a : Addr) (od : Option Addr) (ns : List Str) (fs : List D) : Fi K E H G (f a od ns fs) P := by
  unfold uniR at h
  split at h
  · rename_i hh
    rw [← Classical.choose_spec hh a od ns fs] at h
    exact h
  · exact False.elim h
def SR.fin2 (r : SR) : Rs D := match r with
  | .nx _ => .ok .non
  | .rt d => .ok d
  | _ => .bot
noncomputable def runHx (n : Nat) (b : Addr → Option Addr → Ev → SR) : Rs D := uniR fun a od ns fs => (b a od (.ex a od ns fs :: List.replicate (n - 1) .no)).fin2
section
variable {P : Program} {w : World} {K : PySem.W.Frag} {mg : Str → Option Value} {base : Heap}
/-- the def at ad, handed the caught error of the class c, computes g -/
def FnX (P : Program) (w : World) (K : PySem.W.Frag) (mg : Str → Option Value) (base : Heap) (k : Nat) (ad : PySem.W.Frag → Addr) (c : Str) (g : Rs D) : Prop :=
  ∃ fd ps, FnHp P w K mg base (L2N.CX P w) k (ad K) fd ps (spHx K c g) ∧ Binds K fd ps [] ∧ PySem.W.keepIn K (.ref (ad K)) = true
theorem fnX_of {d : DefP} {N : List Str} {y c : Str} {k : Nat} {b : Addr → Option Addr → Ev → SR} {fd : FuncData} (F : FunD K d.name d.qual d.params d.body d.scope [] (d.kws K) (d.ad K) fd) (S : FnScope N [y] d.scope) (hN : 1 ≤ N.length)
    (hbd : ∀ (dV kV doc pm : Value) (an : Option Addr) (cdv ct : Value) (us : List Value), us.length = [y].length → bindArgs (PySem.W.fnOf d.name d.qual d.params d.body d.scope .none kV doc pm an cdv ct) ⟨us, []⟩ = pure ([y].zip us))
    (hb : ∀ (cdv : Value) (A : Around) (outer : List Env) (s : Shared) (H : Hp) (E : XK) (p : Addr × Obj) (od : Option Addr), RoomH k (A.deeper (envOfC d.qual d.scope s.heap.objs.size (d.ad K) cdv)) → Zc (.ref (He.ga K c)) od p.2 → (∃ vs, p.2.data = .fields vs) →
      DSs (cxH (L2N.CX P w) P w K mg base N d.qual d.scope (d.ad K) cdv A outer s H E p) E d.body (b p.1 od)) :
    FnX P w K mg base (k + 1) d.ad c (runHx N.length b) := by
  obtain ⟨oc, od0, dV, kV, doc, pm, an, cdv, ct, osl, e, lk, hcd, _, _⟩ := F.ex
  refine ⟨fd, [y], ?_, F.bindsN (ps := [y]) fun kV doc pm an cdv ct us hl => hbd .none kV doc pm an cdv ct us hl, F.kp⟩
  subst e
  refine fn_ofHp lk hcd S (fun p vs H Q E ⟨G, od, ns, fs, ev, _⟩ => by rw [ev]; rfl) fun A outer s H vs Q E p hot hr ⟨G, od, ns, fs, ev, hz, hf, sg, xd, fi⟩ => ⟨_, hb cdv A outer s H E p od hr hz hf, ?_⟩
  subst ev
  have fi2 := uniR_at fi p.1 od ns fs
  have hlen : L2.start N [V.ref p.1] = some (.ref p.1) :: List.replicate (N.length - 1) none := rfl
  have noown : ∀ (i : Nat) (s : Sl), (Sl.ex p.1 od ns fs :: List.replicate (N.length - 1) .no)[i]? = some s → s.own = true → False := fun i s h o => by
    cases i with
    | zero => cases h; cases o
    | succ i =>
      rw [List.getElem?_cons_succ, List.getElem?_replicate] at h
      split at h
      · cases h; cases o
      · cases h
  refine ⟨H, G, .ex p.1 od ns fs :: List.replicate (N.length - 1) .no, G, ⟨Grow.refl sg, ⟨by rw [hlen]; simp, fun i s o h1 h2 => ?_, fun i j s t a h1 _ o1 => (noown i s h1 o1).elim⟩, fun i s a h1 h2 _ => (noown i s h1 h2).elim⟩, ?_⟩
  · cases i with
    | zero =>
      cases h1
      rw [hlen] at h2
      cases h2
      exact ⟨rfl, xd⟩
    | succ i =>
      rw [List.getElem?_cons_succ, List.getElem?_replicate] at h1
      split at h1
      · cases h1; trivial
      · cases h1
  · cases q : b p.1 od (.ex p.1 od ns fs :: List.replicate (N.length - 1) .no) with
    | nx ρ => rw [q] at fi2; exact fun σ H' G' sg' a => fi2 H' G' a.gr _ .non
    | rt d => rw [q] at fi2; exact fun v H' G' g hv => fi2 H' G' g v hv
    | ro xs => rw [q] at fi2; exact False.elim fi2
    | bk ρ => rw [q] at fi2; exact False.elim fi2
    | ct ρ => rw [q] at fi2; exact False.elim fi2
    | xc c n f => rw [q] at fi2; exact False.elim fi2
    | bot => rw [q] at fi2; exact False.elim fi2
end
/-! ### the call -/
def dHot (a : Addr) (od : Option Addr) (i : Nat) (g : Rs D) : Ev → Rs D := fun ρ => match ρ[i]? with
  | some (.ex a' od' _ _) => if a' = a ∧ od' = od then g else .bot
  | _ => .bot
section
variable {X : Cx} {a : Addr} {oe : Obj} {od : Option Addr} {pn : List (Addr × Obj)} {c x : Str} {i k : Nat} {g : Rs D} {e : Expr} {q pos : Pos}
theorem de_hot (F : FnX X.prog X.w X.K X.mg X.base k (gAd x) c g) (hr : RoomH k X.A) (hz : L2N.Zn (.ref (He.ga X.K c)) od oe) (hv : ∃ vs, oe.data = .fields vs) (hg : Gl X x) (hm : X.mg x = some (.ref (He.ga X.K x))) (he : PE (X.suite a ((a, oe) :: pn)) e (tVar i))
    (hdb : (x == ("__debug__" : Str)) = false := by decide) (hst : starEach [e] X.env = (false, eval e X.env) :: starEach [] X.env := by rfl) (hpl : (backTo pos (starEach [] X.env)).any (·.1) = false := by rfl) :
    DE (X.suite a ((a, oe) :: pn)) E0 (.Call (.Name x q) [e] [] pos) (dHot a od i g) := by
  obtain ⟨fd, ps, F, hb, hk⟩ := F
  refine ⟨fun pins s σ H Q I ⟨ρ, G, sg, r, fi⟩ => ?_⟩
  unfold dHot at fi
  split at fi
  · rename_i a' od' ns fs q
    obtain ⟨e1, xd⟩ := r.ex q
    by_cases cc : a' = a ∧ od' = od
    · rw [if_pos cc] at fi
      obtain ⟨rfl, rfl⟩ := cc
      refine wpAny_Call_Name_kw (ld_glob I hg hm ?_ hdb)
      refine PySem.W.callWith_K (h₀ := X.base) I.ok.mod.kin hk (thn ((pa_cons he pa_nil hst).run pos pins s σ H (fun vs H1 => vs = [V.ref a'] ∧ H1 = H) I ⟨.ref a', e1, rfl, rfl⟩) fun us s1 ⟨vs, H1, I1, r1, ev, eH⟩ => ⟨I1.kIn, ?_⟩) hst hpl
      subst ev
      rw [eH] at I1
      have hpin := I1.pin (a', oe) (List.mem_append_left _ List.mem_cons_self)
      have hpo : PinOk (X.suite a' ((a', oe) :: pn)).stack H s1 (a', oe) := ⟨hpin.1, hpin.2.1, fun hm => (List.mem_cons.mp (I1.stkSub a' hm)).elim hpin.2.2.1 hpin.2.2.2.1, hpin.2.2.2.2⟩
      obtain ⟨vs, hvs⟩ := hv
      have hot : Hot1 (X.suite a' ((a', oe) :: pn)).A (a', oe) := ⟨rfl, vs, hvs, hz.2.2 vs hvs⟩
      have hl : us.length = ps.length := by
        rw [← r1.length]
        exact F.len (a', oe) [V.ref a'] H (fun v H' => Q v H') E0 ⟨G, od', ns, fs, rfl, hz.zc, ⟨vs, hvs⟩, sg, xd, fi⟩
      have b := hb s1 us I1.kIn (by rw [List.append_nil]; exact hl)
      rw [List.append_nil] at b
      refine wpAny_call (codeAny_mono (F.run (X.suite a' ((a', oe) :: pn)).A (X.suite a' ((a', oe) :: pn)).stack s1 H ⟨us, []⟩ us [V.ref a'] Q E0 (a', oe) ⟨hr.dp, hr.un⟩ hot hpo I1.env0 b r1 ⟨G, od', ns, fs, rfl, hz.zc, ⟨vs, hvs⟩, sg, xd, fi⟩) fun rr s' hq => ?_)
      cases rr with
      | error er =>
        obtain ⟨_, _, _, _, _, _, _, _, _, _, _, _, z⟩ := hq
        exact z.elim
      | ok fl =>
        cases fl with
        | ret u => exact I1.after hq
        | next => exact False.elim hq
        | brk => exact False.elim hq
        | cont => exact False.elim hq
    · rw [if_neg cc] at fi; exact False.elim fi
  · exact False.elim fi
end
theorem uH {k : Nat} {A : Around} (hr : L2H.RoomH k A) : A.units + 200 < cLine := by have := hr.un; omega
/-- which own error is one of which -/
def excSub (c d : Str) : Bool := decide (c = d) || decide (d = "KindsError")
end KD

namespace KL
open PySem L2 KD
noncomputable section
def b_l_cell : Ev → SR := sSeq (sIf (dTest (dOp gLt (dVar 1) (dCall cLen (dCons (dVar 0) (dNil))))) (sRet (dOp gIx (dVar 0) (dVar 1))) (sNil)) (sRet (dC (.int 0)))
def den_l_cell : List D → Rs D := runD 2 b_l_cell
def lb_l_numbers_1 : Ev → SR := sSeq (sSet 4 (dOp gMod (dCall cInt (dCons (dOp gAdd (dOp gMul (dVar 4) (dC (.int 48271))) (dC (.int 11))) (dNil))) (dC (.int 2147483647)))) (sIf (dTest (dOp gGt (dVar 5) (dC (.int 0)))) (sSeq (sApp 6 (dOp gMod (dCall cInt (dCons (dVar 5) (dNil))) (dC (.int 5040)))) (sSet 5 (dOp gDiv (dVar 5) (dC (.int 5040))))) (sApp 6 (dOp gMod (dCall cInt (dCons (dOp gDiv (dOp gMod (dCall cInt (dCons (dOp gMul (dOp gDiv (dVar 4) (dC (.int 7))) (dC (.int 69621))) (dNil))) (dC (.int 2147483629))) (dC (.int 64))) (dNil))) (dC (.int 5040)))))
def b_l_numbers : Ev → SR := sSeq (sSet 3 (dCallN 2 den_l_cell (dCons (dVar 0) (dCons (dVar 1) (dNil))))) (sSeq (sSet 4 (dOp gMod (dCall cInt (dCons (dOp gAdd (dOp gAdd (dOp gMul (dVar 3) (dC (.int 48271))) (dOp gMul (dVar 1) (dC (.int 7919)))) (dC (.int 12345))) (dNil))) (dC (.int 2147483647)))) (sSeq (sSet 5 (dC (.int 0))) (sSeq (sIf (dTest (dOp gGe (dVar 3) (dOp gPow (dC (.int 10)) (dC (.int 18))))) (sSet 5 (dVar 3)) (sNil)) (sSeq (sNew 6) (sSeq (sFor (dItR (dVar 2)) (tgN 7) [7] lb_l_numbers_1) ((fun ρ => (sRet (dVar 6)) (frz 6 ρ))))))))
def den_l_numbers : List D → Rs D := runD 8 b_l_numbers
def cc_l_names_1 : Ev → Rs D := dOp gIx (dVar 2) (dOp gMod (dCall cInt (dCons (dOp gAdd (dOp gDiv (dVar 0) (dC (.int 32))) (dOp gMul (dC (.int 5)) (dVar 8))) (dNil))) (dC (.int 26)))
def cc_l_names_2 : Ev → Rs D := dOp gAdd (dOp gAdd (dOp gMul (dC (.str "o")) (dVar 3)) (dVar 9)) (dOp gMul (dC (.str "o")) (dOp gSub (dC (.int 7)) (dVar 3)))
def cc_l_names_3 : Ev → Rs D := dOp gMul (dOp gIx (dVar 4) (dC (.int 0))) (dOp gAdd (dVar 8) (dC (.int 1)))
def cc_l_names_4 : Ev → Rs D := dOp gMul (dOp gIx (dVar 4) (dC (.int 0))) (dOp gSub (dVar 1) (dVar 8))
def b_l_names : Ev → SR := sSeq (sSet 2 (dC (.str "etaoinshrdlucmfwypvbgkjqxz"))) (sSeq (sSet 3 (dOp gMod (dCall cInt (dCons (dOp gDiv (dVar 0) (dC (.int 4))) (dNil))) (dC (.int 8)))) (sSeq (sSet 4 (dComp [8] (dItR (dVar 1)) (tgN 8) (fun _ => .ok true) (cc_l_names_1))) (sSeq (sSet 5 (dComp [9] (dItA (dVar 4)) (tgN 9) (fun _ => .ok true) (cc_l_names_2))) (sSeq (sSet 6 (dComp [8] (dItR (dVar 1)) (tgN 8) (fun _ => .ok true) (cc_l_names_3))) (sSeq (sSet 7 (dComp [8] (dItR (dVar 1)) (tgN 8) (fun _ => .ok true) (cc_l_names_4))) (sRet (dOp gIx (dLst (dCons (dVar 4) (dCons (dVar 5) (dCons (dVar 6) (dCons (dVar 7) (dNil)))))) (dOp gMod (dCall cInt (dCons (dVar 0) (dNil))) (dC (.int 4))))))))))
def den_l_names : List D → Rs D := runD 10 b_l_names
def cc_l_side_1 (r : List D → Rs D) : Ev → Rs D := dCallN 3 r (dCons (dVar 3) (dCons (dVar 1) (dCons (dVar 2) (dNil))))
def b_l_side (r : List D → Rs D) : Ev → SR := sSeq (sIf (dTru (dIsi "str" (dVar 0))) (sRet (dOp gIx (dVar 2) (dFind "abcd" (dVar 0)))) (sNil)) (sRet (dCall cTuple (dCons (dOp gAdd (dLst (dCons (dOp gIx (dVar 1) (dOp gIx (dVar 0) (dC (.int 0)))) (dNil))) (dComp [3] (dItA (dSl (dVar 0) (dPart (dC (.int 1))) (dNoP))) (tgN 3) (fun _ => .ok true) ((cc_l_side_1 r)))) (dNil))))
def den_l_side : Nat → List D → Rs D := fuel (fun r => runD 4 (b_l_side r))
def cc_l_named_1 : Ev → Rs D := dOp gAdd (dTup (dCons (dOp gIx (dVar 7) (dVar 10)) (dNil))) (dOp gIx (dVar 3) (dVar 10))
def cc_l_named_2 : Ev → Rs D := dOp gIx (dVar 8) (dVar 13)
def cc_l_named_3 : Ev → Rs D := dTup (dCons (dOp gIx (dVar 7) (dOp gIx (dVar 11) (dC (.int 0)))) (dCons (dCall cTuple (dCons (dComp [13] (dItA (dOp gIx (dVar 11) (dC (.int 1)))) (tgN 13) (fun _ => .ok true) (cc_l_named_2)) (dNil))) (dCons (dOp gIx (dVar 8) (dOp gIx (dVar 11) (dC (.int 2)))) (dNil))))
def cc_l_named_4 : Ev → Rs D := dTup (dCons (dCallN 3 (den_l_side 12) (dCons (dOp gIx (dVar 12) (dC (.int 0))) (dCons (dVar 7) (dCons (dVar 9) (dNil))))) (dCons (dCallN 3 (den_l_side 12) (dCons (dOp gIx (dVar 12) (dC (.int 1))) (dCons (dVar 7) (dCons (dVar 9) (dNil))))) (dNil)))
def b_l_named : Ev → SR := sSeq (sSet 6 (dCallN 3 den_l_numbers (dCons (dVar 0) (dCons (dVar 1) (dCons (dC (.int 3)) (dNil)))))) (sSeq (sSet 7 (dCallN 2 den_l_names (dCons (dOp gIx (dVar 6) (dC (.int 0))) (dCons (dCall cLen (dCons (dVar 3) (dNil))) (dNil))))) (sSeq (sSet 8 (dCallN 2 den_l_names (dCons (dOp gIx (dVar 6) (dC (.int 1))) (dCons (dVar 2) (dNil))))) (sSeq (sSet 9 (dCallN 2 den_l_names (dCons (dOp gIx (dVar 6) (dC (.int 2))) (dCons (dC (.int 4)) (dNil))))) (sSeq (sSet 3 (dComp [10] (dItR (dCall cLen (dCons (dVar 3) (dNil)))) (tgN 10) (fun _ => .ok true) (cc_l_named_1))) (sSeq (sSet 4 (dComp [11] (dItA (dVar 4)) (tgN 11) (fun _ => .ok true) (cc_l_named_3))) (sSeq (sSet 5 (dComp [12] (dItA (dVar 5)) (tgN 12) (fun _ => .ok true) (cc_l_named_4))) (sRet (dTup (dCons (dVar 3) (dCons (dVar 8) (dCons (dLst (dNil)) (dCons (dVar 4) (dCons (dVar 5) (dNil))))))))))))))
def den_l_named : List D → Rs D := runD 14 b_l_named
def ct_l_turn_1 : Ev → Rs Bool := dTest (dOp gLt (dVar 3) (dVar 1))
def cc_l_turn_1 : Ev → Rs D := dVar 3
def b_l_turn : Ev → SR := sSeq (sSet 2 (dLst (dCons (dLst (dCons (dC (.int 0)) (dCons (dC (.int 1)) (dCons (dC (.int 2)) (dNil))))) (dCons (dLst (dCons (dC (.int 0)) (dCons (dC (.int 2)) (dCons (dC (.int 1)) (dNil))))) (dCons (dLst (dCons (dC (.int 1)) (dCons (dC (.int 0)) (dCons (dC (.int 2)) (dNil))))) (dCons (dLst (dCons (dC (.int 1)) (dCons (dC (.int 2)) (dCons (dC (.int 0)) (dNil))))) (dCons (dLst (dCons (dC (.int 2)) (dCons (dC (.int 0)) (dCons (dC (.int 1)) (dNil))))) (dCons (dLst (dCons (dC (.int 2)) (dCons (dC (.int 1)) (dCons (dC (.int 0)) (dNil))))) (dNil))))))))) (sRet (dComp [3] (dItA (dOp gIx (dVar 2) (dOp gMod (dCall cInt (dCons (dVar 0) (dNil))) (dC (.int 6))))) (tgN 3) (ct_l_turn_1) (cc_l_turn_1)))
def den_l_turn : List D → Rs D := runD 4 b_l_turn
def lb_l_symbols_1 : Ev → SR := sSeq (sSet 5 (dOp gIx (dVar 0) (dOp gAdd (dC (.int 2)) (dVar 4)))) (sSeq (sSet 6 (dOp gIx (dLst (dCons (dC (.int 0)) (dCons (dC (.int 1)) (dCons (dC (.int 2)) (dCons (dC (.int 2)) (dCons (dC (.int 1)) (dCons (dC (.int 0)) (dCons (dC (.int 3)) (dNil))))))))) (dOp gMod (dCall cInt (dCons (dVar 5) (dNil))) (dC (.int 7))))) (sSeq (sSet 7 (dOp gEq (dOp gMod (dCall cInt (dCons (dOp gDiv (dVar 5) (dC (.int 7))) (dNil))) (dC (.int 2))) (dC (.int 0)))) (sSeq (sIf (dTest (dOp gEq (dVar 4) (dC (.int 0)))) (sSeq (sSet 6 (dC (.int 0))) (sSet 7 (dOp gGt (dOp gMod (dCall cInt (dCons (dOp gDiv (dVar 5) (dC (.int 7))) (dNil))) (dC (.int 8))) (dC (.int 0))))) (sNil)) (sSeq (sSet 8 (dSl (dCallN 2 den_l_turn (dCons (dOp gDiv (dVar 5) (dC (.int 14))) (dCons (dVar 6) (dNil)))) (dNoP) (dPart (dOp gMod (dCall cInt (dCons (dOp gDiv (dVar 5) (dC (.int 84))) (dNil))) (dOp gAdd (dVar 6) (dC (.int 1))))))) (sApp 3 (dTup (dCons (dOp gIx (dVar 2) (dVar 4)) (dCons (dVar 6) (dCons (dVar 7) (dCons (dCall cTuple (dCons (dVar 8) (dNil))) (dNil)))))))))))
def b_l_symbols : Ev → SR := sSeq (sSet 1 (dOp gAdd (dC (.int 2)) (dOp gMod (dCall cInt (dCons (dOp gIx (dVar 0) (dC (.int 0))) (dNil))) (dC (.int 4))))) (sSeq (sSet 2 (dCallN 2 den_l_names (dCons (dOp gIx (dVar 0) (dC (.int 1))) (dCons (dVar 1) (dNil))))) (sSeq (sNew 3) (sSeq (sFor (dItR (dVar 1)) (tgN 4) [4, 5, 6, 7, 8] lb_l_symbols_1) ((fun ρ => (sRet (dVar 3)) (frz 3 ρ))))))
def den_l_symbols : List D → Rs D := runD 9 b_l_symbols
def cc_l_entries_1 : Ev → Rs D := dOp gIx (dVar 1) (dOp gMod (dOp gMod (dCall cInt (dCons (dOp gDiv (dVar 5) (dOp gIx (dLst (dCons (dC (.int 1)) (dCons (dC (.int 3)) (dCons (dC (.int 9)) (dNil))))) (dVar 9))) (dNil))) (dC (.int 3))) (dCall cLen (dCons (dVar 1) (dNil))))
def lb_l_entries_1 : Ev → SR := sSeq (sSet 5 (dOp gIx (dVar 2) (dVar 4))) (sSeq (sSet 6 (dOp gIx (dVar 0) (dOp gMod (dCall cInt (dCons (dOp gDiv (dVar 5) (dC (.int 81))) (dNil))) (dCall cLen (dCons (dVar 0) (dNil)))))) (sSeq (sIf (dTest (dOp gLt (dVar 4) (dCall cLen (dCons (dVar 0) (dNil))))) (sSet 6 (dOp gIx (dVar 0) (dVar 4))) (sNil)) (sSeq (sSet 7 (dComp [9] (dItR (dOp gIx (dVar 6) (dC (.int 1)))) (tgN 9) (fun _ => .ok true) (cc_l_entries_1))) (sSeq (sSet 8 (dOp gIx (dVar 1) (dOp gMod (dOp gMod (dCall cInt (dCons (dOp gDiv (dVar 5) (dC (.int 27))) (dNil))) (dC (.int 3))) (dCall cLen (dCons (dVar 1) (dNil)))))) (sIf (dOr (dTest (dOp gEq (dVar 4) (dC (.int 0)))) (dOr (dTest (dOp gGe (dVar 4) (dCall cLen (dCons (dVar 0) (dNil))))) (dTest (dOp gGt (dOp gMod (dCall cInt (dCons (dOp gDiv (dVar 5) (dC (.int 81))) (dNil))) (dC (.int 6))) (dC (.int 0)))))) (sApp 3 (dTup (dCons (dOp gIx (dVar 6) (dC (.int 0))) (dCons (dCall cTuple (dCons (dVar 7) (dNil))) (dCons (dVar 8) (dNil)))))) (sNil))))))
def b_l_entries : Ev → SR := sSeq (sNew 3) (sSeq (sFor (dItR (dCall cLen (dCons (dVar 2) (dNil)))) (tgN 4) [4, 5, 6, 7, 8] lb_l_entries_1) ((fun ρ => (sRet (dVar 3)) (frz 3 ρ))))
def den_l_entries : List D → Rs D := runD 10 b_l_entries
def lb_l_lows_1 : Ev → SR := sIf (dTest (dOp gEq (dOp gMod (dCall cInt (dCons (dOp gDiv (dVar 0) (dOp gIx (dLst (dCons (dC (.int 6)) (dCons (dC (.int 12)) (dCons (dC (.int 24)) (dNil))))) (dOp gSub (dOp gAdd (dVar 4) (dVar 5)) (dC (.int 1))))) (dNil))) (dC (.int 2))) (dC (.int 1)))) (sApp 3 (dTup (dCons (dOp gIx (dVar 1) (dOp gIx (dVar 2) (dVar 5))) (dCons (dOp gIx (dVar 1) (dOp gIx (dVar 2) (dVar 4))) (dNil))))) (sNil)
def lb_l_lows_2 : Ev → SR := sFor (dItR (dVar 4)) (tgN 5) [5] lb_l_lows_1
def cc_l_lows_1 : Ev → Rs D := dIxO 3 (dOp gSub (dOp gSub (dLenX 3) (dC (.int 1))) (dVar 4))
def b_l_lows : Ev → SR := sSeq (sSet 2 (dCallN 2 den_l_turn (dCons (dVar 0) (dCons (dCall cLen (dCons (dVar 1) (dNil))) (dNil))))) (sSeq (sNew 3) (sSeq (sFor (dItR (dCall cLen (dCons (dVar 2) (dNil)))) (tgN 4) [] lb_l_lows_2) (sSeq (sIf (dTest (dOp gEq (dOp gMod (dCall cInt (dCons (dOp gDiv (dVar 0) (dC (.int 48))) (dNil))) (dC (.int 2))) (dC (.int 1)))) (sSet 3 (dComp [4] (dItR (dLenX 3)) (tgN 4) (fun _ => .ok true) (cc_l_lows_1))) (sNil)) ((fun ρ => (sRet (dVar 3)) (frz 3 ρ))))))
def den_l_lows : List D → Rs D := runD 6 b_l_lows
def cc_l_count_1 (r : List D → Rs D) : Ev → Rs D := dCallN 1 r (dCons (dVar 1) (dNil))
def b_l_count (r : List D → Rs D) : Ev → SR := sSeq (sIf (dTru (dIsi "str" (dVar 0))) (sRet (dC (.int 1))) (sNil)) (sRet (dOp gAdd (dC (.int 1)) (dCall cSum (dCons (dComp [1] (dItA (dSl (dVar 0) (dPart (dC (.int 1))) (dNoP))) (tgN 1) (fun _ => .ok true) ((cc_l_count_1 r))) (dNil)))))
def den_l_count : Nat → List D → Rs D := fuel (fun r => runD 2 (b_l_count r))
def lb_l_rule_1 : Ev → SR := sSeq (sSet 7 (dOp gIx (dVar 0) (dOp gMod (dCall cInt (dCons (dOp gDiv (dOp gIx (dVar 2) (dVar 6)) (dC (.int 2))) (dNil))) (dCall cLen (dCons (dVar 0) (dNil)))))) (sIf (dAnd (dTest (dOp gEq (dOp gMod (dCall cInt (dCons (dOp gIx (dVar 2) (dVar 6)) (dNil))) (dC (.int 2))) (dC (.int 0)))) (dTest (dOp gLe (dOp gSub (dOp gAdd (dOp gAdd (dVar 5) (dOp gIx (dVar 7) (dC (.int 1)))) (dOp gIx (dVar 1) (dC (.int 1)))) (dVar 6)) (dC (.int 5))))) (sSeq (sApp 4 (dCall cTuple (dCons (dOp gAdd (dLst (dCons (dOp gIx (dVar 7) (dC (.int 0))) (dNil))) (dSl (dVar 3) (dPart (dVar 5)) (dPart (dOp gAdd (dVar 5) (dOp gIx (dVar 7) (dC (.int 1))))))) (dNil)))) (sSet 5 (dOp gAdd (dVar 5) (dOp gIx (dVar 7) (dC (.int 1)))))) (sSeq (sApp 4 (dOp gIx (dVar 3) (dVar 5))) (sSet 5 (dOp gAdd (dVar 5) (dC (.int 1))))))
def cc_l_rule_1 : Ev → Rs D := dIxO 8 (dOp gMod (dOp gMod (dCall cInt (dCons (dOp gDiv (dVar 9) (dOp gIx (dLst (dCons (dC (.int 5)) (dCons (dC (.int 40)) (dCons (dC (.int 320)) (dNil))))) (dVar 13))) (dNil))) (dC (.int 8))) (dLenX 8))
def lb_l_rule_2 : Ev → SR := sSeq (sSet 7 (dOp gIx (dVar 0) (dOp gMod (dOp gMod (dCall cInt (dCons (dVar 9) (dNil))) (dC (.int 5))) (dCall cLen (dCons (dVar 0) (dNil)))))) (sSeq (sSet 10 (dComp [13] (dItR (dOp gIx (dVar 7) (dC (.int 1)))) (tgN 13) (fun _ => .ok true) (cc_l_rule_1))) (sSeq (sSet 11 (dCall cTuple (dCons (dOp gAdd (dLst (dCons (dOp gIx (dVar 7) (dC (.int 0))) (dNil))) (dVar 10)) (dNil)))) (sIf (dTest (dOp gLe (dCallN 1 (den_l_count 120) (dCons (dVar 11) (dNil))) (dC (.int 9)))) (sApp 8 (dVar 11)) (sNil))))
def b_l_rule : Ev → SR := sSeq (sOwn 4 (dFrL (dCons (dOp gIx (dVar 1) (dC (.int 0))) (dNil)))) (sSeq (sSet 5 (dC (.int 0))) (sSeq (sFor (dItR (dOp gIx (dVar 1) (dC (.int 1)))) (tgN 6) [6] lb_l_rule_1) (sSeq (sOwn 8 (dFrA (dSl (dVar 3) (dNoP) (dPart (dVar 5))) (dLst (dCons (dTup (dCons (dOp gIx (dOp gIx (dVar 0) (dC (.int 0))) (dC (.int 0))) (dNil))) (dNil))))) (sSeq (sFor (dItA (dSl (dVar 2) (dPart (dC (.int 3))) (dPart (dC (.int 6))))) (tgN 9) [9, 10, 11] lb_l_rule_2) (sSeq (sSet 12 (dIxO 8 (dOp gSub (dLenX 8) (dC (.int 1))))) (sSeq (sIf (dTest (dOp gEq (dOp gMod (dCall cInt (dCons (dOp gIx (dVar 2) (dC (.int 6))) (dNil))) (dC (.int 2))) (dC (.int 0)))) (sSet 12 (dIxO 8 (dOp gMod (dCall cInt (dCons (dOp gDiv (dOp gIx (dVar 2) (dC (.int 6))) (dC (.int 2))) (dNil))) (dLenX 8)))) (sNil)) ((fun ρ => (sRet (dTup (dCons (dCall cTuple (dCons (dVar 4) (dNil))) (dCons (dVar 12) (dNil))))) (frz 4 ρ)))))))))
def den_l_rule : List D → Rs D := runD 14 b_l_rule
def ct_l_rules_1 : Ev → Rs Bool := dNot (dTru (dOp gIx (dVar 10) (dC (.int 2))))
def cc_l_rules_1 : Ev → Rs D := dVar 10
def lb_l_rules_1 : Ev → SR := sSeq (sSet 8 (dSl (dVar 4) (dPart (dOp gAdd (dC (.int 2)) (dOp gMul (dC (.int 8)) (dVar 7)))) (dPart (dOp gAdd (dC (.int 10)) (dOp gMul (dC (.int 8)) (dVar 7)))))) (sSeq (sSet 9 (dOp gIx (dVar 3) (dOp gMod (dCall cInt (dCons (dVar 7) (dNil))) (dCall cLen (dCons (dVar 3) (dNil)))))) (sSeq (sIf (dTest (dOp gEq (dOp gMod (dCall cInt (dCons (dOp gIx (dVar 8) (dC (.int 0))) (dNil))) (dC (.int 3))) (dC (.int 2)))) (sSet 9 (dOp gIx (dVar 3) (dOp gMod (dCall cInt (dCons (dOp gDiv (dOp gIx (dVar 8) (dC (.int 0))) (dC (.int 3))) (dNil))) (dCall cLen (dCons (dVar 3) (dNil)))))) (sNil)) (sApp 6 (dCallN 4 den_l_rule (dCons (dVar 0) (dCons (dVar 9) (dCons (dSl (dVar 8) (dPart (dC (.int 1))) (dNoP)) (dCons (dVar 5) (dNil)))))))))
def b_l_rules : Ev → SR := sSeq (sSet 3 (dComp [10] (dItA (dVar 0)) (tgN 10) (ct_l_rules_1) (cc_l_rules_1))) (sSeq (sSet 4 (dCallN 3 den_l_numbers (dCons (dVar 1) (dCons (dVar 2) (dCons (dC (.int 26)) (dNil)))))) (sSeq (sSet 5 (dCallN 2 den_l_names (dCons (dOp gIx (dVar 4) (dC (.int 0))) (dCons (dC (.int 4)) (dNil))))) (sSeq (sNew 6) (sSeq (sIf (dTest (dOp gGt (dCall cLen (dCons (dVar 3) (dNil))) (dC (.int 0)))) (sFor (dItR (dOp gMod (dCall cInt (dCons (dOp gIx (dVar 4) (dC (.int 1))) (dNil))) (dC (.int 4)))) (tgN 7) [7, 8, 9] lb_l_rules_1) (sNil)) ((fun ρ => (sRet (dVar 6)) (frz 6 ρ)))))))
def den_l_rules : List D → Rs D := runD 11 b_l_rules
def b_l_random : Ev → SR := sSeq (sSet 3 (dCallN 3 den_l_numbers (dCons (dVar 0) (dCons (dVar 1) (dCons (dC (.int 12)) (dNil)))))) (sSeq (sSet 4 (dCallN 1 den_l_symbols (dCons (dVar 3) (dNil)))) (sSeq (sSet 5 (dCallN 2 den_l_names (dCons (dOp gIx (dVar 3) (dC (.int 8))) (dCons (dOp gAdd (dC (.int 1)) (dOp gMod (dCall cInt (dCons (dOp gIx (dVar 3) (dC (.int 9))) (dNil))) (dVar 2))) (dNil))))) (sSeq (sSet 6 (dCallN 3 den_l_numbers (dCons (dVar 0) (dCons (dOp gAdd (dVar 1) (dC (.int 1))) (dCons (dC (.int 9)) (dNil)))))) (sSeq (sSet 7 (dCallN 3 den_l_entries (dCons (dVar 4) (dCons (dVar 5) (dCons (dSl (dVar 6) (dNoP) (dPart (dOp gAdd (dCall cLen (dCons (dVar 4) (dNil))) (dOp gMod (dCall cInt (dCons (dOp gIx (dVar 3) (dC (.int 11))) (dNil))) (dC (.int 4)))))) (dNil)))))) (sRet (dTup (dCons (dVar 4) (dCons (dVar 5) (dCons (dCallN 2 den_l_lows (dCons (dOp gIx (dVar 3) (dC (.int 10))) (dCons (dVar 5) (dNil)))) (dCons (dVar 7) (dCons (dCallN 3 den_l_rules (dCons (dVar 4) (dCons (dVar 0) (dCons (dOp gAdd (dVar 1) (dC (.int 2))) (dNil))))) (dNil))))))))))))
def den_l_random : List D → Rs D := runD 8 b_l_random
def cc_l_spoil_1 : Ev → Rs D := dOp gIx (dVar 3) (dOp gMod (dOp gMod (dCall cInt (dCons (dOp gDiv (dVar 8) (dOp gIx (dLst (dCons (dC (.int 6)) (dCons (dC (.int 18)) (dCons (dC (.int 54)) (dNil))))) (dVar 13))) (dNil))) (dC (.int 3))) (dCall cLen (dCons (dVar 3) (dNil))))
def cc_l_spoil_2 : Ev → Rs D := dTup (dCons (dOp gIx (dVar 16) (dC (.int 0))) (dCons (dTup (dCons (dOp gIx (dOp gIx (dVar 2) (dC (.int 0))) (dC (.int 0))) (dNil))) (dNil)))
def ct_l_spoil_3 : Ev → Rs Bool := dTest (dOp gEq (dOp gMod (dCall cInt (dCons (dOp gDiv (dVar 8) (dOp gIx (dLst (dCons (dC (.int 6)) (dCons (dC (.int 12)) (dCons (dC (.int 24)) (dNil))))) (dVar 14))) (dNil))) (dC (.int 2))) (dC (.int 1)))
def cc_l_spoil_3 : Ev → Rs D := dVar 14
def cc_l_spoil_4 : Ev → Rs D := dOp gIx (dLst (dCons (dVar 15) (dCons (dTup (dCons (dOp gIx (dVar 10) (dC (.int 0))) (dCons (dOp gIx (dVar 10) (dC (.int 1))) (dCons (dOp gIx (dVar 10) (dC (.int 2))) (dCons (dCall cTuple (dCons (dVar 12) (dNil))) (dNil)))))) (dNil)))) (dCall cInt (dCons (dOp gEq (dVar 15) (dVar 10)) (dNil)))
def b_l_spoil : Ev → SR := sSeq (sUnp [2, 3, 4, 5, 6] (dVar 0)) (sSeq (sSet 7 (dOp gMod (dCall cInt (dCons (dVar 1) (dNil))) (dC (.int 6)))) (sSeq (sSet 8 (dCall cInt (dCons (dOp gDiv (dVar 1) (dC (.int 6))) (dNil)))) (sSeq (sSet 9 (dOp gMod (dCall cInt (dCons (dVar 8) (dNil))) (dOp gAdd (dCall cLen (dCons (dVar 5) (dNil))) (dC (.int 1))))) (sSeq (sSet 10 (dOp gIx (dVar 2) (dOp gMod (dOp gMod (dCall cInt (dCons (dVar 8) (dNil))) (dC (.int 6))) (dCall cLen (dCons (dVar 2) (dNil)))))) (sSeq (sIf (dTest (dOp gEq (dVar 7) (dC (.int 1)))) (sSet 5 (dOp gAdd (dSl (dVar 5) (dNoP) (dPart (dVar 9))) (dSl (dVar 5) (dPart (dOp gAdd (dVar 9) (dC (.int 1)))) (dNoP)))) (sNil)) (sSeq (sIf (dTest (dOp gEq (dVar 7) (dC (.int 2)))) (sSeq (sSet 11 (dComp [13] (dItR (dOp gIx (dVar 10) (dC (.int 1)))) (tgN 13) (fun _ => .ok true) (cc_l_spoil_1))) (sSet 5 (dOp gAdd (dVar 5) (dLst (dCons (dTup (dCons (dOp gIx (dVar 10) (dC (.int 0))) (dCons (dCall cTuple (dCons (dVar 11) (dNil))) (dCons (dOp gIx (dVar 3) (dOp gMod (dOp gMod (dCall cInt (dCons (dOp gDiv (dVar 8) (dC (.int 162))) (dNil))) (dC (.int 3))) (dCall cLen (dCons (dVar 3) (dNil))))) (dNil))))) (dNil)))))) (sNil)) (sSeq (sSet 9 (dOp gMod (dCall cInt (dCons (dVar 8) (dNil))) (dOp gAdd (dCall cLen (dCons (dVar 6) (dNil))) (dC (.int 1))))) (sSeq (sIf (dTest (dOp gEq (dVar 7) (dC (.int 3)))) (sSet 6 (dOp gAdd (dSl (dVar 6) (dNoP) (dPart (dVar 9))) (dSl (dVar 6) (dPart (dOp gAdd (dVar 9) (dC (.int 1)))) (dNoP)))) (sNil)) (sSeq (sIf (dTest (dOp gEq (dVar 7) (dC (.int 4)))) (sSet 6 (dOp gAdd (dOp gAdd (dSl (dVar 6) (dNoP) (dPart (dVar 9))) (dComp [16] (dItA (dSl (dVar 6) (dPart (dVar 9)) (dPart (dOp gAdd (dVar 9) (dC (.int 1)))))) (tgN 16) (fun _ => .ok true) (cc_l_spoil_2))) (dSl (dVar 6) (dPart (dOp gAdd (dVar 9) (dC (.int 1)))) (dNoP)))) (sNil)) (sSeq (sIf (dTest (dOp gEq (dVar 7) (dC (.int 5)))) (sSeq (sSet 12 (dComp [14] (dItR (dOp gIx (dVar 10) (dC (.int 1)))) (tgN 14) (ct_l_spoil_3) (cc_l_spoil_3))) (sSet 2 (dComp [15] (dItA (dVar 2)) (tgN 15) (fun _ => .ok true) (cc_l_spoil_4)))) (sNil)) (sRet (dTup (dCons (dVar 2) (dCons (dVar 3) (dCons (dVar 4) (dCons (dVar 5) (dCons (dVar 6) (dNil))))))))))))))))))
def den_l_spoil : List D → Rs D := runD 17 b_l_spoil
def lb_l_up_1 : Ev → SR := sIf (dtTmp 2 (dAnd (dTest (dOp gIn (dOp gIx (dVar 4) (dC (.int 0))) (dVar 2))) (dTest (dOp gNotIn (dOp gIx (dVar 4) (dC (.int 1))) (dVar 2))))) (sApp 2 (dOp gIx (dVar 4) (dC (.int 1)))) (sNil)
def lb_l_up_2 : Ev → SR := sFor (dItA (dOp gIx (dVar 0) (dC (.int 2)))) (tgN 4) [4] lb_l_up_1
def ct_l_up_1 : Ev → Rs Bool := dTest (dOp gIn (dVar 5) (dVar 2))
def cc_l_up_1 : Ev → Rs D := dVar 5
def b_l_up : Ev → SR := sSeq (sOwn 2 (dFrL (dCons (dVar 1) (dNil)))) (sSeq (sFor (dItA (dOp gIx (dVar 0) (dC (.int 1)))) (tgN 3) [3] lb_l_up_2) ((fun ρ => (sRet (dComp [5] (dItA (dOp gIx (dVar 0) (dC (.int 1)))) (tgN 5) (ct_l_up_1) (cc_l_up_1))) (frz 2 ρ))))
def den_l_up : List D → Rs D := runD 6 b_l_up
def ct_l_combine_1 : Ev → Rs Bool := dAnd (dTest (dOp gEq (dOp gIx (dVar 4) (dC (.int 0))) (dVar 1))) (dTest (dOp gIn (dOp gIx (dOp gIx (dVar 4) (dC (.int 1))) (dVar 6)) (dOp gIx (dVar 2) (dVar 6))))
def cc_l_combine_1 : Ev → Rs D := dVar 6
def lb_l_combine_1 : Ev → SR := sSeq (sSet 5 (dComp [6] (dItR (dCall cLen (dCons (dOp gIx (dVar 4) (dC (.int 1))) (dNil)))) (tgN 6) (ct_l_combine_1) (cc_l_combine_1))) (sIf (dAnd (dTest (dOp gEq (dOp gIx (dVar 4) (dC (.int 0))) (dVar 1))) (dTest (dOp gEq (dCall cLen (dCons (dVar 5) (dNil))) (dCall cLen (dCons (dOp gIx (dVar 4) (dC (.int 1))) (dNil)))))) (sSet 3 (dOp gAdd (dVar 3) (dCallN 2 den_l_up (dCons (dVar 0) (dCons (dOp gIx (dVar 4) (dC (.int 2))) (dNil)))))) (sNil))
def ct_l_combine_2 : Ev → Rs Bool := dTest (dOp gIn (dVar 7) (dVar 3))
def cc_l_combine_2 : Ev → Rs D := dVar 7
def b_l_combine : Ev → SR := sSeq (sSet 3 (dLst (dNil))) (sSeq (sFor (dItA (dOp gIx (dVar 0) (dC (.int 3)))) (tgN 4) [4, 5] lb_l_combine_1) (sRet (dCall cTuple (dCons (dComp [7] (dItA (dOp gIx (dVar 0) (dC (.int 1)))) (tgN 7) (ct_l_combine_2) (cc_l_combine_2)) (dNil)))))
def den_l_combine : List D → Rs D := runD 8 b_l_combine
def cc_l_fitting_1 : Ev → Rs D := dOp gIx (dVar 9) (dC (.int 1))
def lb_l_fitting_1 : Ev → SR := sSeq (sSet 7 (dOp gIx (dOp gIx (dVar 0) (dC (.int 0))) (dOp gMod (dCall cInt (dCons (dOp gAdd (dOp gMod (dCall cInt (dCons (dVar 2) (dNil))) (dC (.int 6))) (dVar 6)) (dNil))) (dVar 3)))) (sIf (dAnd (dTest (dOp gLe (dOp gIx (dVar 7) (dC (.int 1))) (dCall cLen (dCons (dVar 1) (dNil))))) (dOr (dTest (dOp gGt (dOp gIx (dVar 7) (dC (.int 1))) (dC (.int 0)))) (dOr (dTru (dVar 5)) (dOr (dTru (dVar 4)) (dTest (dOp gGe (dVar 6) (dVar 3))))))) (sSeq (sSet 8 (dCallN 3 den_l_combine (dCons (dVar 0) (dCons (dOp gIx (dVar 7) (dC (.int 0))) (dCons (dComp [9] (dItA (dSl (dVar 1) (dPart (dOp gSub (dCall cLen (dCons (dVar 1) (dNil))) (dOp gIx (dVar 7) (dC (.int 1))))) (dNoP))) (tgN 9) (fun _ => .ok true) (cc_l_fitting_1)) (dNil)))))) (sIf (dOr (dTest (dOp gNe (dVar 8) (dTup (dNil)))) (dTru (dVar 4))) (sRet (dTup (dCons (dVar 7) (dCons (dVar 8) (dNil))))) (sNil))) (sNil))
def b_l_fitting : Ev → SR := sSeq (sSet 3 (dCall cLen (dCons (dOp gIx (dVar 0) (dC (.int 0))) (dNil)))) (sSeq (sSet 4 (dOp gEq (dOp gMod (dCall cInt (dCons (dOp gDiv (dVar 2) (dC (.int 6))) (dNil))) (dC (.int 5))) (dC (.int 0)))) (sSeq (sSet 5 (dOp gEq (dOp gMod (dCall cInt (dCons (dOp gDiv (dVar 2) (dC (.int 30))) (dNil))) (dC (.int 3))) (dC (.int 0)))) (sSeq (sFor (dItR (dOp gMul (dC (.int 2)) (dVar 3))) (tgN 6) [6, 7] lb_l_fitting_1) (sRet (dTup (dCons (dOp gIx (dOp gIx (dVar 0) (dC (.int 0))) (dC (.int 0))) (dCons (dCallN 3 den_l_combine (dCons (dVar 0) (dCons (dOp gIx (dOp gIx (dOp gIx (dVar 0) (dC (.int 0))) (dC (.int 0))) (dC (.int 0))) (dCons (dLst (dNil)) (dNil))))) (dNil))))))))
def den_l_fitting : List D → Rs D := runD 10 b_l_fitting
def cc_l_term_1 : Ev → Rs D := dOp gIx (dVar 6) (dC (.int 0))
def lb_l_term_1 : Ev → SR := (fun ρ => (sSeq (sUnp [4, 5] (dCallN 3 den_l_fitting (dCons (dVar 0) (dCons (dVar 2) (dCons (dVar 3) (dNil)))))) ((fun ρ => (sSeq (sSet 7 (dComp [6] (dItA (dSl (dVar 2) (dPart (dOp gSub (dLenX 2) (dOp gIx (dVar 4) (dC (.int 1))))) (dNoP))) (tgN 6) (fun _ => .ok true) (cc_l_term_1))) ((fun ρ => (sSeq (sOwn 2 (dFrS (dVar 2) (dNoP) (dPart (dOp gSub (dLenX 2) (dOp gIx (dVar 4) (dC (.int 1))))))) (sApp 2 (dTup (dCons (dCall cTuple (dCons (dOp gAdd (dLst (dCons (dOp gIx (dVar 4) (dC (.int 0))) (dNil))) (dVar 7)) (dNil))) (dCons (dVar 5) (dNil)))))) (frz 2 ρ)))) (frz 2 ρ)))) (frz 2 ρ))
def lb_l_term_2 : Ev → SR := sIf (dTest (dOp gGt (dCallN 1 (den_l_count 120) (dCons (dOp gIx (dVar 6) (dC (.int 0))) (dNil))) (dCallN 1 (den_l_count 120) (dCons (dVar 8) (dNil))))) (sSet 8 (dOp gIx (dVar 6) (dC (.int 0)))) (sNil)
def b_l_term : Ev → SR := sSeq (sNew 2) (sSeq (sFor (dItA (dVar 1)) (tgN 3) [3, 4, 5, 7] lb_l_term_1) (sSeq (sSet 8 (dOp gIx (dIxO 2 (dC (.int 0))) (dC (.int 0)))) ((fun ρ => (sSeq (sFor (dItA (dVar 2)) (tgN 6) [] lb_l_term_2) (sRet (dVar 8))) (frz 2 ρ)))))
def den_l_term : List D → Rs D := runD 9 b_l_term
def cc_l_kinds_1 (r : List D → Rs D) : Ev → Rs D := dCallN 2 r (dCons (dVar 0) (dCons (dVar 2) (dNil)))
def b_l_kinds (r : List D → Rs D) : Ev → SR := sRet (dCallN 3 den_l_combine (dCons (dVar 0) (dCons (dOp gIx (dVar 1) (dC (.int 0))) (dCons (dComp [2] (dItA (dSl (dVar 1) (dPart (dC (.int 1))) (dNoP))) (tgN 2) (fun _ => .ok true) ((cc_l_kinds_1 r))) (dNil)))))
def den_l_kinds : Nat → List D → Rs D := fuel (fun r => runD 3 (b_l_kinds r))
def lb_is_name_1 : Ev → SR := sIf (dTest (dOp gNotIn (dVar 1) (dC (.str "abcdefghijklmnopqrstuvwxyz")))) (sRet (dC (.bl false))) (sNil)
def b_is_name : Ev → SR := sSeq (sIf (dOr (dNot (dTru (dIsi "str" (dVar 0)))) (dOr (dTest (dOp gLt (dCall cLen (dCons (dVar 0) (dNil))) (dC (.int 1)))) (dTest (dOp gGt (dCall cLen (dCons (dVar 0) (dNil))) (dC (.int 8)))))) (sRet (dC (.bl false))) (sNil)) (sSeq (sFor (dItA (dVar 0)) (tgN 1) [1] lb_is_name_1) (sRet (dC (.bl true))))
def den_is_name : List D → Rs D := runD 2 b_is_name
def lb_check_kinds_1 : Ev → SR := sIf (dOr (dNot (dTru (dCallN 1 den_is_name (dCons (dOp gIx (dVar 0) (dVar 1)) (dNil))))) (dTest (dOp gIn (dOp gIx (dVar 0) (dVar 1)) (dSl (dVar 0) (dNoP) (dPart (dVar 1)))))) ((fun _ => .bot)) (sNil)
def b_check_kinds : Ev → SR := sFor (dItR (dCall cLen (dCons (dVar 0) (dNil)))) (tgN 1) [1] lb_check_kinds_1
def den_check_kinds : List D → Rs D := runD 2 b_check_kinds
def lb_kinds_above_1 : Ev → SR := sPutD 2 (dVar 3) (dLst (dCons (dVar 3) (dNil)))
def lb_kinds_above_2 : Ev → SR := sIf (dTest (dInD true 2 (dVar 3))) ((fun _ => .bot)) (sNil)
def ct_kinds_above_1 : Ev → Rs Bool := dOr (dTest (dOp gIn (dVar 6) (dIxD 2 (dVar 3)))) (dTest (dOp gIn (dVar 6) (dIxD 2 (dVar 5))))
def cc_kinds_above_1 : Ev → Rs D := dVar 6
def lb_kinds_above_3 : Ev → SR := sIf (dTest (dOp gIn (dVar 4) (dIxD 2 (dVar 3)))) (sPutD 2 (dVar 3) (dComp [6] (dItA (dVar 0)) (tgN 6) (ct_kinds_above_1) (cc_kinds_above_1))) (sNil)
def lb_kinds_above_4 : Ev → SR := sSeq (sFor (dItA (dTup (dCons (dVar 4) (dCons (dVar 5) (dNil))))) (tgN 3) [] lb_kinds_above_2) (sSeq (sIf (dTest (dOp gIn (dVar 4) (dIxD 2 (dVar 5)))) ((fun _ => .bot)) (sNil)) (sFor (dItA (dVar 0)) (tgN 3) [] lb_kinds_above_3))
def b_kinds_above : Ev → SR := sSeq (sNewD 2) (sSeq (sFor (dItA (dVar 0)) (tgN 3) [] lb_kinds_above_1) (sSeq (sFor (dItA (dVar 1)) (tgT [4, 5]) [4, 5] lb_kinds_above_4) ((fun ρ => (sRet (dVar 2)) (frz 2 ρ)))))
def den_kinds_above : List D → Rs D := runD 7 b_kinds_above
def b_signature_symbols : Ev → SR := sRet (dCall cTuple (dCons (dFld "Signature" "listed" (dVar 0)) (dNil)))
def den_signature_symbols : List D → Rs D := runD 1 b_signature_symbols
def b_signature_number : Ev → SR := sSeq (sIf (dTest (dOp gNotIn (dVar 1) (dFld "Signature" "numbers" (dVar 0)))) ((fun _ => .bot)) (sNil)) (sRet (dOp gIx (dFld "Signature" "numbers" (dVar 0)) (dVar 1)))
def den_signature_number : List D → Rs D := runD 2 b_signature_number
def b_signature_places : Ev → SR := sRet (dOp gIx (dOp gIx (dFld "Signature" "listed" (dVar 0)) (dMeth "Signature" "number" 2 den_signature_number (dVar 0) (dCons (dVar 1) (dNil)))) (dC (.int 1)))
def den_signature_places : List D → Rs D := runD 2 b_signature_places
def cc_choices_1 : Ev → Rs D := dOp gAdd (dVar 3) (dTup (dCons (dVar 4) (dNil)))
def it_choices_1 : Ev → Rs (List D) := dItA (dVar 2)
def lb_choices_2 : Ev → SR := sSet 1 (dComp2 [3, 4] [4] (dItA (dVar 1)) (tgN 3) (fun _ => .ok true) (it_choices_1) (tgN 4) (fun _ => .ok true) (cc_choices_1))
def b_choices : Ev → SR := sSeq (sSet 1 (dLst (dCons (dTup (dNil)) (dNil)))) (sSeq (sFor (dItA (dVar 0)) (tgN 2) [2] lb_choices_2) (sRet (dVar 1)))
def den_choices : List D → Rs D := runD 5 b_choices
def cc_possible_entries_1 : Ev → Rs D := dTup (dCons (dVar 2) (dCons (dVar 4) (dCons (dVar 5) (dNil))))
def it_possible_entries_1 : Ev → Rs (List D) := dItA (dVar 1)
def b_possible_entries : Ev → SR := sSeq (sSet 3 (dOp gMul (dLst (dCons (dVar 1) (dNil))) (dMeth "Signature" "places" 2 den_signature_places (dVar 0) (dCons (dVar 2) (dNil))))) (sRet (dComp2 [4, 5] [5] (dItA (dCallN 1 den_choices (dCons (dVar 3) (dNil)))) (tgN 4) (fun _ => .ok true) (it_possible_entries_1) (tgN 5) (fun _ => .ok true) (cc_possible_entries_1)))
def den_possible_entries : List D → Rs D := runD 6 b_possible_entries
def cc_in_canonical_order_1 (w : World) : Ev → Rs D := dVar 4
def cc_in_canonical_order_2 (w : World) : Ev → Rs D := dC (.bl true)
def ct_in_canonical_order_3 (w : World) : Ev → Rs Bool := dTest (dInN false w 3 (dVar 4))
def cc_in_canonical_order_3 (w : World) : Ev → Rs D := dVar 4
def it_in_canonical_order_1 (w : World) : Ev → Rs (List D) := dItA (dCallN 3 den_possible_entries (dCons (dVar 0) (dCons (dVar 1) (dCons (dOp gIx (dVar 5) (dC (.int 0))) (dNil)))))
def b_in_canonical_order (w : World) : Ev → SR := sSeq (sDcN w 3 [4] (dItA (dVar 2)) (tgN 4) (fun _ => .ok true) ((cc_in_canonical_order_1 w)) ((cc_in_canonical_order_2 w))) (sRet (dComp2 [5, 4] [4] (dItA (dProp "Signature" den_signature_symbols (dVar 0))) (tgN 5) (fun _ => .ok true) ((it_in_canonical_order_1 w)) (tgN 4) ((ct_in_canonical_order_3 w)) ((cc_in_canonical_order_3 w))))
def den_in_canonical_order (w : World) : List D → Rs D := runD 6 (b_in_canonical_order w)
def cc_book_has_place_1 : Ev → Rs D := dOp gIn (dVar 3) (dFld "Book" "above" (dVar 0))
def b_book_has_place : Ev → SR := sSeq (sIf (dOr (dTest (dOp gNotIn (dVar 1) (dFld "Signature" "numbers" (dFld "Book" "base" (dVar 0))))) (dTest (dOp gNe (dCall cLen (dCons (dVar 2) (dNil))) (dMeth "Signature" "places" 2 den_signature_places (dFld "Book" "base" (dVar 0)) (dCons (dVar 1) (dNil)))))) (sRet (dC (.bl false))) (sNil)) (sRet (dCall cAll (dCons (dComp [3] (dItA (dVar 2)) (tgN 3) (fun _ => .ok true) (cc_book_has_place_1)) (dNil))))
def den_book_has_place : List D → Rs D := runD 4 b_book_has_place
def lb_book_init_1 (w : World) : Ev → SR := sSeq (sIf (dtTmp 0 (dOr (dNot (dTru (dMeth "Book" "has_place" 3 den_book_has_place (dVar 0) (dCons (dVar 6) (dCons (dVar 7) (dNil)))))) (dTest (dOp gNotIn (dVar 8) (dFld "Book" "above" (dVar 0)))))) ((fun _ => .bot)) (sNil)) (sApp 5 (dTup (dCons (dVar 6) (dCons (dCall cTuple (dCons (dVar 7) (dNil))) (dCons (dVar 8) (dNil))))))
def b_book_init (w : World) : Ev → SR := sSeq (sExpr (dCallN 1 den_check_kinds (dCons (dVar 2) (dNil)))) (sSeq (sFldS 0 "Book" "base" (dVar 1)) (sSeq (sFldS 0 "Book" "names" (dCall cList (dCons (dVar 2) (dNil)))) (sSeq (sFldS 0 "Book" "above" (dCallN 2 den_kinds_above (dCons (dFldO 0 "Book" "names") (dCons (dVar 3) (dNil))))) (sSeq (sFldS 0 "Book" "rows" (dLst (dNil))) (sSeq (sNew 5) (sSeq (sFor (dItA (dVar 4)) (tgT [6, 7, 8]) [6, 7, 8] (lb_book_init_1 w)) ((fun ρ => (sFldS 0 "Book" "rows" (dCallN 3 (den_in_canonical_order w) (dCons (dVar 1) (dCons (dFldO 0 "Book" "names") (dCons (dVar 5) (dNil)))))) (frz 5 ρ)))))))))
def den_book_init (w : World) : Addr → List D → Rs D := initD 8 "Book" (b_book_init w)
def lb_check_symbol_1 : Ev → SR := sIf (dOr (dTest (dOp gLt (dOp gIx (dVar 5) (dVar 6)) (dC (.int 0)))) (dOr (dTest (dOp gGe (dOp gIx (dVar 5) (dVar 6)) (dVar 3))) (dTest (dOp gIn (dOp gIx (dVar 5) (dVar 6)) (dSl (dVar 5) (dNoP) (dPart (dVar 6))))))) ((fun _ => .bot)) (sNil)
def b_check_symbol : Ev → SR := sSeq (sUnp [2, 3, 4, 5] (dVar 0)) (sSeq (sIf (dOr (dNot (dTru (dCallN 1 den_is_name (dCons (dVar 2) (dNil))))) (dOr (dTest (dOp gIn (dVar 2) (dVar 1))) (dOr (dTest (dOp gLt (dVar 3) (dC (.int 0)))) (dTest (dOp gGt (dVar 3) (dC (.int 3))))))) ((fun _ => .bot)) (sNil)) (sFor (dItR (dCall cLen (dCons (dVar 5) (dNil)))) (tgN 6) [6] lb_check_symbol_1))
def den_check_symbol : List D → Rs D := runD 7 b_check_symbol
def b_l_book (w : World) : Ev → SR := sRet (dCallK 2 2 (mkD (den_book_init w)) (dCons (dMakeS den_check_symbol (dCall cList (dCons (dOp gIx (dVar 0) (dC (.int 0))) (dNil)))) (dCons (dCall cList (dCons (dOp gIx (dVar 0) (dC (.int 1))) (dNil))) (dNil))) (dCons (dCall cList (dCons (dOp gIx (dVar 0) (dC (.int 2))) (dNil))) (dCons (dCall cList (dCons (dOp gIx (dVar 0) (dC (.int 3))) (dNil))) (dNil))))
def den_l_book (w : World) : List D → Rs D := runD 1 (b_l_book w)
def cc_signature_size_1 (r : List D → Rs D) : Ev → Rs D := dMeth "Signature" "size" 2 r (dVar 0) (dCons (dVar 2) (dNil))
def b_signature_size (r : List D → Rs D) : Ev → SR := sSeq (sIf (dOr (dNot (dTru (dIsi "tuple" (dVar 1)))) (dOr (dTest (dOp gEq (dVar 1) (dTup (dNil)))) (dNot (dTru (dIsi "str" (dOp gIx (dVar 1) (dC (.int 0)))))))) ((fun _ => .bot)) (sNil)) (sSeq (sIf (dOr (dTest (dOp gNotIn (dOp gIx (dVar 1) (dC (.int 0))) (dFld "Signature" "numbers" (dVar 0)))) (dTest (dOp gNe (dCall cLen (dCons (dVar 1) (dNil))) (dOp gAdd (dC (.int 1)) (dMeth "Signature" "places" 2 den_signature_places (dVar 0) (dCons (dOp gIx (dVar 1) (dC (.int 0))) (dNil))))))) ((fun _ => .bot)) (sNil)) (sRet (dOp gAdd (dC (.int 1)) (dCall cSum (dCons (dComp [2] (dItA (dSl (dVar 1) (dPart (dC (.int 1))) (dNoP))) (tgN 2) (fun _ => .ok true) ((cc_signature_size_1 r))) (dNil))))))
def den_signature_size : Nat → List D → Rs D := fuel (fun r => runD 3 (b_signature_size r))
def cc_book_closed_1 : Ev → Rs D := dOp gIn (dVar 2) (dOp gIx (dFld "Book" "above" (dVar 0)) (dVar 3))
def ct_book_closed_2 : Ev → Rs Bool := dTru (dCall cAny (dCons (dComp [3] (dItA (dVar 1)) (tgN 3) (fun _ => .ok true) (cc_book_closed_1)) (dNil)))
def cc_book_closed_2 : Ev → Rs D := dVar 2
def b_book_closed : Ev → SR := sRet (dCall cTuple (dCons (dComp [2] (dItA (dFld "Book" "names" (dVar 0))) (tgN 2) (ct_book_closed_2) (cc_book_closed_2)) (dNil)))
def den_book_closed : List D → Rs D := runD 4 b_book_closed
def cc_book_suits_1 : Ev → Rs D := dOp gIn (dOp gIx (dVar 1) (dVar 3)) (dOp gIx (dFld "Book" "above" (dVar 0)) (dVar 4))
def lb_book_suits_1 : Ev → SR := sIf (dNot (dTru (dCall cAny (dCons (dComp [4] (dItA (dOp gIx (dVar 2) (dVar 3))) (tgN 4) (fun _ => .ok true) (cc_book_suits_1)) (dNil))))) (sRet (dC (.bl false))) (sNil)
def b_book_suits : Ev → SR := sSeq (sFor (dItR (dCall cLen (dCons (dVar 1) (dNil)))) (tgN 3) [3] lb_book_suits_1) (sRet (dC (.bl true)))
def den_book_suits : List D → Rs D := runD 5 b_book_suits
def ct_book_combine_1 : Ev → Rs Bool := dAnd (dTest (dOp gEq (dOp gIx (dVar 3) (dC (.int 0))) (dVar 1))) (dTru (dMeth "Book" "suits" 3 den_book_suits (dVar 0) (dCons (dOp gIx (dVar 3) (dC (.int 1))) (dCons (dVar 2) (dNil)))))
def cc_book_combine_1 : Ev → Rs D := dOp gIx (dVar 3) (dC (.int 2))
def b_book_combine : Ev → SR := sSeq (sExpr (dMeth "Signature" "number" 2 den_signature_number (dFld "Book" "base" (dVar 0)) (dCons (dVar 1) (dNil)))) (sRet (dMeth "Book" "closed" 2 den_book_closed (dVar 0) (dCons (dComp [3] (dItA (dFld "Book" "rows" (dVar 0))) (tgN 3) (ct_book_combine_1) (cc_book_combine_1)) (dNil))))
def den_book_combine : List D → Rs D := runD 4 b_book_combine
def cc_book_told_kinds_1 (r : List D → Rs D) : Ev → Rs D := dMeth "Book" "told_kinds" 2 r (dVar 0) (dCons (dVar 2) (dNil))
def b_book_told_kinds (r : List D → Rs D) : Ev → SR := sRet (dMeth "Book" "combine" 3 den_book_combine (dVar 0) (dCons (dOp gIx (dVar 1) (dC (.int 0))) (dCons (dComp [2] (dItA (dSl (dVar 1) (dPart (dC (.int 1))) (dNoP))) (tgN 2) (fun _ => .ok true) ((cc_book_told_kinds_1 r))) (dNil))))
def den_book_told_kinds : Nat → List D → Rs D := fuel (fun r => runD 3 (b_book_told_kinds r))
def b_book_kinds_of : Ev → SR := sSeq (sExpr (dMeth "Signature" "size" 2 (den_signature_size 120) (dFld "Book" "base" (dVar 0)) (dCons (dVar 1) (dNil)))) (sRet (dMeth "Book" "told_kinds" 2 (den_book_told_kinds 120) (dVar 0) (dCons (dVar 1) (dNil))))
def den_book_kinds_of : List D → Rs D := runD 2 b_book_kinds_of
def cc_book_least_kind_1 : Ev → Rs D := dOp gIn (dVar 4) (dOp gIx (dFld "Book" "above" (dVar 0)) (dVar 3))
def lb_book_least_kind_1 : Ev → SR := sIf (dTru (dCall cAll (dCons (dComp [4] (dItA (dVar 2)) (tgN 4) (fun _ => .ok true) (cc_book_least_kind_1)) (dNil)))) (sRet (dVar 3)) (sNil)
def b_book_least_kind : Ev → SR := sSeq (sSet 2 (dMeth "Book" "kinds_of" 2 den_book_kinds_of (dVar 0) (dCons (dVar 1) (dNil)))) (sSeq (sFor (dItA (dVar 2)) (tgN 3) [3] lb_book_least_kind_1) (sRet (dC .non)))
def den_book_least_kind : List D → Rs D := runD 5 b_book_least_kind
end
end KL

namespace KL
open PySem L2 KD
noncomputable section
def b_book_signature : Ev → SR := sRet (dFld "Book" "base" (dVar 0))
def den_book_signature : List D → Rs D := runD 1 b_book_signature
def b_book_kinds : Ev → SR := sRet (dCall cTuple (dCons (dFld "Book" "names" (dVar 0)) (dNil)))
def den_book_kinds : List D → Rs D := runD 1 b_book_kinds
def b_signature_is_done : Ev → SR := sRet (dOp gIx (dOp gIx (dFld "Signature" "listed" (dVar 0)) (dMeth "Signature" "number" 2 den_signature_number (dVar 0) (dCons (dVar 1) (dNil)))) (dC (.int 2)))
def den_signature_is_done : List D → Rs D := runD 2 b_signature_is_done
def b_has_parts : Ev → SR := sSeq (sIf (dOr (dNot (dTru (dIsi "tuple" (dVar 1)))) (dOr (dTest (dOp gEq (dVar 1) (dTup (dNil)))) (dNot (dTru (dIsi "str" (dOp gIx (dVar 1) (dC (.int 0)))))))) (sRet (dC (.bl false))) (sNil)) (sRet (dAndV (dOp gIn (dOp gIx (dVar 1) (dC (.int 0))) (dFld "Signature" "numbers" (dVar 0))) (dOp gEq (dCall cLen (dCons (dVar 1) (dNil))) (dOp gAdd (dC (.int 1)) (dMeth "Signature" "places" 2 den_signature_places (dVar 0) (dCons (dOp gIx (dVar 1) (dC (.int 0))) (dNil)))))))
def den_has_parts : List D → Rs D := runD 2 b_has_parts
def lb_left_variables_1 : Ev → SR := sSeq (sIf (dtTmp 2 (dOr (dNot (dTru (dIsi "str" (dVar 5)))) (dOr (dNot (dTru (dCallN 1 den_is_name (dCons (dVar 5) (dNil))))) (dTest (dOp gIn (dVar 5) (dVar 2)))))) ((fun _ => .bot)) (sNil)) (sApp 2 (dVar 5))
def lb_left_variables_2 : Ev → SR := sSeq (sSet 4 (dLst (dCons (dVar 3) (dNil)))) (sSeq (sIf (dTru (dIsi "tuple" (dVar 3))) (sSeq (sIf (dNot (dTru (dCallN 2 den_has_parts (dCons (dVar 0) (dCons (dVar 3) (dNil)))))) ((fun _ => .bot)) (sNil)) (sSet 4 (dCall cList (dCons (dSl (dVar 3) (dPart (dC (.int 1))) (dNoP)) (dNil))))) (sNil)) (sFor (dItA (dVar 4)) (tgN 5) [5] lb_left_variables_1))
def b_left_variables : Ev → SR := sSeq (sIf (dOr (dNot (dTru (dIsi "tuple" (dVar 1)))) (dOr (dTest (dOp gNe (dCall cLen (dCons (dVar 1) (dNil))) (dC (.int 2)))) (dNot (dTru (dCallN 2 den_has_parts (dCons (dVar 0) (dCons (dOp gIx (dVar 1) (dC (.int 0))) (dNil)))))))) ((fun _ => .bot)) (sNil)) (sSeq (sIf (dTru (dMeth "Signature" "is_done" 2 den_signature_is_done (dVar 0) (dCons (dOp gIx (dOp gIx (dVar 1) (dC (.int 0))) (dC (.int 0))) (dNil)))) ((fun _ => .bot)) (sNil)) (sSeq (sNew 2) (sSeq (sFor (dItA (dSl (dOp gIx (dVar 1) (dC (.int 0))) (dPart (dC (.int 1))) (dNoP))) (tgN 3) [3, 4] lb_left_variables_2) ((fun ρ => (sRet (dVar 2)) (frz 2 ρ))))))
def den_left_variables : List D → Rs D := runD 6 b_left_variables
def lb_check_right_1 (r : List D → Rs D) : Ev → SR := sExpr (dCallN 4 r (dCons (dVar 0) (dCons (dVar 1) (dCons (dVar 4) (dCons (dVar 3) (dNil))))))
def b_check_right (r : List D → Rs D) : Ev → SR := sSeq (sIf (dTru (dIsi "str" (dVar 2))) (sSeq (sIf (dTest (dOp gNotIn (dVar 2) (dVar 3))) ((fun _ => .bot)) (sNil)) (sRetN)) (sNil)) (sSeq (sIf (dNot (dTru (dCallN 2 den_has_parts (dCons (dVar 0) (dCons (dVar 2) (dNil)))))) ((fun _ => .bot)) (sNil)) (sFor (dItA (dSl (dVar 2) (dPart (dC (.int 1))) (dNoP))) (tgN 4) [4] (lb_check_right_1 r)))
def den_check_right : Nat → List D → Rs D := fuel (fun r => runD 5 (b_check_right r))
def ct_book_under_1 : Ev → Rs Bool := dTest (dOp gNe (dVar 1) (dVar 2))
def cc_book_under_1 : Ev → Rs D := dTup (dCons (dVar 1) (dCons (dVar 2) (dNil)))
def it_book_under_1 : Ev → Rs (List D) := dItA (dOp gIx (dFld "Book" "above" (dVar 0)) (dVar 1))
def b_book_under : Ev → SR := sRet (dCall cTuple (dCons (dComp2 [1, 2] [2] (dItA (dFld "Book" "names" (dVar 0))) (tgN 1) (fun _ => .ok true) (it_book_under_1) (tgN 2) (ct_book_under_1) (cc_book_under_1)) (dNil)))
def den_book_under : List D → Rs D := runD 3 b_book_under
def b_book_entries : Ev → SR := sRet (dCall cTuple (dCons (dFld "Book" "rows" (dVar 0)) (dNil)))
def den_book_entries : List D → Rs D := runD 1 b_book_entries
def lb_language_init_1 (w : World) : Ev → SR := sSet 4 (dCallN 2 den_left_variables (dCons (dProp "Book" den_book_signature (dVar 1)) (dCons (dVar 3) (dNil))))
def lb_language_init_2 (w : World) : Ev → SR := sExpr (dCallN 4 (den_check_right 12) (dCons (dProp "Book" den_book_signature (dVar 1)) (dCons (dVar 3) (dCons (dOp gIx (dVar 3) (dC (.int 1))) (dCons (dVar 4) (dNil))))))
def cc_language_init_1 (w : World) : Ev → Rs D := dTup (dCons (dOp gIx (dVar 3) (dC (.int 0))) (dCons (dOp gIx (dVar 3) (dC (.int 1))) (dNil)))
def b_language_init (w : World) : Ev → SR := sSeq (sFldS 0 "Language" "held" (dCallK 2 2 (mkD (den_book_init w)) (dCons (dProp "Book" den_book_signature (dVar 1)) (dCons (dProp "Book" den_book_kinds (dVar 1)) (dNil))) (dCons (dProp "Book" den_book_under (dVar 1)) (dCons (dProp "Book" den_book_entries (dVar 1)) (dNil))))) (sFldLoop 0 "Language" "listed" (dItA (dVar 2)) (tgN 3) [3, 4] (lb_language_init_1 w) (lb_language_init_2 w) (cc_language_init_1 w))
def den_language_init (w : World) : Addr → List D → Rs D := initD 4 "Language" (b_language_init w)
def b_l_language (w : World) : Ev → SR := sRet (dCallN 2 (mkD (den_language_init w)) (dCons (dCallN 1 (den_l_book w) (dCons (dVar 0) (dNil))) (dCons (dCall cList (dCons (dOp gIx (dVar 0) (dC (.int 4))) (dNil))) (dNil))))
def den_l_language (w : World) : List D → Rs D := runD 1 (b_l_language w)
def ct_l_active_1 (r : List D → Rs D) : Ev → Rs Bool := dTest (dOp gEq (dOp gIx (dVar 2) (dC (.int 0))) (dOp gIx (dVar 1) (dC (.int 0))))
def cc_l_active_1 (r : List D → Rs D) : Ev → Rs D := dVar 2
def lb_l_active_1 (r : List D → Rs D) : Ev → SR := sSeq (sSet 4 (dCallN 2 r (dCons (dVar 0) (dCons (dOp gIx (dVar 1) (dOp gAdd (dC (.int 1)) (dVar 3))) (dNil))))) (sIf (dTest (dNotN (dVar 4))) (sRet (dOp gAdd (dTup (dCons (dVar 3) (dNil))) (dVar 4))) (sNil))
def b_l_active (r : List D → Rs D) : Ev → SR := sSeq (sSet 2 (dOp gIx (dComp [2] (dItA (dOp gIx (dVar 0) (dC (.int 0)))) (tgN 2) ((ct_l_active_1 r)) ((cc_l_active_1 r))) (dC (.int 0)))) (sSeq (sFor (dItA (dOp gIx (dVar 2) (dC (.int 3)))) (tgN 3) [3, 4] (lb_l_active_1 r)) (sSeq (sIf (dTru (dOp gIx (dVar 2) (dC (.int 2)))) (sRet (dC .non)) (sNil)) (sRet (dTup (dNil)))))
def den_l_active : Nat → List D → Rs D := fuel (fun r => runD 5 (b_l_active r))
def b_signature_order : Ev → SR := sRet (dOp gIx (dOp gIx (dFld "Signature" "listed" (dVar 0)) (dMeth "Signature" "number" 2 den_signature_number (dVar 0) (dCons (dVar 1) (dNil)))) (dC (.int 3)))
def den_signature_order : List D → Rs D := runD 2 b_signature_order
def lb_active_path_1 (r : List D → Rs D) : Ev → SR := sSeq (sSet 3 (dCallN 2 r (dCons (dVar 0) (dCons (dOp gIx (dVar 1) (dOp gAdd (dC (.int 1)) (dVar 2))) (dNil))))) (sIf (dTest (dNotN (dVar 3))) (sRet (dOp gAdd (dTup (dCons (dVar 2) (dNil))) (dVar 3))) (sNil))
def b_active_path (r : List D → Rs D) : Ev → SR := sSeq (sFor (dItA (dMeth "Signature" "order" 2 den_signature_order (dVar 0) (dCons (dOp gIx (dVar 1) (dC (.int 0))) (dNil)))) (tgN 2) [2, 3] (lb_active_path_1 r)) (sSeq (sIf (dTru (dMeth "Signature" "is_done" 2 den_signature_is_done (dVar 0) (dCons (dOp gIx (dVar 1) (dC (.int 0))) (dNil)))) (sRet (dC .non)) (sNil)) (sRet (dTup (dNil))))
def den_active_path : Nat → List D → Rs D := fuel (fun r => runD 4 (b_active_path r))
def b_language_active : Ev → SR := sSeq (sExpr (dMeth "Signature" "size" 2 (den_signature_size 120) (dProp "Book" den_book_signature (dFld "Language" "held" (dVar 0))) (dCons (dVar 1) (dNil)))) (sRet (dCallN 2 (den_active_path 120) (dCons (dProp "Book" den_book_signature (dFld "Language" "held" (dVar 0))) (dCons (dVar 1) (dNil)))))
def den_language_active : List D → Rs D := runD 2 b_language_active
def b_language_is_value : Ev → SR := sRet (dIsN (dMeth "Language" "active" 2 den_language_active (dVar 0) (dCons (dVar 1) (dNil))))
def den_language_is_value : List D → Rs D := runD 2 b_language_is_value
def b_l_integer : Ev → SR := sRet (dAndV (dIsi "int" (dVar 0)) (dNotV (dIsi "bool" (dVar 0))))
def den_l_integer : List D → Rs D := runD 1 b_l_integer
end
end KL

namespace KL
open PySem L2 KD
noncomputable section
end
end KL

namespace KL
open PySem L2 KD
noncomputable section
end
end KL

namespace KL
open PySem L2 KD
noncomputable section
def ct_l_picked_1 : Ev → Rs Bool := dTest (dOp gEq (dOp gMod (dCall cInt (dCons (dOp gDiv (dVar 1) (dOp gIx (dLst (dCons (dC (.int 1)) (dCons (dC (.int 2)) (dCons (dC (.int 4)) (dNil))))) (dVar 4))) (dNil))) (dC (.int 2))) (dC (.int 1)))
def cc_l_picked_1 : Ev → Rs D := dOp gIx (dVar 2) (dVar 4)
def cc_l_picked_2 : Ev → Rs D := dOp gIx (dVar 3) (dOp gSub (dOp gSub (dCall cLen (dCons (dVar 3) (dNil))) (dC (.int 1))) (dVar 4))
def b_l_picked : Ev → SR := sSeq (sSet 2 (dOp gIx (dVar 0) (dC (.int 1)))) (sSeq (sSet 3 (dComp [4] (dItR (dCall cLen (dCons (dVar 2) (dNil)))) (tgN 4) (ct_l_picked_1) (cc_l_picked_1))) (sSeq (sIf (dTest (dOp gEq (dOp gMod (dCall cInt (dCons (dOp gDiv (dVar 1) (dC (.int 8))) (dNil))) (dC (.int 2))) (dC (.int 1)))) (sSet 3 (dComp [4] (dItR (dCall cLen (dCons (dVar 3) (dNil)))) (tgN 4) (fun _ => .ok true) (cc_l_picked_2))) (sNil)) (sRet (dCall cTuple (dCons (dVar 3) (dNil))))))
def den_l_picked : List D → Rs D := runD 5 b_l_picked
def lb_l_all_up_1 : Ev → SR := sSet 2 (dOp gAdd (dVar 2) (dCallN 2 den_l_up (dCons (dVar 0) (dCons (dVar 3) (dNil)))))
def b_l_all_up : Ev → SR := sSeq (sSet 2 (dLst (dNil))) (sSeq (sFor (dItA (dVar 1)) (tgN 3) [3] lb_l_all_up_1) (sRet (dVar 2)))
def den_l_all_up : List D → Rs D := runD 4 b_l_all_up
end
end KL

namespace KL
open PySem L2 KD
noncomputable section
end
end KL

namespace KL
open PySem L2 KD
noncomputable section
def b_l_only (c : Str) (a : Addr) (od : Option Addr) : Ev → SR := sSeq (sSet 1 (dOp gAdd (dOp gAdd (dCall cInt (dCons (dIsX a od 0 (excSub c "BadSymbol")) (dNil))) (dCall cInt (dCons (dIsX a od 0 (excSub c "BadTerm")) (dNil)))) (dCall cInt (dCons (dIsX a od 0 (excSub c "BadKind")) (dNil))))) (sSeq (sSet 1 (dOp gAdd (dOp gAdd (dOp gAdd (dVar 1) (dCall cInt (dCons (dIsX a od 0 (excSub c "BadEntry")) (dNil)))) (dCall cInt (dCons (dIsX a od 0 (excSub c "BadRule")) (dNil)))) (dCall cInt (dCons (dIsX a od 0 (excSub c "BadChange")) (dNil))))) (sSeq (sSet 1 (dOp gAdd (dOp gAdd (dOp gAdd (dVar 1) (dCall cInt (dCons (dIsX a od 0 (excSub c "OtherBook")) (dNil)))) (dCall cInt (dCons (dIsX a od 0 (excSub c "NotOnTop")) (dNil)))) (dCall cInt (dCons (dIsX a od 0 (excSub c "LostKind")) (dNil))))) (sSeq (sSet 1 (dOp gAdd (dVar 1) (dCall cInt (dCons (dIsX a od 0 (excSub c "Stuck")) (dNil))))) (sRet (dAndV (dOp gEq (dVar 1) (dC (.int 1))) (dAndV (dIsX a od 0 (excSub c "KindsError")) (dIsX a od 0 true)))))))
def den_l_only (c : Str) : Rs D := runHx 2 (b_l_only c)
def cc_l_entry_for_1 : Ev → Rs D := dOp gIx (dVar 3) (dOp gMod (dCall cInt (dCons (dOp gDiv (dOp gIx (dVar 1) (dC (.int 1))) (dOp gIx (dLst (dCons (dC (.int 1)) (dCons (dC (.int 3)) (dCons (dC (.int 9)) (dNil))))) (dVar 5))) (dNil))) (dCall cLen (dCons (dVar 3) (dNil))))
def b_l_entry_for : Ev → SR := sSeq (sSet 2 (dOp gIx (dOp gIx (dVar 0) (dC (.int 0))) (dOp gMod (dCall cInt (dCons (dOp gIx (dVar 1) (dC (.int 0))) (dNil))) (dCall cLen (dCons (dOp gIx (dVar 0) (dC (.int 0))) (dNil)))))) (sSeq (sSet 3 (dOp gIx (dVar 0) (dC (.int 1)))) (sSeq (sSet 4 (dComp [5] (dItR (dOp gIx (dVar 2) (dC (.int 1)))) (tgN 5) (fun _ => .ok true) (cc_l_entry_for_1))) (sRet (dTup (dCons (dOp gIx (dVar 2) (dC (.int 0))) (dCons (dCall cTuple (dCons (dVar 4) (dNil))) (dCons (dOp gIx (dVar 3) (dOp gMod (dCall cInt (dCons (dOp gIx (dVar 1) (dC (.int 2))) (dNil))) (dCall cLen (dCons (dVar 3) (dNil))))) (dNil))))))))
def den_l_entry_for : List D → Rs D := runD 6 b_l_entry_for
def b_l_faulty : Ev → SR := sSeq (sSet 2 (dOp gMod (dCall cInt (dCons (dOp gIx (dVar 1) (dC (.int 3))) (dNil))) (dC (.int 5)))) (sSeq (sSet 3 (dOp gIx (dVar 0) (dC (.int 1)))) (sSeq (sSet 4 (dOp gMod (dCall cInt (dCons (dOp gIx (dVar 1) (dC (.int 4))) (dNil))) (dOp gAdd (dCall cLen (dCons (dVar 3) (dNil))) (dC (.int 1))))) (sSeq (sIf (dTest (dOp gEq (dVar 2) (dC (.int 0)))) (sRet (dTup (dCons (dOp gAdd (dOp gIx (dVar 0) (dC (.int 0))) (dC (.str "Z"))) (dCons (dVar 3) (dCons (dOp gIx (dVar 0) (dC (.int 2))) (dNil)))))) (sNil)) (sSeq (sIf (dAnd (dTest (dOp gEq (dVar 2) (dC (.int 1)))) (dTest (dOp gGt (dCall cLen (dCons (dVar 3) (dNil))) (dC (.int 0))))) (sRet (dTup (dCons (dOp gIx (dVar 0) (dC (.int 0))) (dCons (dSl (dVar 3) (dPart (dC (.int 1))) (dNoP)) (dCons (dOp gIx (dVar 0) (dC (.int 2))) (dNil)))))) (sNil)) (sSeq (sIf (dAnd (dTest (dOp gEq (dVar 2) (dC (.int 2)))) (dTest (dOp gLt (dVar 4) (dCall cLen (dCons (dVar 3) (dNil)))))) (sRet (dTup (dCons (dOp gIx (dVar 0) (dC (.int 0))) (dCons (dOp gAdd (dOp gAdd (dSl (dVar 3) (dNoP) (dPart (dVar 4))) (dTup (dCons (dC (.str "K")) (dNil)))) (dSl (dVar 3) (dPart (dOp gAdd (dVar 4) (dC (.int 1)))) (dNoP))) (dCons (dOp gIx (dVar 0) (dC (.int 2))) (dNil)))))) (sNil)) (sSeq (sIf (dTest (dOp gEq (dVar 2) (dC (.int 3)))) (sRet (dTup (dCons (dOp gIx (dVar 0) (dC (.int 0))) (dCons (dVar 3) (dCons (dC (.str "K")) (dNil)))))) (sNil)) (sRet (dTup (dCons (dOp gIx (dVar 0) (dC (.int 0))) (dCons (dOp gAdd (dOp gAdd (dSl (dVar 3) (dNoP) (dPart (dVar 4))) (dTup (dCons (dOp gIx (dVar 0) (dC (.int 2))) (dNil)))) (dSl (dVar 3) (dPart (dVar 4)) (dNoP))) (dCons (dOp gIx (dVar 0) (dC (.int 2))) (dNil))))))))))))
def den_l_faulty : List D → Rs D := runD 5 b_l_faulty
def lb_book_init_x_1 (w : World) : Ev → SR := sSeq (sIf (dtTmp 0 (dOr (dNot (dTru (dMeth "Book" "has_place" 3 den_book_has_place (dVar 0) (dCons (dVar 6) (dCons (dVar 7) (dNil)))))) (dTest (dOp gNotIn (dVar 8) (dFld "Book" "above" (dVar 0)))))) (sRaise "BadEntry" ["entry"] (dCons (dTup (dCons (dVar 6) (dCons (dVar 7) (dCons (dVar 8) (dNil))))) (dNil))) (sNil)) (sApp 5 (dTup (dCons (dVar 6) (dCons (dCall cTuple (dCons (dVar 7) (dNil))) (dCons (dVar 8) (dNil))))))
def b_book_init_x (w : World) : Ev → SR := sSeq (sExpr (dCallN 1 den_check_kinds (dCons (dVar 2) (dNil)))) (sSeq (sFldS 0 "Book" "base" (dVar 1)) (sSeq (sFldS 0 "Book" "names" (dCall cList (dCons (dVar 2) (dNil)))) (sSeq (sFldS 0 "Book" "above" (dCallN 2 den_kinds_above (dCons (dFldO 0 "Book" "names") (dCons (dVar 3) (dNil))))) (sSeq (sFldS 0 "Book" "rows" (dLst (dNil))) (sSeq (sNew 5) (sSeq (sFor (dItA (dVar 4)) (tgT [6, 7, 8]) [6, 7, 8] (lb_book_init_x_1 w)) ((fun ρ => (sFldS 0 "Book" "rows" (dCallN 3 (den_in_canonical_order w) (dCons (dVar 1) (dCons (dFldO 0 "Book" "names") (dCons (dVar 5) (dNil)))))) (frz 5 ρ)))))))))
def den_book_init_x (w : World) : Addr → List D → Rs D := initD 8 "Book" (b_book_init_x w)
def ct_l_made_1 (w : World) : Ev → Rs Bool := dTest (dOp gNotIn (dVar 5) (dProp "Book" den_book_entries (dVar 3)))
def cc_l_made_1 (w : World) : Ev → Rs D := dVar 5
def b_l_made (w : World) : Ev → SR := sSeq (sTry "BadEntry" 4 (bSet 3 (rCallK 2 2 (mkD (den_book_init_x w)) (dCons (dMakeS den_check_symbol (dCall cList (dCons (dOp gIx (dVar 0) (dC (.int 0))) (dNil)))) (dCons (dCall cList (dCons (dOp gIx (dVar 0) (dC (.int 1))) (dNil))) (dNil))) (dCons (dCall cList (dCons (dOp gIx (dVar 0) (dC (.int 2))) (dNil))) (dCons (dVar 1) (dNil))))) (fun a od => sSeq (sIf (dNot (dTru (dHot a od 4 (den_l_only "BadEntry")))) (sRet (dC (.bl false))) (sNil)) (sRet (dAndV (dNotN (dVar 2)) (dAndV (dIsi "tuple" (dXf a od 4 "entry")) (dOp gEq (dXf a od 4 "entry") (dVar 2))))))) (sRet (dAndV (dIsN (dVar 2)) (dOp gEq (dCall cLen (dCons (dComp [5] (dItA (dVar 1)) (tgN 5) ((ct_l_made_1 w)) ((cc_l_made_1 w))) (dNil))) (dC (.int 0)))))
def den_l_made (w : World) : List D → Rs D := runD 6 (b_l_made w)
def b_law_k09 (w : World) : Ev → SR := sSeq (sSet 1 (dCallN 3 den_l_random (dCons (dVar 0) (dCons (dC (.int 0)) (dCons (dC (.int 3)) (dNil)))))) (sSeq (sSet 2 (dCallN 3 den_l_numbers (dCons (dVar 0) (dCons (dC (.int 4)) (dCons (dC (.int 7)) (dNil)))))) (sSeq (sSet 3 (dCallN 2 den_l_entry_for (dCons (dVar 1) (dCons (dVar 2) (dNil))))) (sSeq (sSet 4 (dCallN 2 den_l_faulty (dCons (dVar 3) (dCons (dVar 2) (dNil))))) (sSeq (sSet 5 (dOp gIx (dVar 1) (dC (.int 3)))) (sSeq (sSet 6 (dOp gMod (dCall cInt (dCons (dOp gIx (dVar 2) (dC (.int 5))) (dNil))) (dOp gAdd (dCall cLen (dCons (dVar 5) (dNil))) (dC (.int 1))))) (sSeq (sSet 7 (dOp gAdd (dOp gAdd (dSl (dVar 5) (dNoP) (dPart (dVar 6))) (dLst (dCons (dVar 3) (dNil)))) (dSl (dVar 5) (dPart (dVar 6)) (dNoP)))) (sSeq (sOwn 8 (dFrA (dOp gAdd (dSl (dVar 5) (dNoP) (dPart (dVar 6))) (dLst (dCons (dVar 4) (dNil)))) (dSl (dVar 5) (dPart (dVar 6)) (dNoP)))) (sSeq (sIf (dTest (dOp gEq (dOp gMod (dCall cInt (dCons (dOp gIx (dVar 2) (dC (.int 6))) (dNil))) (dC (.int 2))) (dC (.int 0)))) (sApp 8 (dTup (dCons (dC (.str "Y")) (dCons (dTup (dNil)) (dCons (dC (.str "W")) (dNil)))))) (sNil)) (sSeq (sIf (dtTmp 8 (dOr (dNot (dTru (dCallN 3 (den_l_made w) (dCons (dVar 1) (dCons (dCall cList (dCons (dVar 7) (dNil))) (dCons (dC .non) (dNil))))))) (dNot (dTru (dCallN 3 (den_l_made w) (dCons (dVar 1) (dCons (dVar 8) (dCons (dVar 4) (dNil))))))))) (sRet (dC (.bl false))) (sNil)) (sRet (dCallN 3 (den_l_made w) (dCons (dVar 1) (dCons (dCall cList (dCons (dVar 7) (dNil))) (dCons (dC .non) (dNil)))))))))))))))
def den_law_k09 (w : World) : List D → Rs D := runD 9 (b_law_k09 w)
end
end KL

namespace KL
open PySem L2 KD
def topS (i : Nat) : Stmt := PySem.Challenge.pw_keptkinds_k09_invalid_entries.main.body.getD i (.Pass ⟨0, 0, 0, 0⟩)
abbrev s_x_badentry : Stmt := inClass (topS 6) 0
def d_badentry_init : DefP := ⟨(mAd "BadEntry" "__init__"), "__init__", "BadEntry.__init__", defArgs s_x_badentry, defBody s_x_badentry, defScope s_x_badentry, [], [], true⟩
abbrev s_l_only : Stmt := topS 40
def d_l_only : DefP := ⟨(gAd "_law_only"), "_law_only", "_law_only", defArgs s_l_only, defBody s_l_only, defScope s_l_only, [], [], false⟩
abbrev s_l_cell : Stmt := topS 29
def d_l_cell : DefP := ⟨(gAd "_law_cell"), "_law_cell", "_law_cell", defArgs s_l_cell, defBody s_l_cell, defScope s_l_cell, [], [], false⟩
abbrev s_l_numbers : Stmt := topS 30
def d_l_numbers : DefP := ⟨(gAd "_law_numbers"), "_law_numbers", "_law_numbers", defArgs s_l_numbers, defBody s_l_numbers, defScope s_l_numbers, [], [], false⟩
abbrev s_l_names : Stmt := topS 31
def d_l_names : DefP := ⟨(gAd "_law_names"), "_law_names", "_law_names", defArgs s_l_names, defBody s_l_names, defScope s_l_names, [], [], false⟩
abbrev s_l_turn : Stmt := topS 32
def d_l_turn : DefP := ⟨(gAd "_law_turn"), "_law_turn", "_law_turn", defArgs s_l_turn, defBody s_l_turn, defScope s_l_turn, [], [], false⟩
abbrev s_l_symbols : Stmt := topS 33
def d_l_symbols : DefP := ⟨(gAd "_law_symbols"), "_law_symbols", "_law_symbols", defArgs s_l_symbols, defBody s_l_symbols, defScope s_l_symbols, [], [], false⟩
abbrev s_l_entries : Stmt := topS 35
def d_l_entries : DefP := ⟨(gAd "_law_entries"), "_law_entries", "_law_entries", defArgs s_l_entries, defBody s_l_entries, defScope s_l_entries, [], [], false⟩
abbrev s_l_lows : Stmt := topS 34
def d_l_lows : DefP := ⟨(gAd "_law_lows"), "_law_lows", "_law_lows", defArgs s_l_lows, defBody s_l_lows, defScope s_l_lows, [], [], false⟩
abbrev s_l_count : Stmt := topS 36
def d_l_count : DefP := ⟨(gAd "_law_count"), "_law_count", "_law_count", defArgs s_l_count, defBody s_l_count, defScope s_l_count, [], [], false⟩
abbrev s_l_rule : Stmt := topS 37
def d_l_rule : DefP := ⟨(gAd "_law_rule"), "_law_rule", "_law_rule", defArgs s_l_rule, defBody s_l_rule, defScope s_l_rule, [], [], false⟩
abbrev s_l_rules : Stmt := topS 38
def d_l_rules : DefP := ⟨(gAd "_law_rules"), "_law_rules", "_law_rules", defArgs s_l_rules, defBody s_l_rules, defScope s_l_rules, [], [], false⟩
abbrev s_l_random : Stmt := topS 39
def d_l_random : DefP := ⟨(gAd "_law_random"), "_law_random", "_law_random", defArgs s_l_random, defBody s_l_random, defScope s_l_random, [], [], false⟩
abbrev s_l_entry_for : Stmt := topS 41
def d_l_entry_for : DefP := ⟨(gAd "_law_entry_for"), "_law_entry_for", "_law_entry_for", defArgs s_l_entry_for, defBody s_l_entry_for, defScope s_l_entry_for, [], [], false⟩
abbrev s_l_faulty : Stmt := topS 42
def d_l_faulty : DefP := ⟨(gAd "_law_faulty"), "_law_faulty", "_law_faulty", defArgs s_l_faulty, defBody s_l_faulty, defScope s_l_faulty, [], [], false⟩
abbrev s_is_name : Stmt := topS 15
def d_is_name : DefP := ⟨(gAd "is_name"), "is_name", "is_name", defArgs s_is_name, defBody s_is_name, defScope s_is_name, [], [], false⟩
abbrev s_check_kinds : Stmt := topS 20
def d_check_kinds : DefP := ⟨(gAd "check_kinds"), "check_kinds", "check_kinds", defArgs s_check_kinds, defBody s_check_kinds, defScope s_check_kinds, [], [], false⟩
abbrev s_kinds_above : Stmt := topS 21
def d_kinds_above : DefP := ⟨(gAd "kinds_above"), "kinds_above", "kinds_above", defArgs s_kinds_above, defBody s_kinds_above, defScope s_kinds_above, [], [], false⟩
abbrev s_signature_symbols : Stmt := inClass (topS 17) 1
def d_signature_symbols : DefP := ⟨(pAd "Signature" "symbols"), "symbols", "Signature.symbols", defArgs s_signature_symbols, defBody s_signature_symbols, defScope s_signature_symbols, [], [], false⟩
abbrev s_signature_number : Stmt := inClass (topS 17) 2
def d_signature_number : DefP := ⟨(mAd "Signature" "number"), "number", "Signature.number", defArgs s_signature_number, defBody s_signature_number, defScope s_signature_number, [], [], false⟩
abbrev s_signature_places : Stmt := inClass (topS 17) 3
def d_signature_places : DefP := ⟨(mAd "Signature" "places"), "places", "Signature.places", defArgs s_signature_places, defBody s_signature_places, defScope s_signature_places, [], [], false⟩
abbrev s_choices : Stmt := topS 19
def d_choices : DefP := ⟨(gAd "choices"), "choices", "choices", defArgs s_choices, defBody s_choices, defScope s_choices, [], [], false⟩
abbrev s_possible_entries : Stmt := topS 22
def d_possible_entries : DefP := ⟨(gAd "possible_entries"), "possible_entries", "possible_entries", defArgs s_possible_entries, defBody s_possible_entries, defScope s_possible_entries, [], [], false⟩
abbrev s_in_canonical_order : Stmt := topS 23
def d_in_canonical_order : DefP := ⟨(gAd "in_canonical_order"), "in_canonical_order", "in_canonical_order", defArgs s_in_canonical_order, defBody s_in_canonical_order, defScope s_in_canonical_order, [], [], false⟩
abbrev s_book_has_place : Stmt := inClass (topS 24) 5
def d_book_has_place : DefP := ⟨(mAd "Book" "has_place"), "has_place", "Book.has_place", defArgs s_book_has_place, defBody s_book_has_place, defScope s_book_has_place, [], [], false⟩
abbrev s_book_init : Stmt := inClass (topS 24) 0
def d_book_init : DefP := ⟨(mAd "Book" "__init__"), "__init__", "Book.__init__", defArgs s_book_init, defBody s_book_init, defScope s_book_init, [], [], false⟩
abbrev s_check_symbol : Stmt := topS 16
def d_check_symbol : DefP := ⟨(gAd "check_symbol"), "check_symbol", "check_symbol", defArgs s_check_symbol, defBody s_check_symbol, defScope s_check_symbol, [], [], false⟩
abbrev s_signature_init : Stmt := inClass (topS 17) 0
def d_signature_init : DefP := ⟨mAd "Signature" "__init__", "__init__", "Signature.__init__", defArgs s_signature_init, defBody s_signature_init, defScope s_signature_init, [], [], false⟩
abbrev s_book_entries : Stmt := inClass (topS 24) 4
def d_book_entries : DefP := ⟨(pAd "Book" "entries"), "entries", "Book.entries", defArgs s_book_entries, defBody s_book_entries, defScope s_book_entries, [], [], false⟩
abbrev s_book_init_x : Stmt := s_book_init
abbrev d_book_init_x : DefP := d_book_init
abbrev s_l_made : Stmt := topS 43
def d_l_made : DefP := ⟨(gAd "_law_made"), "_law_made", "_law_made", defArgs s_l_made, defBody s_l_made, defScope s_l_made, [], [], false⟩
abbrev s_law : Stmt := topS 44
def d_law : DefP := ⟨(gAd "law"), "law", "law", defArgs s_law, defBody s_law, defScope s_law, [], [], false⟩
def fa : List Fb := [.fa (.glo "law"), .fa (.free "len"), .fa (.glo "_law_cell"), .fa (.free "int"), .fa (.free "range"), .fa (.glo "_law_names"), .fa (.glo "_law_turn"), .fa (.free "tuple"), .fa (.free "isinstance"), .fa (.free "str"), .fa (.glo "_law_count"), .fa (.free "sum"), .fa (.glo "_law_numbers"), .fa (.glo "_law_rule"), .fa (.glo "_law_symbols"), .fa (.glo "_law_entries"), .fa (.glo "_law_rules"), .fa (.glo "_law_lows"), .fa (.str "LETTERS" "abcdefghijklmnopqrstuvwxyz"), .fa (.glo "is_name"), .fa (.cls "Signature"), .fa (.noat "Signature" "listed"), .fa (.noat "Signature" "numbers"), .fa (.meth "Signature" "number"), .fa (.meth "Signature" "places"), .fa (.glo "choices"), .prop "Signature" "symbols", .fa (.glo "possible_entries"), .fa (.cls "Book"), .fa (.noat "Book" "base"), .fa (.noat "Book" "above"), .fa (.free "all"), .fa (.glo "check_kinds"), .fa (.noat "Book" "names"), .fa (.free "list"), .fa (.glo "kinds_above"), .fa (.noat "Book" "rows"), .fa (.meth "Book" "has_place"), .fa (.glo "in_canonical_order"), .fa (.glo "check_symbol"), .fa (.mkr "Book"), .fa (.glo "Book"), .fa (.mkr "Signature"), .fa (.glo "Signature"), .fa (.glo "_law_only"), .oex "BadEntry", .nof "BadEntry" "entry", .fa (.glo "BadEntry"), .fa (.exm "BadEntry" "BadEntry" true), .prop "Book" "entries", .fa (.glo "_law_random"), .fa (.glo "_law_entry_for"), .fa (.glo "_law_faulty"), .fa (.glo "_law_made"), .fa (.glo "BadSymbol"), .sub "BadEntry" "BadSymbol" (excSub "BadEntry" "BadSymbol"), .fa (.glo "BadTerm"), .sub "BadEntry" "BadTerm" (excSub "BadEntry" "BadTerm"), .fa (.glo "BadKind"), .sub "BadEntry" "BadKind" (excSub "BadEntry" "BadKind"), .sub "BadEntry" "BadEntry" (excSub "BadEntry" "BadEntry"), .fa (.glo "BadRule"), .sub "BadEntry" "BadRule" (excSub "BadEntry" "BadRule"), .fa (.glo "BadChange"), .sub "BadEntry" "BadChange" (excSub "BadEntry" "BadChange"), .fa (.glo "OtherBook"), .sub "BadEntry" "OtherBook" (excSub "BadEntry" "OtherBook"), .fa (.glo "NotOnTop"), .sub "BadEntry" "NotOnTop" (excSub "BadEntry" "NotOnTop"), .fa (.glo "LostKind"), .sub "BadEntry" "LostKind" (excSub "BadEntry" "LostKind"), .fa (.glo "Stuck"), .sub "BadEntry" "Stuck" (excSub "BadEntry" "Stuck"), .fa (.glo "KindsError"), .sub "BadEntry" "KindsError" (excSub "BadEntry" "KindsError"), .fa (.free "ValueError"), .subT "BadEntry" "ValueError" true, .sup "BadEntry" "/claim/cut.py", .fa (.free "super")]
def fn : List DefP := [d_signature_init, d_l_cell, d_l_numbers, d_l_names, d_l_turn, d_l_symbols, d_l_entries, d_l_lows, d_l_count, d_l_rule, d_l_rules, d_l_random, d_l_entry_for, d_l_faulty, d_is_name, d_check_kinds, d_kinds_above, d_signature_symbols, d_signature_number, d_signature_places, d_choices, d_possible_entries, d_in_canonical_order, d_book_has_place, d_book_init, d_check_symbol, d_book_entries, d_l_made, d_law, d_l_only, d_badentry_init]
abbrev N_x_badentry : List Str := ["self", "entry"]
theorem wk_x_badentry {P : Program} {w : World} {K : PySem.W.Frag} {mg : Str → Option Value} {base : Heap} (T : Tx fa fn K mg) (HP : ProgOk P "/claim/cut.py") : MkX P w K mg base "BadEntry" ["entry"] := by
  exact mkX1 (d := d_badentry_init) (x1 := "self") (x2 := "entry") T HP 45 77 47 78 30 46 rfl rfl rfl rfl rfl rfl rfl rfl rfl rfl rfl rfl rfl (by decide) (by decide +kernel) rfl rfl (free_by (by decide +kernel)) (by decide +kernel) rfl rfl (fun _ _ _ _ _ _ _ us hl => match us, hl with | [_, _], _ => rfl) (fun _ _ _ _ => ⟨_, rfl⟩) (fun _ _ _ _ => rfl) rfl rfl rfl rfl
abbrev N_l_only_badentry : List Str := ["_law_e", "_law_count_here"]
theorem sc_l_only_badentry : FnScope N_l_only_badentry ["_law_e"] (defScope s_l_only) := ⟨rfl, rfl, rfl, by decide +kernel, rfl, by decide +kernel, by decide +kernel⟩
theorem wk_l_only_badentry {P : Program} {w : World} {K : PySem.W.Frag} {mg : Str → Option Value} {base : Heap} (T : Tx fa fn K mg) : FnX P w K mg base 1 (gAd "_law_only") "BadEntry" (den_l_only "BadEntry") := by
  obtain ⟨fd, F⟩ := T.c.def_ 29 (d := d_l_only) (by rfl)
  refine fnX_of (d := d_l_only) (k := 0) (N := N_l_only_badentry) (b := b_l_only "BadEntry") F sc_l_only_badentry (by decide) (fun _ _ _ _ _ _ _ us hl => match us, hl with | [_], _ => rfl) (fun cdv A outer s H E p od hr hz hf => ?_)
  have nd := sc_l_only_badentry.nd
  have hu := uH hr
  exact (ds_cons (ds_set (ps_set (i := 1) nd rfl (by first | exact Or.inl rfl | exact Or.inr rfl) (de_op dd_add (de_op dd_add (de_callTy cd_int (by rfl) (T.free 3) PyProof.Rows.boot_int (da_cons (de_isX (p := p) (c := "BadEntry") (i := 0) (b := excSub "BadEntry" "BadSymbol") (by exact List.mem_singleton.mpr rfl) (T.oex 45).I hz hf rfl (T.free 8) (pv 0) (pe_glob (v := .ref (He.ga K "BadSymbol")) rfl (T.glo 54) rfl) (fun _ h => h) (T.subX 55)) da_nil)) (de_callTy cd_int (by rfl) (T.free 3) PyProof.Rows.boot_int (da_cons (de_isX (p := p) (c := "BadEntry") (i := 0) (b := excSub "BadEntry" "BadTerm") (by exact List.mem_singleton.mpr rfl) (T.oex 45).I hz hf rfl (T.free 8) (pv 0) (pe_glob (v := .ref (He.ga K "BadTerm")) rfl (T.glo 56) rfl) (fun _ h => h) (T.subX 57)) da_nil))) (de_callTy cd_int (by rfl) (T.free 3) PyProof.Rows.boot_int (da_cons (de_isX (p := p) (c := "BadEntry") (i := 0) (b := excSub "BadEntry" "BadKind") (by exact List.mem_singleton.mpr rfl) (T.oex 45).I hz hf rfl (T.free 8) (pv 0) (pe_glob (v := .ref (He.ga K "BadKind")) rfl (T.glo 58) rfl) (fun _ h => h) (T.subX 59)) da_nil))))) (ds_cons (ds_set (ps_set (i := 1) nd rfl (by first | exact Or.inl rfl | exact Or.inr rfl) (de_op dd_add (de_op dd_add (de_op dd_add (de_var (pv 1)) (de_callTy cd_int (by rfl) (T.free 3) PyProof.Rows.boot_int (da_cons (de_isX (p := p) (c := "BadEntry") (i := 0) (b := excSub "BadEntry" "BadEntry") (by exact List.mem_singleton.mpr rfl) (T.oex 45).I hz hf rfl (T.free 8) (pv 0) (pe_glob (v := .ref (He.ga K "BadEntry")) rfl (T.glo 47) rfl) (fun _ h => h) (T.subX 60)) da_nil))) (de_callTy cd_int (by rfl) (T.free 3) PyProof.Rows.boot_int (da_cons (de_isX (p := p) (c := "BadEntry") (i := 0) (b := excSub "BadEntry" "BadRule") (by exact List.mem_singleton.mpr rfl) (T.oex 45).I hz hf rfl (T.free 8) (pv 0) (pe_glob (v := .ref (He.ga K "BadRule")) rfl (T.glo 61) rfl) (fun _ h => h) (T.subX 62)) da_nil))) (de_callTy cd_int (by rfl) (T.free 3) PyProof.Rows.boot_int (da_cons (de_isX (p := p) (c := "BadEntry") (i := 0) (b := excSub "BadEntry" "BadChange") (by exact List.mem_singleton.mpr rfl) (T.oex 45).I hz hf rfl (T.free 8) (pv 0) (pe_glob (v := .ref (He.ga K "BadChange")) rfl (T.glo 63) rfl) (fun _ h => h) (T.subX 64)) da_nil))))) (ds_cons (ds_set (ps_set (i := 1) nd rfl (by first | exact Or.inl rfl | exact Or.inr rfl) (de_op dd_add (de_op dd_add (de_op dd_add (de_var (pv 1)) (de_callTy cd_int (by rfl) (T.free 3) PyProof.Rows.boot_int (da_cons (de_isX (p := p) (c := "BadEntry") (i := 0) (b := excSub "BadEntry" "OtherBook") (by exact List.mem_singleton.mpr rfl) (T.oex 45).I hz hf rfl (T.free 8) (pv 0) (pe_glob (v := .ref (He.ga K "OtherBook")) rfl (T.glo 65) rfl) (fun _ h => h) (T.subX 66)) da_nil))) (de_callTy cd_int (by rfl) (T.free 3) PyProof.Rows.boot_int (da_cons (de_isX (p := p) (c := "BadEntry") (i := 0) (b := excSub "BadEntry" "NotOnTop") (by exact List.mem_singleton.mpr rfl) (T.oex 45).I hz hf rfl (T.free 8) (pv 0) (pe_glob (v := .ref (He.ga K "NotOnTop")) rfl (T.glo 67) rfl) (fun _ h => h) (T.subX 68)) da_nil))) (de_callTy cd_int (by rfl) (T.free 3) PyProof.Rows.boot_int (da_cons (de_isX (p := p) (c := "BadEntry") (i := 0) (b := excSub "BadEntry" "LostKind") (by exact List.mem_singleton.mpr rfl) (T.oex 45).I hz hf rfl (T.free 8) (pv 0) (pe_glob (v := .ref (He.ga K "LostKind")) rfl (T.glo 69) rfl) (fun _ h => h) (T.subX 70)) da_nil))))) (ds_cons (ds_set (ps_set (i := 1) nd rfl (by first | exact Or.inl rfl | exact Or.inr rfl) (de_op dd_add (de_var (pv 1)) (de_callTy cd_int (by rfl) (T.free 3) PyProof.Rows.boot_int (da_cons (de_isX (p := p) (c := "BadEntry") (i := 0) (b := excSub "BadEntry" "Stuck") (by exact List.mem_singleton.mpr rfl) (T.oex 45).I hz hf rfl (T.free 8) (pv 0) (pe_glob (v := .ref (He.ga K "Stuck")) rfl (T.glo 71) rfl) (fun _ h => h) (T.subX 72)) da_nil))))) (ds_one (ds_ret (de_and (de_cmp (dd_eq hu) (de_var (pv 1)) de_int (nomark _)) (de_and (de_isX (p := p) (c := "BadEntry") (i := 0) (b := excSub "BadEntry" "KindsError") (by exact List.mem_singleton.mpr rfl) (T.oex 45).I hz hf rfl (T.free 8) (pv 0) (pe_glob (v := .ref (He.ga K "KindsError")) rfl (T.glo 73) rfl) (fun _ h => h) (T.subX 74)) (de_one (de_isX (p := p) (c := "BadEntry") (i := 0) (b := true) (by exact List.mem_singleton.mpr rfl) (T.oex 45).I hz hf rfl (T.free 8) (pv 0) (pe_bltn (v := .ty "ValueError") rfl (T.free 75) PyProof.Rows.Boot.«ValueError» rfl) (fun _ h => h) (T.subT 76)))))))))))
abbrev N_l_cell : List Str := ["_law_script", "_law_k"]
theorem sc_l_cell : FnScope N_l_cell ["_law_script", "_law_k"] (defScope s_l_cell) := ⟨rfl, rfl, rfl, by decide +kernel, rfl, by decide +kernel, by decide +kernel⟩
theorem wk_l_cell {P : Program} {w : World} {K : PySem.W.Frag} {mg : Str → Option Value} {base : Heap} (T : Tx fa fn K mg) : FnD P w K mg base 1 (gAd "_law_cell") 2 den_l_cell := by
  obtain ⟨fd, F⟩ := T.c.def_ 1 (d := d_l_cell) (by rfl)
  show FnD P w K mg base (0 + 1) (gAd "_law_cell") 2 (runD 2 (b_l_cell))
  refine fnD_of (d := d_l_cell) (k := 0) (b := b_l_cell) F sc_l_cell (fun _ _ _ _ _ _ _ us hl => match us, hl with | [_, _], _ => rfl) (fun cdv A outer s H E hr => ?_)
  have nd := sc_l_cell.nd
  have hu := u200 hr
  have hu1 := u1 hr
  have hx : Passes (L2N.CX P w) (cxOf (L2N.CX P w) P w K mg base N_l_cell "_law_cell" (defScope s_l_cell) ((gAd "_law_cell") K) cdv A outer s H E) E := L2N.passes_call (L2N.takes_of rfl rfl rfl rfl) (fun _ _ _ _ h => h)
  have ho : PassesOwn (model P w) (cxOf (L2N.CX P w) P w K mg base N_l_cell "_law_cell" (defScope s_l_cell) ((gAd "_law_cell") K) cdv A outer s H E).A (cxOf (L2N.CX P w) P w K mg base N_l_cell "_law_cell" (defScope s_l_cell) ((gAd "_law_cell") K) cdv A outer s H E).env (cxOf (L2N.CX P w) P w K mg base N_l_cell "_law_cell" (defScope s_l_cell) ((gAd "_law_cell") K) cdv A outer s H E).xe := passes_of rfl
  exact (ds_cons (ds_if (dt_cmp dd_lt0 (de_var (pv 1)) (de_callB cd_len (by rfl) (T.free 1) PySem.boot_len (da_cons (de_var (pv 0)) da_nil)) (nomark _)) (ds_one (ds_ret (de_ix (ixd hu1) (de_var (pv 0)) (de_var (pv 1)) (fun _ _ => rfl)))) ds_nil) (ds_one (ds_ret de_int)))
abbrev N_l_numbers : List Str := ["_law_script", "_law_k", "_law_count_here", "_law_cell_here", "_law_state", "_law_rest", "_law_numbers_here", "_law_at"]
theorem sc_l_numbers : FnScope N_l_numbers ["_law_script", "_law_k", "_law_count_here"] (defScope s_l_numbers) := ⟨rfl, rfl, rfl, by decide +kernel, rfl, by decide +kernel, by decide +kernel⟩
theorem wk_l_numbers {P : Program} {w : World} {K : PySem.W.Frag} {mg : Str → Option Value} {base : Heap} (T : Tx fa fn K mg) (F_l_cell : FnD P w K mg base 1 (gAd "_law_cell") 2 den_l_cell) : FnD P w K mg base 2 (gAd "_law_numbers") 3 den_l_numbers := by
  obtain ⟨fd, F⟩ := T.c.def_ 2 (d := d_l_numbers) (by rfl)
  show FnD P w K mg base (1 + 1) (gAd "_law_numbers") 3 (runD 8 (b_l_numbers))
  refine fnD_of (d := d_l_numbers) (k := 1) (b := b_l_numbers) F sc_l_numbers (fun _ _ _ _ _ _ _ us hl => match us, hl with | [_, _, _], _ => rfl) (fun cdv A outer s H E hr => ?_)
  have nd := sc_l_numbers.nd
  have hu := u200 hr
  have hu1 := u1 hr
  have hx : Passes (L2N.CX P w) (cxOf (L2N.CX P w) P w K mg base N_l_numbers "_law_numbers" (defScope s_l_numbers) ((gAd "_law_numbers") K) cdv A outer s H E) E := L2N.passes_call (L2N.takes_of rfl rfl rfl rfl) (fun _ _ _ _ h => h)
  have ho : PassesOwn (model P w) (cxOf (L2N.CX P w) P w K mg base N_l_numbers "_law_numbers" (defScope s_l_numbers) ((gAd "_law_numbers") K) cdv A outer s H E).A (cxOf (L2N.CX P w) P w K mg base N_l_numbers "_law_numbers" (defScope s_l_numbers) ((gAd "_law_numbers") K) cdv A outer s H E).env (cxOf (L2N.CX P w) P w K mg base N_l_numbers "_law_numbers" (defScope s_l_numbers) ((gAd "_law_numbers") K) cdv A outer s H E).xe := passes_of rfl
  exact (ds_cons (ds_set (ps_set (i := 3) nd rfl (by first | exact Or.inl rfl | exact Or.inr rfl) (de_callF F_l_cell (hr.mono (by decide)) (T.glo 2) hx (da_cons (de_var (pv 0)) (da_cons (de_var (pv 1)) da_nil))))) (ds_cons (ds_set (ps_set (i := 4) nd rfl (by first | exact Or.inl rfl | exact Or.inr rfl) (de_op dd_mod (de_callTy cd_int (by rfl) (T.free 3) PyProof.Rows.boot_int (da_cons (de_op dd_add (de_op dd_add (de_op dd_mul (de_var (pv 3)) de_int) (de_op dd_mul (de_var (pv 1)) de_int)) de_int) da_nil)) de_int))) (ds_cons (ds_set (ps_set (i := 5) nd rfl (by first | exact Or.inl rfl | exact Or.inr rfl) de_int)) (ds_cons (ds_if (dt_cmp dd_ge (de_var (pv 3)) (de_op dd_pow de_int de_int) (nomark _)) (ds_one (ds_set (ps_set (i := 5) nd rfl (by first | exact Or.inl rfl | exact Or.inr rfl) (de_var (pv 3))))) ds_nil) (ds_cons (ds_new (ps_set (i := 6) nd rfl (by first | exact Or.inl rfl | exact Or.inr rfl) (pe_lst pa_nil))) (ds_cons (ds_for [7] (tg_name (i := 7) (vs := [7]) (by decide)) (ps_for ho rfl (di_rng (by rfl) (T.free 4) (de_var (pv 2))) (pg_name (i := 7) nd rfl (by first | exact Or.inl rfl | exact Or.inr rfl)) (ds_cons (ds_set (ps_set (i := 4) nd rfl (by first | exact Or.inl rfl | exact Or.inr rfl) (de_op dd_mod (de_callTy cd_int (by rfl) (T.free 3) PyProof.Rows.boot_int (da_cons (de_op dd_add (de_op dd_mul (de_var (pv 4)) de_int) de_int) da_nil)) de_int))) (ds_one (ds_if (dt_cmp dd_gt (de_var (pv 5)) de_int (nomark _)) (ds_cons (ds_app (ps_expr (pe_bm PySem.F.plainAttrs_list PySem.F.slot_list_append PySem.F.type_list_append mt_append (pv 6) (pa_cons (de_op dd_mod (de_callTy cd_int (by rfl) (T.free 3) PyProof.Rows.boot_int (da_cons (de_var (pv 5)) da_nil)) de_int) pa_nil)))) (ds_one (ds_set (ps_set (i := 5) nd rfl (by first | exact Or.inl rfl | exact Or.inr rfl) (de_op dd_div (de_var (pv 5)) de_int))))) (ds_one (ds_app (ps_expr (pe_bm PySem.F.plainAttrs_list PySem.F.slot_list_append PySem.F.type_list_append mt_append (pv 6) (pa_cons (de_op dd_mod (de_callTy cd_int (by rfl) (T.free 3) PyProof.Rows.boot_int (da_cons (de_op dd_div (de_op dd_mod (de_callTy cd_int (by rfl) (T.free 3) PyProof.Rows.boot_int (da_cons (de_op dd_mul (de_op dd_div (de_var (pv 4)) de_int) de_int) da_nil)) de_int) de_int) da_nil)) de_int) pa_nil)))))))))) (ds_frz 6 (ds_one (ds_ret (de_var (pv 6)))))))))))
abbrev N_l_names : List Str := ["_law_number", "_law_count_here", "_law_letters", "_law_place", "_law_some", "_law_alike", "_law_longer", "_law_shorter", "_law_k", "_law_letter"]
theorem sc_l_names : FnScope N_l_names ["_law_number", "_law_count_here"] (defScope s_l_names) := ⟨rfl, rfl, rfl, by decide +kernel, rfl, by decide +kernel, by decide +kernel⟩
theorem wk_l_names {P : Program} {w : World} {K : PySem.W.Frag} {mg : Str → Option Value} {base : Heap} (T : Tx fa fn K mg) : FnD P w K mg base 1 (gAd "_law_names") 2 den_l_names := by
  obtain ⟨fd, F⟩ := T.c.def_ 3 (d := d_l_names) (by rfl)
  show FnD P w K mg base (0 + 1) (gAd "_law_names") 2 (runD 10 (b_l_names))
  refine fnD_of (d := d_l_names) (k := 0) (b := b_l_names) F sc_l_names (fun _ _ _ _ _ _ _ us hl => match us, hl with | [_, _], _ => rfl) (fun cdv A outer s H E hr => ?_)
  have nd := sc_l_names.nd
  have hu := u200 hr
  have hu1 := u1 hr
  have hx : Passes (L2N.CX P w) (cxOf (L2N.CX P w) P w K mg base N_l_names "_law_names" (defScope s_l_names) ((gAd "_law_names") K) cdv A outer s H E) E := L2N.passes_call (L2N.takes_of rfl rfl rfl rfl) (fun _ _ _ _ h => h)
  have ho : PassesOwn (model P w) (cxOf (L2N.CX P w) P w K mg base N_l_names "_law_names" (defScope s_l_names) ((gAd "_law_names") K) cdv A outer s H E).A (cxOf (L2N.CX P w) P w K mg base N_l_names "_law_names" (defScope s_l_names) ((gAd "_law_names") K) cdv A outer s H E).env (cxOf (L2N.CX P w) P w K mg base N_l_names "_law_names" (defScope s_l_names) ((gAd "_law_names") K) cdv A outer s H E).xe := passes_of rfl
  exact (ds_cons (ds_set (ps_set (i := 2) nd rfl (by first | exact Or.inl rfl | exact Or.inr rfl) de_str)) (ds_cons (ds_set (ps_set (i := 3) nd rfl (by first | exact Or.inl rfl | exact Or.inr rfl) (de_op dd_mod (de_callTy cd_int (by rfl) (T.free 3) PyProof.Rows.boot_int (da_cons (de_op dd_div (de_var (pv 0)) de_int) da_nil)) de_int))) (ds_cons (ds_set (ps_set (i := 4) nd rfl (by first | exact Or.inl rfl | exact Or.inr rfl) (de_lc (tg_name (i := 8) (vs := [8]) (by decide)) (pe_lc (own := [("_law_k", 8)])  rfl nd (di_rng (by rfl) (T.free 4) (de_var (pv 1))) (blkOk_by (own := [("_law_k", 8)]) (N := N_l_names) (sc := defScope s_l_names) (by decide +kernel)) (fun _ _ _ _ _ => pg_name (i := 8) nd rfl (by first | exact Or.inl rfl | exact Or.inr rfl)) (fun _ _ _ _ _ => dts_nil) (fun _ _ _ _ _ => (de_ix (ixd hu1) (de_var (pv 2)) (de_op dd_mod (de_callTy cd_int (by rfl) (T.free 3) PyProof.Rows.boot_int (da_cons (de_op dd_add (de_op dd_div (de_var (pv 0)) de_int) (de_op dd_mul de_int (de_var (pv 8)))) da_nil)) de_int) (fun _ _ => rfl))))))) (ds_cons (ds_setLc (tg_name (i := 9) (vs := [9]) (by decide)) (ps_setLc (i := 5) (own := [("_law_letter", 9)])  rfl nd rfl rfl (sw_true rfl rfl rfl (by decide +kernel)) (di_seq (de_var (pv 4))) (blkOk_by (own := [("_law_letter", 9)]) (N := N_l_names) (sc := defScope s_l_names) (by decide +kernel)) (fun _ _ _ _ _ => pg_name (i := 9) nd rfl (by first | exact Or.inl rfl | exact Or.inr rfl)) (fun _ _ _ _ _ => dts_nil) (fun _ _ _ _ _ => (de_op dd_add (de_op dd_add (de_op dd_mul de_str (de_var (pv 3))) (de_var (pv 9))) (de_op dd_mul de_str (de_op dd_sub de_int (de_var (pv 3)))))))) (ds_cons (ds_setLc (tg_name (i := 8) (vs := [8]) (by decide)) (ps_setLc (i := 6) (own := [("_law_k", 8)])  rfl nd rfl rfl (sw_true rfl rfl rfl (by decide +kernel)) (di_rng (by rfl) (T.free 4) (de_var (pv 1))) (blkOk_by (own := [("_law_k", 8)]) (N := N_l_names) (sc := defScope s_l_names) (by decide +kernel)) (fun _ _ _ _ _ => pg_name (i := 8) nd rfl (by first | exact Or.inl rfl | exact Or.inr rfl)) (fun _ _ _ _ _ => dts_nil) (fun _ _ _ _ _ => (de_op dd_mul (de_ix (ixd hu1) (de_var (pv 4)) de_int (fun _ _ => rfl)) (de_op dd_add (de_var (pv 8)) de_int))))) (ds_cons (ds_setLc (tg_name (i := 8) (vs := [8]) (by decide)) (ps_setLc (i := 7) (own := [("_law_k", 8)])  rfl nd rfl rfl (sw_true rfl rfl rfl (by decide +kernel)) (di_rng (by rfl) (T.free 4) (de_var (pv 1))) (blkOk_by (own := [("_law_k", 8)]) (N := N_l_names) (sc := defScope s_l_names) (by decide +kernel)) (fun _ _ _ _ _ => pg_name (i := 8) nd rfl (by first | exact Or.inl rfl | exact Or.inr rfl)) (fun _ _ _ _ _ => dts_nil) (fun _ _ _ _ _ => (de_op dd_mul (de_ix (ixd hu1) (de_var (pv 4)) de_int (fun _ _ => rfl)) (de_op dd_sub (de_var (pv 1)) (de_var (pv 8))))))) (ds_one (ds_ret (de_ix (ixd hu1) (de_lst (da_cons (de_var (pv 4)) (da_cons (de_var (pv 5)) (da_cons (de_var (pv 6)) (da_cons (de_var (pv 7)) da_nil))))) (de_op dd_mod (de_callTy cd_int (by rfl) (T.free 3) PyProof.Rows.boot_int (da_cons (de_var (pv 0)) da_nil)) de_int) (fun _ _ => rfl))))))))))
abbrev N_l_turn : List Str := ["_law_number", "_law_limit", "_law_turns", "_law_at"]
theorem sc_l_turn : FnScope N_l_turn ["_law_number", "_law_limit"] (defScope s_l_turn) := ⟨rfl, rfl, rfl, by decide +kernel, rfl, by decide +kernel, by decide +kernel⟩
theorem wk_l_turn {P : Program} {w : World} {K : PySem.W.Frag} {mg : Str → Option Value} {base : Heap} (T : Tx fa fn K mg) : FnD P w K mg base 1 (gAd "_law_turn") 2 den_l_turn := by
  obtain ⟨fd, F⟩ := T.c.def_ 4 (d := d_l_turn) (by rfl)
  show FnD P w K mg base (0 + 1) (gAd "_law_turn") 2 (runD 4 (b_l_turn))
  refine fnD_of (d := d_l_turn) (k := 0) (b := b_l_turn) F sc_l_turn (fun _ _ _ _ _ _ _ us hl => match us, hl with | [_, _], _ => rfl) (fun cdv A outer s H E hr => ?_)
  have nd := sc_l_turn.nd
  have hu := u200 hr
  have hu1 := u1 hr
  have hx : Passes (L2N.CX P w) (cxOf (L2N.CX P w) P w K mg base N_l_turn "_law_turn" (defScope s_l_turn) ((gAd "_law_turn") K) cdv A outer s H E) E := L2N.passes_call (L2N.takes_of rfl rfl rfl rfl) (fun _ _ _ _ h => h)
  have ho : PassesOwn (model P w) (cxOf (L2N.CX P w) P w K mg base N_l_turn "_law_turn" (defScope s_l_turn) ((gAd "_law_turn") K) cdv A outer s H E).A (cxOf (L2N.CX P w) P w K mg base N_l_turn "_law_turn" (defScope s_l_turn) ((gAd "_law_turn") K) cdv A outer s H E).env (cxOf (L2N.CX P w) P w K mg base N_l_turn "_law_turn" (defScope s_l_turn) ((gAd "_law_turn") K) cdv A outer s H E).xe := passes_of rfl
  exact (ds_cons (ds_set (ps_set (i := 2) nd rfl (by first | exact Or.inl rfl | exact Or.inr rfl) (de_lst (da_cons (de_lst (da_cons de_int (da_cons de_int (da_cons de_int da_nil)))) (da_cons (de_lst (da_cons de_int (da_cons de_int (da_cons de_int da_nil)))) (da_cons (de_lst (da_cons de_int (da_cons de_int (da_cons de_int da_nil)))) (da_cons (de_lst (da_cons de_int (da_cons de_int (da_cons de_int da_nil)))) (da_cons (de_lst (da_cons de_int (da_cons de_int (da_cons de_int da_nil)))) (da_cons (de_lst (da_cons de_int (da_cons de_int (da_cons de_int da_nil)))) da_nil))))))))) (ds_one (ds_ret (de_lc (tg_name (i := 3) (vs := [3]) (by decide)) (pe_lc (own := [("_law_at", 3)])  rfl nd (di_seq (de_ix (ixd hu1) (de_var (pv 2)) (de_op dd_mod (de_callTy cd_int (by rfl) (T.free 3) PyProof.Rows.boot_int (da_cons (de_var (pv 0)) da_nil)) de_int) (fun _ _ => rfl))) (blkOk_by (own := [("_law_at", 3)]) (N := N_l_turn) (sc := defScope s_l_turn) (by decide +kernel)) (fun _ _ _ _ _ => pg_name (i := 3) nd rfl (by first | exact Or.inl rfl | exact Or.inr rfl)) (fun _ _ _ _ _ => dts_one (dt_cmp dd_lt0 (de_var (pv 3)) (de_var (pv 1)) (nomark _))) (fun _ _ _ _ _ => (de_var (pv 3))))))))
abbrev N_l_symbols : List Str := ["_law_numbers_here", "_law_count_here", "_law_names_here", "_law_rows", "_law_k", "_law_number", "_law_places", "_law_done", "_law_order"]
theorem sc_l_symbols : FnScope N_l_symbols ["_law_numbers_here"] (defScope s_l_symbols) := ⟨rfl, rfl, rfl, by decide +kernel, rfl, by decide +kernel, by decide +kernel⟩
theorem wk_l_symbols {P : Program} {w : World} {K : PySem.W.Frag} {mg : Str → Option Value} {base : Heap} (T : Tx fa fn K mg) (F_l_names : FnD P w K mg base 1 (gAd "_law_names") 2 den_l_names) (F_l_turn : FnD P w K mg base 1 (gAd "_law_turn") 2 den_l_turn) : FnD P w K mg base 2 (gAd "_law_symbols") 1 den_l_symbols := by
  obtain ⟨fd, F⟩ := T.c.def_ 5 (d := d_l_symbols) (by rfl)
  show FnD P w K mg base (1 + 1) (gAd "_law_symbols") 1 (runD 9 (b_l_symbols))
  refine fnD_of (d := d_l_symbols) (k := 1) (b := b_l_symbols) F sc_l_symbols (fun _ _ _ _ _ _ _ us hl => match us, hl with | [_], _ => rfl) (fun cdv A outer s H E hr => ?_)
  have nd := sc_l_symbols.nd
  have hu := u200 hr
  have hu1 := u1 hr
  have hx : Passes (L2N.CX P w) (cxOf (L2N.CX P w) P w K mg base N_l_symbols "_law_symbols" (defScope s_l_symbols) ((gAd "_law_symbols") K) cdv A outer s H E) E := L2N.passes_call (L2N.takes_of rfl rfl rfl rfl) (fun _ _ _ _ h => h)
  have ho : PassesOwn (model P w) (cxOf (L2N.CX P w) P w K mg base N_l_symbols "_law_symbols" (defScope s_l_symbols) ((gAd "_law_symbols") K) cdv A outer s H E).A (cxOf (L2N.CX P w) P w K mg base N_l_symbols "_law_symbols" (defScope s_l_symbols) ((gAd "_law_symbols") K) cdv A outer s H E).env (cxOf (L2N.CX P w) P w K mg base N_l_symbols "_law_symbols" (defScope s_l_symbols) ((gAd "_law_symbols") K) cdv A outer s H E).xe := passes_of rfl
  exact (ds_cons (ds_set (ps_set (i := 1) nd rfl (by first | exact Or.inl rfl | exact Or.inr rfl) (de_op dd_add de_int (de_op dd_mod (de_callTy cd_int (by rfl) (T.free 3) PyProof.Rows.boot_int (da_cons (de_ix (ixd hu1) (de_var (pv 0)) de_int (fun _ _ => rfl)) da_nil)) de_int)))) (ds_cons (ds_set (ps_set (i := 2) nd rfl (by first | exact Or.inl rfl | exact Or.inr rfl) (de_callF F_l_names (hr.mono (by decide)) (T.glo 5) hx (da_cons (de_ix (ixd hu1) (de_var (pv 0)) de_int (fun _ _ => rfl)) (da_cons (de_var (pv 1)) da_nil))))) (ds_cons (ds_new (ps_set (i := 3) nd rfl (by first | exact Or.inl rfl | exact Or.inr rfl) (pe_lst pa_nil))) (ds_cons (ds_for [4, 5, 6, 7, 8] (tg_name (i := 4) (vs := [4]) (by decide)) (ps_for ho rfl (di_rng (by rfl) (T.free 4) (de_var (pv 1))) (pg_name (i := 4) nd rfl (by first | exact Or.inl rfl | exact Or.inr rfl)) (ds_cons (ds_set (ps_set (i := 5) nd rfl (by first | exact Or.inl rfl | exact Or.inr rfl) (de_ix (ixd hu1) (de_var (pv 0)) (de_op dd_add de_int (de_var (pv 4))) (fun _ _ => rfl)))) (ds_cons (ds_set (ps_set (i := 6) nd rfl (by first | exact Or.inl rfl | exact Or.inr rfl) (de_ix (ixd hu1) (de_lst (da_cons de_int (da_cons de_int (da_cons de_int (da_cons de_int (da_cons de_int (da_cons de_int (da_cons de_int da_nil)))))))) (de_op dd_mod (de_callTy cd_int (by rfl) (T.free 3) PyProof.Rows.boot_int (da_cons (de_var (pv 5)) da_nil)) de_int) (fun _ _ => rfl)))) (ds_cons (ds_set (ps_set (i := 7) nd rfl (by first | exact Or.inl rfl | exact Or.inr rfl) (de_cmp (dd_eq hu) (de_op dd_mod (de_callTy cd_int (by rfl) (T.free 3) PyProof.Rows.boot_int (da_cons (de_op dd_div (de_var (pv 5)) de_int) da_nil)) de_int) de_int (nomark _)))) (ds_cons (ds_if (dt_cmp (dd_eq hu) (de_var (pv 4)) de_int (nomark _)) (ds_cons (ds_set (ps_set (i := 6) nd rfl (by first | exact Or.inl rfl | exact Or.inr rfl) de_int)) (ds_one (ds_set (ps_set (i := 7) nd rfl (by first | exact Or.inl rfl | exact Or.inr rfl) (de_cmp dd_gt (de_op dd_mod (de_callTy cd_int (by rfl) (T.free 3) PyProof.Rows.boot_int (da_cons (de_op dd_div (de_var (pv 5)) de_int) da_nil)) de_int) de_int (nomark _)))))) ds_nil) (ds_cons (ds_set (ps_set (i := 8) nd rfl (by first | exact Or.inl rfl | exact Or.inr rfl) (de_slice (de_callF F_l_turn (hr.mono (by decide)) (T.glo 6) hx (da_cons (de_op dd_div (de_var (pv 5)) de_int) (da_cons (de_var (pv 6)) da_nil))) do_none (do_some (de_op dd_mod (de_callTy cd_int (by rfl) (T.free 3) PyProof.Rows.boot_int (da_cons (de_op dd_div (de_var (pv 5)) de_int) da_nil)) (de_op dd_add (de_var (pv 6)) de_int)))))) (ds_one (ds_app (ps_expr (pe_bm PySem.F.plainAttrs_list PySem.F.slot_list_append PySem.F.type_list_append mt_append (pv 3) (pa_cons (de_tup (da_cons (de_ix (ixd hu1) (de_var (pv 2)) (de_var (pv 4)) (fun _ _ => rfl)) (da_cons (de_var (pv 6)) (da_cons (de_var (pv 7)) (da_cons (de_callTy cd_tuple (by rfl) (T.free 7) PyProof.Rows.boot_tuple (da_cons (de_var (pv 8)) da_nil)) da_nil))))) pa_nil)))))))))))) (ds_frz 3 (ds_one (ds_ret (de_var (pv 3)))))))))
abbrev N_l_entries : List Str := ["_law_rows", "_law_kinds", "_law_numbers_here", "_law_told", "_law_k", "_law_number", "_law_row", "_law_parts", "_law_kind", "_law_j"]
theorem sc_l_entries : FnScope N_l_entries ["_law_rows", "_law_kinds", "_law_numbers_here"] (defScope s_l_entries) := ⟨rfl, rfl, rfl, by decide +kernel, rfl, by decide +kernel, by decide +kernel⟩
theorem wk_l_entries {P : Program} {w : World} {K : PySem.W.Frag} {mg : Str → Option Value} {base : Heap} (T : Tx fa fn K mg) : FnD P w K mg base 1 (gAd "_law_entries") 3 den_l_entries := by
  obtain ⟨fd, F⟩ := T.c.def_ 6 (d := d_l_entries) (by rfl)
  show FnD P w K mg base (0 + 1) (gAd "_law_entries") 3 (runD 10 (b_l_entries))
  refine fnD_of (d := d_l_entries) (k := 0) (b := b_l_entries) F sc_l_entries (fun _ _ _ _ _ _ _ us hl => match us, hl with | [_, _, _], _ => rfl) (fun cdv A outer s H E hr => ?_)
  have nd := sc_l_entries.nd
  have hu := u200 hr
  have hu1 := u1 hr
  have hx : Passes (L2N.CX P w) (cxOf (L2N.CX P w) P w K mg base N_l_entries "_law_entries" (defScope s_l_entries) ((gAd "_law_entries") K) cdv A outer s H E) E := L2N.passes_call (L2N.takes_of rfl rfl rfl rfl) (fun _ _ _ _ h => h)
  have ho : PassesOwn (model P w) (cxOf (L2N.CX P w) P w K mg base N_l_entries "_law_entries" (defScope s_l_entries) ((gAd "_law_entries") K) cdv A outer s H E).A (cxOf (L2N.CX P w) P w K mg base N_l_entries "_law_entries" (defScope s_l_entries) ((gAd "_law_entries") K) cdv A outer s H E).env (cxOf (L2N.CX P w) P w K mg base N_l_entries "_law_entries" (defScope s_l_entries) ((gAd "_law_entries") K) cdv A outer s H E).xe := passes_of rfl
  exact (ds_cons (ds_new (ps_set (i := 3) nd rfl (by first | exact Or.inl rfl | exact Or.inr rfl) (pe_lst pa_nil))) (ds_cons (ds_for [4, 5, 6, 7, 8] (tg_name (i := 4) (vs := [4]) (by decide)) (ps_for ho rfl (di_rng (by rfl) (T.free 4) (de_callB cd_len (by rfl) (T.free 1) PySem.boot_len (da_cons (de_var (pv 2)) da_nil))) (pg_name (i := 4) nd rfl (by first | exact Or.inl rfl | exact Or.inr rfl)) (ds_cons (ds_set (ps_set (i := 5) nd rfl (by first | exact Or.inl rfl | exact Or.inr rfl) (de_ix (ixd hu1) (de_var (pv 2)) (de_var (pv 4)) (fun _ _ => rfl)))) (ds_cons (ds_set (ps_set (i := 6) nd rfl (by first | exact Or.inl rfl | exact Or.inr rfl) (de_ix (ixd hu1) (de_var (pv 0)) (de_op dd_mod (de_callTy cd_int (by rfl) (T.free 3) PyProof.Rows.boot_int (da_cons (de_op dd_div (de_var (pv 5)) de_int) da_nil)) (de_callB cd_len (by rfl) (T.free 1) PySem.boot_len (da_cons (de_var (pv 0)) da_nil))) (fun _ _ => rfl)))) (ds_cons (ds_if (dt_cmp dd_lt0 (de_var (pv 4)) (de_callB cd_len (by rfl) (T.free 1) PySem.boot_len (da_cons (de_var (pv 0)) da_nil)) (nomark _)) (ds_one (ds_set (ps_set (i := 6) nd rfl (by first | exact Or.inl rfl | exact Or.inr rfl) (de_ix (ixd hu1) (de_var (pv 0)) (de_var (pv 4)) (fun _ _ => rfl))))) ds_nil) (ds_cons (ds_setLc (tg_name (i := 9) (vs := [9]) (by decide)) (ps_setLc (i := 7) (own := [("_law_j", 9)])  rfl nd rfl rfl (sw_true rfl rfl rfl (by decide +kernel)) (di_rng (by rfl) (T.free 4) (de_ix (ixd hu1) (de_var (pv 6)) de_int (fun _ _ => rfl))) (blkOk_by (own := [("_law_j", 9)]) (N := N_l_entries) (sc := defScope s_l_entries) (by decide +kernel)) (fun _ _ _ _ _ => pg_name (i := 9) nd rfl (by first | exact Or.inl rfl | exact Or.inr rfl)) (fun _ _ _ _ _ => dts_nil) (fun _ _ _ _ _ => (de_ix (ixd hu1) (de_var (pv 1)) (de_op dd_mod (de_op dd_mod (de_callTy cd_int (by rfl) (T.free 3) PyProof.Rows.boot_int (da_cons (de_op dd_div (de_var (pv 5)) (de_ix (ixd hu1) (de_lst (da_cons de_int (da_cons de_int (da_cons de_int da_nil)))) (de_var (pv 9)) (fun _ _ => rfl))) da_nil)) de_int) (de_callB cd_len (by rfl) (T.free 1) PySem.boot_len (da_cons (de_var (pv 1)) da_nil))) (fun _ _ => rfl))))) (ds_cons (ds_set (ps_set (i := 8) nd rfl (by first | exact Or.inl rfl | exact Or.inr rfl) (de_ix (ixd hu1) (de_var (pv 1)) (de_op dd_mod (de_op dd_mod (de_callTy cd_int (by rfl) (T.free 3) PyProof.Rows.boot_int (da_cons (de_op dd_div (de_var (pv 5)) de_int) da_nil)) de_int) (de_callB cd_len (by rfl) (T.free 1) PySem.boot_len (da_cons (de_var (pv 1)) da_nil))) (fun _ _ => rfl)))) (ds_one (ds_if (PW.pt (dw_or (dt_cmp (dd_eq hu) (de_var (pv 4)) de_int (nomark _)) (dw_or (dt_cmp dd_ge (de_var (pv 4)) (de_callB cd_len (by rfl) (T.free 1) PySem.boot_len (da_cons (de_var (pv 0)) da_nil)) (nomark _)) (dw_or1 (dt_cmp dd_gt (de_op dd_mod (de_callTy cd_int (by rfl) (T.free 3) PyProof.Rows.boot_int (da_cons (de_op dd_div (de_var (pv 5)) de_int) da_nil)) de_int) de_int (nomark _)))))) (ds_one (ds_app (ps_expr (pe_bm PySem.F.plainAttrs_list PySem.F.slot_list_append PySem.F.type_list_append mt_append (pv 3) (pa_cons (de_tup (da_cons (de_ix (ixd hu1) (de_var (pv 6)) de_int (fun _ _ => rfl)) (da_cons (de_callTy cd_tuple (by rfl) (T.free 7) PyProof.Rows.boot_tuple (da_cons (de_var (pv 7)) da_nil)) (da_cons (de_var (pv 8)) da_nil)))) pa_nil))))) ds_nil))))))))) (ds_frz 3 (ds_one (ds_ret (de_var (pv 3)))))))
abbrev N_l_lows : List Str := ["_law_number", "_law_kinds", "_law_turn_here", "_law_pairs", "_law_k", "_law_j"]
theorem sc_l_lows : FnScope N_l_lows ["_law_number", "_law_kinds"] (defScope s_l_lows) := ⟨rfl, rfl, rfl, by decide +kernel, rfl, by decide +kernel, by decide +kernel⟩
theorem wk_l_lows {P : Program} {w : World} {K : PySem.W.Frag} {mg : Str → Option Value} {base : Heap} (T : Tx fa fn K mg) (F_l_turn : FnD P w K mg base 1 (gAd "_law_turn") 2 den_l_turn) : FnD P w K mg base 2 (gAd "_law_lows") 2 den_l_lows := by
  obtain ⟨fd, F⟩ := T.c.def_ 7 (d := d_l_lows) (by rfl)
  show FnD P w K mg base (1 + 1) (gAd "_law_lows") 2 (runD 6 (b_l_lows))
  refine fnD_of (d := d_l_lows) (k := 1) (b := b_l_lows) F sc_l_lows (fun _ _ _ _ _ _ _ us hl => match us, hl with | [_, _], _ => rfl) (fun cdv A outer s H E hr => ?_)
  have nd := sc_l_lows.nd
  have hu := u200 hr
  have hu1 := u1 hr
  have hx : Passes (L2N.CX P w) (cxOf (L2N.CX P w) P w K mg base N_l_lows "_law_lows" (defScope s_l_lows) ((gAd "_law_lows") K) cdv A outer s H E) E := L2N.passes_call (L2N.takes_of rfl rfl rfl rfl) (fun _ _ _ _ h => h)
  have ho : PassesOwn (model P w) (cxOf (L2N.CX P w) P w K mg base N_l_lows "_law_lows" (defScope s_l_lows) ((gAd "_law_lows") K) cdv A outer s H E).A (cxOf (L2N.CX P w) P w K mg base N_l_lows "_law_lows" (defScope s_l_lows) ((gAd "_law_lows") K) cdv A outer s H E).env (cxOf (L2N.CX P w) P w K mg base N_l_lows "_law_lows" (defScope s_l_lows) ((gAd "_law_lows") K) cdv A outer s H E).xe := passes_of rfl
  exact (ds_cons (ds_set (ps_set (i := 2) nd rfl (by first | exact Or.inl rfl | exact Or.inr rfl) (de_callF F_l_turn (hr.mono (by decide)) (T.glo 6) hx (da_cons (de_var (pv 0)) (da_cons (de_callB cd_len (by rfl) (T.free 1) PySem.boot_len (da_cons (de_var (pv 1)) da_nil)) da_nil))))) (ds_cons (ds_new (ps_set (i := 3) nd rfl (by first | exact Or.inl rfl | exact Or.inr rfl) (pe_lst pa_nil))) (ds_cons (ds_for [] (tg_name (i := 4) (vs := [4]) (by decide)) (ps_for ho rfl (di_rng (by rfl) (T.free 4) (de_callB cd_len (by rfl) (T.free 1) PySem.boot_len (da_cons (de_var (pv 2)) da_nil))) (pg_name (i := 4) nd rfl (by first | exact Or.inl rfl | exact Or.inr rfl)) (ds_one (ds_for [5] (tg_name (i := 5) (vs := [5]) (by decide)) (ps_for ho rfl (di_rng (by rfl) (T.free 4) (de_var (pv 4))) (pg_name (i := 5) nd rfl (by first | exact Or.inl rfl | exact Or.inr rfl)) (ds_one (ds_if (dt_cmp (dd_eq hu) (de_op dd_mod (de_callTy cd_int (by rfl) (T.free 3) PyProof.Rows.boot_int (da_cons (de_op dd_div (de_var (pv 0)) (de_ix (ixd hu1) (de_lst (da_cons de_int (da_cons de_int (da_cons de_int da_nil)))) (de_op dd_sub (de_op dd_add (de_var (pv 4)) (de_var (pv 5))) de_int) (fun _ _ => rfl))) da_nil)) de_int) de_int (nomark _)) (ds_one (ds_app (ps_expr (pe_bm PySem.F.plainAttrs_list PySem.F.slot_list_append PySem.F.type_list_append mt_append (pv 3) (pa_cons (de_tup (da_cons (de_ix (ixd hu1) (de_var (pv 1)) (de_ix (ixd hu1) (de_var (pv 2)) (de_var (pv 5)) (fun _ _ => rfl)) (fun _ _ => rfl)) (da_cons (de_ix (ixd hu1) (de_var (pv 1)) (de_ix (ixd hu1) (de_var (pv 2)) (de_var (pv 4)) (fun _ _ => rfl)) (fun _ _ => rfl)) da_nil))) pa_nil))))) ds_nil))))))) (ds_cons (ds_if (dt_cmp (dd_eq hu) (de_op dd_mod (de_callTy cd_int (by rfl) (T.free 3) PyProof.Rows.boot_int (da_cons (de_op dd_div (de_var (pv 0)) de_int) da_nil)) de_int) de_int (nomark _)) (ds_one (ds_set (ps_set (i := 3) nd rfl (by first | exact Or.inl rfl | exact Or.inr rfl) (de_lc (tg_name (i := 4) (vs := [4]) (by decide)) (pe_lc (own := [("_law_k", 4)])  rfl nd (di_rng (by rfl) (T.free 4) (de_lenX (by rfl) (T.free 1) (pv 3))) (blkOk_by (own := [("_law_k", 4)]) (N := N_l_lows) (sc := defScope s_l_lows) (by decide +kernel)) (fun _ _ _ _ _ => pg_name (i := 4) nd rfl (by first | exact Or.inl rfl | exact Or.inr rfl)) (fun _ _ _ _ _ => dts_nil) (fun _ _ _ _ _ => (de_ixO hu1 (pv 3) (de_op dd_sub (de_op dd_sub (de_lenX (by rfl) (T.free 1) (pv 3)) de_int) (de_var (pv 4))) (fun _ _ => rfl)))))))) ds_nil) (ds_frz 3 (ds_one (ds_ret (de_var (pv 3)))))))))
abbrev N_l_count : List Str := ["_law_side", "_law_part"]
theorem sc_l_count : FnScope N_l_count ["_law_side"] (defScope s_l_count) := ⟨rfl, rfl, rfl, by decide +kernel, rfl, by decide +kernel, by decide +kernel⟩
theorem wk_l_count {P : Program} {w : World} {K : PySem.W.Frag} {mg : Str → Option Value} {base : Heap} (T : Tx fa fn K mg) (n : Nat) : FnD P w K mg base (1 + n) (gAd "_law_count") 1 (den_l_count n) := by
  obtain ⟨fd, F⟩ := T.c.def_ 8 (d := d_l_count) (by rfl)
  refine fuelOk (Fb := fun r => runD 2 (b_l_count r)) (j := 1) (ad := (gAd "_law_count")) (fnD_bot (d := d_l_count) F sc_l_count (fun _ _ _ _ _ _ _ us hl => match us, hl with | [_], _ => rfl) 0) (fun k r hk F_l_count => ?_) n
  show FnD P w K mg base (k + 1) (gAd "_law_count") 1 (runD 2 (b_l_count r))
  refine fnD_of (d := d_l_count) (k := k) (b := b_l_count r) F sc_l_count (fun _ _ _ _ _ _ _ us hl => match us, hl with | [_], _ => rfl) (fun cdv A outer s H E hr => ?_)
  have nd := sc_l_count.nd
  have hu := u200 hr
  have hu1 := u1 hr
  have hx : Passes (L2N.CX P w) (cxOf (L2N.CX P w) P w K mg base N_l_count "_law_count" (defScope s_l_count) ((gAd "_law_count") K) cdv A outer s H E) E := L2N.passes_call (L2N.takes_of rfl rfl rfl rfl) (fun _ _ _ _ h => h)
  have ho : PassesOwn (model P w) (cxOf (L2N.CX P w) P w K mg base N_l_count "_law_count" (defScope s_l_count) ((gAd "_law_count") K) cdv A outer s H E).A (cxOf (L2N.CX P w) P w K mg base N_l_count "_law_count" (defScope s_l_count) ((gAd "_law_count") K) cdv A outer s H E).env (cxOf (L2N.CX P w) P w K mg base N_l_count "_law_count" (defScope s_l_count) ((gAd "_law_count") K) cdv A outer s H E).xe := passes_of rfl
  exact (ds_cons (ds_if (dt_tru (de_isi (T := "str") rfl (T.free 8) (de_var (pv 0)) (pe_bltn (by rfl) (T.free 9) PyProof.Rows.boot_str rfl)) (by intro _; rfl)) (ds_one (ds_ret de_int)) ds_nil) (ds_one (ds_ret (de_op dd_add de_int (de_callB (cd_sum rfl) (by rfl) (T.free 11) PyProof.Rows.boot_sum (da_cons (de_lc (tg_name (i := 1) (vs := [1]) (by decide)) (pe_lc (own := [("_law_part", 1)])  rfl nd (di_seq (de_slice (de_var (pv 0)) (do_some de_int) do_none)) (blkOk_by (own := [("_law_part", 1)]) (N := N_l_count) (sc := defScope s_l_count) (by decide +kernel)) (fun _ _ _ _ _ => pg_name (i := 1) nd rfl (by first | exact Or.inl rfl | exact Or.inr rfl)) (fun _ _ _ _ _ => dts_nil) (fun _ _ _ _ _ => (de_callF F_l_count (hr.mono (by omega)) (T.glo 10) passN (da_cons (de_var (pv 1)) da_nil))))) da_nil))))))
abbrev N_l_rule : List Str := ["_law_rows", "_law_head", "_law_numbers_here", "_law_variables", "_law_left", "_law_used", "_law_place", "_law_row", "_law_pool", "_law_number", "_law_parts", "_law_made_here", "_law_right", "_law_j"]
theorem sc_l_rule : FnScope N_l_rule ["_law_rows", "_law_head", "_law_numbers_here", "_law_variables"] (defScope s_l_rule) := ⟨rfl, rfl, rfl, by decide +kernel, rfl, by decide +kernel, by decide +kernel⟩
theorem wk_l_rule {P : Program} {w : World} {K : PySem.W.Frag} {mg : Str → Option Value} {base : Heap} (T : Tx fa fn K mg) (F_l_count : FnD P w K mg base 121 (gAd "_law_count") 1 (den_l_count 120)) : FnD P w K mg base 122 (gAd "_law_rule") 4 den_l_rule := by
  obtain ⟨fd, F⟩ := T.c.def_ 9 (d := d_l_rule) (by rfl)
  show FnD P w K mg base (121 + 1) (gAd "_law_rule") 4 (runD 14 (b_l_rule))
  refine fnD_of (d := d_l_rule) (k := 121) (b := b_l_rule) F sc_l_rule (fun _ _ _ _ _ _ _ us hl => match us, hl with | [_, _, _, _], _ => rfl) (fun cdv A outer s H E hr => ?_)
  have nd := sc_l_rule.nd
  have hu := u200 hr
  have hu1 := u1 hr
  have hx : Passes (L2N.CX P w) (cxOf (L2N.CX P w) P w K mg base N_l_rule "_law_rule" (defScope s_l_rule) ((gAd "_law_rule") K) cdv A outer s H E) E := L2N.passes_call (L2N.takes_of rfl rfl rfl rfl) (fun _ _ _ _ h => h)
  have ho : PassesOwn (model P w) (cxOf (L2N.CX P w) P w K mg base N_l_rule "_law_rule" (defScope s_l_rule) ((gAd "_law_rule") K) cdv A outer s H E).A (cxOf (L2N.CX P w) P w K mg base N_l_rule "_law_rule" (defScope s_l_rule) ((gAd "_law_rule") K) cdv A outer s H E).env (cxOf (L2N.CX P w) P w K mg base N_l_rule "_law_rule" (defScope s_l_rule) ((gAd "_law_rule") K) cdv A outer s H E).xe := passes_of rfl
  exact (ds_cons (ds_own (ps_set (i := 4) nd rfl (by first | exact Or.inl rfl | exact Or.inr rfl) (fr_lst (da_cons (de_ix (ixd hu1) (de_var (pv 1)) de_int (fun _ _ => rfl)) da_nil)))) (ds_cons (ds_set (ps_set (i := 5) nd rfl (by first | exact Or.inl rfl | exact Or.inr rfl) de_int)) (ds_cons (ds_for [6] (tg_name (i := 6) (vs := [6]) (by decide)) (ps_for ho rfl (di_rng (by rfl) (T.free 4) (de_ix (ixd hu1) (de_var (pv 1)) de_int (fun _ _ => rfl))) (pg_name (i := 6) nd rfl (by first | exact Or.inl rfl | exact Or.inr rfl)) (ds_cons (ds_set (ps_set (i := 7) nd rfl (by first | exact Or.inl rfl | exact Or.inr rfl) (de_ix (ixd hu1) (de_var (pv 0)) (de_op dd_mod (de_callTy cd_int (by rfl) (T.free 3) PyProof.Rows.boot_int (da_cons (de_op dd_div (de_ix (ixd hu1) (de_var (pv 2)) (de_var (pv 6)) (fun _ _ => rfl)) de_int) da_nil)) (de_callB cd_len (by rfl) (T.free 1) PySem.boot_len (da_cons (de_var (pv 0)) da_nil))) (fun _ _ => rfl)))) (ds_one (ds_if (PW.pt (dw_and (dt_cmp (dd_eq hu) (de_op dd_mod (de_callTy cd_int (by rfl) (T.free 3) PyProof.Rows.boot_int (da_cons (de_ix (ixd hu1) (de_var (pv 2)) (de_var (pv 6)) (fun _ _ => rfl)) da_nil)) de_int) de_int (nomark _)) (dw_and1 (dt_cmp dd_le (de_op dd_sub (de_op dd_add (de_op dd_add (de_var (pv 5)) (de_ix (ixd hu1) (de_var (pv 7)) de_int (fun _ _ => rfl))) (de_ix (ixd hu1) (de_var (pv 1)) de_int (fun _ _ => rfl))) (de_var (pv 6))) de_int (nomark _))))) (ds_cons (ds_app (ps_expr (pe_bm PySem.F.plainAttrs_list PySem.F.slot_list_append PySem.F.type_list_append mt_append (pv 4) (pa_cons (de_callTy cd_tuple (by rfl) (T.free 7) PyProof.Rows.boot_tuple (da_cons (de_op dd_add (de_lst (da_cons (de_ix (ixd hu1) (de_var (pv 7)) de_int (fun _ _ => rfl)) da_nil)) (de_slice (de_var (pv 3)) (do_some (de_var (pv 5))) (do_some (de_op dd_add (de_var (pv 5)) (de_ix (ixd hu1) (de_var (pv 7)) de_int (fun _ _ => rfl)))))) da_nil)) pa_nil)))) (ds_one (ds_set (ps_set (i := 5) nd rfl (by first | exact Or.inl rfl | exact Or.inr rfl) (de_op dd_add (de_var (pv 5)) (de_ix (ixd hu1) (de_var (pv 7)) de_int (fun _ _ => rfl))))))) (ds_cons (ds_app (ps_expr (pe_bm PySem.F.plainAttrs_list PySem.F.slot_list_append PySem.F.type_list_append mt_append (pv 4) (pa_cons (de_ix (ixd hu1) (de_var (pv 3)) (de_var (pv 5)) (fun _ _ => rfl)) pa_nil)))) (ds_one (ds_set (ps_set (i := 5) nd rfl (by first | exact Or.inl rfl | exact Or.inr rfl) (de_op dd_add (de_var (pv 5)) de_int)))))))))) (ds_cons (ds_own (ps_set (i := 8) nd rfl (by first | exact Or.inl rfl | exact Or.inr rfl) (fr_add (de_slice (de_var (pv 3)) do_none (do_some (de_var (pv 5)))) (de_lst (da_cons (de_tup (da_cons (de_ix (ixd hu1) (de_ix (ixd hu1) (de_var (pv 0)) de_int (fun _ _ => rfl)) de_int (fun _ _ => rfl)) da_nil)) da_nil))))) (ds_cons (ds_for [9, 10, 11] (tg_name (i := 9) (vs := [9]) (by decide)) (ps_for ho rfl (di_seq (de_slice (de_var (pv 2)) (do_some de_int) (do_some de_int))) (pg_name (i := 9) nd rfl (by first | exact Or.inl rfl | exact Or.inr rfl)) (ds_cons (ds_set (ps_set (i := 7) nd rfl (by first | exact Or.inl rfl | exact Or.inr rfl) (de_ix (ixd hu1) (de_var (pv 0)) (de_op dd_mod (de_op dd_mod (de_callTy cd_int (by rfl) (T.free 3) PyProof.Rows.boot_int (da_cons (de_var (pv 9)) da_nil)) de_int) (de_callB cd_len (by rfl) (T.free 1) PySem.boot_len (da_cons (de_var (pv 0)) da_nil))) (fun _ _ => rfl)))) (ds_cons (ds_setLc (tg_name (i := 13) (vs := [13]) (by decide)) (ps_setLc (i := 10) (own := [("_law_j", 13)])  rfl nd rfl rfl (sw_true rfl rfl rfl (by decide +kernel)) (di_rng (by rfl) (T.free 4) (de_ix (ixd hu1) (de_var (pv 7)) de_int (fun _ _ => rfl))) (blkOk_by (own := [("_law_j", 13)]) (N := N_l_rule) (sc := defScope s_l_rule) (by decide +kernel)) (fun _ _ _ _ _ => pg_name (i := 13) nd rfl (by first | exact Or.inl rfl | exact Or.inr rfl)) (fun _ _ _ _ _ => dts_nil) (fun _ _ _ _ _ => (de_ixO hu1 (pv 8) (de_op dd_mod (de_op dd_mod (de_callTy cd_int (by rfl) (T.free 3) PyProof.Rows.boot_int (da_cons (de_op dd_div (de_var (pv 9)) (de_ix (ixd hu1) (de_lst (da_cons de_int (da_cons de_int (da_cons de_int da_nil)))) (de_var (pv 13)) (fun _ _ => rfl))) da_nil)) de_int) (de_lenX (by rfl) (T.free 1) (pv 8))) (fun _ _ => rfl))))) (ds_cons (ds_set (ps_set (i := 11) nd rfl (by first | exact Or.inl rfl | exact Or.inr rfl) (de_callTy cd_tuple (by rfl) (T.free 7) PyProof.Rows.boot_tuple (da_cons (de_op dd_add (de_lst (da_cons (de_ix (ixd hu1) (de_var (pv 7)) de_int (fun _ _ => rfl)) da_nil)) (de_var (pv 10))) da_nil)))) (ds_one (ds_if (dt_cmp dd_le (de_callF F_l_count (hr.mono (by decide)) (T.glo 10) hx (da_cons (de_var (pv 11)) da_nil)) de_int (nomark _)) (ds_one (ds_app (ps_expr (pe_bm PySem.F.plainAttrs_list PySem.F.slot_list_append PySem.F.type_list_append mt_append (pv 8) (pa_cons (de_var (pv 11)) pa_nil))))) ds_nil))))))) (ds_cons (ds_set (ps_set (i := 12) nd rfl (by first | exact Or.inl rfl | exact Or.inr rfl) (de_ixO hu1 (pv 8) (de_op dd_sub (de_lenX (by rfl) (T.free 1) (pv 8)) de_int) (fun _ _ => rfl)))) (ds_cons (ds_if (dt_cmp (dd_eq hu) (de_op dd_mod (de_callTy cd_int (by rfl) (T.free 3) PyProof.Rows.boot_int (da_cons (de_ix (ixd hu1) (de_var (pv 2)) de_int (fun _ _ => rfl)) da_nil)) de_int) de_int (nomark _)) (ds_one (ds_set (ps_set (i := 12) nd rfl (by first | exact Or.inl rfl | exact Or.inr rfl) (de_ixO hu1 (pv 8) (de_op dd_mod (de_callTy cd_int (by rfl) (T.free 3) PyProof.Rows.boot_int (da_cons (de_op dd_div (de_ix (ixd hu1) (de_var (pv 2)) de_int (fun _ _ => rfl)) de_int) da_nil)) (de_lenX (by rfl) (T.free 1) (pv 8))) (fun _ _ => rfl))))) ds_nil) (ds_frz 4 (ds_one (ds_ret (de_tup (da_cons (de_callTy cd_tuple (by rfl) (T.free 7) PyProof.Rows.boot_tuple (da_cons (de_var (pv 4)) da_nil)) (da_cons (de_var (pv 12)) da_nil)))))))))))))
abbrev N_l_rules : List Str := ["_law_rows", "_law_script", "_law_k", "_law_working", "_law_numbers_here", "_law_variables", "_law_told", "_law_at", "_law_mine", "_law_head", "_law_row"]
theorem sc_l_rules : FnScope N_l_rules ["_law_rows", "_law_script", "_law_k"] (defScope s_l_rules) := ⟨rfl, rfl, rfl, by decide +kernel, rfl, by decide +kernel, by decide +kernel⟩
theorem wk_l_rules {P : Program} {w : World} {K : PySem.W.Frag} {mg : Str → Option Value} {base : Heap} (T : Tx fa fn K mg) (F_l_numbers : FnD P w K mg base 2 (gAd "_law_numbers") 3 den_l_numbers) (F_l_names : FnD P w K mg base 1 (gAd "_law_names") 2 den_l_names) (F_l_rule : FnD P w K mg base 122 (gAd "_law_rule") 4 den_l_rule) : FnD P w K mg base 123 (gAd "_law_rules") 3 den_l_rules := by
  obtain ⟨fd, F⟩ := T.c.def_ 10 (d := d_l_rules) (by rfl)
  show FnD P w K mg base (122 + 1) (gAd "_law_rules") 3 (runD 11 (b_l_rules))
  refine fnD_of (d := d_l_rules) (k := 122) (b := b_l_rules) F sc_l_rules (fun _ _ _ _ _ _ _ us hl => match us, hl with | [_, _, _], _ => rfl) (fun cdv A outer s H E hr => ?_)
  have nd := sc_l_rules.nd
  have hu := u200 hr
  have hu1 := u1 hr
  have hx : Passes (L2N.CX P w) (cxOf (L2N.CX P w) P w K mg base N_l_rules "_law_rules" (defScope s_l_rules) ((gAd "_law_rules") K) cdv A outer s H E) E := L2N.passes_call (L2N.takes_of rfl rfl rfl rfl) (fun _ _ _ _ h => h)
  have ho : PassesOwn (model P w) (cxOf (L2N.CX P w) P w K mg base N_l_rules "_law_rules" (defScope s_l_rules) ((gAd "_law_rules") K) cdv A outer s H E).A (cxOf (L2N.CX P w) P w K mg base N_l_rules "_law_rules" (defScope s_l_rules) ((gAd "_law_rules") K) cdv A outer s H E).env (cxOf (L2N.CX P w) P w K mg base N_l_rules "_law_rules" (defScope s_l_rules) ((gAd "_law_rules") K) cdv A outer s H E).xe := passes_of rfl
  exact (ds_cons (ds_setLc (tg_name (i := 10) (vs := [10]) (by decide)) (ps_setLc (i := 3) (own := [("_law_row", 10)])  rfl nd rfl rfl (sw_true rfl rfl rfl (by decide +kernel)) (di_seq (de_var (pv 0))) (blkOk_by (own := [("_law_row", 10)]) (N := N_l_rules) (sc := defScope s_l_rules) (by decide +kernel)) (fun _ _ _ _ _ => pg_name (i := 10) nd rfl (by first | exact Or.inl rfl | exact Or.inr rfl)) (fun _ _ _ _ _ => dts_one (dt_not (dt_tru (de_ix (ixd hu1) (de_var (pv 10)) de_int (fun _ _ => rfl)) (by intro _; rfl)))) (fun _ _ _ _ _ => (de_var (pv 10))))) (ds_cons (ds_set (ps_set (i := 4) nd rfl (by first | exact Or.inl rfl | exact Or.inr rfl) (de_callF F_l_numbers (hr.mono (by decide)) (T.glo 12) hx (da_cons (de_var (pv 1)) (da_cons (de_var (pv 2)) (da_cons de_int da_nil)))))) (ds_cons (ds_set (ps_set (i := 5) nd rfl (by first | exact Or.inl rfl | exact Or.inr rfl) (de_callF F_l_names (hr.mono (by decide)) (T.glo 5) hx (da_cons (de_ix (ixd hu1) (de_var (pv 4)) de_int (fun _ _ => rfl)) (da_cons de_int da_nil))))) (ds_cons (ds_new (ps_set (i := 6) nd rfl (by first | exact Or.inl rfl | exact Or.inr rfl) (pe_lst pa_nil))) (ds_cons (ds_if (dt_cmp dd_gt (de_callB cd_len (by rfl) (T.free 1) PySem.boot_len (da_cons (de_var (pv 3)) da_nil)) de_int (nomark _)) (ds_one (ds_for [7, 8, 9] (tg_name (i := 7) (vs := [7]) (by decide)) (ps_for ho rfl (di_rng (by rfl) (T.free 4) (de_op dd_mod (de_callTy cd_int (by rfl) (T.free 3) PyProof.Rows.boot_int (da_cons (de_ix (ixd hu1) (de_var (pv 4)) de_int (fun _ _ => rfl)) da_nil)) de_int)) (pg_name (i := 7) nd rfl (by first | exact Or.inl rfl | exact Or.inr rfl)) (ds_cons (ds_set (ps_set (i := 8) nd rfl (by first | exact Or.inl rfl | exact Or.inr rfl) (de_slice (de_var (pv 4)) (do_some (de_op dd_add de_int (de_op dd_mul de_int (de_var (pv 7))))) (do_some (de_op dd_add de_int (de_op dd_mul de_int (de_var (pv 7)))))))) (ds_cons (ds_set (ps_set (i := 9) nd rfl (by first | exact Or.inl rfl | exact Or.inr rfl) (de_ix (ixd hu1) (de_var (pv 3)) (de_op dd_mod (de_callTy cd_int (by rfl) (T.free 3) PyProof.Rows.boot_int (da_cons (de_var (pv 7)) da_nil)) (de_callB cd_len (by rfl) (T.free 1) PySem.boot_len (da_cons (de_var (pv 3)) da_nil))) (fun _ _ => rfl)))) (ds_cons (ds_if (dt_cmp (dd_eq hu) (de_op dd_mod (de_callTy cd_int (by rfl) (T.free 3) PyProof.Rows.boot_int (da_cons (de_ix (ixd hu1) (de_var (pv 8)) de_int (fun _ _ => rfl)) da_nil)) de_int) de_int (nomark _)) (ds_one (ds_set (ps_set (i := 9) nd rfl (by first | exact Or.inl rfl | exact Or.inr rfl) (de_ix (ixd hu1) (de_var (pv 3)) (de_op dd_mod (de_callTy cd_int (by rfl) (T.free 3) PyProof.Rows.boot_int (da_cons (de_op dd_div (de_ix (ixd hu1) (de_var (pv 8)) de_int (fun _ _ => rfl)) de_int) da_nil)) (de_callB cd_len (by rfl) (T.free 1) PySem.boot_len (da_cons (de_var (pv 3)) da_nil))) (fun _ _ => rfl))))) ds_nil) (ds_one (ds_app (ps_expr (pe_bm PySem.F.plainAttrs_list PySem.F.slot_list_append PySem.F.type_list_append mt_append (pv 6) (pa_cons (de_callF F_l_rule (hr.mono (by decide)) (T.glo 13) hx (da_cons (de_var (pv 0)) (da_cons (de_var (pv 9)) (da_cons (de_slice (de_var (pv 8)) (do_some de_int) do_none) (da_cons (de_var (pv 5)) da_nil))))) pa_nil))))))))))) ds_nil) (ds_frz 6 (ds_one (ds_ret (de_var (pv 6))))))))))
abbrev N_l_random : List Str := ["_law_script", "_law_k", "_law_limit", "_law_first", "_law_rows", "_law_kinds", "_law_second", "_law_told"]
theorem sc_l_random : FnScope N_l_random ["_law_script", "_law_k", "_law_limit"] (defScope s_l_random) := ⟨rfl, rfl, rfl, by decide +kernel, rfl, by decide +kernel, by decide +kernel⟩
theorem wk_l_random {P : Program} {w : World} {K : PySem.W.Frag} {mg : Str → Option Value} {base : Heap} (T : Tx fa fn K mg) (F_l_numbers : FnD P w K mg base 2 (gAd "_law_numbers") 3 den_l_numbers) (F_l_symbols : FnD P w K mg base 2 (gAd "_law_symbols") 1 den_l_symbols) (F_l_names : FnD P w K mg base 1 (gAd "_law_names") 2 den_l_names) (F_l_entries : FnD P w K mg base 1 (gAd "_law_entries") 3 den_l_entries) (F_l_rules : FnD P w K mg base 123 (gAd "_law_rules") 3 den_l_rules) (F_l_lows : FnD P w K mg base 2 (gAd "_law_lows") 2 den_l_lows) : FnD P w K mg base 124 (gAd "_law_random") 3 den_l_random := by
  obtain ⟨fd, F⟩ := T.c.def_ 11 (d := d_l_random) (by rfl)
  show FnD P w K mg base (123 + 1) (gAd "_law_random") 3 (runD 8 (b_l_random))
  refine fnD_of (d := d_l_random) (k := 123) (b := b_l_random) F sc_l_random (fun _ _ _ _ _ _ _ us hl => match us, hl with | [_, _, _], _ => rfl) (fun cdv A outer s H E hr => ?_)
  have nd := sc_l_random.nd
  have hu := u200 hr
  have hu1 := u1 hr
  have hx : Passes (L2N.CX P w) (cxOf (L2N.CX P w) P w K mg base N_l_random "_law_random" (defScope s_l_random) ((gAd "_law_random") K) cdv A outer s H E) E := L2N.passes_call (L2N.takes_of rfl rfl rfl rfl) (fun _ _ _ _ h => h)
  have ho : PassesOwn (model P w) (cxOf (L2N.CX P w) P w K mg base N_l_random "_law_random" (defScope s_l_random) ((gAd "_law_random") K) cdv A outer s H E).A (cxOf (L2N.CX P w) P w K mg base N_l_random "_law_random" (defScope s_l_random) ((gAd "_law_random") K) cdv A outer s H E).env (cxOf (L2N.CX P w) P w K mg base N_l_random "_law_random" (defScope s_l_random) ((gAd "_law_random") K) cdv A outer s H E).xe := passes_of rfl
  exact (ds_cons (ds_set (ps_set (i := 3) nd rfl (by first | exact Or.inl rfl | exact Or.inr rfl) (de_callF F_l_numbers (hr.mono (by decide)) (T.glo 12) hx (da_cons (de_var (pv 0)) (da_cons (de_var (pv 1)) (da_cons de_int da_nil)))))) (ds_cons (ds_set (ps_set (i := 4) nd rfl (by first | exact Or.inl rfl | exact Or.inr rfl) (de_callF F_l_symbols (hr.mono (by decide)) (T.glo 14) hx (da_cons (de_var (pv 3)) da_nil)))) (ds_cons (ds_set (ps_set (i := 5) nd rfl (by first | exact Or.inl rfl | exact Or.inr rfl) (de_callF F_l_names (hr.mono (by decide)) (T.glo 5) hx (da_cons (de_ix (ixd hu1) (de_var (pv 3)) de_int (fun _ _ => rfl)) (da_cons (de_op dd_add de_int (de_op dd_mod (de_callTy cd_int (by rfl) (T.free 3) PyProof.Rows.boot_int (da_cons (de_ix (ixd hu1) (de_var (pv 3)) de_int (fun _ _ => rfl)) da_nil)) (de_var (pv 2)))) da_nil))))) (ds_cons (ds_set (ps_set (i := 6) nd rfl (by first | exact Or.inl rfl | exact Or.inr rfl) (de_callF F_l_numbers (hr.mono (by decide)) (T.glo 12) hx (da_cons (de_var (pv 0)) (da_cons (de_op dd_add (de_var (pv 1)) de_int) (da_cons de_int da_nil)))))) (ds_cons (ds_set (ps_set (i := 7) nd rfl (by first | exact Or.inl rfl | exact Or.inr rfl) (de_callF F_l_entries (hr.mono (by decide)) (T.glo 15) hx (da_cons (de_var (pv 4)) (da_cons (de_var (pv 5)) (da_cons (de_slice (de_var (pv 6)) do_none (do_some (de_op dd_add (de_callB cd_len (by rfl) (T.free 1) PySem.boot_len (da_cons (de_var (pv 4)) da_nil)) (de_op dd_mod (de_callTy cd_int (by rfl) (T.free 3) PyProof.Rows.boot_int (da_cons (de_ix (ixd hu1) (de_var (pv 3)) de_int (fun _ _ => rfl)) da_nil)) de_int)))) da_nil)))))) (ds_one (ds_ret (de_tup (da_cons (de_var (pv 4)) (da_cons (de_var (pv 5)) (da_cons (de_callF F_l_lows (hr.mono (by decide)) (T.glo 17) hx (da_cons (de_ix (ixd hu1) (de_var (pv 3)) de_int (fun _ _ => rfl)) (da_cons (de_var (pv 5)) da_nil))) (da_cons (de_var (pv 7)) (da_cons (de_callF F_l_rules (hr.mono (by decide)) (T.glo 16) hx (da_cons (de_var (pv 4)) (da_cons (de_var (pv 0)) (da_cons (de_op dd_add (de_var (pv 1)) de_int) da_nil)))) da_nil)))))))))))))
abbrev N_l_entry_for : List Str := ["_law_tables", "_law_numbers_here", "_law_row", "_law_kinds", "_law_parts", "_law_j"]
theorem sc_l_entry_for : FnScope N_l_entry_for ["_law_tables", "_law_numbers_here"] (defScope s_l_entry_for) := ⟨rfl, rfl, rfl, by decide +kernel, rfl, by decide +kernel, by decide +kernel⟩
theorem wk_l_entry_for {P : Program} {w : World} {K : PySem.W.Frag} {mg : Str → Option Value} {base : Heap} (T : Tx fa fn K mg) : FnD P w K mg base 1 (gAd "_law_entry_for") 2 den_l_entry_for := by
  obtain ⟨fd, F⟩ := T.c.def_ 12 (d := d_l_entry_for) (by rfl)
  show FnD P w K mg base (0 + 1) (gAd "_law_entry_for") 2 (runD 6 (b_l_entry_for))
  refine fnD_of (d := d_l_entry_for) (k := 0) (b := b_l_entry_for) F sc_l_entry_for (fun _ _ _ _ _ _ _ us hl => match us, hl with | [_, _], _ => rfl) (fun cdv A outer s H E hr => ?_)
  have nd := sc_l_entry_for.nd
  have hu := u200 hr
  have hu1 := u1 hr
  have hx : Passes (L2N.CX P w) (cxOf (L2N.CX P w) P w K mg base N_l_entry_for "_law_entry_for" (defScope s_l_entry_for) ((gAd "_law_entry_for") K) cdv A outer s H E) E := L2N.passes_call (L2N.takes_of rfl rfl rfl rfl) (fun _ _ _ _ h => h)
  have ho : PassesOwn (model P w) (cxOf (L2N.CX P w) P w K mg base N_l_entry_for "_law_entry_for" (defScope s_l_entry_for) ((gAd "_law_entry_for") K) cdv A outer s H E).A (cxOf (L2N.CX P w) P w K mg base N_l_entry_for "_law_entry_for" (defScope s_l_entry_for) ((gAd "_law_entry_for") K) cdv A outer s H E).env (cxOf (L2N.CX P w) P w K mg base N_l_entry_for "_law_entry_for" (defScope s_l_entry_for) ((gAd "_law_entry_for") K) cdv A outer s H E).xe := passes_of rfl
  exact (ds_cons (ds_set (ps_set (i := 2) nd rfl (by first | exact Or.inl rfl | exact Or.inr rfl) (de_ix (ixd hu1) (de_ix (ixd hu1) (de_var (pv 0)) de_int (fun _ _ => rfl)) (de_op dd_mod (de_callTy cd_int (by rfl) (T.free 3) PyProof.Rows.boot_int (da_cons (de_ix (ixd hu1) (de_var (pv 1)) de_int (fun _ _ => rfl)) da_nil)) (de_callB cd_len (by rfl) (T.free 1) PySem.boot_len (da_cons (de_ix (ixd hu1) (de_var (pv 0)) de_int (fun _ _ => rfl)) da_nil))) (fun _ _ => rfl)))) (ds_cons (ds_set (ps_set (i := 3) nd rfl (by first | exact Or.inl rfl | exact Or.inr rfl) (de_ix (ixd hu1) (de_var (pv 0)) de_int (fun _ _ => rfl)))) (ds_cons (ds_setLc (tg_name (i := 5) (vs := [5]) (by decide)) (ps_setLc (i := 4) (own := [("_law_j", 5)])  rfl nd rfl rfl (sw_true rfl rfl rfl (by decide +kernel)) (di_rng (by rfl) (T.free 4) (de_ix (ixd hu1) (de_var (pv 2)) de_int (fun _ _ => rfl))) (blkOk_by (own := [("_law_j", 5)]) (N := N_l_entry_for) (sc := defScope s_l_entry_for) (by decide +kernel)) (fun _ _ _ _ _ => pg_name (i := 5) nd rfl (by first | exact Or.inl rfl | exact Or.inr rfl)) (fun _ _ _ _ _ => dts_nil) (fun _ _ _ _ _ => (de_ix (ixd hu1) (de_var (pv 3)) (de_op dd_mod (de_callTy cd_int (by rfl) (T.free 3) PyProof.Rows.boot_int (da_cons (de_op dd_div (de_ix (ixd hu1) (de_var (pv 1)) de_int (fun _ _ => rfl)) (de_ix (ixd hu1) (de_lst (da_cons de_int (da_cons de_int (da_cons de_int da_nil)))) (de_var (pv 5)) (fun _ _ => rfl))) da_nil)) (de_callB cd_len (by rfl) (T.free 1) PySem.boot_len (da_cons (de_var (pv 3)) da_nil))) (fun _ _ => rfl))))) (ds_one (ds_ret (de_tup (da_cons (de_ix (ixd hu1) (de_var (pv 2)) de_int (fun _ _ => rfl)) (da_cons (de_callTy cd_tuple (by rfl) (T.free 7) PyProof.Rows.boot_tuple (da_cons (de_var (pv 4)) da_nil)) (da_cons (de_ix (ixd hu1) (de_var (pv 3)) (de_op dd_mod (de_callTy cd_int (by rfl) (T.free 3) PyProof.Rows.boot_int (da_cons (de_ix (ixd hu1) (de_var (pv 1)) de_int (fun _ _ => rfl)) da_nil)) (de_callB cd_len (by rfl) (T.free 1) PySem.boot_len (da_cons (de_var (pv 3)) da_nil))) (fun _ _ => rfl)) da_nil)))))))))
abbrev N_l_faulty : List Str := ["_law_entry", "_law_numbers_here", "_law_way", "_law_parts", "_law_at"]
theorem sc_l_faulty : FnScope N_l_faulty ["_law_entry", "_law_numbers_here"] (defScope s_l_faulty) := ⟨rfl, rfl, rfl, by decide +kernel, rfl, by decide +kernel, by decide +kernel⟩
theorem wk_l_faulty {P : Program} {w : World} {K : PySem.W.Frag} {mg : Str → Option Value} {base : Heap} (T : Tx fa fn K mg) : FnD P w K mg base 1 (gAd "_law_faulty") 2 den_l_faulty := by
  obtain ⟨fd, F⟩ := T.c.def_ 13 (d := d_l_faulty) (by rfl)
  show FnD P w K mg base (0 + 1) (gAd "_law_faulty") 2 (runD 5 (b_l_faulty))
  refine fnD_of (d := d_l_faulty) (k := 0) (b := b_l_faulty) F sc_l_faulty (fun _ _ _ _ _ _ _ us hl => match us, hl with | [_, _], _ => rfl) (fun cdv A outer s H E hr => ?_)
  have nd := sc_l_faulty.nd
  have hu := u200 hr
  have hu1 := u1 hr
  have hx : Passes (L2N.CX P w) (cxOf (L2N.CX P w) P w K mg base N_l_faulty "_law_faulty" (defScope s_l_faulty) ((gAd "_law_faulty") K) cdv A outer s H E) E := L2N.passes_call (L2N.takes_of rfl rfl rfl rfl) (fun _ _ _ _ h => h)
  have ho : PassesOwn (model P w) (cxOf (L2N.CX P w) P w K mg base N_l_faulty "_law_faulty" (defScope s_l_faulty) ((gAd "_law_faulty") K) cdv A outer s H E).A (cxOf (L2N.CX P w) P w K mg base N_l_faulty "_law_faulty" (defScope s_l_faulty) ((gAd "_law_faulty") K) cdv A outer s H E).env (cxOf (L2N.CX P w) P w K mg base N_l_faulty "_law_faulty" (defScope s_l_faulty) ((gAd "_law_faulty") K) cdv A outer s H E).xe := passes_of rfl
  exact (ds_cons (ds_set (ps_set (i := 2) nd rfl (by first | exact Or.inl rfl | exact Or.inr rfl) (de_op dd_mod (de_callTy cd_int (by rfl) (T.free 3) PyProof.Rows.boot_int (da_cons (de_ix (ixd hu1) (de_var (pv 1)) de_int (fun _ _ => rfl)) da_nil)) de_int))) (ds_cons (ds_set (ps_set (i := 3) nd rfl (by first | exact Or.inl rfl | exact Or.inr rfl) (de_ix (ixd hu1) (de_var (pv 0)) de_int (fun _ _ => rfl)))) (ds_cons (ds_set (ps_set (i := 4) nd rfl (by first | exact Or.inl rfl | exact Or.inr rfl) (de_op dd_mod (de_callTy cd_int (by rfl) (T.free 3) PyProof.Rows.boot_int (da_cons (de_ix (ixd hu1) (de_var (pv 1)) de_int (fun _ _ => rfl)) da_nil)) (de_op dd_add (de_callB cd_len (by rfl) (T.free 1) PySem.boot_len (da_cons (de_var (pv 3)) da_nil)) de_int)))) (ds_cons (ds_if (dt_cmp (dd_eq hu) (de_var (pv 2)) de_int (nomark _)) (ds_one (ds_ret (de_tup (da_cons (de_op dd_add (de_ix (ixd hu1) (de_var (pv 0)) de_int (fun _ _ => rfl)) de_str) (da_cons (de_var (pv 3)) (da_cons (de_ix (ixd hu1) (de_var (pv 0)) de_int (fun _ _ => rfl)) da_nil)))))) ds_nil) (ds_cons (ds_if (PW.pt (dw_and (dt_cmp (dd_eq hu) (de_var (pv 2)) de_int (nomark _)) (dw_and1 (dt_cmp dd_gt (de_callB cd_len (by rfl) (T.free 1) PySem.boot_len (da_cons (de_var (pv 3)) da_nil)) de_int (nomark _))))) (ds_one (ds_ret (de_tup (da_cons (de_ix (ixd hu1) (de_var (pv 0)) de_int (fun _ _ => rfl)) (da_cons (de_slice (de_var (pv 3)) (do_some de_int) do_none) (da_cons (de_ix (ixd hu1) (de_var (pv 0)) de_int (fun _ _ => rfl)) da_nil)))))) ds_nil) (ds_cons (ds_if (PW.pt (dw_and (dt_cmp (dd_eq hu) (de_var (pv 2)) de_int (nomark _)) (dw_and1 (dt_cmp dd_lt0 (de_var (pv 4)) (de_callB cd_len (by rfl) (T.free 1) PySem.boot_len (da_cons (de_var (pv 3)) da_nil)) (nomark _))))) (ds_one (ds_ret (de_tup (da_cons (de_ix (ixd hu1) (de_var (pv 0)) de_int (fun _ _ => rfl)) (da_cons (de_op dd_add (de_op dd_add (de_slice (de_var (pv 3)) do_none (do_some (de_var (pv 4)))) (de_tup (da_cons de_str da_nil))) (de_slice (de_var (pv 3)) (do_some (de_op dd_add (de_var (pv 4)) de_int)) do_none)) (da_cons (de_ix (ixd hu1) (de_var (pv 0)) de_int (fun _ _ => rfl)) da_nil)))))) ds_nil) (ds_cons (ds_if (dt_cmp (dd_eq hu) (de_var (pv 2)) de_int (nomark _)) (ds_one (ds_ret (de_tup (da_cons (de_ix (ixd hu1) (de_var (pv 0)) de_int (fun _ _ => rfl)) (da_cons (de_var (pv 3)) (da_cons de_str da_nil)))))) ds_nil) (ds_one (ds_ret (de_tup (da_cons (de_ix (ixd hu1) (de_var (pv 0)) de_int (fun _ _ => rfl)) (da_cons (de_op dd_add (de_op dd_add (de_slice (de_var (pv 3)) do_none (do_some (de_var (pv 4)))) (de_tup (da_cons (de_ix (ixd hu1) (de_var (pv 0)) de_int (fun _ _ => rfl)) da_nil))) (de_slice (de_var (pv 3)) (do_some (de_var (pv 4))) do_none)) (da_cons (de_ix (ixd hu1) (de_var (pv 0)) de_int (fun _ _ => rfl)) da_nil)))))))))))))
abbrev N_is_name : List Str := ["name", "char"]
theorem sc_is_name : FnScope N_is_name ["name"] (defScope s_is_name) := ⟨rfl, rfl, rfl, by decide +kernel, rfl, by decide +kernel, by decide +kernel⟩
theorem wk_is_name {P : Program} {w : World} {K : PySem.W.Frag} {mg : Str → Option Value} {base : Heap} (T : Tx fa fn K mg) : FnD P w K mg base 1 (gAd "is_name") 1 den_is_name := by
  obtain ⟨fd, F⟩ := T.c.def_ 14 (d := d_is_name) (by rfl)
  show FnD P w K mg base (0 + 1) (gAd "is_name") 1 (runD 2 (b_is_name))
  refine fnD_of (d := d_is_name) (k := 0) (b := b_is_name) F sc_is_name (fun _ _ _ _ _ _ _ us hl => match us, hl with | [_], _ => rfl) (fun cdv A outer s H E hr => ?_)
  have nd := sc_is_name.nd
  have hu := u200 hr
  have hu1 := u1 hr
  have hx : Passes (L2N.CX P w) (cxOf (L2N.CX P w) P w K mg base N_is_name "is_name" (defScope s_is_name) ((gAd "is_name") K) cdv A outer s H E) E := L2N.passes_call (L2N.takes_of rfl rfl rfl rfl) (fun _ _ _ _ h => h)
  have ho : PassesOwn (model P w) (cxOf (L2N.CX P w) P w K mg base N_is_name "is_name" (defScope s_is_name) ((gAd "is_name") K) cdv A outer s H E).A (cxOf (L2N.CX P w) P w K mg base N_is_name "is_name" (defScope s_is_name) ((gAd "is_name") K) cdv A outer s H E).env (cxOf (L2N.CX P w) P w K mg base N_is_name "is_name" (defScope s_is_name) ((gAd "is_name") K) cdv A outer s H E).xe := passes_of rfl
  exact (ds_cons (ds_if (PW.pt (dw_or (dt_not (dt_tru (de_isi (T := "str") rfl (T.free 8) (de_var (pv 0)) (pe_bltn (by rfl) (T.free 9) PyProof.Rows.boot_str rfl)) (by intro _; rfl))) (dw_or (dt_cmp dd_lt0 (de_callB cd_len (by rfl) (T.free 1) PySem.boot_len (da_cons (de_var (pv 0)) da_nil)) de_int (nomark _)) (dw_or1 (dt_cmp dd_gt (de_callB cd_len (by rfl) (T.free 1) PySem.boot_len (da_cons (de_var (pv 0)) da_nil)) de_int (nomark _)))))) (ds_one (ds_ret de_bl)) ds_nil) (ds_cons (ds_for [1] (tg_name (i := 1) (vs := [1]) (by decide)) (ps_for ho rfl (di_seq (de_var (pv 0))) (pg_name (i := 1) nd rfl (by first | exact Or.inl rfl | exact Or.inr rfl)) (ds_one (ds_if (dt_cmp (dd_notIn hu) (de_var (pv 1)) (let ⟨t, ht⟩ := T.str 18; de_globS (x := "LETTERS") (pe_glob rfl ht ⟨t, rfl⟩) (by decide +kernel)) (by rfl)) (ds_one (ds_ret de_bl)) ds_nil)))) (ds_one (ds_ret de_bl))))
abbrev N_check_kinds : List Str := ["kinds", "at"]
theorem sc_check_kinds : FnScope N_check_kinds ["kinds"] (defScope s_check_kinds) := ⟨rfl, rfl, rfl, by decide +kernel, rfl, by decide +kernel, by decide +kernel⟩
theorem wk_check_kinds {P : Program} {w : World} {K : PySem.W.Frag} {mg : Str → Option Value} {base : Heap} (T : Tx fa fn K mg) (F_is_name : FnD P w K mg base 1 (gAd "is_name") 1 den_is_name) : FnD P w K mg base 2 (gAd "check_kinds") 1 den_check_kinds := by
  obtain ⟨fd, F⟩ := T.c.def_ 15 (d := d_check_kinds) (by rfl)
  show FnD P w K mg base (1 + 1) (gAd "check_kinds") 1 (runD 2 (b_check_kinds))
  refine fnD_of (d := d_check_kinds) (k := 1) (b := b_check_kinds) F sc_check_kinds (fun _ _ _ _ _ _ _ us hl => match us, hl with | [_], _ => rfl) (fun cdv A outer s H E hr => ?_)
  have nd := sc_check_kinds.nd
  have hu := u200 hr
  have hu1 := u1 hr
  have hx : Passes (L2N.CX P w) (cxOf (L2N.CX P w) P w K mg base N_check_kinds "check_kinds" (defScope s_check_kinds) ((gAd "check_kinds") K) cdv A outer s H E) E := L2N.passes_call (L2N.takes_of rfl rfl rfl rfl) (fun _ _ _ _ h => h)
  have ho : PassesOwn (model P w) (cxOf (L2N.CX P w) P w K mg base N_check_kinds "check_kinds" (defScope s_check_kinds) ((gAd "check_kinds") K) cdv A outer s H E).A (cxOf (L2N.CX P w) P w K mg base N_check_kinds "check_kinds" (defScope s_check_kinds) ((gAd "check_kinds") K) cdv A outer s H E).env (cxOf (L2N.CX P w) P w K mg base N_check_kinds "check_kinds" (defScope s_check_kinds) ((gAd "check_kinds") K) cdv A outer s H E).xe := passes_of rfl
  exact (ds_one (ds_for [1] (tg_name (i := 1) (vs := [1]) (by decide)) (ps_for ho rfl (di_rng (by rfl) (T.free 4) (de_callB cd_len (by rfl) (T.free 1) PySem.boot_len (da_cons (de_var (pv 0)) da_nil))) (pg_name (i := 1) nd rfl (by first | exact Or.inl rfl | exact Or.inr rfl)) (ds_one (ds_if (PW.pt (dw_or (dt_not (dt_tru (de_callF F_is_name (hr.mono (by decide)) (T.glo 19) hx (da_cons (de_ix (ixd hu1) (de_var (pv 0)) (de_var (pv 1)) (fun _ _ => rfl)) da_nil)) (by intro _; rfl))) (dw_or1 (dt_cmp (dd_in hu) (de_ix (ixd hu1) (de_var (pv 0)) (de_var (pv 1)) (fun _ _ => rfl)) (de_slice (de_var (pv 0)) do_none (do_some (de_var (pv 1)))) (by rfl))))) (ds_one ds_never) ds_nil)))))
abbrev N_kinds_above : List Str := ["kinds", "under", "above", "kind", "low", "high", "name"]
theorem sc_kinds_above : FnScope N_kinds_above ["kinds", "under"] (defScope s_kinds_above) := ⟨rfl, rfl, rfl, by decide +kernel, rfl, by decide +kernel, by decide +kernel⟩
theorem wk_kinds_above {P : Program} {w : World} {K : PySem.W.Frag} {mg : Str → Option Value} {base : Heap} (T : Tx fa fn K mg) : FnD P w K mg base 1 (gAd "kinds_above") 2 den_kinds_above := by
  obtain ⟨fd, F⟩ := T.c.def_ 16 (d := d_kinds_above) (by rfl)
  show FnD P w K mg base (0 + 1) (gAd "kinds_above") 2 (runD 7 (b_kinds_above))
  refine fnD_of (d := d_kinds_above) (k := 0) (b := b_kinds_above) F sc_kinds_above (fun _ _ _ _ _ _ _ us hl => match us, hl with | [_, _], _ => rfl) (fun cdv A outer s H E hr => ?_)
  have nd := sc_kinds_above.nd
  have hu := u200 hr
  have hu1 := u1 hr
  have hx : Passes (L2N.CX P w) (cxOf (L2N.CX P w) P w K mg base N_kinds_above "kinds_above" (defScope s_kinds_above) ((gAd "kinds_above") K) cdv A outer s H E) E := L2N.passes_call (L2N.takes_of rfl rfl rfl rfl) (fun _ _ _ _ h => h)
  have ho : PassesOwn (model P w) (cxOf (L2N.CX P w) P w K mg base N_kinds_above "kinds_above" (defScope s_kinds_above) ((gAd "kinds_above") K) cdv A outer s H E).A (cxOf (L2N.CX P w) P w K mg base N_kinds_above "kinds_above" (defScope s_kinds_above) ((gAd "kinds_above") K) cdv A outer s H E).env (cxOf (L2N.CX P w) P w K mg base N_kinds_above "kinds_above" (defScope s_kinds_above) ((gAd "kinds_above") K) cdv A outer s H E).xe := passes_of rfl
  exact (ds_cons (ds_newD (ps_set (i := 2) nd rfl (by first | exact Or.inl rfl | exact Or.inr rfl) pe_dnewK)) (ds_cons (ds_for [] (tg_name (i := 3) (vs := [3]) (by decide)) (ps_for ho rfl (di_seq (de_var (pv 0))) (pg_name (i := 3) nd rfl (by first | exact Or.inl rfl | exact Or.inr rfl)) (ds_one (ds_putD (ps_dput hu1 (pv 2) (de_var (pv 3)) (de_lst (da_cons (de_var (pv 3)) da_nil)) rfl))))) (ds_cons (ds_for [4, 5] (tg_tup (is := [4, 5]) (vs := [4, 5]) (by decide)) (ps_for ho rfl (di_seq (de_var (pv 1))) (pg_tup (by rfl) (pgs_cons (pg_name (i := 4) nd rfl (by first | exact Or.inl rfl | exact Or.inr rfl)) (pgs_cons (pg_name (i := 5) nd rfl (by first | exact Or.inl rfl | exact Or.inr rfl)) pgs_nil))) (ds_cons (ds_for [] (tg_name (i := 3) (vs := [3]) (by decide)) (ps_for ho rfl (di_seq (de_tup (da_cons (de_var (pv 4)) (da_cons (de_var (pv 5)) da_nil)))) (pg_name (i := 3) nd rfl (by first | exact Or.inl rfl | exact Or.inr rfl)) (ds_one (ds_if (dt_inD true (i := 2) rfl hu1 (de_var (pv 3)) (pv 2) (by rfl)) (ds_one ds_never) ds_nil)))) (ds_cons (ds_if (dt_cmp (dd_in hu) (de_var (pv 4)) (de_ixD hu1 (pv 2) (de_var (pv 5)) (fun _ _ => rfl)) (by rfl)) (ds_one ds_never) ds_nil) (ds_one (ds_for [] (tg_name (i := 3) (vs := [3]) (by decide)) (ps_for ho rfl (di_seq (de_var (pv 0))) (pg_name (i := 3) nd rfl (by first | exact Or.inl rfl | exact Or.inr rfl)) (ds_one (ds_if (dt_cmp (dd_in hu) (de_var (pv 4)) (de_ixD hu1 (pv 2) (de_var (pv 3)) (fun _ _ => rfl)) (by rfl)) (ds_one (ds_putD (ps_dput hu1 (pv 2) (de_var (pv 3)) (de_lc (tg_name (i := 6) (vs := [6]) (by decide)) (pe_lc (own := [("name", 6)])  rfl nd (di_seq (de_var (pv 0))) (blkOk_by (own := [("name", 6)]) (N := N_kinds_above) (sc := defScope s_kinds_above) (by decide +kernel)) (fun _ _ _ _ _ => pg_name (i := 6) nd rfl (by first | exact Or.inl rfl | exact Or.inr rfl)) (fun _ _ _ _ _ => dts_one (PW.pt (dw_or (dt_cmp (dd_in hu) (de_var (pv 6)) (de_ixD hu1 (pv 2) (de_var (pv 3)) (fun _ _ => rfl)) (by rfl)) (dw_or1 (dt_cmp (dd_in hu) (de_var (pv 6)) (de_ixD hu1 (pv 2) (de_var (pv 5)) (fun _ _ => rfl)) (by rfl)))))) (fun _ _ _ _ _ => (de_var (pv 6))))) rfl))) ds_nil))))))))) (ds_frz 2 (ds_one (ds_ret (de_var (pv 2))))))))
abbrev N_signature_symbols : List Str := ["self"]
theorem sc_signature_symbols : FnScope N_signature_symbols ["self"] (defScope s_signature_symbols) := ⟨rfl, rfl, rfl, by decide +kernel, rfl, by decide +kernel, by decide +kernel⟩
theorem wk_signature_symbols {P : Program} {w : World} {K : PySem.W.Frag} {mg : Str → Option Value} {base : Heap} (T : Tx fa fn K mg) : FnD P w K mg base 1 (pAd "Signature" "symbols") 1 den_signature_symbols := by
  obtain ⟨fd, F⟩ := T.c.def_ 17 (d := d_signature_symbols) (by rfl)
  show FnD P w K mg base (0 + 1) (pAd "Signature" "symbols") 1 (runD 1 (b_signature_symbols))
  refine fnD_of (d := d_signature_symbols) (k := 0) (b := b_signature_symbols) F sc_signature_symbols (fun _ _ _ _ _ _ _ us hl => match us, hl with | [_], _ => rfl) (fun cdv A outer s H E hr => ?_)
  have nd := sc_signature_symbols.nd
  have hu := u200 hr
  have hu1 := u1 hr
  have hx : Passes (L2N.CX P w) (cxOf (L2N.CX P w) P w K mg base N_signature_symbols "Signature.symbols" (defScope s_signature_symbols) ((pAd "Signature" "symbols") K) cdv A outer s H E) E := L2N.passes_call (L2N.takes_of rfl rfl rfl rfl) (fun _ _ _ _ h => h)
  have ho : PassesOwn (model P w) (cxOf (L2N.CX P w) P w K mg base N_signature_symbols "Signature.symbols" (defScope s_signature_symbols) ((pAd "Signature" "symbols") K) cdv A outer s H E).A (cxOf (L2N.CX P w) P w K mg base N_signature_symbols "Signature.symbols" (defScope s_signature_symbols) ((pAd "Signature" "symbols") K) cdv A outer s H E).env (cxOf (L2N.CX P w) P w K mg base N_signature_symbols "Signature.symbols" (defScope s_signature_symbols) ((pAd "Signature" "symbols") K) cdv A outer s H E).xe := passes_of rfl
  exact (ds_one (ds_ret (de_callTy cd_tuple (by rfl) (T.free 7) PyProof.Rows.boot_tuple (da_cons (de_fld (c := "Signature") (T.cls 20) (T.noat 21) (de_var (pv 0))) da_nil))))
abbrev N_signature_number : List Str := ["self", "name"]
theorem sc_signature_number : FnScope N_signature_number ["self", "name"] (defScope s_signature_number) := ⟨rfl, rfl, rfl, by decide +kernel, rfl, by decide +kernel, by decide +kernel⟩
theorem wk_signature_number {P : Program} {w : World} {K : PySem.W.Frag} {mg : Str → Option Value} {base : Heap} (T : Tx fa fn K mg) : FnD P w K mg base 1 (mAd "Signature" "number") 2 den_signature_number := by
  obtain ⟨fd, F⟩ := T.c.def_ 18 (d := d_signature_number) (by rfl)
  show FnD P w K mg base (0 + 1) (mAd "Signature" "number") 2 (runD 2 (b_signature_number))
  refine fnD_of (d := d_signature_number) (k := 0) (b := b_signature_number) F sc_signature_number (fun _ _ _ _ _ _ _ us hl => match us, hl with | [_, _], _ => rfl) (fun cdv A outer s H E hr => ?_)
  have nd := sc_signature_number.nd
  have hu := u200 hr
  have hu1 := u1 hr
  have hx : Passes (L2N.CX P w) (cxOf (L2N.CX P w) P w K mg base N_signature_number "Signature.number" (defScope s_signature_number) ((mAd "Signature" "number") K) cdv A outer s H E) E := L2N.passes_call (L2N.takes_of rfl rfl rfl rfl) (fun _ _ _ _ h => h)
  have ho : PassesOwn (model P w) (cxOf (L2N.CX P w) P w K mg base N_signature_number "Signature.number" (defScope s_signature_number) ((mAd "Signature" "number") K) cdv A outer s H E).A (cxOf (L2N.CX P w) P w K mg base N_signature_number "Signature.number" (defScope s_signature_number) ((mAd "Signature" "number") K) cdv A outer s H E).env (cxOf (L2N.CX P w) P w K mg base N_signature_number "Signature.number" (defScope s_signature_number) ((mAd "Signature" "number") K) cdv A outer s H E).xe := passes_of rfl
  exact (ds_cons (ds_if (dt_cmp (dd_notIn hu) (de_var (pv 1)) (de_fld (c := "Signature") (T.cls 20) (T.noat 22) (de_var (pv 0))) (by rfl)) (ds_one ds_never) ds_nil) (ds_one (ds_ret (de_ix (ixd hu1) (de_fld (c := "Signature") (T.cls 20) (T.noat 22) (de_var (pv 0))) (de_var (pv 1)) (fun _ _ => rfl)))))
abbrev N_signature_places : List Str := ["self", "name"]
theorem sc_signature_places : FnScope N_signature_places ["self", "name"] (defScope s_signature_places) := ⟨rfl, rfl, rfl, by decide +kernel, rfl, by decide +kernel, by decide +kernel⟩
theorem wk_signature_places {P : Program} {w : World} {K : PySem.W.Frag} {mg : Str → Option Value} {base : Heap} (T : Tx fa fn K mg) (F_signature_number : FnD P w K mg base 1 (mAd "Signature" "number") 2 den_signature_number) : FnD P w K mg base 2 (mAd "Signature" "places") 2 den_signature_places := by
  obtain ⟨fd, F⟩ := T.c.def_ 19 (d := d_signature_places) (by rfl)
  show FnD P w K mg base (1 + 1) (mAd "Signature" "places") 2 (runD 2 (b_signature_places))
  refine fnD_of (d := d_signature_places) (k := 1) (b := b_signature_places) F sc_signature_places (fun _ _ _ _ _ _ _ us hl => match us, hl with | [_, _], _ => rfl) (fun cdv A outer s H E hr => ?_)
  have nd := sc_signature_places.nd
  have hu := u200 hr
  have hu1 := u1 hr
  have hx : Passes (L2N.CX P w) (cxOf (L2N.CX P w) P w K mg base N_signature_places "Signature.places" (defScope s_signature_places) ((mAd "Signature" "places") K) cdv A outer s H E) E := L2N.passes_call (L2N.takes_of rfl rfl rfl rfl) (fun _ _ _ _ h => h)
  have ho : PassesOwn (model P w) (cxOf (L2N.CX P w) P w K mg base N_signature_places "Signature.places" (defScope s_signature_places) ((mAd "Signature" "places") K) cdv A outer s H E).A (cxOf (L2N.CX P w) P w K mg base N_signature_places "Signature.places" (defScope s_signature_places) ((mAd "Signature" "places") K) cdv A outer s H E).env (cxOf (L2N.CX P w) P w K mg base N_signature_places "Signature.places" (defScope s_signature_places) ((mAd "Signature" "places") K) cdv A outer s H E).xe := passes_of rfl
  exact (ds_one (ds_ret (de_ix (ixd hu1) (de_ix (ixd hu1) (de_fld (c := "Signature") (T.cls 20) (T.noat 21) (de_var (pv 0))) (de_methF F_signature_number (hr.mono (by decide)) (T.cls 20) (T.meth 23) hx (de_var (pv 0)) (da_cons (de_var (pv 1)) da_nil)) (fun _ _ => rfl)) de_int (fun _ _ => rfl))))
abbrev N_choices : List Str := ["lists", "found", "row", "made", "item"]
theorem sc_choices : FnScope N_choices ["lists"] (defScope s_choices) := ⟨rfl, rfl, rfl, by decide +kernel, rfl, by decide +kernel, by decide +kernel⟩
theorem wk_choices {P : Program} {w : World} {K : PySem.W.Frag} {mg : Str → Option Value} {base : Heap} (T : Tx fa fn K mg) : FnD P w K mg base 1 (gAd "choices") 1 den_choices := by
  obtain ⟨fd, F⟩ := T.c.def_ 20 (d := d_choices) (by rfl)
  show FnD P w K mg base (0 + 1) (gAd "choices") 1 (runD 5 (b_choices))
  refine fnD_of (d := d_choices) (k := 0) (b := b_choices) F sc_choices (fun _ _ _ _ _ _ _ us hl => match us, hl with | [_], _ => rfl) (fun cdv A outer s H E hr => ?_)
  have nd := sc_choices.nd
  have hu := u200 hr
  have hu1 := u1 hr
  have hx : Passes (L2N.CX P w) (cxOf (L2N.CX P w) P w K mg base N_choices "choices" (defScope s_choices) ((gAd "choices") K) cdv A outer s H E) E := L2N.passes_call (L2N.takes_of rfl rfl rfl rfl) (fun _ _ _ _ h => h)
  have ho : PassesOwn (model P w) (cxOf (L2N.CX P w) P w K mg base N_choices "choices" (defScope s_choices) ((gAd "choices") K) cdv A outer s H E).A (cxOf (L2N.CX P w) P w K mg base N_choices "choices" (defScope s_choices) ((gAd "choices") K) cdv A outer s H E).env (cxOf (L2N.CX P w) P w K mg base N_choices "choices" (defScope s_choices) ((gAd "choices") K) cdv A outer s H E).xe := passes_of rfl
  exact (ds_cons (ds_set (ps_set (i := 1) nd rfl (by first | exact Or.inl rfl | exact Or.inr rfl) (de_lst (da_cons (de_tup da_nil) da_nil)))) (ds_cons (ds_for [2] (tg_name (i := 2) (vs := [2]) (by decide)) (ps_for ho rfl (di_seq (de_var (pv 0))) (pg_name (i := 2) nd rfl (by first | exact Or.inl rfl | exact Or.inr rfl)) (ds_one (ds_setLc2 (tg_name (i := 3) (vs := [3, 4]) (by decide)) (tg_name (i := 4) (vs := [4]) (by decide)) (ps_setLc2 (i := 1) (own := [("made", 3), ("item", 4)]) (vs1 := [4])  rfl nd rfl rfl (sw_true rfl rfl rfl (by decide +kernel)) (di_seq (de_var (pv 1))) (blkOk_by (own := [("made", 3), ("item", 4)]) (N := N_choices) (sc := defScope s_choices) (by decide +kernel)) (by decide) (fun _ _ _ _ _ => pg_name (i := 3) nd rfl (by first | exact Or.inl rfl | exact Or.inr rfl)) (fun _ _ _ _ _ => dts_nil) (fun _ _ _ _ _ => (di_seq (de_var (pv 2)))) (fun _ _ _ _ _ => pg_name (i := 4) nd rfl (by first | exact Or.inl rfl | exact Or.inr rfl)) (fun _ _ _ _ _ => dts_nil) (fun _ _ _ _ _ => (de_op dd_add (de_var (pv 3)) (de_tup (da_cons (de_var (pv 4)) da_nil))))))))) (ds_one (ds_ret (de_var (pv 1))))))
abbrev N_possible_entries : List Str := ["signature", "kinds", "name", "lists", "parts", "kind"]
theorem sc_possible_entries : FnScope N_possible_entries ["signature", "kinds", "name"] (defScope s_possible_entries) := ⟨rfl, rfl, rfl, by decide +kernel, rfl, by decide +kernel, by decide +kernel⟩
theorem wk_possible_entries {P : Program} {w : World} {K : PySem.W.Frag} {mg : Str → Option Value} {base : Heap} (T : Tx fa fn K mg) (F_signature_places : FnD P w K mg base 2 (mAd "Signature" "places") 2 den_signature_places) (F_choices : FnD P w K mg base 1 (gAd "choices") 1 den_choices) : FnD P w K mg base 3 (gAd "possible_entries") 3 den_possible_entries := by
  obtain ⟨fd, F⟩ := T.c.def_ 21 (d := d_possible_entries) (by rfl)
  show FnD P w K mg base (2 + 1) (gAd "possible_entries") 3 (runD 6 (b_possible_entries))
  refine fnD_of (d := d_possible_entries) (k := 2) (b := b_possible_entries) F sc_possible_entries (fun _ _ _ _ _ _ _ us hl => match us, hl with | [_, _, _], _ => rfl) (fun cdv A outer s H E hr => ?_)
  have nd := sc_possible_entries.nd
  have hu := u200 hr
  have hu1 := u1 hr
  have hx : Passes (L2N.CX P w) (cxOf (L2N.CX P w) P w K mg base N_possible_entries "possible_entries" (defScope s_possible_entries) ((gAd "possible_entries") K) cdv A outer s H E) E := L2N.passes_call (L2N.takes_of rfl rfl rfl rfl) (fun _ _ _ _ h => h)
  have ho : PassesOwn (model P w) (cxOf (L2N.CX P w) P w K mg base N_possible_entries "possible_entries" (defScope s_possible_entries) ((gAd "possible_entries") K) cdv A outer s H E).A (cxOf (L2N.CX P w) P w K mg base N_possible_entries "possible_entries" (defScope s_possible_entries) ((gAd "possible_entries") K) cdv A outer s H E).env (cxOf (L2N.CX P w) P w K mg base N_possible_entries "possible_entries" (defScope s_possible_entries) ((gAd "possible_entries") K) cdv A outer s H E).xe := passes_of rfl
  exact (ds_cons (ds_set (ps_set (i := 3) nd rfl (by first | exact Or.inl rfl | exact Or.inr rfl) (de_op dd_mul (de_lst (da_cons (de_var (pv 1)) da_nil)) (de_methF F_signature_places (hr.mono (by decide)) (T.cls 20) (T.meth 24) hx (de_var (pv 0)) (da_cons (de_var (pv 2)) da_nil))))) (ds_one (ds_ret (de_lc2 (tg_name (i := 4) (vs := [4, 5]) (by decide)) (tg_name (i := 5) (vs := [5]) (by decide)) (pe_lc2 (own := [("parts", 4), ("kind", 5)]) (vs1 := [5])  rfl nd (di_seq (de_callF F_choices (hr.mono (by decide)) (T.glo 25) hx (da_cons (de_var (pv 3)) da_nil))) (blkOk_by (own := [("parts", 4), ("kind", 5)]) (N := N_possible_entries) (sc := defScope s_possible_entries) (by decide +kernel)) (by decide) (fun _ _ _ _ _ => pg_name (i := 4) nd rfl (by first | exact Or.inl rfl | exact Or.inr rfl)) (fun _ _ _ _ _ => dts_nil) (fun _ _ _ _ _ => (di_seq (de_var (pv 1)))) (fun _ _ _ _ _ => pg_name (i := 5) nd rfl (by first | exact Or.inl rfl | exact Or.inr rfl)) (fun _ _ _ _ _ => dts_nil) (fun _ _ _ _ _ => (de_tup (da_cons (de_var (pv 2)) (da_cons (de_var (pv 4)) (da_cons (de_var (pv 5)) da_nil))))))))))
abbrev N_in_canonical_order : List Str := ["signature", "kinds", "entries", "told", "entry", "row"]
theorem sc_in_canonical_order : FnScope N_in_canonical_order ["signature", "kinds", "entries"] (defScope s_in_canonical_order) := ⟨rfl, rfl, rfl, by decide +kernel, rfl, by decide +kernel, by decide +kernel⟩
theorem wk_in_canonical_order {P : Program} {w : World} {K : PySem.W.Frag} {mg : Str → Option Value} {base : Heap} (T : Tx fa fn K mg) (F_signature_symbols : FnD P w K mg base 1 (pAd "Signature" "symbols") 1 den_signature_symbols) (F_possible_entries : FnD P w K mg base 3 (gAd "possible_entries") 3 den_possible_entries) : FnD P w K mg base 4 (gAd "in_canonical_order") 3 (den_in_canonical_order w) := by
  obtain ⟨fd, F⟩ := T.c.def_ 22 (d := d_in_canonical_order) (by rfl)
  show FnD P w K mg base (3 + 1) (gAd "in_canonical_order") 3 (runD 6 (b_in_canonical_order w))
  refine fnD_of (d := d_in_canonical_order) (k := 3) (b := b_in_canonical_order w) F sc_in_canonical_order (fun _ _ _ _ _ _ _ us hl => match us, hl with | [_, _, _], _ => rfl) (fun cdv A outer s H E hr => ?_)
  have nd := sc_in_canonical_order.nd
  have hu := u200 hr
  have hu1 := u1 hr
  have hx : Passes (L2N.CX P w) (cxOf (L2N.CX P w) P w K mg base N_in_canonical_order "in_canonical_order" (defScope s_in_canonical_order) ((gAd "in_canonical_order") K) cdv A outer s H E) E := L2N.passes_call (L2N.takes_of rfl rfl rfl rfl) (fun _ _ _ _ h => h)
  have ho : PassesOwn (model P w) (cxOf (L2N.CX P w) P w K mg base N_in_canonical_order "in_canonical_order" (defScope s_in_canonical_order) ((gAd "in_canonical_order") K) cdv A outer s H E).A (cxOf (L2N.CX P w) P w K mg base N_in_canonical_order "in_canonical_order" (defScope s_in_canonical_order) ((gAd "in_canonical_order") K) cdv A outer s H E).env (cxOf (L2N.CX P w) P w K mg base N_in_canonical_order "in_canonical_order" (defScope s_in_canonical_order) ((gAd "in_canonical_order") K) cdv A outer s H E).xe := passes_of rfl
  exact (ds_cons (ds_dcN (tg_name (i := 4) (vs := [4]) (by decide)) (ps_set (i := 3) nd rfl (by first | exact Or.inl rfl | exact Or.inr rfl) (pe_dcN (own := [("entry", 4)]) (u9 hu) rfl nd (di_seq (de_var (pv 2))) (blkOk_by (own := [("entry", 4)]) (N := N_in_canonical_order) (sc := defScope s_in_canonical_order) (by decide +kernel)) (fun _ _ _ _ _ => pg_name (i := 4) nd rfl (by first | exact Or.inl rfl | exact Or.inr rfl)) (fun _ _ _ _ _ => dts_nil) (fun _ _ _ _ _ => (de_var (pv 4))) (fun _ _ _ _ _ => de_bl)))) (ds_one (ds_ret (de_lc2 (tg_name (i := 5) (vs := [5, 4]) (by decide)) (tg_name (i := 4) (vs := [4]) (by decide)) (pe_lc2 (own := [("row", 5), ("entry", 4)]) (vs1 := [4])  rfl nd (di_seq (de_propF F_signature_symbols (hr.mono (by decide)) (T.cls 20) (T.prop 26) (de_var (pv 0)))) (blkOk_by (own := [("row", 5), ("entry", 4)]) (N := N_in_canonical_order) (sc := defScope s_in_canonical_order) (by decide +kernel)) (by decide) (fun _ _ _ _ _ => pg_name (i := 5) nd rfl (by first | exact Or.inl rfl | exact Or.inr rfl)) (fun _ _ _ _ _ => dts_nil) (fun _ _ _ _ _ => (di_seq (de_callF F_possible_entries (hr.mono (by decide)) (T.glo 27) passN (da_cons (de_var (pv 0)) (da_cons (de_var (pv 1)) (da_cons (de_ix (ixd hu1) (de_var (pv 5)) de_int (fun _ _ => rfl)) da_nil)))))) (fun _ _ _ _ _ => pg_name (i := 4) nd rfl (by first | exact Or.inl rfl | exact Or.inr rfl)) (fun _ _ _ _ _ => dts_one (dt_inN false (i := 3) rfl (u9 hu) (de_var (pv 4)) (pv 3) (by rfl))) (fun _ _ _ _ _ => (de_var (pv 4))))))))
abbrev N_book_has_place : List Str := ["self", "name", "parts", "part"]
theorem sc_book_has_place : FnScope N_book_has_place ["self", "name", "parts"] (defScope s_book_has_place) := ⟨rfl, rfl, rfl, by decide +kernel, rfl, by decide +kernel, by decide +kernel⟩
theorem wk_book_has_place {P : Program} {w : World} {K : PySem.W.Frag} {mg : Str → Option Value} {base : Heap} (T : Tx fa fn K mg) (F_signature_places : FnD P w K mg base 2 (mAd "Signature" "places") 2 den_signature_places) : FnD P w K mg base 3 (mAd "Book" "has_place") 3 den_book_has_place := by
  obtain ⟨fd, F⟩ := T.c.def_ 23 (d := d_book_has_place) (by rfl)
  show FnD P w K mg base (2 + 1) (mAd "Book" "has_place") 3 (runD 4 (b_book_has_place))
  refine fnD_of (d := d_book_has_place) (k := 2) (b := b_book_has_place) F sc_book_has_place (fun _ _ _ _ _ _ _ us hl => match us, hl with | [_, _, _], _ => rfl) (fun cdv A outer s H E hr => ?_)
  have nd := sc_book_has_place.nd
  have hu := u200 hr
  have hu1 := u1 hr
  have hx : Passes (L2N.CX P w) (cxOf (L2N.CX P w) P w K mg base N_book_has_place "Book.has_place" (defScope s_book_has_place) ((mAd "Book" "has_place") K) cdv A outer s H E) E := L2N.passes_call (L2N.takes_of rfl rfl rfl rfl) (fun _ _ _ _ h => h)
  have ho : PassesOwn (model P w) (cxOf (L2N.CX P w) P w K mg base N_book_has_place "Book.has_place" (defScope s_book_has_place) ((mAd "Book" "has_place") K) cdv A outer s H E).A (cxOf (L2N.CX P w) P w K mg base N_book_has_place "Book.has_place" (defScope s_book_has_place) ((mAd "Book" "has_place") K) cdv A outer s H E).env (cxOf (L2N.CX P w) P w K mg base N_book_has_place "Book.has_place" (defScope s_book_has_place) ((mAd "Book" "has_place") K) cdv A outer s H E).xe := passes_of rfl
  exact (ds_cons (ds_if (PW.pt (dw_or (dt_cmp (dd_notIn hu) (de_var (pv 1)) (de_fld (c := "Signature") (T.cls 20) (T.noat 22) (de_fld (c := "Book") (T.cls 28) (T.noat 29) (de_var (pv 0)))) (by rfl)) (dw_or1 (dt_cmp (dd_ne hu) (de_callB cd_len (by rfl) (T.free 1) PySem.boot_len (da_cons (de_var (pv 2)) da_nil)) (de_methF F_signature_places (hr.mono (by decide)) (T.cls 20) (T.meth 24) hx (de_fld (c := "Book") (T.cls 28) (T.noat 29) (de_var (pv 0))) (da_cons (de_var (pv 1)) da_nil)) (nomark _))))) (ds_one (ds_ret de_bl)) ds_nil) (ds_one (ds_ret (de_callB (cd_all rfl) (by rfl) (T.free 31) PyProof.Rows.boot_all (da_cons (de_lc (tg_name (i := 3) (vs := [3]) (by decide)) (pe_lc (own := [("part", 3)])  rfl nd (di_seq (de_var (pv 2))) (blkOk_by (own := [("part", 3)]) (N := N_book_has_place) (sc := defScope s_book_has_place) (by decide +kernel)) (fun _ _ _ _ _ => pg_name (i := 3) nd rfl (by first | exact Or.inl rfl | exact Or.inr rfl)) (fun _ _ _ _ _ => dts_nil) (fun _ _ _ _ _ => (de_cmp (dd_in hu) (de_var (pv 3)) (de_fld (c := "Book") (T.cls 28) (T.noat 30) (de_var (pv 0))) (by rfl))))) da_nil)))))
abbrev N_book_init : List Str := ["self", "signature", "kinds", "under", "entries", "told", "name", "parts", "kind"]
theorem sc_book_init : FnScope N_book_init ["self", "signature", "kinds", "under", "entries"] (defScope s_book_init) := ⟨rfl, rfl, rfl, by decide +kernel, rfl, by decide +kernel, by decide +kernel⟩
theorem wk_book_init {P : Program} {w : World} {K : PySem.W.Frag} {mg : Str → Option Value} {base : Heap} (T : Tx fa fn K mg) (F_check_kinds : FnD P w K mg base 2 (gAd "check_kinds") 1 den_check_kinds) (F_kinds_above : FnD P w K mg base 1 (gAd "kinds_above") 2 den_kinds_above) (F_book_has_place : FnD P w K mg base 3 (mAd "Book" "has_place") 3 den_book_has_place) (F_in_canonical_order : FnD P w K mg base 4 (gAd "in_canonical_order") 3 (den_in_canonical_order w)) : MkK P w K mg base 5 "Book" 2 2 ["under", "entries"] (den_book_init w) := by
  obtain ⟨fd, F⟩ := T.c.def_ 24 (d := d_book_init) (by rfl)
  refine ⟨fd, ["self", "signature", "kinds", "under", "entries"], _, ?_, KD.kbindsA F (fun kV doc pm an cdv ct us ws h1 h2 => match us, ws, h1, h2 with | [_, _, _], [_, _], _, _ => rfl), rfl⟩
  show FnOk P w K mg base (L2N.CX P w) (4 + 1) (He.ma K (He.ga K "Book") "__init__") fd ["self", "signature", "kinds", "under", "entries"] (spIx K "Book" 4 (initD 8 "Book" (b_book_init w)))
  refine fn_I (c := "Book") (k := 4) (b := b_book_init w) F sc_book_init (fun cdv A outer s H E hr => ?_)
  have nd := sc_book_init.nd
  have hu := u200 hr
  have hu1 := u1 hr
  have hx : Passes (L2N.CX P w) (cxOf (L2N.CX P w) P w K mg base N_book_init "Book.__init__" (defScope s_book_init) ((mAd "Book" "__init__") K) cdv A outer s H E) E := L2N.passes_call (L2N.takes_of rfl rfl rfl rfl) (fun _ _ _ _ h => h)
  have ho : PassesOwn (model P w) (cxOf (L2N.CX P w) P w K mg base N_book_init "Book.__init__" (defScope s_book_init) ((mAd "Book" "__init__") K) cdv A outer s H E).A (cxOf (L2N.CX P w) P w K mg base N_book_init "Book.__init__" (defScope s_book_init) ((mAd "Book" "__init__") K) cdv A outer s H E).env (cxOf (L2N.CX P w) P w K mg base N_book_init "Book.__init__" (defScope s_book_init) ((mAd "Book" "__init__") K) cdv A outer s H E).xe := passes_of rfl
  exact (ds_cons (ds_expr (de_callF F_check_kinds (hr.mono (by decide)) (T.glo 32) hx (da_cons (de_var (pv 2)) da_nil))) (ds_cons (ds_fldS (T.cls 28) (T.noat 29) (ps_fld (pv 0) (de_var (pv 1)) rfl)) (ds_cons (ds_fldS (T.cls 28) (T.noat 33) (ps_fld (pv 0) (de_callTy (cd_list rfl) (by rfl) (T.free 34) PyProof.Rows.boot_list (da_cons (de_var (pv 2)) da_nil)) rfl)) (ds_cons (ds_fldS (T.cls 28) (T.noat 30) (ps_fld (pv 0) (de_callF F_kinds_above (hr.mono (by decide)) (T.glo 35) hx (da_cons (de_fldO (c := "Book") (T.cls 28) (T.noat 33) (pv 0)) (da_cons (de_var (pv 3)) da_nil))) rfl)) (ds_cons (ds_fldS (T.cls 28) (T.noat 36) (ps_fld (pv 0) (de_lst da_nil) rfl)) (ds_cons (ds_new (ps_set (i := 5) nd rfl (by first | exact Or.inl rfl | exact Or.inr rfl) (pe_lst pa_nil))) (ds_cons (ds_for [6, 7, 8] (tg_tup (is := [6, 7, 8]) (vs := [6, 7, 8]) (by decide)) (ps_for ho rfl (di_seq (de_var (pv 4))) (pg_tup (by rfl) (pgs_cons (pg_name (i := 6) nd rfl (by first | exact Or.inl rfl | exact Or.inr rfl)) (pgs_cons (pg_name (i := 7) nd rfl (by first | exact Or.inl rfl | exact Or.inr rfl)) (pgs_cons (pg_name (i := 8) nd rfl (by first | exact Or.inl rfl | exact Or.inr rfl)) pgs_nil)))) (ds_cons (ds_if (dt_tmp 0 (PW.pt (dw_or (dt_not (dt_tru (de_methF F_book_has_place (hr.mono (by decide)) (T.cls 28) (T.meth 37) hx (de_var (pv 0)) (da_cons (de_var (pv 6)) (da_cons (de_var (pv 7)) da_nil))) (by intro _; rfl))) (dw_or1 (dt_cmp (dd_notIn hu) (de_var (pv 8)) (de_fld (c := "Book") (T.cls 28) (T.noat 30) (de_var (pv 0))) (by rfl)))))) (ds_one ds_never) ds_nil) (ds_one (ds_app (ps_expr (pe_bm PySem.F.plainAttrs_list PySem.F.slot_list_append PySem.F.type_list_append mt_append (pv 5) (pa_cons (de_tup (da_cons (de_var (pv 6)) (da_cons (de_callTy cd_tuple (by rfl) (T.free 7) PyProof.Rows.boot_tuple (da_cons (de_var (pv 7)) da_nil)) (da_cons (de_var (pv 8)) da_nil)))) pa_nil)))))))) (ds_frz 5 (ds_one (ds_fldS (T.cls 28) (T.noat 36) (ps_fld (pv 0) (de_callF F_in_canonical_order (hr.mono (by decide)) (T.glo 38) hx (da_cons (de_var (pv 1)) (da_cons (de_fldO (c := "Book") (T.cls 28) (T.noat 33) (pv 0)) (da_cons (de_var (pv 5)) da_nil)))) rfl)))))))))))
abbrev N_check_symbol : List Str := ["row", "names", "name", "places", "done", "order", "at"]
theorem sc_check_symbol : FnScope N_check_symbol ["row", "names"] (defScope s_check_symbol) := ⟨rfl, rfl, rfl, by decide +kernel, rfl, by decide +kernel, by decide +kernel⟩
theorem wk_check_symbol {P : Program} {w : World} {K : PySem.W.Frag} {mg : Str → Option Value} {base : Heap} (T : Tx fa fn K mg) (F_is_name : FnD P w K mg base 1 (gAd "is_name") 1 den_is_name) : FnD P w K mg base 2 (gAd "check_symbol") 2 den_check_symbol := by
  obtain ⟨fd, F⟩ := T.c.def_ 25 (d := d_check_symbol) (by rfl)
  show FnD P w K mg base (1 + 1) (gAd "check_symbol") 2 (runD 7 (b_check_symbol))
  refine fnD_of (d := d_check_symbol) (k := 1) (b := b_check_symbol) F sc_check_symbol (fun _ _ _ _ _ _ _ us hl => match us, hl with | [_, _], _ => rfl) (fun cdv A outer s H E hr => ?_)
  have nd := sc_check_symbol.nd
  have hu := u200 hr
  have hu1 := u1 hr
  have hx : Passes (L2N.CX P w) (cxOf (L2N.CX P w) P w K mg base N_check_symbol "check_symbol" (defScope s_check_symbol) ((gAd "check_symbol") K) cdv A outer s H E) E := L2N.passes_call (L2N.takes_of rfl rfl rfl rfl) (fun _ _ _ _ h => h)
  have ho : PassesOwn (model P w) (cxOf (L2N.CX P w) P w K mg base N_check_symbol "check_symbol" (defScope s_check_symbol) ((gAd "check_symbol") K) cdv A outer s H E).A (cxOf (L2N.CX P w) P w K mg base N_check_symbol "check_symbol" (defScope s_check_symbol) ((gAd "check_symbol") K) cdv A outer s H E).env (cxOf (L2N.CX P w) P w K mg base N_check_symbol "check_symbol" (defScope s_check_symbol) ((gAd "check_symbol") K) cdv A outer s H E).xe := passes_of rfl
  exact (ds_cons (ds_unp (is := [2, 3, 4, 5]) (ps_asg (de_var (pv 0)) (pg_tup (by rfl) (pgs_cons (pg_name (i := 2) nd rfl (by first | exact Or.inl rfl | exact Or.inr rfl)) (pgs_cons (pg_name (i := 3) nd rfl (by first | exact Or.inl rfl | exact Or.inr rfl)) (pgs_cons (pg_name (i := 4) nd rfl (by first | exact Or.inl rfl | exact Or.inr rfl)) (pgs_cons (pg_name (i := 5) nd rfl (by first | exact Or.inl rfl | exact Or.inr rfl)) pgs_nil))))))) (ds_cons (ds_if (PW.pt (dw_or (dt_not (dt_tru (de_callF F_is_name (hr.mono (by decide)) (T.glo 19) hx (da_cons (de_var (pv 2)) da_nil)) (by intro _; rfl))) (dw_or (dt_cmp (dd_in hu) (de_var (pv 2)) (de_var (pv 1)) (by rfl)) (dw_or (dt_cmp dd_lt0 (de_var (pv 3)) de_int (nomark _)) (dw_or1 (dt_cmp dd_gt (de_var (pv 3)) de_int (nomark _))))))) (ds_one ds_never) ds_nil) (ds_one (ds_for [6] (tg_name (i := 6) (vs := [6]) (by decide)) (ps_for ho rfl (di_rng (by rfl) (T.free 4) (de_callB cd_len (by rfl) (T.free 1) PySem.boot_len (da_cons (de_var (pv 5)) da_nil))) (pg_name (i := 6) nd rfl (by first | exact Or.inl rfl | exact Or.inr rfl)) (ds_one (ds_if (PW.pt (dw_or (dt_cmp dd_lt0 (de_ix (ixd hu1) (de_var (pv 5)) (de_var (pv 6)) (fun _ _ => rfl)) de_int (nomark _)) (dw_or (dt_cmp dd_ge (de_ix (ixd hu1) (de_var (pv 5)) (de_var (pv 6)) (fun _ _ => rfl)) (de_var (pv 3)) (nomark _)) (dw_or1 (dt_cmp (dd_in hu) (de_ix (ixd hu1) (de_var (pv 5)) (de_var (pv 6)) (fun _ _ => rfl)) (de_slice (de_var (pv 5)) do_none (do_some (de_var (pv 6)))) (by rfl)))))) (ds_one ds_never) ds_nil)))))))
theorem sc_signature_init : FnScope ["self", "symbols", "row"] ["self", "symbols"] (defScope s_signature_init) := ⟨rfl, rfl, rfl, by decide +kernel, rfl, by decide +kernel, by decide +kernel⟩
theorem ok_sig {P : Program} {w : World} {K : PySem.W.Frag} {mg : Str → Option Value} {base : Heap} (T : Tx fa fn K mg) (F_check_symbol : FnD P w K mg base 2 (gAd "check_symbol") 2 den_check_symbol) : SigF P w K mg base 3 den_check_symbol := by
  obtain ⟨fd, F⟩ := T.c.def_ 0 (d := d_signature_init) (by rfl)
  refine ⟨fd, ["self", "symbols"], ?_, F.bindsN (ps := ["self", "symbols"]) fun kV doc pm an cdv ct us hl => match us, hl with | [_, _], _ => rfl⟩
  refine FunD.ok (k := 2) F sc_signature_init (fun vs H Q E h => ?_) (fun cdv A outer s H vs Q E hr h => ⟨t_sig K E den_check_symbol, ?_, pure_sig (T.cls 20) (T.noat 21) (T.noat 22) vs H Q E h⟩)
  · obtain ⟨x, dx, a, xs, G, rows, rfl, _⟩ := h; rfl
  · have nd := sc_signature_init.nd
    have hu1 := u1 hr
    have hx : Passes (L2N.CX P w) (cxOf (L2N.CX P w) P w K mg base ["self", "symbols", "row"] "Signature.__init__" (defScope s_signature_init) (mAd "Signature" "__init__" K) cdv A outer s H E) E := L2N.passes_call (L2N.takes_of rfl rfl rfl rfl) (fun _ _ _ _ h => h)
    have ho : PassesOwn (model P w) (cxOf (L2N.CX P w) P w K mg base ["self", "symbols", "row"] "Signature.__init__" (defScope s_signature_init) (mAd "Signature" "__init__" K) cdv A outer s H E).A (cxOf (L2N.CX P w) P w K mg base ["self", "symbols", "row"] "Signature.__init__" (defScope s_signature_init) (mAd "Signature" "__init__" K) cdv A outer s H E).env (cxOf (L2N.CX P w) P w K mg base ["self", "symbols", "row"] "Signature.__init__" (defScope s_signature_init) (mAd "Signature" "__init__" K) cdv A outer s H E).xe := passes_of rfl
    obtain ⟨fdc, psc, Fc, bc, kc⟩ := F_check_symbol
    exact pss_cons (ps_fld (pv 0) (pe_lst pa_nil) rfl) (pss_cons (ps_fld (pv 0) pe_dnewK rfl) (pss_one (ps_for ho rfl (pi_list (pv 1)) (pg_name (i := 2) nd rfl (by first | exact Or.inl rfl | exact Or.inr rfl)) (pss_cons (ps_expr (pe_call Fc (hr.mono (by decide)) (by rfl) (T.glo 39) kc bc .nil hx (pa_cons (pv 2) (pa_cons (pe_callTy (call_listD rfl) (by rfl) (T.free 34) PyProof.Rows.boot_list (pa_cons (pe_fld (pv 0) rfl) pa_nil)) pa_nil)))) (pss_cons (ps_dput hu1 (pe_fld (pv 0) rfl) (de_ix (ixd hu1) (de_var (pv 2)) de_int (fun _ _ => rfl)) (pe_callB call_len (by rfl) (T.free 1) PySem.boot_len (pa_cons (pe_fld (pv 0) rfl) pa_nil)) rfl) (pss_one (ps_expr (pe_bm PySem.F.plainAttrs_list PySem.F.slot_list_append PySem.F.type_list_append mt_append (pe_fld (pv 0) rfl) (pa_cons (de_tup (da_cons (de_ix (ixd hu1) (de_var (pv 2)) de_int (fun _ _ => rfl)) (da_cons (de_ix (ixd hu1) (de_var (pv 2)) de_int (fun _ _ => rfl)) (da_cons (de_ix (ixd hu1) (de_var (pv 2)) de_int (fun _ _ => rfl)) (da_cons (de_callTy cd_tuple (by rfl) (T.free 7) PyProof.Rows.boot_tuple (da_cons (de_ix (ixd hu1) (de_var (pv 2)) de_int (fun _ _ => rfl)) da_nil)) da_nil))))) pa_nil)))))))))
abbrev N_book_entries : List Str := ["self"]
theorem sc_book_entries : FnScope N_book_entries ["self"] (defScope s_book_entries) := ⟨rfl, rfl, rfl, by decide +kernel, rfl, by decide +kernel, by decide +kernel⟩
theorem wk_book_entries {P : Program} {w : World} {K : PySem.W.Frag} {mg : Str → Option Value} {base : Heap} (T : Tx fa fn K mg) : FnD P w K mg base 1 (pAd "Book" "entries") 1 den_book_entries := by
  obtain ⟨fd, F⟩ := T.c.def_ 26 (d := d_book_entries) (by rfl)
  show FnD P w K mg base (0 + 1) (pAd "Book" "entries") 1 (runD 1 (b_book_entries))
  refine fnD_of (d := d_book_entries) (k := 0) (b := b_book_entries) F sc_book_entries (fun _ _ _ _ _ _ _ us hl => match us, hl with | [_], _ => rfl) (fun cdv A outer s H E hr => ?_)
  have nd := sc_book_entries.nd
  have hu := u200 hr
  have hu1 := u1 hr
  have hx : Passes (L2N.CX P w) (cxOf (L2N.CX P w) P w K mg base N_book_entries "Book.entries" (defScope s_book_entries) ((pAd "Book" "entries") K) cdv A outer s H E) E := L2N.passes_call (L2N.takes_of rfl rfl rfl rfl) (fun _ _ _ _ h => h)
  have ho : PassesOwn (model P w) (cxOf (L2N.CX P w) P w K mg base N_book_entries "Book.entries" (defScope s_book_entries) ((pAd "Book" "entries") K) cdv A outer s H E).A (cxOf (L2N.CX P w) P w K mg base N_book_entries "Book.entries" (defScope s_book_entries) ((pAd "Book" "entries") K) cdv A outer s H E).env (cxOf (L2N.CX P w) P w K mg base N_book_entries "Book.entries" (defScope s_book_entries) ((pAd "Book" "entries") K) cdv A outer s H E).xe := passes_of rfl
  exact (ds_one (ds_ret (de_callTy cd_tuple (by rfl) (T.free 7) PyProof.Rows.boot_tuple (da_cons (de_fld (c := "Book") (T.cls 28) (T.noat 36) (de_var (pv 0))) da_nil))))
abbrev N_book_init_x : List Str := ["self", "signature", "kinds", "under", "entries", "told", "name", "parts", "kind"]
theorem sc_book_init_x : FnScope N_book_init_x ["self", "signature", "kinds", "under", "entries"] (defScope s_book_init_x) := ⟨rfl, rfl, rfl, by decide +kernel, rfl, by decide +kernel, by decide +kernel⟩
theorem wk_book_init_x {P : Program} {w : World} {K : PySem.W.Frag} {mg : Str → Option Value} {base : Heap} (T : Tx fa fn K mg) (F_check_kinds : FnD P w K mg base 2 (gAd "check_kinds") 1 den_check_kinds) (F_kinds_above : FnD P w K mg base 1 (gAd "kinds_above") 2 den_kinds_above) (F_book_has_place : FnD P w K mg base 3 (mAd "Book" "has_place") 3 den_book_has_place) (F_in_canonical_order : FnD P w K mg base 4 (gAd "in_canonical_order") 3 (den_in_canonical_order w)) (X_badentry : MkX P w K mg base "BadEntry" ["entry"]) : MkK P w K mg base 5 "Book" 2 2 ["under", "entries"] (den_book_init_x w) := by
  obtain ⟨fd, F⟩ := T.c.def_ 24 (d := d_book_init_x) (by rfl)
  refine ⟨fd, ["self", "signature", "kinds", "under", "entries"], _, ?_, KD.kbindsA F (fun kV doc pm an cdv ct us ws h1 h2 => match us, ws, h1, h2 with | [_, _, _], [_, _], _, _ => rfl), rfl⟩
  show FnOk P w K mg base (L2N.CX P w) (4 + 1) (He.ma K (He.ga K "Book") "__init__") fd ["self", "signature", "kinds", "under", "entries"] (spIx K "Book" 4 (initD 8 "Book" (b_book_init_x w)))
  refine fn_I (c := "Book") (k := 4) (b := b_book_init_x w) F sc_book_init_x (fun cdv A outer s H E hr => ?_)
  have nd := sc_book_init_x.nd
  have hu := u200 hr
  have hu1 := u1 hr
  have hx : Passes (L2N.CX P w) (cxOf (L2N.CX P w) P w K mg base N_book_init_x "Book.__init__" (defScope s_book_init_x) ((mAd "Book" "__init__") K) cdv A outer s H E) E := L2N.passes_call (L2N.takes_of rfl rfl rfl rfl) (fun _ _ _ _ h => h)
  have ho : PassesOwn (model P w) (cxOf (L2N.CX P w) P w K mg base N_book_init_x "Book.__init__" (defScope s_book_init_x) ((mAd "Book" "__init__") K) cdv A outer s H E).A (cxOf (L2N.CX P w) P w K mg base N_book_init_x "Book.__init__" (defScope s_book_init_x) ((mAd "Book" "__init__") K) cdv A outer s H E).env (cxOf (L2N.CX P w) P w K mg base N_book_init_x "Book.__init__" (defScope s_book_init_x) ((mAd "Book" "__init__") K) cdv A outer s H E).xe := passes_of rfl
  have tk : L2N.Takes (cxOf (L2N.CX P w) P w K mg base N_book_init_x "Book.__init__" (defScope s_book_init_x) ((mAd "Book" "__init__") K) cdv A outer s H E) (fun cls d _ H => E cls d H) := L2N.takes_of rfl rfl rfl rfl
  exact (ds_cons (ds_expr (de_callF F_check_kinds (hr.mono (by decide)) (T.glo 32) hx (da_cons (de_var (pv 2)) da_nil))) (ds_cons (ds_fldS (T.cls 28) (T.noat 29) (ps_fld (pv 0) (de_var (pv 1)) rfl)) (ds_cons (ds_fldS (T.cls 28) (T.noat 33) (ps_fld (pv 0) (de_callTy (cd_list rfl) (by rfl) (T.free 34) PyProof.Rows.boot_list (da_cons (de_var (pv 2)) da_nil)) rfl)) (ds_cons (ds_fldS (T.cls 28) (T.noat 30) (ps_fld (pv 0) (de_callF F_kinds_above (hr.mono (by decide)) (T.glo 35) hx (da_cons (de_fldO (c := "Book") (T.cls 28) (T.noat 33) (pv 0)) (da_cons (de_var (pv 3)) da_nil))) rfl)) (ds_cons (ds_fldS (T.cls 28) (T.noat 36) (ps_fld (pv 0) (de_lst da_nil) rfl)) (ds_cons (ds_new (ps_set (i := 5) nd rfl (by first | exact Or.inl rfl | exact Or.inr rfl) (pe_lst pa_nil))) (ds_cons (ds_for [6, 7, 8] (tg_tup (is := [6, 7, 8]) (vs := [6, 7, 8]) (by decide)) (ps_for ho rfl (di_seq (de_var (pv 4))) (pg_tup (by rfl) (pgs_cons (pg_name (i := 6) nd rfl (by first | exact Or.inl rfl | exact Or.inr rfl)) (pgs_cons (pg_name (i := 7) nd rfl (by first | exact Or.inl rfl | exact Or.inr rfl)) (pgs_cons (pg_name (i := 8) nd rfl (by first | exact Or.inl rfl | exact Or.inr rfl)) pgs_nil)))) (ds_cons (ds_if (dt_tmp 0 (PW.pt (dw_or (dt_not (dt_tru (de_methF F_book_has_place (hr.mono (by decide)) (T.cls 28) (T.meth 37) hx (de_var (pv 0)) (da_cons (de_var (pv 6)) (da_cons (de_var (pv 7)) da_nil))) (by intro _; rfl))) (dw_or1 (dt_cmp (dd_notIn hu) (de_var (pv 8)) (de_fld (c := "Book") (T.cls 28) (T.noat 30) (de_var (pv 0))) (by rfl)))))) (ds_one (ds_raise X_badentry (hr.mono (by decide)) rfl tk rfl (da_cons (de_tup (da_cons (de_var (pv 6)) (da_cons (de_var (pv 7)) (da_cons (de_var (pv 8)) da_nil)))) da_nil))) ds_nil) (ds_one (ds_app (ps_expr (pe_bm PySem.F.plainAttrs_list PySem.F.slot_list_append PySem.F.type_list_append mt_append (pv 5) (pa_cons (de_tup (da_cons (de_var (pv 6)) (da_cons (de_callTy cd_tuple (by rfl) (T.free 7) PyProof.Rows.boot_tuple (da_cons (de_var (pv 7)) da_nil)) (da_cons (de_var (pv 8)) da_nil)))) pa_nil)))))))) (ds_frz 5 (ds_one (ds_fldS (T.cls 28) (T.noat 36) (ps_fld (pv 0) (de_callF F_in_canonical_order (hr.mono (by decide)) (T.glo 38) hx (da_cons (de_var (pv 1)) (da_cons (de_fldO (c := "Book") (T.cls 28) (T.noat 33) (pv 0)) (da_cons (de_var (pv 5)) da_nil)))) rfl)))))))))))
abbrev N_l_made : List Str := ["_law_tables", "_law_told", "_law_due", "_law_book", "_law_e", "_law_row"]
theorem sc_l_made : FnScope N_l_made ["_law_tables", "_law_told", "_law_due"] (defScope s_l_made) := ⟨rfl, rfl, rfl, by decide +kernel, rfl, by decide +kernel, by decide +kernel⟩
theorem wk_l_made {P : Program} {w : World} {K : PySem.W.Frag} {mg : Str → Option Value} {base : Heap} (T : Tx fa fn K mg) (F_book_entries : FnD P w K mg base 1 (pAd "Book" "entries") 1 den_book_entries) (F_book_init : MkK P w K mg base 5 "Book" 2 2 ["under", "entries"] (den_book_init w)) (F_book_init_x : MkK P w K mg base 5 "Book" 2 2 ["under", "entries"] (den_book_init_x w)) (F_l_only_badentry : FnX P w K mg base 1 (gAd "_law_only") "BadEntry" (den_l_only "BadEntry")) (F_sig : SigF P w K mg base 3 den_check_symbol) : FnD P w K mg base 7 (gAd "_law_made") 3 (den_l_made w) := by
  obtain ⟨fd, F⟩ := T.c.def_ 27 (d := d_l_made) (by rfl)
  show FnD P w K mg base (6 + 1) (gAd "_law_made") 3 (runD 6 (b_l_made w))
  refine fnD_of (d := d_l_made) (k := 6) (b := b_l_made w) F sc_l_made (fun _ _ _ _ _ _ _ us hl => match us, hl with | [_, _, _], _ => rfl) (fun cdv A outer s H E hr => ?_)
  have nd := sc_l_made.nd
  have hu := u200 hr
  have hu1 := u1 hr
  have hx : Passes (L2N.CX P w) (cxOf (L2N.CX P w) P w K mg base N_l_made "_law_made" (defScope s_l_made) ((gAd "_law_made") K) cdv A outer s H E) E := L2N.passes_call (L2N.takes_of rfl rfl rfl rfl) (fun _ _ _ _ h => h)
  have ho : PassesOwn (model P w) (cxOf (L2N.CX P w) P w K mg base N_l_made "_law_made" (defScope s_l_made) ((gAd "_law_made") K) cdv A outer s H E).A (cxOf (L2N.CX P w) P w K mg base N_l_made "_law_made" (defScope s_l_made) ((gAd "_law_made") K) cdv A outer s H E).env (cxOf (L2N.CX P w) P w K mg base N_l_made "_law_made" (defScope s_l_made) ((gAd "_law_made") K) cdv A outer s H E).xe := passes_of rfl
  exact (ds_cons (ds_try (i := 4) rfl rfl nd rfl rfl rfl (by decide) (T.glo 47) (T.exm 48) (fun W pn xe hxs ho => (tb_one (tb_set (ps_set (i := 3) nd rfl (by first | exact Or.inl rfl | exact Or.inr rfl) (re_mkK F_book_init_x (T.mkr 40) (hr.mono (by decide)) (T.glo 41) hxs (da_cons (de_makeSF F_sig (T.mkr 42) (hr.mono (by decide)) (T.glo 43) passN (de_callTy (cd_list rfl) (by rfl) (T.free 34) PyProof.Rows.boot_list (da_cons (de_ix (ixd hu1) (de_var (pv 0)) de_int (fun _ _ => rfl)) da_nil))) (da_cons (de_callTy (cd_list rfl) (by rfl) (T.free 34) PyProof.Rows.boot_list (da_cons (de_ix (ixd hu1) (de_var (pv 0)) de_int (fun _ _ => rfl)) da_nil)) da_nil)) (dk_cons (de_callTy (cd_list rfl) (by rfl) (T.free 34) PyProof.Rows.boot_list (da_cons (de_ix (ixd hu1) (de_var (pv 0)) de_int (fun _ _ => rfl)) da_nil)) (dk_cons (de_var (pv 1)) dk_nil))))))) (fun a oe od pn hz hv => (ds_cons (ds_if (dt_not (dt_tru (de_hot (c := "BadEntry") F_l_only_badentry (L2H.roomH_of (hr.mono (by decide))) hz hv rfl (T.glo 44) (pv 4)) (by intro _; rfl))) (ds_one (ds_ret de_bl)) ds_nil) (ds_one (ds_ret (de_and (de_notN (de_var (pv 2))) (de_and (de_isi (T := "tuple") rfl (T.free 8) (de_xf (i := 4) (C := "BadEntry") (T.oex 45).X (T.nof 46) hz hv (pv 4)) (pe_bltn (by rfl) (T.free 7) PyProof.Rows.boot_tuple rfl)) (de_one (de_cmp (dd_eq hu) (de_xf (i := 4) (C := "BadEntry") (T.oex 45).X (T.nof 46) hz hv (pv 4)) (de_var (pv 2)) (nomark _)))))))))) (ds_one (ds_ret (de_and (de_isN (de_var (pv 2))) (de_one (de_cmp (dd_eq hu) (de_callB cd_len (by rfl) (T.free 1) PySem.boot_len (da_cons (de_lc (tg_name (i := 5) (vs := [5]) (by decide)) (pe_lc (own := [("_law_row", 5)])  rfl nd (di_seq (de_var (pv 1))) (blkOk_by (own := [("_law_row", 5)]) (N := N_l_made) (sc := defScope s_l_made) (by decide +kernel)) (fun _ _ _ _ _ => pg_name (i := 5) nd rfl (by first | exact Or.inl rfl | exact Or.inr rfl)) (fun _ _ _ _ _ => dts_one (dt_cmp (dd_notIn hu) (de_var (pv 5)) (de_propF F_book_entries (hr.mono (by decide)) (T.cls 28) (T.prop 49) (de_var (pv 3))) (by rfl))) (fun _ _ _ _ _ => (de_var (pv 5))))) da_nil)) de_int (nomark _)))))))
abbrev N_law : List Str := ["_law_script", "_law_tables", "_law_numbers_here", "_law_entry", "_law_faulty_here", "_law_told", "_law_at", "_law_good", "_law_spoilt"]
theorem sc_law : FnScope N_law ["_law_script"] (defScope s_law) := ⟨rfl, rfl, rfl, by decide +kernel, rfl, by decide +kernel, by decide +kernel⟩
theorem wk_law {P : Program} {w : World} {K : PySem.W.Frag} {mg : Str → Option Value} {base : Heap} (T : Tx fa fn K mg) (F_l_random : FnD P w K mg base 124 (gAd "_law_random") 3 den_l_random) (F_l_numbers : FnD P w K mg base 2 (gAd "_law_numbers") 3 den_l_numbers) (F_l_entry_for : FnD P w K mg base 1 (gAd "_law_entry_for") 2 den_l_entry_for) (F_l_faulty : FnD P w K mg base 1 (gAd "_law_faulty") 2 den_l_faulty) (F_l_made : FnD P w K mg base 7 (gAd "_law_made") 3 (den_l_made w)) {fd : FuncData} (F : FunD K d_law.name d_law.qual d_law.params d_law.body d_law.scope [] (d_law.kws K) (d_law.ad K) fd) : FnOk P w K mg base (L2N.CX P w) 125 (d_law.ad K) fd ["_law_script"] (spD K 1 (den_law_k09 w)) := by
  show FnOk P w K mg base (L2N.CX P w) (124 + 1) (d_law.ad K) fd ["_law_script"] (spD K 1 (runD 9 (b_law_k09 w)))
  refine fn_D (k := 124) (b := b_law_k09 w) F sc_law (fun cdv A outer s H E hr => ?_)
  have nd := sc_law.nd
  have hu := u200 hr
  have hu1 := u1 hr
  have hx : Passes (L2N.CX P w) (cxOf (L2N.CX P w) P w K mg base N_law "law" (defScope s_law) ((gAd "law") K) cdv A outer s H E) E := L2N.passes_call (L2N.takes_of rfl rfl rfl rfl) (fun _ _ _ _ h => h)
  have ho : PassesOwn (model P w) (cxOf (L2N.CX P w) P w K mg base N_law "law" (defScope s_law) ((gAd "law") K) cdv A outer s H E).A (cxOf (L2N.CX P w) P w K mg base N_law "law" (defScope s_law) ((gAd "law") K) cdv A outer s H E).env (cxOf (L2N.CX P w) P w K mg base N_law "law" (defScope s_law) ((gAd "law") K) cdv A outer s H E).xe := passes_of rfl
  exact (ds_cons (ds_set (ps_set (i := 1) nd rfl (by first | exact Or.inl rfl | exact Or.inr rfl) (de_callF F_l_random (hr.mono (by decide)) (T.glo 50) hx (da_cons (de_var (pv 0)) (da_cons de_int (da_cons de_int da_nil)))))) (ds_cons (ds_set (ps_set (i := 2) nd rfl (by first | exact Or.inl rfl | exact Or.inr rfl) (de_callF F_l_numbers (hr.mono (by decide)) (T.glo 12) hx (da_cons (de_var (pv 0)) (da_cons de_int (da_cons de_int da_nil)))))) (ds_cons (ds_set (ps_set (i := 3) nd rfl (by first | exact Or.inl rfl | exact Or.inr rfl) (de_callF F_l_entry_for (hr.mono (by decide)) (T.glo 51) hx (da_cons (de_var (pv 1)) (da_cons (de_var (pv 2)) da_nil))))) (ds_cons (ds_set (ps_set (i := 4) nd rfl (by first | exact Or.inl rfl | exact Or.inr rfl) (de_callF F_l_faulty (hr.mono (by decide)) (T.glo 52) hx (da_cons (de_var (pv 3)) (da_cons (de_var (pv 2)) da_nil))))) (ds_cons (ds_set (ps_set (i := 5) nd rfl (by first | exact Or.inl rfl | exact Or.inr rfl) (de_ix (ixd hu1) (de_var (pv 1)) de_int (fun _ _ => rfl)))) (ds_cons (ds_set (ps_set (i := 6) nd rfl (by first | exact Or.inl rfl | exact Or.inr rfl) (de_op dd_mod (de_callTy cd_int (by rfl) (T.free 3) PyProof.Rows.boot_int (da_cons (de_ix (ixd hu1) (de_var (pv 2)) de_int (fun _ _ => rfl)) da_nil)) (de_op dd_add (de_callB cd_len (by rfl) (T.free 1) PySem.boot_len (da_cons (de_var (pv 5)) da_nil)) de_int)))) (ds_cons (ds_set (ps_set (i := 7) nd rfl (by first | exact Or.inl rfl | exact Or.inr rfl) (de_op dd_add (de_op dd_add (de_slice (de_var (pv 5)) do_none (do_some (de_var (pv 6)))) (de_lst (da_cons (de_var (pv 3)) da_nil))) (de_slice (de_var (pv 5)) (do_some (de_var (pv 6))) do_none)))) (ds_cons (ds_own (ps_set (i := 8) nd rfl (by first | exact Or.inl rfl | exact Or.inr rfl) (fr_add (de_op dd_add (de_slice (de_var (pv 5)) do_none (do_some (de_var (pv 6)))) (de_lst (da_cons (de_var (pv 4)) da_nil))) (de_slice (de_var (pv 5)) (do_some (de_var (pv 6))) do_none)))) (ds_cons (ds_if (dt_cmp (dd_eq hu) (de_op dd_mod (de_callTy cd_int (by rfl) (T.free 3) PyProof.Rows.boot_int (da_cons (de_ix (ixd hu1) (de_var (pv 2)) de_int (fun _ _ => rfl)) da_nil)) de_int) de_int (nomark _)) (ds_one (ds_app (ps_expr (pe_bm PySem.F.plainAttrs_list PySem.F.slot_list_append PySem.F.type_list_append mt_append (pv 8) (pa_cons (de_tup (da_cons de_str (da_cons (de_tup da_nil) (da_cons de_str da_nil)))) pa_nil))))) ds_nil) (ds_cons (ds_if (dt_tmp 8 (PW.pt (dw_or (dt_not (dt_tru (de_callF F_l_made (hr.mono (by decide)) (T.glo 53) hx (da_cons (de_var (pv 1)) (da_cons (de_callTy (cd_list rfl) (by rfl) (T.free 34) PyProof.Rows.boot_list (da_cons (de_var (pv 7)) da_nil)) (da_cons de_non da_nil)))) (by intro _; rfl))) (dw_or1 (dt_not (dt_tru (de_callF F_l_made (hr.mono (by decide)) (T.glo 53) hx (da_cons (de_var (pv 1)) (da_cons (de_var (pv 8)) (da_cons (de_var (pv 4)) da_nil)))) (by intro _; rfl))))))) (ds_one (ds_ret de_bl)) ds_nil) (ds_one (ds_ret (de_callF F_l_made (hr.mono (by decide)) (T.glo 53) hx (da_cons (de_var (pv 1)) (da_cons (de_callTy (cd_list rfl) (by rfl) (T.free 34) PyProof.Rows.boot_list (da_cons (de_var (pv 7)) da_nil)) (da_cons de_non da_nil))))))))))))))))
end KL

/-! KP1: plain facts of data operations: indices, texts by their codes. -/
namespace KD
open PySem L2
theorem atI_of {α : Type} {xs : List α} {i : Int} (h0 : 0 ≤ i) (h1 : i < xs.length) : atI xs i = some (xs[i.toNat]'(by omega)) := by
  have e : i = (i.toNat : Int) := by omega
  have h2 : xs[i.toNat]? = some (xs[i.toNat]'(by omega)) := List.getElem?_eq_getElem (by omega)
  have h3 := atI_nat h2
  rw [← e] at h3
  exact h3
theorem atI_cast {α : Type} {xs : List α} {k : Nat} (h : k < xs.length) : atI xs (k : Int) = some xs[k] := atI_nat (by simp [h])
theorem atI_map {α β : Type} (f : α → β) {xs : List α} {i : Int} {x : α} (h : atI xs i = some x) : atI (xs.map f) i = some (f x) := by
  unfold atI at h ⊢
  rw [List.length_map]
  cases q : ixN xs.length i with
  | none => rw [q] at h; cases h
  | some j =>
    rw [q] at h
    have h' : xs[j]? = some x := h
    show (xs.map f)[j]? = some (f x)
    rw [List.getElem?_map, h']; rfl
/-- a text by its codes -/
def sO (l : List Nat) : Str := ⟨l.toArray⟩
theorem sO_inj {a b : List Nat} (h : sO a = sO b) : a = b := by
  have : a.toArray = b.toArray := congrArg Str.cps h
  simpa using this
theorem sO_cps (l : List Nat) : (sO l).cps.toList = l := by simp [sO]
theorem sO_of (x : Str) : x = sO x.cps.toList := by cases x; simp [sO]
theorem sO_len (l : List Nat) : (sO l).length = l.length := by
  show l.toArray.size = l.length
  simp
theorem sO_app (a b : List Nat) : sO a ++ sO b = sO (a ++ b) := by
  show (⟨a.toArray ++ b.toArray⟩ : Str) = ⟨(a ++ b).toArray⟩
  simp
theorem sO_beq (a b : List Nat) : (sO a == sO b) = (a == b) := by
  by_cases h : a = b
  · subst h; simp
  · have : sO a ≠ sO b := fun e => h (sO_inj e)
    rw [beq_eq_false_iff_ne.mpr this, beq_eq_false_iff_ne.mpr h]
theorem line1000 : 1000 ≤ sizeLine := by rw [sizeLine_eq]; decide
theorem gAdd_sO (a b : List Nat) (h : a.length + b.length ≤ 1000) : gAdd (.str (sO a)) (.str (sO b)) = .ok (.str (sO (a ++ b))) := by
  have : (sO a).length + (sO b).length ≤ sizeLine := by rw [sO_len, sO_len]; exact Nat.le_trans h line1000
  simp [gAdd, this, sO_app]
theorem gMul_sO (a : List Nat) (n : Int) (h0 : 0 ≤ n) (h1 : n ≤ 1000) (h2 : a.length ≤ 1000) : gMul (.str (sO a)) (.int n) = .ok (.str (sO (List.replicate n.toNat a).flatten)) := by
  have : (sO a).length ≤ 1000 := by rw [sO_len]; exact h2
  have e : (sO a).cps.toList = a := sO_cps a
  unfold gMul
  dsimp only
  rw [if_pos ⟨h0, h1, this⟩, e]
  rfl
theorem flat1 (c n : Nat) : (List.replicate n [c]).flatten = List.replicate n c := by
  induction n with
  | zero => rfl
  | succ n ih => rw [List.replicate_succ, List.flatten_cons, ih, List.replicate_succ]; rfl
theorem gIx_sO (l : List Nat) (i : Int) (h : l.length ≤ 1000) (h0 : 0 ≤ i) (h1 : i < l.length) : gIx (.str (sO l)) (.int i) = .ok (.str (sO [l[i.toNat]'(by omega)])) := by
  have h2 : (sO l).length ≤ 1000 := by rw [sO_len]; exact h
  simp only [gIx, h2, if_true, sO_cps, atI_of h0 h1]
  rfl
theorem sO_ok {l : List Nat} : PyData.strOk (sO l) = true ↔ ∀ c ∈ l, c < 0x110000 := by rw [strOk_iff, sO_cps]
theorem signs_sO (l : List Nat) : signs (sO l) = l.map fun c => .str (sO [c]) := by simp [signs, sO]
theorem eqD_sO (a b : List Nat) : eqD (.str (sO a)) (.str (sO b)) = (a == b) := by
  show PyData.eqv (.str (sO a)) (.str (sO b)) = _
  rw [PyData.eqv]
  exact sO_beq a b
theorem eqD_int (i j : Int) : eqD (.int i) (.int j) = (i == j) := by
  show PyData.eqv (.int i) (.int j) = _
  rw [PyData.eqv]
theorem asRng_nat (c : Nat) (h : c < 1000000000) : asRng (.int (c : Int)) = .ok (rngD 0 c) := by
  have h1 : -1000000000 < (c : Int) ∧ (c : Int) < 1000000000 := by omega
  unfold asRng
  dsimp only
  rw [if_pos h1, Int.toNat_natCast]
theorem len_rng (lo : Int) (n : Nat) : (rngD lo n).length = n := rngD_length lo n
theorem mem_rng {lo : Int} {n : Nat} {d : D} (h : d ∈ rngD lo n) : ∃ k : Nat, k < n ∧ d = .int (lo + k) := by
  unfold rngD at h
  obtain ⟨k, hk, rfl⟩ := List.mem_map.mp h
  exact ⟨k, List.mem_range.mp hk, rfl⟩
theorem mem_rng0 {n : Nat} {d : D} (h : d ∈ rngD 0 n) : ∃ k : Nat, k < n ∧ d = .int (k : Int) := by
  obtain ⟨k, hk, rfl⟩ := mem_rng h
  exact ⟨k, hk, by rw [Int.zero_add]⟩
theorem nodup_lt : ∀ (n : Nat) (l : List Nat), l.Nodup → (∀ x ∈ l, x < n) → l.length ≤ n
  | 0, l, _, h => by
    cases l with
    | nil => exact Nat.le_refl _
    | cons a l => exact absurd (h a List.mem_cons_self) (Nat.not_lt_zero _)
  | n + 1, l, nd, h => by
    have ih := nodup_lt n (l.erase n) (nd.erase n) fun x hx => by
      have := (nd.mem_erase_iff).mp hx
      have := h x this.2
      omega
    by_cases hn : n ∈ l
    · rw [List.length_erase_of_mem hn] at ih; omega
    · rw [List.erase_of_not_mem hn] at ih; omega
theorem map_rng {β : Type} (f : D → β) (n : Nat) : (rngD 0 n).map f = (List.range n).map fun k : Nat => f (.int (k : Int)) := by
  simp [rngD, Function.comp_def]
theorem cutD_all (xs : List D) : cutD xs none none = xs := by
  simp [cutD, HT.sIx_none]
theorem cutD_to (xs : List D) (k : Nat) : cutD xs none (some (k : Int)) = xs.take k := by
  unfold cutD
  rw [HT.sIx_none, HT.sIx_nat]
  simp only [List.drop_zero, Nat.sub_zero]
  by_cases h : k ≤ xs.length
  · rw [Nat.min_eq_left h]
  · rw [Nat.min_eq_right (by omega), List.take_length, List.take_of_length_le (by omega)]
theorem cutD_from (xs : List D) (k : Nat) : cutD xs (some (k : Int)) none = xs.drop k := by
  unfold cutD
  rw [HT.sIx_none, HT.sIx_nat]
  by_cases h : k ≤ xs.length
  · rw [Nat.min_eq_left h, List.take_of_length_le (by simp)]
  · rw [Nat.min_eq_right (by omega), List.drop_length, List.drop_of_length_le (by omega)]
    simp
mutual
theorem eqv_self : ∀ d : D, d.plain = true → PyData.eqv d.py d.py = true
  | .non, _ => by simp [D.py, PyData.eqv]
  | .bl b, _ => by simp [D.py, PyData.eqv]
  | .int i, _ => by simp [D.py, PyData.eqv]
  | .str x, _ => by simp [D.py, PyData.eqv]
  | .tup xs, h => by
    have := eqv_selfs xs (by simpa [D.plain] using h)
    simp [D.py, PyData.eqv, this]
  | .lst xs, h => by
    have := eqv_selfs xs (by simpa [D.plain] using h)
    simp [D.py, PyData.eqv, this]
  | .fls xs, h => by
    have := eqv_selfs xs (by simpa [D.plain] using h)
    simp [D.py, PyData.eqv, this]
  | .dic _ _, h => by simp [D.plain] at h
  | .ob _ _ _, h => by simp [D.plain] at h
theorem eqv_selfs : ∀ ds : List D, D.plains ds = true → PyData.eqvAll (D.pys ds) (D.pys ds) = true
  | [], _ => by simp [D.pys, PyData.eqvAll]
  | d :: ds, h => by
    have h' : d.plain = true ∧ D.plains ds = true := by simpa [D.plains] using h
    simp [D.pys, PyData.eqvAll, eqv_self d h'.1, eqv_selfs ds h'.2]
end
theorem eqD_self (d : D) (h : d.plain = true) : eqD d d = true := eqv_self d h
/-! ### one statement after another -/
section
variable {ρ ρ' : Ev} {f : Ev → Rs D} {g a b : Ev → SR} {c : Ev → Rs Bool} {i : Nat} {d : D}
theorem seq_nx (h : a ρ = .nx ρ') : sSeq a g ρ = g ρ' := by unfold sSeq; rw [h]; rfl
theorem seq_rt (h : a ρ = .rt d) : sSeq a g ρ = .rt d := by unfold sSeq; rw [h]; rfl
theorem seq_set (h : f ρ = .ok d) : sSeq (sSet i f) g ρ = g (ρ.set i (.dt d)) := by unfold sSeq sSet; rw [h]; rfl
theorem seq_ifT (h : c ρ = .ok true) : sSeq (sIf c a b) g ρ = (a ρ).seq g := by unfold sSeq sIf; rw [h]; rfl
theorem seq_ifF (h : c ρ = .ok false) : sSeq (sIf c a b) g ρ = (b ρ).seq g := by unfold sSeq sIf; rw [h]; rfl
theorem seq_skip (h : c ρ = .ok false) : sSeq (sIf c a sNil) g ρ = g ρ := by unfold sSeq sIf; rw [h]; rfl
theorem seq_new : sSeq (sNew i) g ρ = g (ρ.set i (.ol [])) := rfl
theorem seq_for {it : Ev → Rs (List D)} {t : D → Ev → Option Ev} {wp : List Nat} {ds : List D} (h : it ρ = .ok ds) (h2 : forL t wp a ds ρ = .nx ρ') : sSeq (sFor it t wp a) g ρ = g ρ' := by
  unfold sSeq sFor; rw [h]; show (forL t wp a ds ρ).seq g = _; rw [h2]; rfl
theorem ret_ok (h : f ρ = .ok d) : sRet f ρ = .rt d := by unfold sRet; rw [h]; rfl
end
end KD

/-! KP2: what a denotation answers, as a calculus of what must hold ahead. -/
namespace KD
open PySem L2
@[irreducible] def Ok {α : Type} (r : Rs α) (P : α → Prop) : Prop := match r with
  | .ok a => P a
  | _ => False
theorem Ok.imp {α : Type} {r : Rs α} {P Q : α → Prop} (h : Ok r Q) (k : ∀ a, Q a → P a) : Ok r P := by
  with_unfolding_all
    cases r with
    | ok a => exact k a h
    | xc c n f => exact h
    | bot => exact h
theorem Ok.ex {α : Type} {r : Rs α} {P : α → Prop} (h : Ok r P) : ∃ a, r = .ok a ∧ P a := by
  with_unfolding_all
    cases r with
    | ok a => exact ⟨a, rfl, h⟩
    | xc c n f => exact False.elim h
    | bot => exact False.elim h
theorem Ok.of {α : Type} {r : Rs α} {P : α → Prop} {a : α} (e : r = .ok a) (h : P a) : Ok r P := by with_unfolding_all (rw [e]; exact h)
theorem Ok.eq {α : Type} {r : Rs α} {a : α} (h : Ok r (fun x => x = a)) : r = .ok a := by
  with_unfolding_all
    obtain ⟨b, e, rfl⟩ := h.ex
    exact e
@[irreducible] def Wp (r : SR) (N : Ev → Prop) (R : D → Prop) : Prop := match r with
  | .nx ρ => N ρ
  | .rt d => R d
  | .ro xs => R (.lst xs)
  | _ => False
theorem Wp.imp {r : SR} {N N' : Ev → Prop} {R R' : D → Prop} (h : Wp r N R) (k : ∀ ρ, N ρ → N' ρ) (l : ∀ d, R d → R' d) : Wp r N' R' := by
  with_unfolding_all
    cases r with
    | nx ρ => exact k ρ h
    | rt d => exact l d h
    | ro d => exact l _ h
    | _ => exact h
section
variable {α β : Type} {P : D → Prop} {Q : List D → Prop} {B : Bool → Prop} {ρ : Ev} {fa fb : Ev → Rs D} {fs : Ev → Rs (List D)} {ft fu : Ev → Rs Bool} {N : Ev → Prop} {R : D → Prop} {f g h : Ev → SR} {i : Nat}
theorem ok_ok {a : α} {P : α → Prop} : Ok (.ok a) P = P a := by with_unfolding_all exact (rfl)
theorem ok_bot {P : α → Prop} : Ok (.bot) P = False := by with_unfolding_all exact (rfl)
theorem ok_bind {r : Rs α} {k : α → Rs β} {P : β → Prop} : Ok (r.bind k) P = Ok r (fun a => Ok (k a) P) := by with_unfolding_all (cases r <;> rfl)
theorem ok_nox {r : Rs α} {P : α → Prop} : Ok r.nox P = Ok r P := by with_unfolding_all (cases r <;> rfl)
theorem ok_ite {c : Prop} [Decidable c] {a : α} {P : α → Prop} : Ok (if c then .ok a else .bot) P = (c ∧ P a) := by
  with_unfolding_all
    by_cases h : c
    · rw [if_pos h]; exact propext ⟨fun q => ⟨h, q⟩, fun q => q.2⟩
    · rw [if_neg h]; exact propext ⟨fun q => False.elim q, fun q => (h q.1).elim⟩
theorem ok_iteR {c : Prop} [Decidable c] {r : Rs α} {P : α → Prop} : Ok (if c then r else .bot) P = (c ∧ Ok r P) := by
  with_unfolding_all
    by_cases h : c
    · rw [if_pos h]; exact propext ⟨fun q => ⟨h, q⟩, fun q => q.2⟩
    · rw [if_neg h]; exact propext ⟨fun q => False.elim q, fun q => (h q.1).elim⟩
theorem ok_dOp {g : D → D → Rs D} : Ok (dOp g fa fb ρ) P = Ok (fa ρ) fun x => Ok (fb ρ) fun y => Ok (g x y) P := by with_unfolding_all (unfold dOp; simp only [ok_bind])
theorem ok_dC {d : D} : Ok (dC d ρ) P = P d := by with_unfolding_all exact (rfl)
theorem ok_dVar0 {d : D} : Ok (dVar 0 (.dt d :: ρ)) P = P d := by with_unfolding_all exact (rfl)
theorem ok_dVarS {s : Sl} : Ok (dVar (i + 1) (s :: ρ)) P = Ok (dVar i ρ) P := by with_unfolding_all (unfold dVar; rw [List.getElem?_cons_succ])
theorem ok_dNil : Ok (dNil ρ) Q = Q [] := by with_unfolding_all exact (rfl)
theorem ok_dCons : Ok (dCons fa fs ρ) Q = Ok (fa ρ) fun x => Ok (fs ρ) fun xs => Q (x :: xs) := by with_unfolding_all (unfold dCons; simp only [ok_bind, ok_ok])
theorem ok_dCall {g : List D → Rs D} : Ok (dCall g fs ρ) P = Ok (fs ρ) fun ds => Ok (g ds) P := by with_unfolding_all (unfold dCall; simp only [ok_bind])
theorem ok_dCallN {n : Nat} {g : List D → Rs D} : Ok (dCallN n g fs ρ) P = Ok (fs ρ) fun ds => ds.length = n ∧ Ok (g ds) P := by with_unfolding_all (unfold dCallN; simp only [ok_bind, ok_iteR])
theorem ok_dTup : Ok (dTup fs ρ) P = Ok (fs ρ) fun xs => xs.length ≤ 1000 ∧ P (.tup xs) := by with_unfolding_all (unfold dTup; simp only [ok_bind, ok_ite])
theorem ok_dLst : Ok (dLst fs ρ) P = Ok (fs ρ) fun xs => xs.length ≤ 1000 ∧ P (.lst xs) := by with_unfolding_all (unfold dLst; simp only [ok_bind, ok_ite])
theorem ok_dFrL : Ok (dFrL fs ρ) Q = Ok (fs ρ) fun xs => xs.length ≤ 1000 ∧ Q xs := by with_unfolding_all (unfold dFrL; simp only [ok_bind, ok_ite])
theorem ok_dTest : Ok (dTest fa ρ) B = Ok (fa ρ) fun d => Ok (asB d) B := by with_unfolding_all (unfold dTest; simp only [ok_bind])
theorem ok_dTru : Ok (dTru fa ρ) B = Ok (fa ρ) fun d => Ok (truD d) B := by with_unfolding_all (unfold dTru; simp only [ok_bind])
theorem ok_asB {b : Bool} : Ok (asB (.bl b)) B = B b := by with_unfolding_all exact (rfl)
theorem ok_truB {b : Bool} : Ok (truD (.bl b)) B = B b := by with_unfolding_all exact (rfl)
theorem ok_dAnd : Ok (dAnd ft fu ρ) B = Ok (ft ρ) fun b => (b = true → Ok (fu ρ) B) ∧ (b = false → B false) := by
  with_unfolding_all
    unfold dAnd
    rw [ok_bind]
    congr 1; funext b
    cases b <;> simp [ok_ok]
theorem ok_dOr : Ok (dOr ft fu ρ) B = Ok (ft ρ) fun b => (b = true → B true) ∧ (b = false → Ok (fu ρ) B) := by
  with_unfolding_all
    unfold dOr
    rw [ok_bind]
    congr 1; funext b
    cases b <;> simp [ok_ok]
theorem ok_dNot : Ok (dNot ft ρ) B = Ok (ft ρ) fun b => B (!b) := by with_unfolding_all (unfold dNot; simp only [ok_bind, ok_ok])
theorem ok_dSl {l h : Ev → Rs (Option Int)} : Ok (dSl fa l h ρ) P = Ok (fa ρ) fun x => Ok (l ρ) fun lo => Ok (h ρ) fun hi => Ok (gSl x lo hi) P := by with_unfolding_all (unfold dSl; simp only [ok_bind])
theorem ok_dFrS {l h : Ev → Rs (Option Int)} : Ok (dFrS fa l h ρ) Q = Ok (fa ρ) fun x => Ok (l ρ) fun lo => Ok (h ρ) fun hi => Ok (slL x lo hi) Q := by with_unfolding_all (unfold dFrS; simp only [ok_bind])
theorem ok_dFrA : Ok (dFrA fa fb ρ) Q = Ok (fa ρ) fun x => Ok (fb ρ) fun y => Ok (addL x y) Q := by with_unfolding_all (unfold dFrA; simp only [ok_bind])
theorem ok_slL {xs : List D} {lo hi : Option Int} : Ok (slL (.lst xs) lo hi) Q = Q (cutD xs lo hi) := by with_unfolding_all exact (rfl)
theorem ok_addL {a b : List D} : Ok (addL (.lst a) (.lst b)) Q = (a.length + b.length ≤ sizeLine ∧ Q (a ++ b)) := by with_unfolding_all (unfold addL; simp only [ok_ite])
theorem ok_dPart {O : Option Int → Prop} : Ok (dPart fa ρ) O = Ok (fa ρ) fun d => Ok (asI d) O := by with_unfolding_all (unfold dPart; simp only [ok_bind])
theorem ok_asI {O : Option Int → Prop} {j : Int} : Ok (asI (.int j)) O = O (some j) := by with_unfolding_all exact (rfl)
theorem ok_dNoP {O : Option Int → Prop} : Ok (dNoP ρ) O = O none := by with_unfolding_all exact (rfl)
theorem ok_slLst {xs : List D} {lo hi : Option Int} : Ok (gSl (.lst xs) lo hi) P = P (.lst (cutD xs lo hi)) := by with_unfolding_all exact (rfl)
theorem ok_slTup {xs : List D} {lo hi : Option Int} : Ok (gSl (.tup xs) lo hi) P = P (.tup (cutD xs lo hi)) := by with_unfolding_all exact (rfl)
section
variable {a b : Int} {x y z u : D} {xs ys : List D}
theorem ok_add : Ok (gAdd (.int a) (.int b)) P = P (.int (a + b)) := by with_unfolding_all exact (rfl)
theorem ok_addT : Ok (gAdd (.tup xs) (.tup ys)) P = (xs.length + ys.length ≤ sizeLine ∧ P (.tup (xs ++ ys))) := by with_unfolding_all (unfold gAdd; simp only [ok_ite])
theorem ok_addLs : Ok (gAdd (.lst xs) (.lst ys)) P = (xs.length + ys.length ≤ sizeLine ∧ P (.lst (xs ++ ys))) := by with_unfolding_all (unfold gAdd; simp only [ok_ite])
theorem ok_sub : Ok (gSub (.int a) (.int b)) P = P (.int (a - b)) := by with_unfolding_all exact (rfl)
theorem ok_mul : Ok (gMul (.int a) (.int b)) P = (okMul a b = true ∧ P (.int (a * b))) := by with_unfolding_all (unfold gMul; simp only [ok_ite])
theorem ok_div : Ok (gDiv (.int a) (.int b)) P = ((0 < b ∧ b < 1073741824) ∧ P (.int (a / b))) := by with_unfolding_all (unfold gDiv; simp only [ok_ite])
theorem ok_mod : Ok (gMod (.int a) (.int b)) P = (0 < b ∧ P (.int (a % b))) := by with_unfolding_all (unfold gMod; simp only [ok_ite])
theorem ok_lt : Ok (gLt (.int a) (.int b)) P = P (.bl (decide (a < b))) := by with_unfolding_all exact (rfl)
theorem ok_le : Ok (gLe (.int a) (.int b)) P = P (.bl (decide (a ≤ b))) := by with_unfolding_all exact (rfl)
theorem ok_gt : Ok (gGt (.int a) (.int b)) P = P (.bl (decide (b < a))) := by with_unfolding_all exact (rfl)
theorem ok_ge : Ok (gGe (.int a) (.int b)) P = P (.bl (decide (b ≤ a))) := by with_unfolding_all exact (rfl)
theorem ok_eqI : Ok (gEq (.int a) (.int b)) P = P (.bl (decide (a = b))) := by
  with_unfolding_all
    have e : eqOk (.int a) (.int b) = true := rfl
    unfold gEq
    rw [if_pos e, eqD_int]
    rfl
theorem ok_neI : Ok (gNe (.int a) (.int b)) P = P (.bl (!decide (a = b))) := by
  with_unfolding_all
    have e : eqOk (.int a) (.int b) = true := rfl
    unfold gNe
    rw [if_pos e, eqD_int]
    rfl
theorem ok_eq : Ok (gEq x y) P = (eqOk x y = true ∧ P (.bl (eqD x y))) := by with_unfolding_all (unfold gEq; simp only [ok_ite])
theorem ok_ne : Ok (gNe x y) P = (eqOk x y = true ∧ P (.bl (!eqD x y))) := by with_unfolding_all (unfold gNe; simp only [ok_ite])
theorem ok_inL : Ok (gIn x (.lst ys)) P = (inOk x ys = true ∧ P (.bl (ys.any fun z => eqD z x))) := by with_unfolding_all (unfold gIn; simp only [ok_ite])
theorem ok_inT : Ok (gIn x (.tup ys)) P = (inOk x ys = true ∧ P (.bl (ys.any fun z => eqD z x))) := by with_unfolding_all (unfold gIn; simp only [ok_ite])
theorem ok_notInL : Ok (gNotIn x (.lst ys)) P = (inOk x ys = true ∧ P (.bl (!ys.any fun z => eqD z x))) := by with_unfolding_all (unfold gNotIn; rw [ok_bind, ok_inL]; simp only [ok_ok])
theorem ok_notInT : Ok (gNotIn x (.tup ys)) P = (inOk x ys = true ∧ P (.bl (!ys.any fun z => eqD z x))) := by with_unfolding_all (unfold gNotIn; rw [ok_bind, ok_inT]; simp only [ok_ok])
theorem ok_atD : Ok (atD xs a) P = ∃ d, atI xs a = some d ∧ P d := by
  with_unfolding_all
    unfold atD
    cases q : atI xs a with
    | none => exact propext ⟨fun z => False.elim z, fun ⟨d, e, _⟩ => (by cases e)⟩
    | some d => exact propext ⟨fun z => ⟨d, rfl, z⟩, fun ⟨d', e, p⟩ => (by cases e; exact p)⟩
theorem ok_ixL : Ok (gIx (.lst xs) (.int a)) P = ∃ d, atI xs a = some d ∧ P d := by with_unfolding_all exact (ok_atD)
theorem ok_ixT : Ok (gIx (.tup xs) (.int a)) P = ∃ d, atI xs a = some d ∧ P d := by with_unfolding_all exact (ok_atD)
theorem ok_t0 : Ok (gIx (.tup (x :: xs)) (.int 0)) P = P x := by with_unfolding_all (rw [ok_ixT, show atI (x :: xs) 0 = some x from atI_cast (k := 0) (by simp)]; simp)
theorem ok_t1 : Ok (gIx (.tup (x :: y :: xs)) (.int 1)) P = P y := by with_unfolding_all (rw [ok_ixT, show atI (x :: y :: xs) 1 = some y from atI_cast (k := 1) (by simp)]; simp)
theorem ok_t2 : Ok (gIx (.tup (x :: y :: z :: xs)) (.int 2)) P = P z := by with_unfolding_all (rw [ok_ixT, show atI (x :: y :: z :: xs) 2 = some z from atI_cast (k := 2) (by simp)]; simp)
theorem ok_t3 : Ok (gIx (.tup (x :: y :: z :: u :: xs)) (.int 3)) P = P u := by with_unfolding_all (rw [ok_ixT, show atI (x :: y :: z :: u :: xs) 3 = some u from atI_cast (k := 3) (by simp)]; simp)
theorem ok_l0 : Ok (gIx (.lst (x :: xs)) (.int 0)) P = P x := by with_unfolding_all (rw [ok_ixL, show atI (x :: xs) 0 = some x from atI_cast (k := 0) (by simp)]; simp)
theorem ok_lenL : Ok (cLen [.lst xs]) P = P (.int xs.length) := by with_unfolding_all exact (rfl)
theorem ok_lenT : Ok (cLen [.tup xs]) P = P (.int xs.length) := by with_unfolding_all exact (rfl)
theorem ok_lenF : Ok (cLen [.fls xs]) P = P (.int xs.length) := by with_unfolding_all exact (rfl)
theorem ok_int : Ok (cInt [.int a]) P = P (.int a) := by with_unfolding_all exact (rfl)
theorem ok_tupL : Ok (cTuple [.lst xs]) P = P (.tup xs) := by with_unfolding_all exact (rfl)
theorem ok_tupT : Ok (cTuple [.tup xs]) P = P (.tup xs) := by with_unfolding_all exact (rfl)
theorem ok_lstL : Ok (cList [.lst xs]) P = P (.lst xs) := by with_unfolding_all exact (rfl)
theorem ok_lstT : Ok (cList [.tup xs]) P = P (.lst xs) := by with_unfolding_all exact (rfl)
theorem ok_sum : Ok (cSum [.lst xs]) P = ∃ ns, asInts xs = some ns ∧ P (.int ns.sum) := by
  with_unfolding_all
    have e0 : cSum [.lst xs] = (match asInts xs with | some ns => .ok (.int ns.sum) | none => .bot) := rfl
    rw [e0]
    cases q : asInts xs with
    | none => exact propext ⟨fun z => False.elim z, fun ⟨d, e, _⟩ => (by cases e)⟩
    | some d => exact propext ⟨fun z => ⟨d, rfl, z⟩, fun ⟨d', e, p⟩ => (by cases e; exact p)⟩
theorem ok_itR : Ok (dItR fa ρ) Q = Ok (fa ρ) fun d => Ok (asRng d) Q := by with_unfolding_all (unfold dItR; simp only [ok_bind])
theorem ok_rng : Ok (asRng (.int a)) Q = ((-1000000000 < a ∧ a < 1000000000) ∧ Q (rngD 0 a.toNat)) := by with_unfolding_all (unfold asRng; simp only [ok_ite])
theorem ok_itA : Ok (dItA fa ρ) Q = Ok (fa ρ) fun d => Ok (asSeq d) Q := by with_unfolding_all (unfold dItA; simp only [ok_bind])
theorem ok_seqL : Ok (asSeq (.lst xs)) Q = Q xs := by with_unfolding_all exact (rfl)
theorem ok_seqT : Ok (asSeq (.tup xs)) Q = Q xs := by with_unfolding_all exact (rfl)
end
/-- a slot's data -/
def slP (s : Option Sl) (k : D → Prop) : Prop := match s with
  | some (.ol xs) => k (.lst xs)
  | some (.dt d) => k d
  | _ => False
theorem slP_ol {xs : List D} {k : D → Prop} : slP (some (.ol xs)) k = k (.lst xs) := rfl
theorem slP_dt {d : D} {k : D → Prop} : slP (some (.dt d)) k = k d := rfl
def slO (s : Option Sl) (k : List D → Prop) : Prop := match s with
  | some (.ol xs) => k xs
  | _ => False
theorem slO_ol {xs : List D} {k : List D → Prop} : slO (some (.ol xs)) k = k xs := rfl
theorem ok_dIxO : Ok (dIxO i fa ρ) P = slP ρ[i]? fun d => Ok (fa ρ) fun y => Ok (gIx d y) P := by
  with_unfolding_all
    unfold dIxO slP
    cases q : ρ[i]? with
    | none => rfl
    | some s => cases s <;> simp only [ok_bind] <;> rfl
theorem ok_dLenX : Ok (dLenX i ρ) P = slP ρ[i]? fun d => Ok (cLen [d]) P := by
  with_unfolding_all
    unfold dLenX slP
    cases q : ρ[i]? with
    | none => rfl
    | some s => cases s <;> rfl
theorem ok_dtTmp : Ok (dtTmp i ft ρ) B = Ok (ft (frz i ρ)) B := by with_unfolding_all (unfold dtTmp; rw [ok_nox])
theorem ok_dIsi {T : String} : Ok (dIsi T fa ρ) P = Ok (fa ρ) fun d => Ok (isiD T d) P := by with_unfolding_all (unfold dIsi; simp only [ok_bind])
theorem ok_dMeth {c m : Str} {n : Nat} {g : List D → Rs D} : Ok (dMeth c m n g fa fs ρ) P = Ok (fa ρ) fun x => Ok (gSelf c m x) fun x => Ok (fs ρ) fun ds => ds.length + 1 = n ∧ Ok (g (x :: ds)) P := by with_unfolding_all (unfold dMeth; simp only [ok_bind, ok_iteR])
theorem ok_dFld {c m : Str} : Ok (dFld c m fa ρ) P = Ok (fa ρ) fun x => Ok (gFld c m x) P := by with_unfolding_all (unfold dFld; simp only [ok_bind])
theorem ok_dIndex : Ok (dIndex fa fb ρ) P = Ok (fa ρ) fun l => match l with | .lst ys => Ok (fb ρ) fun x => Ok (gIndex (.lst ys) x) P | _ => False := by
  with_unfolding_all
    unfold dIndex
    rw [ok_bind]
    congr 1; funext l
    cases l <;> simp only [ok_bind] <;> rfl
/-! ### statements -/
theorem wp_seq (hh : Wp (f ρ) (fun ρ' => Wp (g ρ') N R) R) : Wp (sSeq f g ρ) N R := by
  with_unfolding_all
    unfold sSeq
    cases q : f ρ <;> rw [q] at hh <;> exact hh
theorem wp_set (hh : Ok (fa ρ) fun d => N (ρ.set i (.dt d))) : Wp (sSet i fa ρ) N R := by
  with_unfolding_all
    obtain ⟨d, e, q⟩ := hh.ex
    unfold sSet; rw [e]; exact q
theorem wp_ret (hh : Ok (fa ρ) R) : Wp (sRet fa ρ) N R := by
  with_unfolding_all
    obtain ⟨d, e, q⟩ := hh.ex
    unfold sRet; rw [e]; exact q
theorem wp_expr (hh : Ok (fa ρ) fun _ => N ρ) : Wp (sExpr fa ρ) N R := by
  with_unfolding_all
    obtain ⟨d, e, q⟩ := hh.ex
    unfold sExpr; rw [e]; exact q
theorem wp_nil (hh : N ρ) : Wp (sNil ρ) N R := by with_unfolding_all exact (hh)
theorem wp_new (hh : N (ρ.set i (.ol []))) : Wp (sNew i ρ) N R := by with_unfolding_all exact (hh)
theorem wp_own (hh : Ok (fs ρ) fun xs => N (ρ.set i (.ol xs))) : Wp (sOwn i fs ρ) N R := by
  with_unfolding_all
    obtain ⟨d, e, q⟩ := hh.ex
    unfold sOwn; rw [e]; exact q
theorem wp_app (hh : slO ρ[i]? fun xs => Ok (fa ρ) fun d => xs.length < 1000000 ∧ N (ρ.set i (.ol (xs ++ [d])))) : Wp (sApp i fa ρ) N R := by
  with_unfolding_all
    unfold sApp
    unfold slO at hh
    split at hh
    · rename_i xs q
      obtain ⟨d, e, l, z⟩ := hh.ex
      simp only [q, e, Rs.sr_ok]
      rw [if_pos l]; exact z
    · exact False.elim hh
theorem wp_unp {is : List Nat} (hh : Ok (fa ρ) fun d => ∃ ρ', tgT is d ρ = some ρ' ∧ N ρ') : Wp (sUnp is fa ρ) N R := by
  with_unfolding_all
    obtain ⟨d, e, ρ', t, z⟩ := hh.ex
    unfold sUnp; rw [e, Rs.sr_ok, t]; exact z
theorem wp_if (hh : Ok (ft ρ) fun b => (b = true → Wp (f ρ) N R) ∧ (b = false → Wp (g ρ) N R)) : Wp (sIf ft f g ρ) N R := by
  with_unfolding_all
    obtain ⟨b, e, h1, h2⟩ := hh.ex
    unfold sIf; rw [e, Rs.sr_ok]
    cases b with
    | true => rw [if_pos rfl]; exact h1 rfl
    | false => rw [if_neg (by simp)]; exact h2 rfl
theorem wp_forL {t : D → Ev → Option Ev} {wp : List Nat} {body : Ev → SR} (I : Nat → Ev → Prop) : ∀ (ds : List D) (ρ : Ev) (j : Nat), I j ρ →
    (∀ k d ρ, ds[k]? = some d → I (j + k) ρ → ∃ ρ', t d ρ = some ρ' ∧ Wp (body ρ') (fun ρ2 => I (j + k + 1) (wipeE wp ρ2)) R) → (∀ ρ, I (j + ds.length) ρ → N ρ) → Wp (forL t wp body ds ρ) N R
  | [], ρ, j, h0, _, hN => by with_unfolding_all exact hN ρ h0
  | d :: ds, ρ, j, h0, hs, hN => by
    obtain ⟨ρ', e1, e2⟩ := hs 0 d ρ rfl h0
    unfold forL
    rw [e1]
    dsimp only
    cases q : body ρ' with
    | nx ρ2 =>
      rw [q] at e2
      refine wp_forL I ds (wipeE wp ρ2) (j + 1) (by with_unfolding_all exact e2) (fun k d ρ hd hp => ?_) (fun ρ h => hN ρ (by rw [List.length_cons, show j + (ds.length + 1) = j + 1 + ds.length by omega]; exact h))
      obtain ⟨a, q1, q2⟩ := hs (k + 1) d ρ (by simpa using hd) (by rw [show j + (k + 1) = j + 1 + k by omega]; exact hp)
      exact ⟨a, q1, by rw [show j + 1 + k + 1 = j + (k + 1) + 1 by omega]; exact q2⟩
    | rt d => rw [q] at e2; with_unfolding_all exact e2
    | ro d => rw [q] at e2; with_unfolding_all exact e2
    | _ => rw [q] at e2; with_unfolding_all exact False.elim e2
theorem wp_for {it : Ev → Rs (List D)} {t : D → Ev → Option Ev} {wp : List Nat} {body : Ev → SR} (I : Nat → Ev → Prop)
    (hh : Ok (it ρ) fun ds => I 0 ρ ∧ (∀ k d ρ, ds[k]? = some d → I k ρ → ∃ ρ', t d ρ = some ρ' ∧ Wp (body ρ') (fun ρ2 => I (k + 1) (wipeE wp ρ2)) R) ∧ ∀ ρ, I ds.length ρ → N ρ) : Wp (sFor it t wp body ρ) N R := by
  with_unfolding_all
    obtain ⟨ds, e, h0, hs, hN⟩ := hh.ex
    unfold sFor
    rw [e, Rs.sr_ok]
    exact wp_forL I ds ρ 0 h0 (fun k d ρ hd hp => by simpa using hs k d ρ hd (by simpa using hp)) (fun ρ h => hN ρ (by simpa using h))
/-- a comprehension by a function -/
theorem ok_compM {vs : List Nat} {it : Ev → Rs (List D)} {t : D → Ev → Option Ev} (h : D → D)
    (hh : Ok (it ρ) fun ds => ds.length ≤ 1000000 ∧ (∀ d ∈ ds, ∃ ρ', t d (wipeE vs ρ) = some ρ' ∧ ft ρ' = .ok true ∧ Ok (fa ρ') (fun x => x = h d)) ∧ P (.lst (ds.map h))) : Ok (dComp vs it t ft fa ρ) P := by
  with_unfolding_all
    obtain ⟨ds, e, hl, hs, hp⟩ := hh.ex
    unfold dComp
    rw [e, Rs.bind_ok, if_pos hl, compL_map h ds (fun d hd => by
      obtain ⟨ρ', e1, e2, e3⟩ := hs d hd
      exact ⟨ρ', e1, e2, e3.eq⟩)]
    exact hp
theorem ok_compF {vs : List Nat} {it : Ev → Rs (List D)} {t : D → Ev → Option Ev} (p : D → Bool) (h : D → D)
    (hh : Ok (it ρ) fun ds => ds.length ≤ 1000000 ∧ (∀ d ∈ ds, ∃ ρ', t d (wipeE vs ρ) = some ρ' ∧ Ok (ft ρ') (fun b => b = p d) ∧ (p d = true → Ok (fa ρ') (fun x => x = h d))) ∧ P (.lst ((ds.filter p).map h))) : Ok (dComp vs it t ft fa ρ) P := by
  with_unfolding_all
    obtain ⟨ds, e, hl, hs, hp⟩ := hh.ex
    unfold dComp
    rw [e, Rs.bind_ok, if_pos hl, compL_filter p h ds (fun d hd => by
      obtain ⟨ρ', e1, e2, e3⟩ := hs d hd
      exact ⟨ρ', e1, e2.eq, fun q => (e3 q).eq⟩)]
    exact hp
/-- each element has a property -/
theorem compL_all {t : D → Ev → Option Ev} {c : Ev → Rs Bool} {f : Ev → Rs D} {ρ : Ev} (J : D → D → Prop) : ∀ ds : List D, (∀ d ∈ ds, ∃ ρ', t d ρ = some ρ' ∧ c ρ' = .ok true ∧ Ok (f ρ') (J d)) → ∃ ys : List D, compL t c f ρ ds = .ok ys ∧ ys.length = ds.length ∧ ∀ (k : Nat) (x y : D), ds[k]? = some x → ys[k]? = some y → J x y
  | [], _ => ⟨[], rfl, rfl, fun k x y h => by simp at h⟩
  | d :: ds, hs => by
    obtain ⟨ρ', e1, e2, e3⟩ := hs d List.mem_cons_self
    obtain ⟨y, e4, e5⟩ := e3.ex
    obtain ⟨ys, q1, q2, q3⟩ := compL_all (t := t) (c := c) (f := f) (ρ := ρ) J ds fun d hd => hs d (List.mem_cons_of_mem _ hd)
    refine ⟨y :: ys, ?_, by simp [q2], fun k x z h1 h2 => ?_⟩
    · unfold compL
      rw [e1]
      simp [e2, e4, q1]
    · cases k with
      | zero => simp at h1 h2; subst h1 h2; exact e5
      | succ k => exact q3 k x z (by simpa using h1) (by simpa using h2)
theorem ok_compA {vs : List Nat} {it : Ev → Rs (List D)} {t : D → Ev → Option Ev} (J : D → D → Prop)
    (hh : Ok (it ρ) fun ds => ds.length ≤ 1000000 ∧ (∀ d ∈ ds, ∃ ρ', t d (wipeE vs ρ) = some ρ' ∧ ft ρ' = .ok true ∧ Ok (fa ρ') (J d)) ∧ ∀ ys : List D, ys.length = ds.length → (∀ (k : Nat) (x y : D), ds[k]? = some x → ys[k]? = some y → J x y) → P (.lst ys)) : Ok (dComp vs it t ft fa ρ) P := by
  with_unfolding_all
    obtain ⟨ds, e, hl, hs, hp⟩ := hh.ex
    obtain ⟨ys, q1, q2, q3⟩ := compL_all J ds hs
    unfold dComp
    rw [e, Rs.bind_ok, if_pos hl, q1]
    exact hp ys q2 q3
theorem ok_run {n : Nat} {ds : List D} (hh : Wp (f (ev0 n ds)) (fun _ => P .non) P) : Ok (runD n f ds) P := by
  with_unfolding_all
    unfold runD
    cases q : f (ev0 n ds) <;> rw [q] at hh <;> first | exact hh | exact False.elim hh
end
end KD

/-! KP3: the calculus over natural numbers and names. -/
namespace KD
open PySem L2
def nmD (l : List Nat) : D := .str (sO l)
def natD (i : Nat) : D := .int (i : Int)
/-- a - b -/
def subD (a b : Nat) : D := .int ((a : Int) - (b : Int))
theorem subD_le {a b : Nat} (h : b ≤ a) : subD a b = natD (a - b) := by
  unfold subD natD
  congr 1
  omega
section
variable {P : D → Prop} {Q : List D → Prop} {B : Bool → Prop} {ρ : Ev} {a b c n : Nat} {x y : D} {xs ys : List D} {l m : List Nat}
theorem nC {i : Int} (h : 0 ≤ i) : Ok (dC (.int i) ρ) P = P (natD i.toNat) := by
  with_unfolding_all
    unfold natD
    rw [Int.toNat_of_nonneg h]
    rfl
theorem nAdd : Ok (gAdd (natD a) (natD b)) P = P (natD (a + b)) := by with_unfolding_all exact (rfl)
theorem nSub : Ok (gSub (natD a) (natD b)) P = P (subD a b) := by with_unfolding_all exact (rfl)
theorem nMul : Ok (gMul (natD a) (natD b)) P = ((a < 2 ^ 64 ∨ b < 2 ^ 64) ∧ P (natD (a * b))) := by
  with_unfolding_all
    unfold natD
    rw [ok_mul]
    have e : (okMul (a : Int) (b : Int) = true) = (a < 2 ^ 64 ∨ b < 2 ^ 64) := by
      rw [okMul_iff]
      apply propext
      constructor
      · intro h; omega
      · intro h; omega
    rw [e, Int.natCast_mul]
theorem nDiv : Ok (gDiv (natD a) (natD b)) P = ((0 < b ∧ b < 1073741824) ∧ P (natD (a / b))) := by
  with_unfolding_all
    unfold natD
    rw [ok_div, Int.natCast_ediv]
    have e : ((0 : Int) < (b : Int) ∧ (b : Int) < 1073741824) = (0 < b ∧ b < 1073741824) := by apply propext; omega
    rw [e]
theorem nMod : Ok (gMod (natD a) (natD b)) P = (0 < b ∧ P (natD (a % b))) := by
  with_unfolding_all
    unfold natD
    rw [ok_mod, Int.natCast_emod]
    have e : ((0 : Int) < (b : Int)) = (0 < b) := by apply propext; omega
    rw [e]
theorem nLt : Ok (gLt (natD a) (natD b)) P = P (.bl (decide (a < b))) := by with_unfolding_all (unfold natD; rw [ok_lt]; congr 2; exact decide_eq_decide.mpr (by omega))
theorem nLe : Ok (gLe (natD a) (natD b)) P = P (.bl (decide (a ≤ b))) := by with_unfolding_all (unfold natD; rw [ok_le]; congr 2; exact decide_eq_decide.mpr (by omega))
theorem nGt : Ok (gGt (natD a) (natD b)) P = P (.bl (decide (b < a))) := by with_unfolding_all (unfold natD; rw [ok_gt]; congr 2; exact decide_eq_decide.mpr (by omega))
theorem nGe : Ok (gGe (natD a) (natD b)) P = P (.bl (decide (b ≤ a))) := by with_unfolding_all (unfold natD; rw [ok_ge]; congr 2; exact decide_eq_decide.mpr (by omega))
theorem nEq : Ok (gEq (natD a) (natD b)) P = P (.bl (decide (a = b))) := by with_unfolding_all (unfold natD; rw [ok_eqI]; congr 2; exact decide_eq_decide.mpr (by omega))
theorem nNe : Ok (gNe (natD a) (natD b)) P = P (.bl (!decide (a = b))) := by with_unfolding_all (unfold natD; rw [ok_neI]; congr 3; exact decide_eq_decide.mpr (by omega))
theorem nmEq : Ok (gEq (nmD l) (nmD m)) P = P (.bl (decide (l = m))) := by
  with_unfolding_all
    rw [ok_eq]
    have e : eqOk (nmD l) (nmD m) = true := rfl
    unfold nmD
    rw [eqD_sO]
    have e2 : (l == m) = decide (l = m) := by by_cases h : l = m <;> simp [h]
    rw [e2]
    exact propext ⟨fun z => z.2, fun z => ⟨e, z⟩⟩
theorem nIxL : Ok (gIx (.lst xs) (natD a)) P = ∃ d, xs[a]? = some d ∧ P d := by
  with_unfolding_all
    unfold natD
    rw [ok_ixL]
    have e : atI xs (a : Int) = xs[a]? := by
      by_cases h : a < xs.length
      · rw [atI_cast h, List.getElem?_eq_getElem h]
      · rw [List.getElem?_eq_none (by omega)]
        unfold atI ixN
        simp
        omega
    rw [e]
theorem nIxT : Ok (gIx (.tup xs) (natD a)) P = ∃ d, xs[a]? = some d ∧ P d := by
  with_unfolding_all
    have e : gIx (.tup xs) (natD a) = gIx (.lst xs) (natD a) := rfl
    rw [e, nIxL]
theorem nT0 : Ok (gIx (.tup (x :: xs)) (natD 0)) P = P x := by with_unfolding_all (rw [nIxT]; simp)
theorem nT1 {x0 : D} : Ok (gIx (.tup (x0 :: x :: xs)) (natD 1)) P = P x := by with_unfolding_all (rw [nIxT]; simp)
theorem nT2 {x0 x1 : D} : Ok (gIx (.tup (x0 :: x1 :: x :: xs)) (natD 2)) P = P x := by with_unfolding_all (rw [nIxT]; simp)
theorem nT3 {x0 x1 x2 : D} : Ok (gIx (.tup (x0 :: x1 :: x2 :: x :: xs)) (natD 3)) P = P x := by with_unfolding_all (rw [nIxT]; simp)
theorem nT4 {x0 x1 x2 x3 : D} : Ok (gIx (.tup (x0 :: x1 :: x2 :: x3 :: x :: xs)) (natD 4)) P = P x := by with_unfolding_all (rw [nIxT]; simp)
theorem nIxM {α : Type} {f : α → D} {zs : List α} : Ok (gIx (.lst (zs.map f)) (natD a)) P = ∃ z, zs[a]? = some z ∧ P (f z) := by
  with_unfolding_all
    rw [nIxL]
    apply propext
    constructor
    · rintro ⟨d, h, p⟩
      rw [List.getElem?_map] at h
      cases q : zs[a]? with
      | none => rw [q] at h; cases h
      | some z => rw [q] at h; cases h; exact ⟨z, rfl, p⟩
    · rintro ⟨z, h, p⟩
      exact ⟨f z, by rw [List.getElem?_map, h]; rfl, p⟩
theorem nIxMT {α : Type} {f : α → D} {zs : List α} : Ok (gIx (.tup (zs.map f)) (natD a)) P = ∃ z, zs[a]? = some z ∧ P (f z) := by
  with_unfolding_all
    have e : gIx (.tup (zs.map f)) (natD a) = gIx (.lst (zs.map f)) (natD a) := rfl
    rw [e, nIxM]
theorem nLenL : Ok (cLen [.lst xs]) P = P (natD xs.length) := by with_unfolding_all exact (rfl)
theorem nLenT : Ok (cLen [.tup xs]) P = P (natD xs.length) := by with_unfolding_all exact (rfl)
theorem nLenF : Ok (cLen [.fls xs]) P = P (natD xs.length) := by with_unfolding_all exact (rfl)
theorem nInt : Ok (cInt [natD a]) P = P (natD a) := by with_unfolding_all exact (rfl)
theorem nAsI {O : Option Int → Prop} : Ok (asI (natD a)) O = O (some (a : Int)) := by with_unfolding_all exact (rfl)
theorem nRng : Ok (asRng (natD a)) Q = (a < 1000000000 ∧ Q ((List.range a).map natD)) := by
  with_unfolding_all
    unfold natD
    rw [ok_rng]
    have e : (-1000000000 < (a : Int) ∧ (a : Int) < 1000000000) = (a < 1000000000) := by apply propext; omega
    have e2 : rngD 0 ((a : Int).toNat) = (List.range a).map (fun i : Nat => D.int (i : Int)) := by
      unfold rngD
      simp
    rw [e, e2]
theorem cutD_nn (xs : List D) (i j : Nat) : cutD xs (some (i : Int)) (some (j : Int)) = (xs.drop i).take (j - i) := by
  unfold cutD
  rw [HT.sIx_nat, HT.sIx_nat]
  by_cases h : i ≤ xs.length
  · rw [Nat.min_eq_left h]
    by_cases h2 : j ≤ xs.length
    · rw [Nat.min_eq_left h2]
    · rw [Nat.min_eq_right (by omega), List.take_of_length_le (by simp), List.take_of_length_le (by simp; omega)]
  · rw [Nat.min_eq_right (show xs.length ≤ i by omega), List.drop_length, List.drop_of_length_le (show xs.length ≤ i by omega)]
    simp
theorem cut_to : cutD xs none (some (a : Int)) = xs.take a := cutD_to xs a
theorem cut_from : cutD xs (some (a : Int)) none = xs.drop a := cutD_from xs a
theorem frz_ol : frz 0 (.ol xs :: ρ) = .dt (.lst xs) :: ρ := rfl
theorem frz_dt : frz 0 (.dt x :: ρ) = .dt x :: ρ := rfl
theorem frz_no : frz 0 (.no :: ρ) = .no :: ρ := rfl
theorem frz_S {s : Sl} : frz (a + 1) (s :: ρ) = s :: frz a ρ := by
  unfold frz
  rw [List.getElem?_cons_succ]
  cases ρ[a]? with
  | none => rfl
  | some s' => cases s' <;> rfl
theorem wp_cut {f g : Ev → SR} {N : Ev → Prop} {R : D → Prop} (M : Ev → Prop) (h1 : Wp (f ρ) M R) (h2 : ∀ ρ, M ρ → Wp (g ρ) N R) : Wp (sSeq f g ρ) N R := by with_unfolding_all exact (wp_seq (h1.imp h2 fun _ h => h))
theorem ok_dCb {b : Bool} : Ok (dC (.bl b) ρ) P = P (.bl b) := by with_unfolding_all exact (rfl)
theorem ok_dCs {b : Str} : Ok (dC (.str b) ρ) P = P (.str b) := by with_unfolding_all exact (rfl)
theorem ok_dCn : Ok (dC .non ρ) P = P .non := by with_unfolding_all exact (rfl)
end
-- what an expression answers
end KD
open PySem L2 KD
local macro_rules
  | `(tactic| array_get_dec) => `(tactic| try simp -implicitDefEqProofs only [ok_ok, ok_dOp, nC, ok_dCb, ok_dCs, ok_dCn, ok_dVar0, ok_dVarS, ok_dNil, ok_dCons, ok_dCall, ok_dCallN, ok_dTup, ok_dLst, ok_dFrL, ok_dTest, ok_dTru, ok_asB, ok_truB, ok_dAnd, ok_dOr, ok_dNot, ok_dSl, ok_dFrS, ok_dFrA, ok_slL, ok_addL, ok_dPart, nAsI, ok_dNoP, ok_slLst, ok_slTup,
  nAdd, ok_addT, ok_addLs, nSub, nMul, nDiv, nMod, nLt, nLe, nGt, nGe, nEq, nNe, nmEq, nT0, nT1, nT2, nT3, nT4, nLenL, nLenT, nLenF, nInt, ok_tupL, ok_tupT, ok_lstL, ok_lstT, ok_itR, nRng, ok_itA, ok_seqL, ok_seqT, ok_dIxO, ok_dLenX, slP_ol, slP_dt, slO_ol, ok_dtTmp, cut_to, cut_from, cutD_nn, cutD_all,
  List.getElem?_cons_zero, List.getElem?_cons_succ, List.set_cons_zero, List.set_cons_succ, List.length_cons, List.length_nil, List.length_map, List.length_range, frz_ol, frz_dt, frz_no, frz_S, Nat.reduceAdd, Nat.reduceLeDiff, Nat.reduceLT, Nat.reduceMul, Int.reduceLE, Int.reduceToNat, true_and, and_true, Nat.zero_add, List.map_cons, List.map_nil])
namespace KD
-- the slots
end KD
open PySem L2 KD
local macro_rules
  | `(tactic| array_mem_dec) => `(tactic| try simp -implicitDefEqProofs only [List.getElem?_cons_zero, List.getElem?_cons_succ, List.set_cons_zero, List.set_cons_succ, wipeE, frz_ol, frz_dt, frz_no, frz_S, ev0, List.map_cons, List.map_nil, List.length_cons, List.length_nil, List.cons_append, List.nil_append, Nat.reduceAdd, Nat.reduceSub, Nat.zero_add, List.replicate_succ, List.replicate_zero])
namespace KD
end KD
namespace KD
open PySem L2
theorem asInts_nat : ∀ zs : List Nat, asInts (zs.map natD) = some (zs.map fun z : Nat => (z : Int))
  | [] => rfl
  | z :: zs => by
    have ih := asInts_nat zs
    rw [List.map_cons, List.map_cons]
    show (asInts (zs.map natD)).map _ = _
    rw [ih]
    rfl
theorem sum_cast : ∀ zs : List Nat, (zs.map fun z : Nat => (z : Int)).sum = ((zs.sum : Nat) : Int)
  | [] => rfl
  | z :: zs => by rw [List.map_cons, List.sum_cons, List.sum_cons, sum_cast zs, Int.natCast_add]
theorem nSum {P : D → Prop} {zs : List Nat} : Ok (cSum [.lst (zs.map natD)]) P = P (natD zs.sum) := by
  with_unfolding_all
    rw [ok_sum, asInts_nat]
    unfold natD
    rw [← sum_cast]
    exact propext ⟨fun ⟨ns, e, p⟩ => by cases e; exact p, fun p => ⟨_, rfl, p⟩⟩
theorem unmap {α : Type} {f : α → D} {C : α → Prop} : ∀ {ys : List D}, (∀ y ∈ ys, ∃ p, C p ∧ y = f p) → ∃ ps : List α, ys = ps.map f ∧ ps.length = ys.length ∧ ∀ p ∈ ps, C p
  | [], _ => ⟨[], rfl, rfl, by simp⟩
  | y :: ys, h => by
    obtain ⟨p, hp, rfl⟩ := h y List.mem_cons_self
    obtain ⟨ps, rfl, hl, hs⟩ := unmap (ys := ys) fun y hy => h y (List.mem_cons_of_mem _ hy)
    refine ⟨p :: ps, rfl, by simp, fun q hq => ?_⟩
    rcases List.mem_cons.mp hq with e | e
    · subst e; exact hp
    · exact hs q e
theorem cons_of {x : D} {xs : List D} : [x] ++ xs = x :: xs := rfl
theorem line_ok {n : Nat} (h : n ≤ 1000) : n ≤ sizeLine := le_line h
end KD

namespace KL
open PySem L2 KD
/-! ### symbols -/
structure Sym where
  nm : List Nat
  pl : Nat
  dn : Bool
  od : List Nat
def Sym.d (s : Sym) : D := .tup [nmD s.nm, natD s.pl, .bl s.dn, .tup (s.od.map natD)]
def nameOk (l : List Nat) : Prop := 1 ≤ l.length ∧ l.length ≤ 8 ∧ ∀ c ∈ l, 97 ≤ c ∧ c ≤ 122
structure Sym.ok (s : Sym) : Prop where
  nm : nameOk s.nm
  pl : s.pl ≤ 3
  nd : s.od.Nodup
  lt : ∀ i ∈ s.od, i < s.pl
structure SigOk (ss : List Sym) : Prop where
  all : ∀ s ∈ ss, s.ok
  nd : (ss.map (·.nm)).Nodup
  len : ss.length ≤ 100
theorem letters_eq : (Str.ofString "abcdefghijklmnopqrstuvwxyz").cps.toList = List.range' 97 26 := by decide +kernel
theorem small_in {c : Nat} (h : 97 ≤ c ∧ c ≤ 122) : decide (c ∈ (Str.ofString "abcdefghijklmnopqrstuvwxyz").cps.toList) = true := by
  rw [letters_eq]
  apply decide_eq_true
  rw [List.mem_range'_1]
  omega
theorem notIn_small {c : Nat} (h : 97 ≤ c ∧ c ≤ 122) : gNotIn (.str (sO [c])) (.str "abcdefghijklmnopqrstuvwxyz") = .ok (.bl false) := by
  have e : gIn (.str (sO [c])) (.str "abcdefghijklmnopqrstuvwxyz") = .ok (.bl true) := by
    unfold gIn
    dsimp only
    rw [sO_cps]
    dsimp only
    rw [small_in h]
  unfold gNotIn
  rw [e]
  rfl
theorem isi_str (l : Str) : isiD "str" (.str l) = .ok (.bl true) := rfl
theorem den_isname {l : List Nat} (h : nameOk l) : den_is_name [nmD l] = .ok (.bl true) := by
  obtain ⟨h1, h2, h3⟩ := h
  have hl : (sO l).length = l.length := sO_len l
  have a1 : l.length ≤ 1000 := by omega
  have a2 : ¬ (l.length : Int) < 1 := by omega
  have a3 : ¬ (8 : Int) < (l.length : Int) := by omega
  have loop : forL (tgN 1) [1] lb_is_name_1 (signs (sO l)) [.dt (nmD l), .no] = .nx [.dt (nmD l), .no] := by
    rw [signs_sO]
    refine forL_same _ fun d hd => ?_
    obtain ⟨c, hc, rfl⟩ := List.mem_map.mp hd
    refine ⟨_, _, rfl, .inl (by simp -implicitDefEqProofs [lb_is_name_1, runD, ev0, sSeq, sNil, sIf, sSet, sRet, sRetN, sExpr, sNew, sApp, sLst, sClear, sFor, sUnp, dTest, dTru, dOp, dVar, dC, dNil, dCons, dCall, dCallN, dAnd, dOr, dNot, dAndV, dOrV, dNotV, dIsN, dNotN, dTup, dLst, dSl, dNoP, dPart, dItL, dItT, dItR, dItR2, dItS, dItA, asSeq, dComp, dIsi, dFld, dMeth, dProp, dNeg, dLenO, dMakeS, dMakeSO, asB, asI, asL, asT, truD, SR.fin, KD.frz, wipeE, tgN, tgT, setsE, gSelf, gCls, gFld, fldD, mkS, seqOf, Rs.nox, notIn_small (h3 c hc)]; rfl), rfl⟩
  have loop' : forL (tgN 1) [1] lb_is_name_1 (signs (sO l)) [.dt (.str (sO l)), .no] = .nx [.dt (.str (sO l)), .no] := loop
  simp -implicitDefEqProofs [den_is_name, b_is_name, nmD, runD, ev0, sSeq, sNil, sIf, sSet, sRet, sRetN, sExpr, sNew, sApp, sLst, sClear, sFor, sUnp, dTest, dTru, dOp, dVar, dC, dNil, dCons, dCall, dCallN, dAnd, dOr, dNot, dAndV, dOrV, dNotV, dIsN, dNotN, dTup, dLst, dSl, dNoP, dPart, dItL, dItT, dItR, dItR2, dItS, dItA, asSeq, dComp, dIsi, dFld, dMeth, dProp, dNeg, dLenO, dMakeS, dMakeSO, asB, asI, asL, asT, truD, SR.fin, KD.frz, wipeE, tgN, tgT, setsE, gSelf, gCls, gFld, fldD, mkS, seqOf, Rs.nox, gAdd, KD.gSub, gMul, gDiv, gMod, pow_18, mul_48271, mul_7919, mul_69621, mul_5, gLt, gLe, gGt, gGe, gIx, atD, cLen, cInt, cTuple, cList, gSl, gNeg, isi_str, hl, a1, a2, a3, loop']
theorem plain_nm (l : List Nat) : (nmD l).plain = true := rfl
theorem dep_nm (l : List Nat) : (nmD l).dep = 0 := rfl
theorem plains_nm : ∀ ls : List (List Nat), D.plains (ls.map nmD) = true
  | [] => rfl
  | l :: ls => by show ((nmD l).plain && D.plains (ls.map nmD)) = true; rw [plains_nm ls]; rfl
theorem plains_nat : ∀ ls : List Nat, D.plains (ls.map natD) = true
  | [] => rfl
  | l :: ls => by show ((natD l).plain && D.plains (ls.map natD)) = true; rw [plains_nat ls]; rfl
theorem deps_nat : ∀ ls : List Nat, D.deps (ls.map natD) = 0
  | [] => rfl
  | l :: ls => by show max (natD l).dep (D.deps (ls.map natD)) = 0; rw [deps_nat ls]; rfl
theorem in_nm (l : List Nat) (ls : List (List Nat)) : gIn (nmD l) (.lst (ls.map nmD)) = .ok (.bl (decide (l ∈ ls))) := by
  have h : inOk (nmD l) (ls.map nmD) = true := by simp [inOk, plain_nm, plains_nm, dep_nm]
  unfold gIn
  dsimp only
  rw [if_pos h]
  congr 2
  induction ls with
  | nil => rfl
  | cons a ls ih =>
    rw [List.map_cons, List.any_cons, ih (by simp [inOk, plain_nm, plains_nm, dep_nm])]
    have : eqD (nmD a) (nmD l) = (a == l) := eqD_sO a l
    rw [this]
    by_cases e : a = l
    · subst e; simp
    · have e' : ¬ l = a := fun q => e q.symm
      simp [e, e']
theorem eqD_nat (a b : Nat) : eqD (natD a) (natD b) = decide (a = b) := by
  show eqD (.int a) (.int b) = _
  rw [eqD_int]
  by_cases e : a = b
  · subst e; simp
  · rw [decide_eq_false e]; exact beq_eq_false_iff_ne.mpr (by omega)
theorem in_nat (i : Nat) (ls : List Nat) : gIn (natD i) (.tup (ls.map natD)) = .ok (.bl (decide (i ∈ ls))) := by
  have h : inOk (natD i) (ls.map natD) = true := by simp [inOk, natD, D.plain, plains_nat, D.dep]
  unfold gIn
  dsimp only
  rw [if_pos h]
  congr 2
  induction ls with
  | nil => rfl
  | cons a ls ih =>
    rw [List.map_cons, List.any_cons, ih (by simp [inOk, natD, D.plain, plains_nat, D.dep])]
    have : eqD (natD a) (natD i) = decide (a = i) := by
      show eqD (.int a) (.int i) = _
      rw [eqD_int]
      by_cases e : a = i
      · subst e; simp
      · have : ¬ (a : Int) = (i : Int) := by omega
        simp [e, this]
    rw [this]
    by_cases e : a = i
    · subst e; simp
    · have e' : ¬ i = a := fun q => e q.symm
      simp [e, e']
theorem take_nodup {l : List Nat} (h : l.Nodup) {k : Nat} (hk : k < l.length) : l[k] ∉ l.take k := by
  intro hm
  obtain ⟨j, hj, e⟩ := List.getElem_of_mem hm
  have hj' : j < k := by have := hj; simp at this; omega
  rw [List.getElem_take] at e
  have := (List.getElem_inj h).mp e
  omega
theorem den_check {s : Sym} (h : s.ok) {ns : List (List Nat)} (hn : s.nm ∉ ns) : den_check_symbol [s.d, .lst (ns.map nmD)] = .ok .non := by
  have e1 := den_isname h.nm
  have e2 := in_nm s.nm ns
  have e3 : decide (s.nm ∈ ns) = false := decide_eq_false hn
  have a1 : ¬ ((s.pl : Nat) : Int) < 0 := by omega
  have a2 : ¬ (3 : Int) < (s.pl : Int) := by have := h.pl; omega
  have hlen : s.od.length ≤ 3 := by
    have := nodup_lt s.pl s.od h.nd h.lt
    have := h.pl
    omega
  have rng : asRng (.int (s.od.length : Int)) = .ok (rngD 0 s.od.length) := asRng_nat _ (by omega)
  have loop : forL (tgN 6) [6] lb_check_symbol_1 (rngD 0 s.od.length) [.dt s.d, .dt (.lst (ns.map nmD)), .dt (nmD s.nm), .dt (natD s.pl), .dt (.bl s.dn), .dt (.tup (s.od.map natD)), .no] = .nx [.dt s.d, .dt (.lst (ns.map nmD)), .dt (nmD s.nm), .dt (natD s.pl), .dt (.bl s.dn), .dt (.tup (s.od.map natD)), .no] := by
    refine forL_same _ fun d hd => ?_
    obtain ⟨k, hk, rfl⟩ := mem_rng0 hd
    have x1 : gIx (.tup (s.od.map natD)) (.int k) = .ok (natD s.od[k]) := by
      unfold gIx atD
      dsimp only
      rw [atI_cast (by simpa using hk)]
      simp
    have x2 : gLt (natD s.od[k]) (.int 0) = .ok (.bl false) := by
      have : ¬ ((s.od[k] : Nat) : Int) < 0 := by omega
      simp [gLt, natD, this]
    have x3 : gGe (natD s.od[k]) (natD s.pl) = .ok (.bl false) := by
      have : s.od[k] < s.pl := h.lt _ (List.getElem_mem _)
      have : ¬ (s.pl : Int) ≤ (s.od[k] : Int) := by omega
      simp [gGe, natD, this]
    have x4 : gSl (.tup (s.od.map natD)) none (some (k : Int)) = .ok (.tup ((s.od.map natD).take k)) := by
      unfold gSl
      dsimp only
      rw [cutD_to]
    have x5 : gIn (natD s.od[k]) (.tup ((s.od.map natD).take k)) = .ok (.bl false) := by
      rw [← List.map_take, in_nat, decide_eq_false (take_nodup h.nd hk)]
    refine ⟨_, _, rfl, .inl (by simp -implicitDefEqProofs [lb_check_symbol_1, runD, ev0, sSeq, sNil, sIf, sSet, sRet, sRetN, sExpr, sNew, sApp, sLst, sClear, sFor, sUnp, dTest, dTru, dOp, dVar, dC, dNil, dCons, dCall, dCallN, dAnd, dOr, dNot, dAndV, dOrV, dNotV, dIsN, dNotN, dTup, dLst, dSl, dNoP, dPart, dItL, dItT, dItR, dItR2, dItS, dItA, asSeq, dComp, dIsi, dFld, dMeth, dProp, dNeg, dLenO, dMakeS, dMakeSO, asB, asI, asL, asT, truD, SR.fin, KD.frz, wipeE, tgN, tgT, setsE, gSelf, gCls, gFld, fldD, mkS, seqOf, Rs.nox, x1, x2, x3, x4, x5]; rfl), rfl⟩
  have x1 : gLt (natD s.pl) (.int 0) = .ok (.bl false) := by simp [gLt, natD, a1]
  have x2 : gGt (natD s.pl) (.int 3) = .ok (.bl false) := by simp [gGt, natD, a2]
  rw [show s.d = .tup [nmD s.nm, natD s.pl, .bl s.dn, .tup (s.od.map natD)] from rfl] at loop ⊢
  simp -implicitDefEqProofs [den_check_symbol, b_check_symbol, runD, ev0, sSeq, sNil, sIf, sSet, sRet, sRetN, sExpr, sNew, sApp, sLst, sClear, sFor, sUnp, dTest, dTru, dOp, dVar, dC, dNil, dCons, dCall, dCallN, dAnd, dOr, dNot, dAndV, dOrV, dNotV, dIsN, dNotN, dTup, dLst, dSl, dNoP, dPart, dItL, dItT, dItR, dItR2, dItS, dItA, asSeq, dComp, dIsi, dFld, dMeth, dProp, dNeg, dLenO, dMakeS, dMakeSO, asB, asI, asL, asT, truD, SR.fin, KD.frz, wipeE, tgN, tgT, setsE, gSelf, gCls, gFld, fldD, mkS, seqOf, Rs.nox, cLen, e1, e2, e3, x1, x2, rng, loop]
/-! ### Signature(rows), .symbols -/
def numsD (n : Nat) : List D := (List.range n).map natD
def sigO (ss : List Sym) : D := sigOb (ss.map Sym.d) (ss.map fun s => nmD s.nm) (numsD ss.length)
theorem look_none {l : List Nat} : ∀ {ns : List (List Nat)} {vs : List D}, l ∉ ns → lookD (ns.map nmD) vs (.inr (sO l)) = none
  | [], _, _ => rfl
  | a :: ns, [], _ => rfl
  | a :: ns, v :: vs, h => by
    have h1 : ¬ (nmD a).key = some (.inr (sO l)) := fun e => by
      have e2 : (some (Sum.inr (sO a)) : Option Key) = some (.inr (sO l)) := e
      have e3 := sO_inj (Sum.inr.inj (Option.some.inj e2))
      exact h (by rw [e3]; exact List.mem_cons_self)
    show (if (nmD a).key = some (.inr (sO l)) then some v else lookD (ns.map nmD) vs (.inr (sO l))) = none
    rw [if_neg h1]
    exact look_none fun q => h (List.mem_cons_of_mem _ q)
theorem sigL_step {chk : List D → Rs D} {row : D} {rows l ks vs : List D} {x n a b c t : D} {k : Key} (hc : chk [row, .lst ks] = .ok x) (h0 : gIx row (.int 0) = .ok n) (h1 : gIx row (.int 1) = .ok a) (h2 : gIx row (.int 2) = .ok b) (h3 : gIx row (.int 3) = .ok c) (ht : cTuple [c] = .ok t)
    (hk : n.key = some k) (hl : lookD ks vs k = none) (hb : l.length < 1000 ∧ ks.length < 1000) : sigL chk (row :: rows) l ks vs = sigL chk rows (l ++ [.tup [n, a, b, t]]) (ks ++ [n]) (vs ++ [.int l.length]) := by
  rw [sigL]
  rw [hc, Rs.bind_ok, h0, Rs.bind_ok, hk]
  dsimp only
  rw [hl]
  dsimp only
  rw [h1, Rs.bind_ok, h2, Rs.bind_ok, h3, Rs.bind_ok, ht, Rs.bind_ok, if_pos hb]
theorem sig_loop : ∀ (ss pre : List Sym), SigOk (pre ++ ss) → sigL den_check_symbol (ss.map Sym.d) (pre.map Sym.d) (pre.map fun s => nmD s.nm) (numsD pre.length) = .ok (sigO (pre ++ ss))
  | [], pre, _ => by rw [List.append_nil]; rfl
  | s :: ss, pre, h => by
    have hs : s.ok := h.all s (by simp)
    have hn : s.nm ∉ pre.map (·.nm) := by
      have := h.nd
      rw [List.map_append, List.nodup_append] at this
      intro q
      exact this.2.2 _ q s.nm (by simp) rfl
    have hc := den_check hs hn
    rw [List.map_map] at hc
    have hl := look_none (vs := numsD pre.length) hn
    rw [List.map_map] at hl
    have hlen := h.len
    simp only [List.length_append, List.length_cons] at hlen
    have b : (pre.map Sym.d).length < 1000 ∧ (pre.map fun s => nmD s.nm).length < 1000 := by simp; omega
    have ih := sig_loop ss (pre ++ [s]) (by rw [List.append_assoc]; exact h)
    rw [List.append_assoc, List.singleton_append] at ih
    rw [← ih]
    rw [List.map_cons]
    have hc' : den_check_symbol [s.d, .lst (pre.map fun s => nmD s.nm)] = .ok .non := hc
    have hl' : lookD (pre.map fun s => nmD s.nm) (numsD pre.length) (.inr (sO s.nm)) = none := hl
    rw [sigL_step hc' (n := nmD s.nm) (a := natD s.pl) (b := .bl s.dn) (c := .tup (s.od.map natD)) (t := .tup (s.od.map natD)) rfl rfl rfl rfl rfl rfl hl' b]
    congr 1
    · rw [List.map_append]; rfl
    · rw [List.map_append]; rfl
    · rw [List.length_append, numsD, List.length_map]
      show _ = (List.range (pre.length + 1)).map natD
      rw [List.range_succ, List.map_append]
      rfl
theorem den_sig {ss : List Sym} (h : SigOk ss) : sigD den_check_symbol (ss.map Sym.d) = .ok (sigO ss) := sig_loop ss [] h
theorem plain_sym (s : Sym) : s.d.plain = true := by
  simp [Sym.d, D.plain, D.plains, nmD, natD, plains_nat]
theorem dep_sym (s : Sym) : s.d.dep ≤ 2 := by
  simp [Sym.d, D.dep, D.deps, nmD, natD, deps_nat]
theorem Sym.ok.ol {s : Sym} (h : s.ok) : s.od.length ≤ 3 := by
  have := nodup_lt s.pl s.od h.nd h.lt
  have := h.pl
  omega
/-! ### the drawn rows -/
theorem turn_tab (t : Nat) (h : t < 6) : ∃ l : List Nat, (([[0, 1, 2], [0, 2, 1], [1, 0, 2], [1, 2, 0], [2, 0, 1], [2, 1, 0]] : List (List Nat))[t]?) = some l ∧ l.Nodup ∧ l.length = 3 := by
  match t, h with
  | 0, _ => exact ⟨_, rfl, by decide, rfl⟩
  | 1, _ => exact ⟨_, rfl, by decide, rfl⟩
  | 2, _ => exact ⟨_, rfl, by decide, rfl⟩
  | 3, _ => exact ⟨_, rfl, by decide, rfl⟩
  | 4, _ => exact ⟨_, rfl, by decide, rfl⟩
  | 5, _ => exact ⟨_, rfl, by decide, rfl⟩
theorem den_turn (n m : Nat) : ∃ l : List Nat, den_l_turn [natD n, natD m] = .ok (.lst (l.map natD)) ∧ l.Nodup ∧ ∀ i ∈ l, i < m := by
  obtain ⟨l, e, nd, hl⟩ := turn_tab (n % 6) (by omega)
  have x1 : gMod (natD n) (.int 6) = .ok (natD (n % 6)) := by simp [gMod, natD]
  have x2 : gIx (.lst [.lst [.int 0, .int 1, .int 2], .lst [.int 0, .int 2, .int 1], .lst [.int 1, .int 0, .int 2], .lst [.int 1, .int 2, .int 0], .lst [.int 2, .int 0, .int 1], .lst [.int 2, .int 1, .int 0]]) (natD (n % 6)) = .ok (.lst (l.map natD)) := by
    have h6 : n % 6 < 6 := by omega
    generalize n % 6 = t at *
    match t, h6 with
    | 0, _ => cases e; rfl
    | 1, _ => cases e; rfl
    | 2, _ => cases e; rfl
    | 3, _ => cases e; rfl
    | 4, _ => cases e; rfl
    | 5, _ => cases e; rfl
  have x3 : cInt [natD n] = .ok (natD n) := rfl
  refine ⟨l.filter fun i => decide (i < m), ?_, nd.filter _, fun i hi => by simpa using (List.mem_filter.mp hi).2⟩
  have x4 : compL (tgN 3) ct_l_turn_1 cc_l_turn_1 [.dt (natD n), .dt (natD m), .dt (.lst [.lst [.int 0, .int 1, .int 2], .lst [.int 0, .int 2, .int 1], .lst [.int 1, .int 0, .int 2], .lst [.int 1, .int 2, .int 0], .lst [.int 2, .int 0, .int 1], .lst [.int 2, .int 1, .int 0]]), .no] (l.map natD) = .ok ((l.filter fun i => decide (i < m)).map natD) := by
    rw [compL_filter (fun d => match d with | .int i => decide (i < m) | _ => false) (fun d => d)]
    · rw [List.map_id', List.filter_map]
      congr 2
      apply List.filter_congr
      intro i _
      show decide ((i : Int) < (m : Int)) = decide (i < m)
      simp
    · intro d hd
      obtain ⟨i, hi, rfl⟩ := List.mem_map.mp hd
      refine ⟨_, rfl, by simp -implicitDefEqProofs [ct_l_turn_1, runD, ev0, sSeq, sNil, sIf, sSet, sRet, sRetN, sExpr, sNew, sApp, sLst, sClear, sFor, sUnp, dTest, dTru, dOp, dVar, dC, dNil, dCons, dCall, dCallN, dAnd, dOr, dNot, dAndV, dOrV, dNotV, dIsN, dNotN, dTup, dLst, dSl, dNoP, dPart, dItL, dItT, dItR, dItR2, dItS, dItA, asSeq, dComp, dIsi, dFld, dMeth, dProp, dNeg, dLenO, dMakeS, dMakeSO, asB, asI, asL, asT, truD, SR.fin, KD.frz, wipeE, tgN, tgT, setsE, gSelf, gCls, gFld, fldD, mkS, seqOf, Rs.nox, gLt, natD], fun _ => rfl⟩
  have x5 : l.length ≤ 1000000 := by omega
  simp -implicitDefEqProofs [den_l_turn, b_l_turn, runD, ev0, sSeq, sNil, sIf, sSet, sRet, sRetN, sExpr, sNew, sApp, sLst, sClear, sFor, sUnp, dTest, dTru, dOp, dVar, dC, dNil, dCons, dCall, dCallN, dAnd, dOr, dNot, dAndV, dOrV, dNotV, dIsN, dNotN, dTup, dLst, dSl, dNoP, dPart, dItL, dItT, dItR, dItR2, dItS, dItA, asSeq, dComp, dIsi, dFld, dMeth, dProp, dNeg, dLenO, dMakeS, dMakeSO, asB, asI, asL, asT, truD, SR.fin, KD.frz, wipeE, tgN, tgT, setsE, gSelf, gCls, gFld, fldD, mkS, seqOf, Rs.nox, x1, x2, x3, x4, x5]
/-! ### names -/
def lt : List Nat := (Str.ofString "etaoinshrdlucmfwypvbgkjqxz").cps.toList
theorem lt_str : Str.ofString "etaoinshrdlucmfwypvbgkjqxz" = sO lt := sO_of _
theorem lt_len : lt.length = 26 := by decide +kernel
theorem lt_small : ∀ c ∈ lt, 97 ≤ c ∧ c ≤ 122 := by decide +kernel
theorem lt_nodup : lt.Nodup := by decide +kernel
theorem o_str : Str.ofString "o" = sO [111] := by decide +kernel
/-- the k-th letter -/
def lc (n k : Nat) : Nat := lt.getD ((n / 32 + 5 * k) % 26) 0
theorem lc_get (n k : Nat) : lt[(n / 32 + 5 * k) % 26]? = some (lc n k) := by
  have h : (n / 32 + 5 * k) % 26 < lt.length := by rw [lt_len]; omega
  unfold lc
  rw [List.getD_eq_getElem?_getD, List.getElem?_eq_getElem h]
  rfl
theorem lc_small (n k : Nat) : 97 ≤ lc n k ∧ lc n k ≤ 122 := lt_small _ (List.mem_of_getElem? (lc_get n k))
theorem lc_inj {n i j : Nat} (hi : i < 6) (hj : j < 6) (h : lc n i = lc n j) : i = j := by
  have a := lc_get n i
  have b := lc_get n j
  rw [h] at a
  obtain ⟨h1, e1⟩ := List.getElem?_eq_some_iff.mp a
  obtain ⟨h2, e2⟩ := List.getElem?_eq_some_iff.mp b
  have := (List.getElem_inj lt_nodup).mp (e1.trans e2.symm)
  omega
def nms (n c : Nat) : List (List Nat) := match n % 4 with
  | 0 => (List.range c).map fun k => [lc n k]
  | 1 => (List.range c).map fun k => List.replicate (n / 4 % 8) 111 ++ [lc n k] ++ List.replicate (7 - n / 4 % 8) 111
  | 2 => (List.range c).map fun k => List.replicate (k + 1) (lc n 0)
  | _ => (List.range c).map fun k => List.replicate (c - k) (lc n 0)
theorem nms_len (n c : Nat) : (nms n c).length = c := by
  unfold nms; split <;> simp
theorem nms_ok {n c : Nat} (hc : c ≤ 6) : ∀ l ∈ nms n c, nameOk l := by
  intro l hl
  have rep : ∀ {m k : Nat}, 1 ≤ m → m ≤ 8 → nameOk (List.replicate m (lc n k)) := fun {m k} h1 h2 => ⟨by simpa using h1, by simpa using h2, fun c hc => by rw [(List.mem_replicate.mp hc).2]; exact lc_small n k⟩
  unfold nms at hl
  split at hl
  · obtain ⟨k, hk, rfl⟩ := List.mem_map.mp hl
    exact ⟨by simp, by simp, fun c hc => by simp at hc; subst hc; exact lc_small n k⟩
  · obtain ⟨k, hk, rfl⟩ := List.mem_map.mp hl
    refine ⟨by simp; omega, by simp; omega, fun c hc => ?_⟩
    rcases List.mem_append.mp hc with hc | hc
    · rcases List.mem_append.mp hc with hc | hc
      · rw [(List.mem_replicate.mp hc).2]; decide
      · simp at hc; subst hc; exact lc_small n k
    · rw [(List.mem_replicate.mp hc).2]; decide
  · obtain ⟨k, hk, rfl⟩ := List.mem_map.mp hl
    have := List.mem_range.mp hk
    exact rep (by omega) (by omega)
  · obtain ⟨k, hk, rfl⟩ := List.mem_map.mp hl
    have := List.mem_range.mp hk
    exact rep (by omega) (by omega)
theorem nodup_map_range {β : Type} {f : Nat → β} {c : Nat} (h : ∀ i j, i < c → j < c → f i = f j → i = j) : ((List.range c).map f).Nodup := by
  rw [List.Nodup, List.pairwise_map]
  exact List.Pairwise.imp_of_mem (fun {a b} ha hb hab e => by
    have := h a b (List.mem_range.mp ha) (List.mem_range.mp hb) e
    omega) List.pairwise_lt_range
theorem nms_nodup {n c : Nat} (hc : c ≤ 6) : (nms n c).Nodup := by
  unfold nms
  split
  · exact nodup_map_range fun i j hi hj e => lc_inj (by omega) (by omega) (by simpa using e)
  · refine nodup_map_range fun i j hi hj e => lc_inj (n := n) (by omega) (by omega) ?_
    rw [List.append_assoc, List.append_assoc] at e
    have := List.append_cancel_left e
    simp at this
    exact this
  · refine nodup_map_range fun i j hi hj e => ?_
    have := congrArg List.length e
    simp at this
    exact this
  · refine nodup_map_range fun i j hi hj e => ?_
    have := congrArg List.length e
    simp at this
    omega
theorem den_names (n c : Nat) (hc : c ≤ 6) (h1 : 1 ≤ c) : den_l_names [natD n, natD c] = .ok (.lst ((nms n c).map nmD)) := by
  have a1 : (-1000000000 < (c : Int)) ∧ (c : Int) < 1000000000 := by omega
  have a2 : (c : Int).toNat = c := by omega
  have a3 : c ≤ 1000000 := by omega
  have v1 : (n : Int) / 4 % 8 = ((n / 4 % 8 : Nat) : Int) := by omega
  have cint : ∀ k : Nat, cInt [natD k] = .ok (natD k) := fun _ => rfl
  have g4 : gDiv (natD n) (.int 4) = .ok (natD (n / 4)) := by simp [gDiv, natD]
  have g8 : gMod (natD (n / 4)) (.int 8) = .ok (natD (n / 4 % 8)) := by simp [gMod, natD]
  have m4 : gMod (natD n) (.int 4) = .ok (natD (n % 4)) := by simp [gMod, natD]
  -- the letters
  have e1 : ∀ ρ : Ev, ρ = [.dt (natD n), .dt (natD c), .dt (.str "etaoinshrdlucmfwypvbgkjqxz"), .dt (natD (n / 4 % 8)), .no, .no, .no, .no, .no, .no] → compL (tgN 8) (fun _ => .ok true) cc_l_names_1 ρ (rngD 0 c) = .ok ((List.range c).map fun k => nmD [lc n k]) := by
    rintro _ rfl
    rw [compL_map (fun d => match d with | .int k => nmD [lc n k.toNat] | _ => .non), map_rng]
    · rfl
    · intro d hd
      obtain ⟨k, hk, rfl⟩ := mem_rng0 hd
      have x1 : gDiv (natD n) (.int 32) = .ok (natD (n / 32)) := by simp [gDiv, natD]
      have x2 : gMul (.int 5) (.int (k : Int)) = .ok (natD (5 * k)) := by simp [gMul, mul_5, natD]
      have x3 : gAdd (natD (n / 32)) (natD (5 * k)) = .ok (natD (n / 32 + 5 * k)) := by simp [gAdd, natD]
      have x4 : gMod (natD (n / 32 + 5 * k)) (.int 26) = .ok (natD ((n / 32 + 5 * k) % 26)) := by simp [gMod, natD]
      have x5 : gIx (.str "etaoinshrdlucmfwypvbgkjqxz") (natD ((n / 32 + 5 * k) % 26)) = .ok (nmD [lc n k]) := by
        rw [lt_str]
        have h26 : (n / 32 + 5 * k) % 26 < lt.length := by rw [lt_len]; omega
        show gIx (.str (sO lt)) (.int (((n / 32 + 5 * k) % 26 : Nat) : Int)) = _
        rw [gIx_sO _ _ (by rw [lt_len]; omega) (by omega) (by omega)]
        have e := lc_get n k
        rw [List.getElem?_eq_getElem h26] at e
        simp only [Int.toNat_natCast]
        rw [Option.some.inj e]
        rfl
      refine ⟨_, rfl, rfl, by simp -implicitDefEqProofs [cc_l_names_1, runD, ev0, sSeq, sNil, sIf, sSet, sRet, sRetN, sExpr, sNew, sApp, sLst, sClear, sFor, sUnp, dTest, dTru, dOp, dVar, dC, dNil, dCons, dCall, dCallN, dAnd, dOr, dNot, dAndV, dOrV, dNotV, dIsN, dNotN, dTup, dLst, dSl, dNoP, dPart, dItL, dItT, dItR, dItR2, dItS, dItA, asSeq, dComp, dIsi, dFld, dMeth, dProp, dNeg, dLenO, dMakeS, dMakeSO, asB, asI, asL, asT, truD, SR.fin, KD.frz, wipeE, tgN, tgT, setsE, gSelf, gCls, gFld, fldD, mkS, seqOf, Rs.nox, x1, x2, x3, cint, x4, x5]⟩
  have d1 := e1 _ rfl
  generalize hL : (List.range c).map (fun k => nmD [lc n k]) = L at d1
  have lL : L.length = c := by rw [← hL]; simp
  -- alike
  have x7 : n / 4 % 8 ≤ 7 := by omega
  have d2 : compL (tgN 9) (fun _ => .ok true) cc_l_names_2 [.dt (natD n), .dt (natD c), .dt (.str "etaoinshrdlucmfwypvbgkjqxz"), .dt (natD (n / 4 % 8)), .dt (.lst L), .no, .no, .no, .no, .no] L = .ok ((List.range c).map fun k => nmD (List.replicate (n / 4 % 8) 111 ++ [lc n k] ++ List.replicate (7 - n / 4 % 8) 111)) := by
    rw [compL_map (fun d => match d with | .str z => nmD (List.replicate (n / 4 % 8) 111 ++ z.cps.toList ++ List.replicate (7 - n / 4 % 8) 111) | _ => .non)]
    · rw [← hL, List.map_map]
      rfl
    · intro d hd
      rw [← hL] at hd
      obtain ⟨k, hk, rfl⟩ := List.mem_map.mp hd
      have y1 : gMul (.str "o") (natD (n / 4 % 8)) = .ok (nmD (List.replicate (n / 4 % 8) 111)) := by
        rw [o_str]
        show gMul (.str (sO [111])) (.int ((n / 4 % 8 : Nat) : Int)) = _
        rw [gMul_sO _ _ (by omega) (by omega) (by simp), flat1]; rfl
      have y2 : gAdd (nmD (List.replicate (n / 4 % 8) 111)) (nmD [lc n k]) = .ok (nmD (List.replicate (n / 4 % 8) 111 ++ [lc n k])) := gAdd_sO _ _ (by simp; omega)
      have y3 : gSub (.int 7) (natD (n / 4 % 8)) = .ok (natD (7 - n / 4 % 8)) := by simp [KD.gSub, natD]; omega
      have y4 : gMul (.str "o") (natD (7 - n / 4 % 8)) = .ok (nmD (List.replicate (7 - n / 4 % 8) 111)) := by
        rw [o_str]
        show gMul (.str (sO [111])) (.int ((7 - n / 4 % 8 : Nat) : Int)) = _
        rw [gMul_sO _ _ (by omega) (by omega) (by simp), flat1]; rfl
      have y5 : gAdd (nmD (List.replicate (n / 4 % 8) 111 ++ [lc n k])) (nmD (List.replicate (7 - n / 4 % 8) 111)) = .ok (nmD (List.replicate (n / 4 % 8) 111 ++ [lc n k] ++ List.replicate (7 - n / 4 % 8) 111)) := gAdd_sO _ _ (by simp; omega)
      refine ⟨_, rfl, rfl, by simp -implicitDefEqProofs [cc_l_names_2, runD, ev0, sSeq, sNil, sIf, sSet, sRet, sRetN, sExpr, sNew, sApp, sLst, sClear, sFor, sUnp, dTest, dTru, dOp, dVar, dC, dNil, dCons, dCall, dCallN, dAnd, dOr, dNot, dAndV, dOrV, dNotV, dIsN, dNotN, dTup, dLst, dSl, dNoP, dPart, dItL, dItT, dItR, dItR2, dItS, dItA, asSeq, dComp, dIsi, dFld, dMeth, dProp, dNeg, dLenO, dMakeS, dMakeSO, asB, asI, asL, asT, truD, SR.fin, KD.frz, wipeE, tgN, tgT, setsE, gSelf, gCls, gFld, fldD, mkS, seqOf, Rs.nox, y1, y2, y3, y4, y5]; rfl⟩
  generalize hL2 : (List.range c).map (fun k => nmD (List.replicate (n / 4 % 8) 111 ++ [lc n k] ++ List.replicate (7 - n / 4 % 8) 111)) = L2 at d2
  have first : gIx (.lst L) (.int 0) = .ok (nmD [lc n 0]) := by
    have h0 : L[0]? = some (nmD [lc n 0]) := by
      rw [← hL, List.getElem?_map, List.getElem?_range (by omega)]; rfl
    have := atI_nat h0
    unfold gIx atD
    dsimp only
    rw [show (0 : Int) = ((0 : Nat) : Int) from rfl, this]
  have d3 : compL (tgN 8) (fun _ => .ok true) cc_l_names_3 [.dt (natD n), .dt (natD c), .dt (.str "etaoinshrdlucmfwypvbgkjqxz"), .dt (natD (n / 4 % 8)), .dt (.lst L), .dt (.lst L2), .no, .no, .no, .no] (rngD 0 c) = .ok ((List.range c).map fun k => nmD (List.replicate (k + 1) (lc n 0))) := by
    rw [compL_map (fun d => match d with | .int k => nmD (List.replicate (k.toNat + 1) (lc n 0)) | _ => .non), map_rng]
    · rfl
    · intro d hd
      obtain ⟨k, hk, rfl⟩ := mem_rng0 hd
      have y1 : gAdd (.int (k : Int)) (.int 1) = .ok (natD (k + 1)) := by simp [gAdd, natD]
      have y2 : gMul (nmD [lc n 0]) (natD (k + 1)) = .ok (nmD (List.replicate (k + 1) (lc n 0))) := by
        show gMul (.str (sO [lc n 0])) (.int ((k + 1 : Nat) : Int)) = _
        rw [gMul_sO _ _ (by omega) (by omega) (by simp), flat1]; rfl
      refine ⟨_, rfl, rfl, by simp -implicitDefEqProofs [cc_l_names_3, runD, ev0, sSeq, sNil, sIf, sSet, sRet, sRetN, sExpr, sNew, sApp, sLst, sClear, sFor, sUnp, dTest, dTru, dOp, dVar, dC, dNil, dCons, dCall, dCallN, dAnd, dOr, dNot, dAndV, dOrV, dNotV, dIsN, dNotN, dTup, dLst, dSl, dNoP, dPart, dItL, dItT, dItR, dItR2, dItS, dItA, asSeq, dComp, dIsi, dFld, dMeth, dProp, dNeg, dLenO, dMakeS, dMakeSO, asB, asI, asL, asT, truD, SR.fin, KD.frz, wipeE, tgN, tgT, setsE, gSelf, gCls, gFld, fldD, mkS, seqOf, Rs.nox, first, y1, y2]⟩
  generalize hL3 : (List.range c).map (fun k => nmD (List.replicate (k + 1) (lc n 0))) = L3 at d3
  have d4 : compL (tgN 8) (fun _ => .ok true) cc_l_names_4 [.dt (natD n), .dt (natD c), .dt (.str "etaoinshrdlucmfwypvbgkjqxz"), .dt (natD (n / 4 % 8)), .dt (.lst L), .dt (.lst L2), .dt (.lst L3), .no, .no, .no] (rngD 0 c) = .ok ((List.range c).map fun k => nmD (List.replicate (c - k) (lc n 0))) := by
    rw [compL_map (fun d => match d with | .int k => nmD (List.replicate (c - k.toNat) (lc n 0)) | _ => .non), map_rng]
    · rfl
    · intro d hd
      obtain ⟨k, hk, rfl⟩ := mem_rng0 hd
      have y1 : gSub (natD c) (.int (k : Int)) = .ok (natD (c - k)) := by simp [KD.gSub, natD]; omega
      have y2 : gMul (nmD [lc n 0]) (natD (c - k)) = .ok (nmD (List.replicate (c - k) (lc n 0))) := by
        show gMul (.str (sO [lc n 0])) (.int ((c - k : Nat) : Int)) = _
        rw [gMul_sO _ _ (by omega) (by omega) (by simp), flat1]; rfl
      refine ⟨_, rfl, rfl, by simp -implicitDefEqProofs [cc_l_names_4, runD, ev0, sSeq, sNil, sIf, sSet, sRet, sRetN, sExpr, sNew, sApp, sLst, sClear, sFor, sUnp, dTest, dTru, dOp, dVar, dC, dNil, dCons, dCall, dCallN, dAnd, dOr, dNot, dAndV, dOrV, dNotV, dIsN, dNotN, dTup, dLst, dSl, dNoP, dPart, dItL, dItT, dItR, dItR2, dItS, dItA, asSeq, dComp, dIsi, dFld, dMeth, dProp, dNeg, dLenO, dMakeS, dMakeSO, asB, asI, asL, asT, truD, SR.fin, KD.frz, wipeE, tgN, tgT, setsE, gSelf, gCls, gFld, fldD, mkS, seqOf, Rs.nox, first, y1, y2]⟩
  generalize hL4 : (List.range c).map (fun k => nmD (List.replicate (c - k) (lc n 0))) = L4 at d4
  have last : gIx (.lst [.lst L, .lst L2, .lst L3, .lst L4]) (natD (n % 4)) = .ok (.lst ((nms n c).map nmD)) := by
    unfold nms
    have h4 : n % 4 < 4 := by omega
    generalize n % 4 = t at *
    match t, h4 with
    | 0, _ => simp only [List.map_map]; rw [← hL]; rfl
    | 1, _ => simp only [List.map_map]; rw [← hL2]; rfl
    | 2, _ => simp only [List.map_map]; rw [← hL3]; rfl
    | 3, _ => simp only [List.map_map]; rw [← hL4]; rfl
  have rn : asRng (natD c) = .ok (rngD 0 c) := asRng_nat c (by omega)
  have lr : (rngD 0 c).length ≤ 1000000 := by rw [rngD_length]; exact a3
  have lL' : L.length ≤ 1000000 := by omega
  show SR.fin (b_l_names [.dt (natD n), .dt (natD c), .no, .no, .no, .no, .no, .no, .no, .no]) = _
  unfold b_l_names
  rw [seq_set (d := .str "etaoinshrdlucmfwypvbgkjqxz") rfl]
  simp only [List.set_cons_zero, List.set_cons_succ]
  rw [seq_set (d := natD (n / 4 % 8)) (by simp -implicitDefEqProofs [runD, ev0, sSeq, sNil, sIf, sSet, sRet, sRetN, sExpr, sNew, sApp, sLst, sClear, sFor, sUnp, dTest, dTru, dOp, dVar, dC, dNil, dCons, dCall, dCallN, dAnd, dOr, dNot, dAndV, dOrV, dNotV, dIsN, dNotN, dTup, dLst, dSl, dNoP, dPart, dItL, dItT, dItR, dItR2, dItS, dItA, asSeq, dComp, dIsi, dFld, dMeth, dProp, dNeg, dLenO, dMakeS, dMakeSO, asB, asI, asL, asT, truD, SR.fin, KD.frz, wipeE, tgN, tgT, setsE, gSelf, gCls, gFld, fldD, mkS, seqOf, Rs.nox, cint, g4, g8])]
  simp only [List.set_cons_zero, List.set_cons_succ]
  rw [seq_set (d := .lst L) (by simp -implicitDefEqProofs [runD, ev0, sSeq, sNil, sIf, sSet, sRet, sRetN, sExpr, sNew, sApp, sLst, sClear, sFor, sUnp, dTest, dTru, dOp, dVar, dC, dNil, dCons, dCall, dCallN, dAnd, dOr, dNot, dAndV, dOrV, dNotV, dIsN, dNotN, dTup, dLst, dSl, dNoP, dPart, dItL, dItT, dItR, dItR2, dItS, dItA, asSeq, dComp, dIsi, dFld, dMeth, dProp, dNeg, dLenO, dMakeS, dMakeSO, asB, asI, asL, asT, truD, SR.fin, KD.frz, wipeE, tgN, tgT, setsE, gSelf, gCls, gFld, fldD, mkS, seqOf, Rs.nox, rn, lr, d1])]
  simp only [List.set_cons_zero, List.set_cons_succ]
  rw [seq_set (d := .lst L2) (by simp -implicitDefEqProofs [runD, ev0, sSeq, sNil, sIf, sSet, sRet, sRetN, sExpr, sNew, sApp, sLst, sClear, sFor, sUnp, dTest, dTru, dOp, dVar, dC, dNil, dCons, dCall, dCallN, dAnd, dOr, dNot, dAndV, dOrV, dNotV, dIsN, dNotN, dTup, dLst, dSl, dNoP, dPart, dItL, dItT, dItR, dItR2, dItS, dItA, asSeq, dComp, dIsi, dFld, dMeth, dProp, dNeg, dLenO, dMakeS, dMakeSO, asB, asI, asL, asT, truD, SR.fin, KD.frz, wipeE, tgN, tgT, setsE, gSelf, gCls, gFld, fldD, mkS, seqOf, Rs.nox, lL', d2])]
  simp only [List.set_cons_zero, List.set_cons_succ]
  rw [seq_set (d := .lst L3) (by simp -implicitDefEqProofs [runD, ev0, sSeq, sNil, sIf, sSet, sRet, sRetN, sExpr, sNew, sApp, sLst, sClear, sFor, sUnp, dTest, dTru, dOp, dVar, dC, dNil, dCons, dCall, dCallN, dAnd, dOr, dNot, dAndV, dOrV, dNotV, dIsN, dNotN, dTup, dLst, dSl, dNoP, dPart, dItL, dItT, dItR, dItR2, dItS, dItA, asSeq, dComp, dIsi, dFld, dMeth, dProp, dNeg, dLenO, dMakeS, dMakeSO, asB, asI, asL, asT, truD, SR.fin, KD.frz, wipeE, tgN, tgT, setsE, gSelf, gCls, gFld, fldD, mkS, seqOf, Rs.nox, rn, lr, d3])]
  simp only [List.set_cons_zero, List.set_cons_succ]
  rw [seq_set (d := .lst L4) (by simp -implicitDefEqProofs [runD, ev0, sSeq, sNil, sIf, sSet, sRet, sRetN, sExpr, sNew, sApp, sLst, sClear, sFor, sUnp, dTest, dTru, dOp, dVar, dC, dNil, dCons, dCall, dCallN, dAnd, dOr, dNot, dAndV, dOrV, dNotV, dIsN, dNotN, dTup, dLst, dSl, dNoP, dPart, dItL, dItT, dItR, dItR2, dItS, dItA, asSeq, dComp, dIsi, dFld, dMeth, dProp, dNeg, dLenO, dMakeS, dMakeSO, asB, asI, asL, asT, truD, SR.fin, KD.frz, wipeE, tgN, tgT, setsE, gSelf, gCls, gFld, fldD, mkS, seqOf, Rs.nox, rn, lr, d4])]
  simp only [List.set_cons_zero, List.set_cons_succ]
  rw [ret_ok (by simp -implicitDefEqProofs [runD, ev0, sSeq, sNil, sIf, sSet, sRet, sRetN, sExpr, sNew, sApp, sLst, sClear, sFor, sUnp, dTest, dTru, dOp, dVar, dC, dNil, dCons, dCall, dCallN, dAnd, dOr, dNot, dAndV, dOrV, dNotV, dIsN, dNotN, dTup, dLst, dSl, dNoP, dPart, dItL, dItT, dItR, dItR2, dItS, dItA, asSeq, dComp, dIsi, dFld, dMeth, dProp, dNeg, dLenO, dMakeS, dMakeSO, asB, asI, asL, asT, truD, SR.fin, KD.frz, wipeE, tgN, tgT, setsE, gSelf, gCls, gFld, fldD, mkS, seqOf, Rs.nox, cint, m4, last]; rfl)]
  rfl
/-! ### the drawn numbers -/
theorem den_cell (ns : List Int) (k : Nat) : den_l_cell [.fls (ns.map D.int), .int k] = .ok (.int (if h : k < ns.length then ns[k] else 0)) := by
  have at_map (h : k < ns.length) : atI (ns.map D.int) (k : Int) = some (.int ns[k]) := by
    apply atI_nat
    simp [h]
  by_cases h : k < ns.length
  · simp -implicitDefEqProofs [den_l_cell, b_l_cell, runD, ev0, sSeq, sNil, sIf, sSet, sRet, sRetN, sExpr, sNew, sApp, sLst, sClear, sFor, sUnp, dTest, dTru, dOp, dVar, dC, dNil, dCons, dCall, dCallN, dAnd, dOr, dNot, dAndV, dOrV, dNotV, dIsN, dNotN, dTup, dLst, dSl, dNoP, dPart, dItL, dItT, dItR, dItR2, dItS, dItA, asSeq, dComp, dIsi, dFld, dMeth, dProp, dNeg, dLenO, dMakeS, dMakeSO, asB, asI, asL, asT, truD, SR.fin, KD.frz, wipeE, tgN, tgT, setsE, gSelf, gCls, gFld, fldD, mkS, seqOf, Rs.nox, gAdd, KD.gSub, gMul, gDiv, gMod, pow_18, mul_48271, mul_7919, mul_69621, mul_5, gLt, gLe, gGt, gGe, gIx, atD, cLen, cInt, cTuple, cList, gSl, gNeg, h, at_map h]
  · simp -implicitDefEqProofs [den_l_cell, b_l_cell, runD, ev0, sSeq, sNil, sIf, sSet, sRet, sRetN, sExpr, sNew, sApp, sLst, sClear, sFor, sUnp, dTest, dTru, dOp, dVar, dC, dNil, dCons, dCall, dCallN, dAnd, dOr, dNot, dAndV, dOrV, dNotV, dIsN, dNotN, dTup, dLst, dSl, dNoP, dPart, dItL, dItT, dItR, dItR2, dItS, dItA, asSeq, dComp, dIsi, dFld, dMeth, dProp, dNeg, dLenO, dMakeS, dMakeSO, asB, asI, asL, asT, truD, SR.fin, KD.frz, wipeE, tgN, tgT, setsE, gSelf, gCls, gFld, fldD, mkS, seqOf, Rs.nox, gAdd, KD.gSub, gMul, gDiv, gMod, pow_18, mul_48271, mul_7919, mul_69621, mul_5, gLt, gLe, gGt, gGe, gIx, atD, cLen, cInt, cTuple, cList, gSl, gNeg, h]
theorem num_loop (ns : List Int) (k c cell st rest : Int) (m : Nat) (hc : m ≤ 1000) : ∃ ρ', forL (tgN 7) [7] lb_l_numbers_1 (rngD 0 m) [.dt (.fls (ns.map D.int)), .dt (.int k), .dt (.int c), .dt (.int cell), .dt (.int st), .dt (.int rest), .ol [], .no] = .nx ρ' ∧
      ∃ (nums : List Nat) (st' rest' : Int), ρ' = [.dt (.fls (ns.map D.int)), .dt (.int k), .dt (.int c), .dt (.int cell), .dt (.int st'), .dt (.int rest'), .ol (nums.map natD), .no] ∧ nums.length = 0 + (rngD 0 m).length := by
  refine forL_ind (fun i ρ => ∃ (nums : List Nat) (st' rest' : Int), ρ = [.dt (.fls (ns.map D.int)), .dt (.int k), .dt (.int c), .dt (.int cell), .dt (.int st'), .dt (.int rest'), .ol (nums.map natD), .no] ∧ nums.length = i) (rngD 0 m) _ 0 ⟨[], st, rest, rfl, rfl⟩ ?_
  rintro j d ρ hd ⟨nums, st', rest', rfl, hl⟩
  have hj : j < m := by have := (List.getElem?_eq_some_iff.mp hd).1; rwa [rngD_length] at this
  have hlen : nums.length < 1000000 := by omega
  have cst : ∀ z : Int, (natD (z % 5040).toNat) = .int (z % 5040) := fun z => by
    show D.int ((z % 5040).toNat : Int) = _
    congr 1
    have := Int.emod_nonneg z (show (5040 : Int) ≠ 0 by decide)
    omega
  by_cases hr : 0 < rest'
  · refine ⟨_, _, rfl, .inl (by simp -implicitDefEqProofs [lb_l_numbers_1, runD, ev0, sSeq, sNil, sIf, sSet, sRet, sRetN, sExpr, sNew, sApp, sLst, sClear, sFor, sUnp, dTest, dTru, dOp, dVar, dC, dNil, dCons, dCall, dCallN, dAnd, dOr, dNot, dAndV, dOrV, dNotV, dIsN, dNotN, dTup, dLst, dSl, dNoP, dPart, dItL, dItT, dItR, dItR2, dItS, dItA, asSeq, dComp, dIsi, dFld, dMeth, dProp, dNeg, dLenO, dMakeS, dMakeSO, asB, asI, asL, asT, truD, SR.fin, KD.frz, wipeE, tgN, tgT, setsE, gSelf, gCls, gFld, fldD, mkS, seqOf, Rs.nox, gAdd, KD.gSub, gMul, gDiv, gMod, pow_18, mul_48271, mul_7919, mul_69621, mul_5, gLt, gLe, gGt, gGe, gIx, atD, cLen, cInt, cTuple, cList, gSl, gNeg, hr, hlen]; rfl), nums ++ [(rest' % 5040).toNat], _, _, by simp [wipeE, cst]; exact ⟨rfl, rfl⟩, by simp [hl]⟩
  · refine ⟨_, _, rfl, .inl (by simp -implicitDefEqProofs [lb_l_numbers_1, runD, ev0, sSeq, sNil, sIf, sSet, sRet, sRetN, sExpr, sNew, sApp, sLst, sClear, sFor, sUnp, dTest, dTru, dOp, dVar, dC, dNil, dCons, dCall, dCallN, dAnd, dOr, dNot, dAndV, dOrV, dNotV, dIsN, dNotN, dTup, dLst, dSl, dNoP, dPart, dItL, dItT, dItR, dItR2, dItS, dItA, asSeq, dComp, dIsi, dFld, dMeth, dProp, dNeg, dLenO, dMakeS, dMakeSO, asB, asI, asL, asT, truD, SR.fin, KD.frz, wipeE, tgN, tgT, setsE, gSelf, gCls, gFld, fldD, mkS, seqOf, Rs.nox, gAdd, KD.gSub, gMul, gDiv, gMod, pow_18, mul_48271, mul_7919, mul_69621, mul_5, gLt, gLe, gGt, gGe, gIx, atD, cLen, cInt, cTuple, cList, gSl, gNeg, hr, hlen]; rfl), nums ++ [((_ : Int) % 5040).toNat], _, _, by simp [wipeE, cst]; exact ⟨rfl, rfl, rfl⟩, by simp [hl]⟩
theorem den_numbers (ns : List Int) (k : Nat) (c : Nat) (hc : c ≤ 1000) : ∃ nums : List Nat, den_l_numbers [.fls (ns.map D.int), natD k, natD c] = .ok (.lst (nums.map natD)) ∧ nums.length = c := by
  have hcell := den_cell ns k
  generalize (if h : k < ns.length then ns[k] else 0) = cell at hcell
  have rn : asRng (.int (c : Int)) = .ok (rngD 0 c) := asRng_nat c (by omega)
  by_cases hr : 1000000000000000000 ≤ cell
  · obtain ⟨ρ', e, nums, st', rest', rfl, hl⟩ := num_loop ns k c cell ((cell * 48271 + k * 7919 + 12345) % 2147483647) cell c hc
    rw [rngD_length] at hl
    refine ⟨nums, ?_, by omega⟩
    simp -implicitDefEqProofs [den_l_numbers, b_l_numbers, natD, runD, ev0, sSeq, sNil, sIf, sSet, sRet, sRetN, sExpr, sNew, sApp, sLst, sClear, sFor, sUnp, dTest, dTru, dOp, dVar, dC, dNil, dCons, dCall, dCallN, dAnd, dOr, dNot, dAndV, dOrV, dNotV, dIsN, dNotN, dTup, dLst, dSl, dNoP, dPart, dItL, dItT, dItR, dItR2, dItS, dItA, asSeq, dComp, dIsi, dFld, dMeth, dProp, dNeg, dLenO, dMakeS, dMakeSO, asB, asI, asL, asT, truD, SR.fin, KD.frz, wipeE, tgN, tgT, setsE, gSelf, gCls, gFld, fldD, mkS, seqOf, Rs.nox, gAdd, KD.gSub, gMul, gDiv, gMod, pow_18, mul_48271, mul_7919, mul_69621, mul_5, gLt, gLe, gGt, gGe, gIx, atD, cLen, cInt, cTuple, cList, gSl, gNeg, hcell, hr, rn, e]
  · obtain ⟨ρ', e, nums, st', rest', rfl, hl⟩ := num_loop ns k c cell ((cell * 48271 + k * 7919 + 12345) % 2147483647) 0 c hc
    rw [rngD_length] at hl
    refine ⟨nums, ?_, by omega⟩
    simp -implicitDefEqProofs [den_l_numbers, b_l_numbers, natD, runD, ev0, sSeq, sNil, sIf, sSet, sRet, sRetN, sExpr, sNew, sApp, sLst, sClear, sFor, sUnp, dTest, dTru, dOp, dVar, dC, dNil, dCons, dCall, dCallN, dAnd, dOr, dNot, dAndV, dOrV, dNotV, dIsN, dNotN, dTup, dLst, dSl, dNoP, dPart, dItL, dItT, dItR, dItR2, dItS, dItA, asSeq, dComp, dIsi, dFld, dMeth, dProp, dNeg, dLenO, dMakeS, dMakeSO, asB, asI, asL, asT, truD, SR.fin, KD.frz, wipeE, tgN, tgT, setsE, gSelf, gCls, gFld, fldD, mkS, seqOf, Rs.nox, gAdd, KD.gSub, gMul, gDiv, gMod, pow_18, mul_48271, mul_7919, mul_69621, mul_5, gLt, gLe, gGt, gGe, gIx, atD, cLen, cInt, cTuple, cList, gSl, gNeg, hcell, hr, rn, e]
/-! ### the drawn rows -/
theorem ix_nat {α : Type} (f : α → D) {xs : List α} {k : Nat} (h : k < xs.length) : gIx (.lst (xs.map f)) (natD k) = .ok (f xs[k]) := by
  unfold gIx atD natD
  dsimp only
  rw [atI_cast (by simpa using h)]
  simp
end KL

namespace KL
open PySem L2 KD
theorem rng_at {a k : Nat} {d : D} (h : ((List.range a).map natD)[k]? = some d) : k < a ∧ d = natD k := by
  rw [List.getElem?_map] at h
  by_cases hk : k < a
  · rw [List.getElem?_range hk] at h; cases h; exact ⟨hk, rfl⟩
  · rw [List.getElem?_eq_none (by simpa using hk)] at h; cases h
theorem rng_mem {a : Nat} {d : D} (h : d ∈ (List.range a).map natD) : ∃ k, k < a ∧ d = natD k := by
  obtain ⟨k, hk, rfl⟩ := List.mem_map.mp h
  exact ⟨k, by simpa using hk, rfl⟩
theorem at_lt {α : Type} {xs : List α} {k : Nat} (h : k < xs.length) : ∃ z, xs[k]? = some z ∧ z ∈ xs := ⟨xs[k], List.getElem?_eq_getElem h, List.getElem_mem h⟩
/-! ### rows -/
theorem ok_turn (n m : Nat) : Ok (den_l_turn [natD n, natD m]) fun d => ∃ l : List Nat, d = .lst (l.map natD) ∧ l.Nodup ∧ ∀ i ∈ l, i < m := by
  obtain ⟨l, e, h1, h2⟩ := den_turn n m
  exact Ok.of e ⟨l, rfl, h1, h2⟩
theorem tab7 (j : Nat) (h : j < 7) : ∃ p : Nat, p ≤ 3 ∧ ([natD 0, natD 1, natD 2, natD 2, natD 1, natD 0, natD 3] : List D)[j]? = some (natD p) := by
  match j, h with
  | 0, _ => exact ⟨0, by decide, rfl⟩
  | 1, _ => exact ⟨1, by decide, rfl⟩
  | 2, _ => exact ⟨2, by decide, rfl⟩
  | 3, _ => exact ⟨2, by decide, rfl⟩
  | 4, _ => exact ⟨1, by decide, rfl⟩
  | 5, _ => exact ⟨0, by decide, rfl⟩
  | 6, _ => exact ⟨3, by decide, rfl⟩
theorem ok_symbols (nums : List Nat) (h : 7 ≤ nums.length) : Ok (den_l_symbols [.lst (nums.map natD)]) fun d => ∃ ss : List Sym, d = .lst (ss.map Sym.d) ∧ SigOk ss ∧ 2 ≤ ss.length ∧ ss.length ≤ 5 ∧ ∃ s, ss[0]? = some s ∧ s.pl = 0 := by
  refine ok_run ?_
  unfold b_l_symbols
  array_mem_dec
  refine wp_seq (wp_set ?_)
  array_get_dec
  rw [nIxM]
  obtain ⟨n0, e0, _⟩ := at_lt (xs := nums) (k := 0) (by omega)
  refine ⟨n0, e0, ?_⟩
  array_get_dec
  generalize hc : 2 + n0 % 4 = c
  have hc1 : 2 ≤ c := by omega
  have hc2 : c ≤ 5 := by omega
  refine wp_seq (wp_set ?_)
  array_get_dec
  rw [nIxM]
  obtain ⟨n1, e1, _⟩ := at_lt (xs := nums) (k := 1) (by omega)
  refine ⟨n1, e1, ?_⟩
  array_get_dec
  rw [den_names n1 c (by omega) (by omega), ok_ok]
  refine wp_seq (wp_new ?_)
  array_mem_dec
  refine wp_seq (wp_for (fun i ρ => ∃ ss : List Sym, ρ = [.dt (.lst (nums.map natD)), .dt (natD c), .dt (.lst ((nms n1 c).map nmD)), .ol (ss.map Sym.d), .no, .no, .no, .no, .no] ∧ ss.length = i ∧ (∀ s ∈ ss, s.ok) ∧ ss.map (·.nm) = (nms n1 c).take ss.length ∧ ∀ s, ss[0]? = some s → s.pl = 0) ?_)
  array_get_dec
  refine ⟨by omega, ⟨[], rfl, rfl, by simp, rfl, by simp⟩, ?_, ?_⟩
  · rintro k d ρ hd ⟨ss, rfl, hl, hs, hnm, h0⟩
    obtain ⟨hk, rfl⟩ := rng_at hd
    refine ⟨_, rfl, ?_⟩
    unfold lb_l_symbols_1
    array_mem_dec
    refine wp_seq (wp_set ?_)
    array_get_dec
    rw [nIxM]
    obtain ⟨m, em, _⟩ := at_lt (xs := nums) (k := 2 + k) (by omega)
    refine ⟨m, em, ?_⟩
    array_get_dec
    refine wp_seq (wp_set ?_)
    array_get_dec
    rw [nIxL]
    obtain ⟨p, hp, ep⟩ := tab7 (m % 7) (by omega)
    refine ⟨_, ep, ?_⟩
    array_get_dec
    refine wp_seq (wp_set ?_)
    array_get_dec
    refine wp_cut (fun ρ => ∃ (p' : Nat) (dn : Bool), ρ = [.dt (.lst (nums.map natD)), .dt (natD c), .dt (.lst ((nms n1 c).map nmD)), .ol (ss.map Sym.d), .dt (natD k), .dt (natD m), .dt (natD p'), .dt (.bl dn), .no] ∧ p' ≤ 3 ∧ (k = 0 → p' = 0)) (wp_if ?_) ?_
    · array_get_dec
      refine ⟨fun z => wp_seq (wp_set ?_), fun z => wp_nil ⟨p, _, rfl, hp, fun q => by simp [q] at z⟩⟩
      array_get_dec
      refine wp_set ?_
      array_get_dec
      exact ⟨0, _, rfl, by omega, fun _ => rfl⟩
    rintro ρ ⟨p', dn, rfl, hp', hz⟩
    refine wp_seq (wp_set ?_)
    array_get_dec
    refine (ok_turn _ _).imp ?_
    rintro _ ⟨l, rfl, nd, hlt⟩
    array_get_dec
    refine ⟨by omega, ?_⟩
    rw [← List.map_take]
    generalize ho : l.take _ = o
    refine wp_app ?_
    array_get_dec
    rw [nIxM]
    obtain ⟨nm, en, mn⟩ := at_lt (xs := nms n1 c) (k := k) (by rw [nms_len]; exact hk)
    refine ⟨nm, en, ?_⟩
    array_get_dec
    refine ⟨by omega, ?_⟩
    array_mem_dec
    refine ⟨ss ++ [⟨nm, p', dn, o⟩], by simp [Sym.d], by simp [hl], ?_, ?_, ?_⟩
    · intro s hs'
      rcases List.mem_append.mp hs' with h | h
      · exact hs s h
      · simp at h
        subst h
        refine ⟨nms_ok (by omega) _ mn, hp', ?_, fun i hi => ?_⟩
        · show o.Nodup
          rw [← ho]; exact nd.sublist (List.take_sublist _ _)
        · have : i ∈ o := hi
          rw [← ho] at this
          exact hlt i (List.mem_of_mem_take this)
    · rw [List.map_append, hnm, List.length_append, List.length_singleton, hl, List.take_add_one, en]
      rfl
    · intro s hs'
      by_cases hk0 : k = 0
      · have : ss = [] := List.length_eq_zero_iff.mp (by omega)
        subst this
        simp at hs'
        subst hs'
        exact hz hk0
      · rw [List.getElem?_append_left (by omega)] at hs'
        exact h0 s hs'
  · rintro ρ ⟨ss, rfl, hl, hs, hnm, h0⟩
    refine wp_ret ?_
    array_get_dec
    refine ⟨ss, rfl, ⟨hs, ?_, by omega⟩, by omega, by omega, ?_⟩
    · rw [hnm]; exact (nms_nodup (by omega)).sublist (List.take_sublist _ _)
    · obtain ⟨s, e, _⟩ := at_lt (xs := ss) (k := 0) (by omega)
      exact ⟨s, e, h0 s e⟩
end KL

namespace KL
open PySem L2 KD
/-! ### pairs of kinds -/
def prD (p : List Nat × List Nat) : D := .tup [nmD p.1, nmD p.2]
def LowsOk (ks : List (List Nat)) (t : List Nat) (ps : List (List Nat × List Nat)) : Prop := ∀ p ∈ ps, ∃ j k a b : Nat, j < k ∧ t[j]? = some a ∧ t[k]? = some b ∧ ks[a]? = some p.1 ∧ ks[b]? = some p.2
theorem tab3 (q : Nat → Nat → Nat) (j : Nat) (h : j < 3) (x y z : Nat) : ∃ v : Nat, (v = x ∨ v = y ∨ v = z) ∧ ([natD x, natD y, natD z] : List D)[j]? = some (natD v) := by
  match j, h with
  | 0, _ => exact ⟨x, by simp, rfl⟩
  | 1, _ => exact ⟨y, by simp, rfl⟩
  | 2, _ => exact ⟨z, by simp, rfl⟩
theorem ok_lows (n : Nat) (ks : List (List Nat)) (hk : ks.length ≤ 3) : Ok (den_l_lows [natD n, .lst (ks.map nmD)]) fun d => ∃ (ps : List (List Nat × List Nat)) (t : List Nat), d = .lst (ps.map prD) ∧ t.Nodup ∧ LowsOk ks t ps ∧ ps.length ≤ 9 := by
  refine ok_run ?_
  unfold b_l_lows
  array_mem_dec
  refine wp_seq (wp_set ?_)
  array_get_dec
  refine (ok_turn _ _).imp ?_
  rintro _ ⟨t, rfl, nd, ht⟩
  have htl : t.length ≤ 3 := by have := nodup_lt _ t nd ht; omega
  refine wp_seq (wp_new ?_)
  array_mem_dec
  refine wp_seq (wp_for (fun i ρ => ∃ (ps : List (List Nat × List Nat)) (s4 : Sl), ρ = [.dt (natD n), .dt (.lst (ks.map nmD)), .dt (.lst (t.map natD)), .ol (ps.map prD), s4, .no] ∧ ps.length ≤ 3 * i ∧ LowsOk ks t ps) ?_)
  array_get_dec
  refine ⟨by omega, ⟨[], .no, rfl, by simp, fun p hp => by simp at hp⟩, ?_, ?_⟩
  · rintro k d ρ hd ⟨ps, s4, rfl, hpl, hps⟩
    obtain ⟨hkk, rfl⟩ := rng_at hd
    refine ⟨_, rfl, ?_⟩
    unfold lb_l_lows_2
    array_mem_dec
    refine wp_for (fun i ρ => ∃ (qs : List (List Nat × List Nat)), ρ = [.dt (natD n), .dt (.lst (ks.map nmD)), .dt (.lst (t.map natD)), .ol (qs.map prD), .dt (natD k), .no] ∧ qs.length ≤ ps.length + i ∧ LowsOk ks t qs) ?_
    array_get_dec
    refine ⟨by omega, ⟨ps, rfl, by simp, hps⟩, ?_, ?_⟩
    · rintro j d ρ hd ⟨qs, rfl, hql, hqs⟩
      obtain ⟨hjk, rfl⟩ := rng_at hd
      refine ⟨_, rfl, ?_⟩
      unfold lb_l_lows_1
      array_mem_dec
      refine wp_if ?_
      array_get_dec
      rw [subD_le (by omega), nIxL]
      obtain ⟨v, hv, ev_⟩ := tab3 (fun a _ => a) (k + j - 1) (by omega) 6 12 24
      refine ⟨_, ev_, ?_⟩
      array_get_dec
      refine ⟨by omega, fun _ => ?_, fun _ => ?_⟩
      · refine wp_app ?_
        array_get_dec
        rw [nIxM]
        obtain ⟨a, ea, ma⟩ := at_lt (xs := t) (k := j) (by omega)
        refine ⟨a, ea, ?_⟩
        array_get_dec
        rw [nIxM]
        obtain ⟨x, ex, mx⟩ := at_lt (xs := ks) (k := a) (ht a ma)
        refine ⟨x, ex, ?_⟩
        array_get_dec
        rw [nIxM]
        obtain ⟨b, eb, mb⟩ := at_lt (xs := t) (k := k) (by omega)
        refine ⟨b, eb, ?_⟩
        array_get_dec
        rw [nIxM]
        obtain ⟨y, ey, my⟩ := at_lt (xs := ks) (k := b) (ht b mb)
        refine ⟨y, ey, ?_⟩
        array_get_dec
        refine ⟨by omega, ?_⟩
        array_mem_dec
        refine ⟨qs ++ [(x, y)], by simp [prD], by simp; omega, fun p hp => ?_⟩
        rcases List.mem_append.mp hp with h | h
        · exact hqs p h
        · simp at h
          subst h
          exact ⟨j, k, a, b, hjk, ea, eb, ex, ey⟩
      · refine wp_nil ?_
        array_mem_dec
        exact ⟨qs, rfl, by omega, hqs⟩
    · rintro ρ ⟨qs, rfl, hql, hqs⟩
      array_mem_dec
      exact ⟨qs, _, rfl, by omega, hqs⟩
  · rintro ρ ⟨ps, s4, rfl, hpl, hps⟩
    refine wp_cut (fun ρ => ∃ (qs : List (List Nat × List Nat)) (s4 : Sl), (ρ = [.dt (natD n), .dt (.lst (ks.map nmD)), .dt (.lst (t.map natD)), .ol (qs.map prD), s4, .no] ∨ ρ = [.dt (natD n), .dt (.lst (ks.map nmD)), .dt (.lst (t.map natD)), .dt (.lst (qs.map prD)), s4, .no]) ∧ LowsOk ks t qs ∧ qs.length ≤ 9) (wp_if ?_) ?_
    · array_get_dec
      refine ⟨fun _ => wp_set ?_, fun _ => wp_nil ⟨ps, s4, .inl rfl, hps, by omega⟩⟩
      refine ok_compA (fun _ y => ∃ p, p ∈ ps ∧ y = prD p) ?_
      array_get_dec
      refine ⟨by omega, by omega, ?_, ?_⟩
      · intro d hd
        obtain ⟨k, hk2, rfl⟩ := rng_mem hd
        refine ⟨_, rfl, ?_⟩
        unfold cc_l_lows_1
        array_mem_dec
        array_get_dec
        rw [subD_le (by omega), nSub, subD_le (by omega), nIxM]
        obtain ⟨z, ez, mz⟩ := at_lt (xs := ps) (k := ps.length - 1 - k) (by omega)
        exact ⟨z, ez, z, mz, rfl⟩
      · intro ys hy hj
        obtain ⟨qs, rfl, hql9, hq⟩ := unmap (f := prD) (C := fun p => p ∈ ps) (ys := ys) (fun y hy2 => by
          obtain ⟨k, hk2, e⟩ := List.getElem_of_mem hy2
          have hk3 : k < ps.length := by simpa [hy] using hk2
          exact hj k (natD k) y (by rw [List.getElem?_map, List.getElem?_range hk3]; rfl) (by rw [List.getElem?_eq_getElem hk2, e]))
        exact ⟨qs, s4, .inr rfl, fun p hp => hps p (hq p hp), by rw [hql9, hy]; omega⟩
    · rintro ρ ⟨qs, s4, h | h, hq, hq9⟩ <;> subst h
      · refine wp_ret ?_
        array_get_dec
        exact ⟨qs, t, rfl, nd, hq, hq9⟩
      · refine wp_ret ?_
        array_get_dec
        exact ⟨qs, t, rfl, nd, hq, hq9⟩
end KL

namespace KL
open PySem L2 KD
/-! ### entries -/
structure En where
  nm : List Nat
  ps : List (List Nat)
  kd : List Nat
def En.d (e : En) : D := .tup [nmD e.nm, .tup (e.ps.map nmD), nmD e.kd]
structure En.ok (ss : List Sym) (ks : List (List Nat)) (e : En) : Prop where
  sy : ∃ s ∈ ss, e.nm = s.nm ∧ e.ps.length = s.pl
  ps : ∀ p ∈ e.ps, p ∈ ks
  kd : e.kd ∈ ks
theorem sym_len {ss : List Sym} (h : SigOk ss) {s : Sym} (m : s ∈ ss) : s.pl ≤ 3 := (h.all s m).pl
theorem ok_entries (ss : List Sym) (ks : List (List Nat)) (nums : List Nat) (hs : SigOk ss) (h1 : 1 ≤ ss.length) (h2 : 1 ≤ ks.length) (h3 : ks.length ≤ 3) (h4 : nums.length ≤ 100) :
    Ok (den_l_entries [.lst (ss.map Sym.d), .lst (ks.map nmD), .lst (nums.map natD)]) fun d => ∃ es : List En, d = .lst (es.map En.d) ∧ (∀ e ∈ es, e.ok ss ks) ∧ es.length ≤ nums.length ∧ (1 ≤ nums.length → 1 ≤ es.length) := by
  refine ok_run ?_
  unfold b_l_entries
  array_mem_dec
  refine wp_seq (wp_new ?_)
  array_mem_dec
  refine wp_seq (wp_for (fun i ρ => ∃ es : List En, ρ = [.dt (.lst (ss.map Sym.d)), .dt (.lst (ks.map nmD)), .dt (.lst (nums.map natD)), .ol (es.map En.d), .no, .no, .no, .no, .no, .no] ∧ (∀ e ∈ es, e.ok ss ks) ∧ es.length ≤ i ∧ (1 ≤ i → 1 ≤ es.length)) ?_)
  array_get_dec
  refine ⟨by omega, ⟨[], rfl, by simp, by simp, by simp⟩, ?_, ?_⟩
  · rintro k d ρ hd ⟨es, rfl, hes, hle, hone⟩
    obtain ⟨hk, rfl⟩ := rng_at hd
    refine ⟨_, rfl, ?_⟩
    unfold lb_l_entries_1
    array_mem_dec
    refine wp_seq (wp_set ?_)
    array_get_dec
    rw [nIxM]
    obtain ⟨m, em, _⟩ := at_lt (xs := nums) (k := k) hk
    refine ⟨m, em, ?_⟩
    refine wp_seq (wp_set ?_)
    array_get_dec
    refine ⟨by omega, ?_⟩
    rw [nIxM]
    obtain ⟨s, es1, ms⟩ := at_lt (xs := ss) (k := m / 81 % ss.length) (Nat.mod_lt _ (by omega))
    refine ⟨s, es1, ?_⟩
    refine wp_cut (fun ρ => ∃ s ∈ ss, ρ = [.dt (.lst (ss.map Sym.d)), .dt (.lst (ks.map nmD)), .dt (.lst (nums.map natD)), .ol (es.map En.d), .dt (natD k), .dt (natD m), .dt (Sym.d s), .no, .no, .no]) (wp_if ?_) ?_
    · array_get_dec
      refine ⟨fun z => wp_set ?_, fun z => wp_nil ⟨s, ms, by array_mem_dec⟩⟩
      array_get_dec
      rw [nIxM]
      obtain ⟨s2, es2, ms2⟩ := at_lt (xs := ss) (k := k) (by simpa using z)
      exact ⟨s2, es2, s2, ms2, rfl⟩
    rintro ρ ⟨s, ms, rfl⟩
    have hpl := sym_len hs ms
    refine wp_seq (wp_set ?_)
    rw [show Sym.d s = .tup [nmD s.nm, natD s.pl, .bl s.dn, .tup (s.od.map natD)] from rfl]
    refine ok_compA (fun _ y => ∃ p, p ∈ ks ∧ y = nmD p) ?_
    array_get_dec
    refine ⟨by omega, by omega, ?_, ?_⟩
    · intro d hd
      obtain ⟨j, hj, rfl⟩ := rng_mem hd
      refine ⟨_, rfl, ?_⟩
      unfold cc_l_entries_1
      array_mem_dec
      array_get_dec
      rw [nIxL]
      obtain ⟨v, hv, ev_⟩ := tab3 (fun a _ => a) j (by omega) 1 3 9
      refine ⟨_, ev_, ?_⟩
      array_get_dec
      refine ⟨by omega, by omega, ?_⟩
      rw [nIxM]
      obtain ⟨z, ez, mz⟩ := at_lt (xs := ks) (k := m / v % 3 % ks.length) (Nat.mod_lt _ (by omega))
      exact ⟨z, ez, z, mz, rfl⟩
    intro ys hy hj
    obtain ⟨qs, rfl, hql, hq⟩ := unmap (f := nmD) (C := fun p => p ∈ ks) (ys := ys) (fun y hy2 => by
      obtain ⟨k, hk2, e⟩ := List.getElem_of_mem hy2
      have hk3 : k < s.pl := by simpa [hy] using hk2
      exact hj k (natD k) y (by rw [List.getElem?_map, List.getElem?_range hk3]; rfl) (by rw [List.getElem?_eq_getElem hk2, e]))
    have hql2 : qs.length = s.pl := by simpa using hy
    refine wp_seq (wp_set ?_)
    array_get_dec
    refine ⟨by omega, ?_⟩
    rw [nIxM]
    obtain ⟨kd, ek, mk⟩ := at_lt (xs := ks) (k := m / 27 % 3 % ks.length) (Nat.mod_lt _ (by omega))
    refine ⟨kd, ek, ?_⟩
    refine wp_if (Ok.imp (Q := fun b => b = false → ¬ k = 0) ?_ fun b hb => ⟨fun _ => wp_app ?_, fun e => wp_nil ?_⟩)
    · array_get_dec
      refine ⟨fun z q => by simp at q, fun z => ?_⟩
      have : ¬ k = 0 := by simpa using z
      exact ⟨fun _ _ => this, fun _ _ => this⟩
    · array_get_dec
      refine ⟨by omega, ?_⟩
      array_mem_dec
      refine ⟨es ++ [⟨s.nm, qs, kd⟩], by simp [En.d], ?_, by simp; omega, by simp⟩
      intro e he
      rcases List.mem_append.mp he with h | h
      · exact hes e h
      · simp at h
        subst h
        exact ⟨⟨s, ms, rfl, hql2⟩, hq, mk⟩
    · array_mem_dec
      exact ⟨es, rfl, hes, by omega, fun _ => hone (by have := hb e; omega)⟩
  · rintro ρ ⟨es, rfl, hes, hle, hone⟩
    refine wp_ret ?_
    array_get_dec
    exact ⟨es, rfl, hes, hle, hone⟩
/-! ### terms -/
inductive Tm where
  | v (nm : List Nat)
  | n (nm : List Nat) (ps : List Tm)
mutual
def Tm.d : Tm → D
  | .v nm => nmD nm
  | .n nm ps => .tup (nmD nm :: Tm.ds ps)
def Tm.ds : List Tm → List D
  | [] => []
  | t :: ts => t.d :: Tm.ds ts
end
mutual
def Tm.cnt : Tm → Nat
  | .v _ => 1
  | .n _ ps => 1 + Tm.cnts ps
def Tm.cnts : List Tm → Nat
  | [] => 0
  | t :: ts => t.cnt + Tm.cnts ts
end
mutual
def Tm.dep : Tm → Nat
  | .v _ => 0
  | .n _ ps => 1 + Tm.deps ps
def Tm.deps : List Tm → Nat
  | [] => 0
  | t :: ts => max t.dep (Tm.deps ts)
end
theorem Tm.ds_map : ∀ ts : List Tm, Tm.ds ts = ts.map Tm.d
  | [] => by simp [Tm.ds]
  | t :: ts => by simp [Tm.ds, Tm.ds_map ts]
theorem Tm.cnts_map : ∀ ts : List Tm, Tm.cnts ts = (ts.map Tm.cnt).sum
  | [] => by simp [Tm.cnts]
  | t :: ts => by simp [Tm.cnts, Tm.cnts_map ts]
theorem Tm.deps_le : ∀ {ts : List Tm} {t : Tm}, t ∈ ts → t.dep ≤ Tm.deps ts
  | u :: ts, t, h => by
    rw [Tm.deps]
    rcases List.mem_cons.mp h with e | e
    · subst e; exact Nat.le_max_left _ _
    · exact Nat.le_trans (Tm.deps_le e) (Nat.le_max_right _ _)
mutual
theorem Tm.dep_cnt : ∀ t : Tm, t.dep ≤ t.cnt
  | .v _ => by simp [Tm.dep, Tm.cnt]
  | .n _ ps => by
    have := Tm.deps_cnts ps
    simp only [Tm.dep, Tm.cnt]; omega
theorem Tm.deps_cnts : ∀ ts : List Tm, Tm.deps ts ≤ Tm.cnts ts
  | [] => by simp [Tm.deps]
  | t :: ts => by
    have h1 := Tm.dep_cnt t
    have h2 := Tm.deps_cnts ts
    simp only [Tm.deps, Tm.cnts]; omega
end
theorem Tm.cnt_pos : ∀ t : Tm, 1 ≤ t.cnt
  | .v _ => by simp [Tm.cnt]
  | .n _ ps => by simp [Tm.cnt]
theorem Tm.d_n (nm : List Nat) (ps : List Tm) : (Tm.n nm ps).d = .tup (nmD nm :: ps.map Tm.d) := by rw [Tm.d, Tm.ds_map]
theorem Tm.cnt_n (nm : List Nat) (ps : List Tm) : (Tm.n nm ps).cnt = 1 + (ps.map Tm.cnt).sum := by rw [Tm.cnt, Tm.cnts_map]
theorem isi_tup (xs : List D) : isiD "str" (.tup xs) = .ok (.bl false) := by
  show (match kitB "tuple" "str" with | some b => Rs.ok (D.bl b) | none => .bot) = _
  rw [show kitB "tuple" "str" = some false by decide +kernel]
theorem isi_nm (l : List Nat) : isiD "str" (nmD l) = .ok (.bl true) := isi_str _
theorem le_sum : ∀ {zs : List Nat} {z : Nat}, z ∈ zs → z ≤ zs.sum
  | y :: zs, z, h => by
    rw [List.sum_cons]
    rcases List.mem_cons.mp h with e | e
    · omega
    · have := le_sum e; omega
theorem drop1 {x : D} {xs : List D} : List.drop 1 (x :: xs) = xs := rfl
theorem compL_typed {α : Type} {g h : α → D} {t : D → Ev → Option Ev} {c : Ev → Rs Bool} {f : Ev → Rs D} {ρ : Ev} : ∀ zs : List α, (∀ z ∈ zs, ∃ ρ', t (g z) ρ = some ρ' ∧ c ρ' = .ok true ∧ Ok (f ρ') (fun y => y = h z)) → compL t c f ρ (zs.map g) = .ok (zs.map h)
  | [], _ => rfl
  | z :: zs, hs => by
    obtain ⟨ρ', e1, e2, e3⟩ := hs z List.mem_cons_self
    have ih := compL_typed (g := g) (h := h) (t := t) (c := c) (f := f) (ρ := ρ) zs fun d hd => hs d (List.mem_cons_of_mem _ hd)
    rw [List.map_cons, List.map_cons]
    unfold compL
    rw [e1]
    simp [e2, e3.eq, ih]
theorem ok_compP {α : Type} {g : α → D} {zs : List α} {P : D → Prop} {ρ : Ev} {vs : List Nat} {it : Ev → Rs (List D)} {t : D → Ev → Option Ev} {ft : Ev → Rs Bool} {fa : Ev → Rs D} (h : α → D) (hi : Ok (it ρ) fun ds => ds = zs.map g) (hl : zs.length ≤ 1000000)
    (hs : ∀ z ∈ zs, ∃ ρ', t (g z) (wipeE vs ρ) = some ρ' ∧ ft ρ' = .ok true ∧ Ok (fa ρ') (fun y => y = h z)) (hp : P (.lst (zs.map h))) : Ok (dComp vs it t ft fa ρ) P := by
  unfold dComp
  rw [hi.eq, Rs.bind_ok, if_pos (by simpa using hl), compL_typed zs hs, Rs.bind_ok, ok_ok]
  exact hp
theorem ok_count : ∀ (f : Nat) (t : Tm), t.dep < f → t.cnt ≤ 100000 → Ok (den_l_count f [t.d]) fun d => d = natD t.cnt
  | 0, t, h, _ => by omega
  | f + 1, t, h, hc => by
    show Ok (runD 2 (b_l_count (den_l_count f)) [t.d]) _
    refine ok_run ?_
    unfold b_l_count
    array_mem_dec
    cases t with
    | v nm =>
      refine wp_seq (wp_if ?_)
      rw [Tm.d]
      simp only [ok_dTru, ok_dIsi]
      array_get_dec
      rw [isi_nm]
      array_get_dec
      refine ⟨fun _ => wp_ret ?_, fun q => by simp at q⟩
      array_get_dec
      rw [Tm.cnt]
    | n nm ps =>
      refine wp_seq (wp_if ?_)
      rw [Tm.d_n]
      simp only [ok_dTru, ok_dIsi]
      array_get_dec
      rw [isi_tup]
      array_get_dec
      refine ⟨fun q => by simp at q, fun _ => wp_nil (wp_ret ?_)⟩
      have hps : ∀ p ∈ ps, p.dep < f ∧ p.cnt ≤ 100000 := fun p hp => by
        have h1 := Tm.deps_le hp
        rw [Tm.dep] at h
        rw [Tm.cnt_n] at hc
        have h2 : p.cnt ≤ (ps.map Tm.cnt).sum := le_sum (List.mem_map.mpr ⟨p, hp, rfl⟩)
        omega
      have hpl : ps.length ≤ 100000 := by
        have : ∀ qs : List Tm, qs.length ≤ (qs.map Tm.cnt).sum := fun qs => by
          induction qs with
          | nil => simp
          | cons q qs ih => have := Tm.cnt_pos q; simp; omega
        have := this ps
        rw [Tm.cnt_n] at hc
        omega
      array_get_dec
      refine ok_compP (zs := ps) (g := Tm.d) (fun p => natD p.cnt) ?_ (by omega) ?_ ?_
      · array_get_dec
        rw [drop1]
      · intro p hp
        refine ⟨_, rfl, rfl, ?_⟩
        unfold cc_l_count_1
        array_mem_dec
        array_get_dec
        exact ok_count f p (hps p hp).1 (hps p hp).2
      · array_get_dec
        rw [show ps.map (fun p => natD p.cnt) = (ps.map Tm.cnt).map natD by rw [List.map_map]; rfl, nSum]
        array_get_dec
        rw [Tm.cnt_n]
end KL

namespace KL
open PySem L2 KD
theorem map_at {α : Type} {f : α → D} {xs : List α} {k : Nat} {d : D} (h : (xs.map f)[k]? = some d) : ∃ x, xs[k]? = some x ∧ d = f x := by
  rw [List.getElem?_map] at h
  cases q : xs[k]? with
  | none => rw [q] at h; cases h
  | some x => rw [q] at h; cases h; exact ⟨x, rfl, rfl⟩
theorem map_at_mem {α : Type} {f : α → D} {xs : List α} {k : Nat} {d : D} (h : (xs.map f)[k]? = some d) : k < xs.length ∧ ∃ x, x ∈ xs ∧ d = f x := by
  obtain ⟨x, e, q⟩ := map_at h
  exact ⟨(List.getElem?_eq_some_iff.mp e).1, x, List.mem_of_getElem? e, q⟩
theorem sum_le {ps : List Tm} {b : Nat} (h : ∀ p ∈ ps, p.cnt ≤ b) : (ps.map Tm.cnt).sum ≤ b * ps.length := by
  induction ps with
  | nil => simp
  | cons p ps ih =>
    have h1 := h p List.mem_cons_self
    have h2 := ih fun q hq => h q (List.mem_cons_of_mem _ hq)
    rw [List.map_cons, List.sum_cons, List.length_cons, Nat.mul_add]
    omega
theorem sym_d (s : Sym) : Sym.d s = .tup [nmD s.nm, natD s.pl, .bl s.dn, .tup (s.od.map natD)] := rfl
/-! ### rules -/
inductive Pt where
  | v (x : List Nat)
  | p (nm : List Nat) (xs : List (List Nat))
def Pt.d : Pt → D
  | .v x => nmD x
  | .p nm xs => .tup (nmD nm :: xs.map nmD)
def Pt.vars : Pt → List (List Nat)
  | .v x => [x]
  | .p _ xs => xs
def Pt.ok (ss : List Sym) : Pt → Prop
  | .v _ => True
  | .p nm xs => ∃ s ∈ ss, s.nm = nm ∧ xs.length = s.pl
mutual
def Tm.wfv (ss : List Sym) (xs : List (List Nat)) : Tm → Prop
  | .v x => x ∈ xs
  | .n nm ps => (∃ s ∈ ss, s.nm = nm ∧ ps.length = s.pl) ∧ Tm.wfvs ss xs ps
def Tm.wfvs (ss : List Sym) (xs : List (List Nat)) : List Tm → Prop
  | [] => True
  | t :: ts => t.wfv ss xs ∧ Tm.wfvs ss xs ts
end
theorem Tm.wfvs_iff (ss : List Sym) (xs : List (List Nat)) : ∀ ts : List Tm, Tm.wfvs ss xs ts ↔ ∀ t ∈ ts, t.wfv ss xs
  | [] => by simp [Tm.wfvs]
  | t :: ts => by simp [Tm.wfvs, Tm.wfvs_iff ss xs ts]
structure Rl where
  nm : List Nat
  lp : List Pt
  rt : Tm
def Rl.vars (r : Rl) : List (List Nat) := r.lp.flatMap Pt.vars
def Rl.ld (r : Rl) : D := .tup (nmD r.nm :: r.lp.map Pt.d)
def Rl.d (r : Rl) : D := .tup [r.ld, r.rt.d]
structure Rl.ok (ss : List Sym) (r : Rl) : Prop where
  hd : ∃ s ∈ ss, s.nm = r.nm ∧ s.dn = false ∧ r.lp.length = s.pl
  pt : ∀ p ∈ r.lp, p.ok ss
  nd : r.vars.Nodup
  nm : ∀ x ∈ r.vars, nameOk x
  vl : r.vars.length ≤ 4
  rt : r.rt.wfv ss r.vars
  cn : r.rt.cnt ≤ 9
theorem ok_rule (ss : List Sym) (hs : SigOk ss) (h1 : 1 ≤ ss.length) (hs0 : ∀ s, ss[0]? = some s → s.pl = 0) (hd : Sym) (mh : hd ∈ ss) (mw : hd.dn = false) (nums : List Nat) (hn : 7 ≤ nums.length) (vs : List (List Nat)) (hv : vs.length = 4) (vnd : vs.Nodup) (vok : ∀ v ∈ vs, nameOk v) :
    Ok (den_l_rule [.lst (ss.map Sym.d), Sym.d hd, .lst (nums.map natD), .lst (vs.map nmD)]) fun d => ∃ r : Rl, d = r.d ∧ r.ok ss := by
  have hpl := sym_len hs mh
  refine ok_run ?_
  unfold b_l_rule
  array_mem_dec
  rw [sym_d hd]
  refine wp_seq (wp_own ?_)
  array_get_dec
  refine wp_seq (wp_set ?_)
  array_get_dec
  refine wp_seq (wp_for (fun i ρ => ∃ (lp : List Pt) (u : Nat) (s7 : Sl), ρ = [.dt (.lst (ss.map Sym.d)), .dt (.tup [nmD hd.nm, natD hd.pl, .bl hd.dn, .tup (hd.od.map natD)]), .dt (.lst (nums.map natD)), .dt (.lst (vs.map nmD)), .ol (nmD hd.nm :: lp.map Pt.d), .dt (natD u), .no, s7, .no, .no, .no, .no, .no, .no] ∧ u + (hd.pl - i) ≤ 4 ∧ lp.length = i ∧ (∀ p ∈ lp, p.ok ss) ∧ lp.flatMap Pt.vars = vs.take u) ?_)
  array_get_dec
  refine ⟨by omega, ⟨[], 0, .no, rfl, by omega, rfl, by simp, by simp⟩, ?_, ?_⟩
  · rintro k d ρ hd' ⟨lp, u, s7, rfl, hu, hll, hpo, hpv⟩
    obtain ⟨hk, rfl⟩ := rng_at hd'
    refine ⟨_, rfl, ?_⟩
    unfold lb_l_rule_1
    array_mem_dec
    refine wp_seq (wp_set ?_)
    array_get_dec
    rw [nIxM]
    obtain ⟨m, em, _⟩ := at_lt (xs := nums) (k := k) (by omega)
    refine ⟨m, em, ?_⟩
    array_get_dec
    refine ⟨by omega, ?_⟩
    rw [nIxM]
    obtain ⟨s, es1, ms⟩ := at_lt (xs := ss) (k := m / 2 % ss.length) (Nat.mod_lt _ (by omega))
    refine ⟨s, es1, ?_⟩
    have hsp := sym_len hs ms
    rw [sym_d s]
    refine wp_if (Ok.imp (Q := fun b => b = true → u + s.pl + hd.pl - k ≤ 5) ?_ fun b hb => ⟨fun e => wp_seq (wp_app ?_), fun e => wp_seq (wp_app ?_)⟩)
    · array_get_dec
      rw [nIxM]
      refine ⟨m, em, ?_⟩
      array_get_dec
      rw [subD_le (by omega), nLe]
      array_get_dec
      refine ⟨fun _ q => by simpa using q, fun _ q => by simp at q⟩
    · array_get_dec
      have hb' := hb e
      refine ⟨line_ok (by simp; omega), by omega, ?_⟩
      refine wp_set ?_
      array_get_dec
      array_mem_dec
      have ecut : List.take (u + s.pl - u) (List.drop u (List.map nmD vs)) = ((vs.drop u).take s.pl).map nmD := by
        rw [Nat.add_sub_cancel_left, List.map_take, List.map_drop]
      refine ⟨lp ++ [.p s.nm ((vs.drop u).take s.pl)], u + s.pl, .dt (.tup [nmD s.nm, natD s.pl, .bl s.dn, .tup (s.od.map natD)]), ?_, by omega, by simp [hll], ?_, ?_⟩
      · rw [ecut, List.map_append]
        rfl
      · intro p hp
        rcases List.mem_append.mp hp with h | h
        · exact hpo p h
        · simp at h
          subst h
          exact ⟨s, ms, rfl, by rw [List.length_take, List.length_drop]; omega⟩
      · rw [List.flatMap_append, hpv]
        simp [Pt.vars, List.take_add]
    · array_get_dec
      rw [nIxM]
      obtain ⟨v, ev_, _⟩ := at_lt (xs := vs) (k := u) (by omega)
      refine ⟨v, ev_, by omega, ?_⟩
      refine wp_set ?_
      array_get_dec
      array_mem_dec
      refine ⟨lp ++ [.v v], u + 1, _, by rw [List.map_append]; rfl, by omega, by simp [hll], ?_, ?_⟩
      · intro p hp
        rcases List.mem_append.mp hp with h | h
        · exact hpo p h
        · simp at h
          subst h
          trivial
      · rw [List.flatMap_append, hpv, List.take_add_one, ev_]
        rfl
  · rintro ρ ⟨lp, u, s7, rfl, hu, hll, hpo, hpv⟩
    refine wp_seq (wp_own ?_)
    array_get_dec
    rw [nIxM]
    obtain ⟨s0, e0, m0⟩ := at_lt (xs := ss) (k := 0) (by omega)
    refine ⟨s0, e0, ?_⟩
    rw [sym_d s0]
    array_get_dec
    refine ⟨line_ok (by simp; omega), ?_⟩
    have epool : (vs.map nmD).take u ++ [D.tup [nmD s0.nm]] = ((vs.take u).map Tm.v ++ [Tm.n s0.nm []]).map Tm.d := by
      rw [List.map_append, List.map_map, ← List.map_take]
      congr 1
    rw [epool]
    refine wp_seq (wp_for (fun i ρ => ∃ (ps : List Tm) (s7 : Sl), ρ = [.dt (.lst (ss.map Sym.d)), .dt (.tup [nmD hd.nm, natD hd.pl, .bl hd.dn, .tup (hd.od.map natD)]), .dt (.lst (nums.map natD)), .dt (.lst (vs.map nmD)), .ol (nmD hd.nm :: lp.map Pt.d), .dt (natD u), .no, s7, .ol (ps.map Tm.d), .no, .no, .no, .no, .no] ∧ (∀ p ∈ ps, p.cnt ≤ 9 ∧ p.wfv ss (vs.take u)) ∧ 1 ≤ ps.length ∧ ps.length ≤ 5 + i) ?_)
    array_get_dec
    rw [← List.map_drop, ← List.map_take]
    refine ⟨⟨_, s7, rfl, ?_, by simp, by simp; omega⟩, ?_, ?_⟩
    · intro p hp
      rcases List.mem_append.mp hp with h | h
      · obtain ⟨v, mv, rfl⟩ := List.mem_map.mp h
        exact ⟨by simp [Tm.cnt], mv⟩
      · simp at h
        subst h
        exact ⟨by simp [Tm.cnt, Tm.cnts], ⟨s0, m0, rfl, (hs0 s0 e0).symm⟩, trivial⟩
    · rintro k d ρ hd' ⟨ps, s7, rfl, hps, hpl1, hpl2⟩
      obtain ⟨hk, m, _, rfl⟩ := map_at_mem hd'
      have hk3 : k < 3 := by simp at hk; omega
      refine ⟨_, rfl, ?_⟩
      unfold lb_l_rule_2
      array_mem_dec
      refine wp_seq (wp_set ?_)
      array_get_dec
      refine ⟨by omega, ?_⟩
      rw [nIxM]
      obtain ⟨s, es1, ms⟩ := at_lt (xs := ss) (k := m % 5 % ss.length) (Nat.mod_lt _ (by omega))
      refine ⟨s, es1, ?_⟩
      have hsp := sym_len hs ms
      rw [sym_d s]
      refine wp_seq (wp_set ?_)
      refine ok_compA (fun _ y => ∃ p, p ∈ ps ∧ y = Tm.d p) ?_
      array_get_dec
      refine ⟨by omega, by omega, ?_, ?_⟩
      · intro d hd
        obtain ⟨j, hj, rfl⟩ := rng_mem hd
        refine ⟨_, rfl, ?_⟩
        unfold cc_l_rule_1
        array_mem_dec
        array_get_dec
        rw [nIxL]
        obtain ⟨v, hv, ev_⟩ := tab3 (fun a _ => a) j (by omega) 5 40 320
        refine ⟨_, ev_, ?_⟩
        array_get_dec
        refine ⟨by omega, by omega, ?_⟩
        rw [nIxM]
        obtain ⟨z, ez, mz⟩ := at_lt (xs := ps) (k := m / v % 8 % ps.length) (Nat.mod_lt _ (by omega))
        exact ⟨z, ez, z, mz, rfl⟩
      intro ys hy hj
      obtain ⟨qs, rfl, hql, hq⟩ := unmap (f := Tm.d) (C := fun p => p ∈ ps) (ys := ys) (fun y hy2 => by
        obtain ⟨k, hk2, e⟩ := List.getElem_of_mem hy2
        have hk3 : k < s.pl := by simpa [hy] using hk2
        exact hj k (natD k) y (by rw [List.getElem?_map, List.getElem?_range hk3]; rfl) (by rw [List.getElem?_eq_getElem hk2, e]))
      have hql2 : qs.length = s.pl := by simpa using hy
      refine wp_seq (wp_set ?_)
      array_get_dec
      refine ⟨line_ok (by omega), ?_⟩
      rw [show D.tup ([nmD s.nm] ++ qs.map Tm.d) = (Tm.n s.nm qs).d from (Tm.d_n s.nm qs).symm]
      have hcn : (Tm.n s.nm qs).cnt ≤ 28 := by
        rw [Tm.cnt_n]
        have := sum_le (ps := qs) (b := 9) fun q hq' => (hps q (hq q hq')).1
        have : 9 * qs.length ≤ 27 := by omega
        omega
      have hdn := Tm.dep_cnt (Tm.n s.nm qs)
      refine wp_if (Ok.imp (Q := fun b => b = true → (Tm.n s.nm qs).cnt ≤ 9) ?_ fun b hb => ⟨fun e => wp_app ?_, fun e => wp_nil ?_⟩)
      · array_get_dec
        refine (ok_count 120 _ (by omega) (by omega)).imp ?_
        rintro _ rfl
        array_get_dec
        exact fun q => by simpa using q
      · array_get_dec
        refine ⟨by omega, ?_⟩
        array_mem_dec
        refine ⟨ps ++ [Tm.n s.nm qs], _, by rw [List.map_append]; rfl, ?_, by simp, by simp; omega⟩
        intro p hp
        rcases List.mem_append.mp hp with h | h
        · exact hps p h
        · simp at h
          subst h
          exact ⟨hb e, ⟨s, ms, rfl, hql2⟩, (Tm.wfvs_iff ss _ qs).mpr fun q hq' => (hps q (hq q hq')).2⟩
      · array_mem_dec
        exact ⟨ps, _, rfl, hps, hpl1, by omega⟩
    · rintro ρ ⟨ps, s7, rfl, hps, hpl1, hpl2⟩
      refine wp_seq (wp_set ?_)
      array_get_dec
      rw [subD_le (by omega), nIxM]
      obtain ⟨z, ez, mz⟩ := at_lt (xs := ps) (k := ps.length - 1) (by omega)
      refine ⟨z, ez, ?_⟩
      refine wp_cut (fun ρ => ∃ r ∈ ps, ρ = [.dt (.lst (ss.map Sym.d)), .dt (.tup [nmD hd.nm, natD hd.pl, .bl hd.dn, .tup (hd.od.map natD)]), .dt (.lst (nums.map natD)), .dt (.lst (vs.map nmD)), .ol (nmD hd.nm :: lp.map Pt.d), .dt (natD u), .no, s7, .ol (ps.map Tm.d), .no, .no, .no, .dt (Tm.d r), .no]) (wp_if ?_) ?_
      · array_get_dec
        rw [nIxM]
        obtain ⟨m, em, _⟩ := at_lt (xs := nums) (k := 6) (by omega)
        refine ⟨m, em, ?_⟩
        array_get_dec
        refine ⟨fun _ => wp_set ?_, fun _ => wp_nil ⟨z, mz, rfl⟩⟩
        array_get_dec
        rw [nIxM]
        refine ⟨m, em, ?_⟩
        array_get_dec
        refine ⟨by omega, ?_⟩
        rw [nIxM]
        obtain ⟨z, ez, mz⟩ := at_lt (xs := ps) (k := m / 2 % ps.length) (Nat.mod_lt _ (by omega))
        exact ⟨z, ez, z, mz, rfl⟩
      · rintro ρ ⟨r, mr, rfl⟩
        refine wp_ret ?_
        array_get_dec
        refine ⟨⟨hd.nm, lp, r⟩, rfl, ?_⟩
        have ev_ : (⟨hd.nm, lp, r⟩ : Rl).vars = vs.take u := hpv
        have hu4 : u ≤ 4 := by omega
        exact ⟨⟨hd, mh, rfl, mw, hll⟩, hpo, by rw [ev_]; exact vnd.sublist (List.take_sublist _ _), by rw [ev_]; exact fun x hx => vok x (List.mem_of_mem_take hx), by rw [ev_, List.length_take]; omega, by rw [ev_]; exact (hps r mr).2, (hps r mr).1⟩
theorem ok_rules (ss : List Sym) (hs : SigOk ss) (h1 : 1 ≤ ss.length) (hs0 : ∀ s, ss[0]? = some s → s.pl = 0) (ns : List Int) (k : Nat) :
    Ok (den_l_rules [.lst (ss.map Sym.d), .fls (ns.map D.int), natD k]) fun d => ∃ rs : List Rl, d = .lst (rs.map Rl.d) ∧ (∀ r ∈ rs, r.ok ss) ∧ rs.length ≤ 3 := by
  refine ok_run ?_
  unfold b_l_rules
  array_mem_dec
  refine wp_seq (wp_set ?_)
  refine ok_compF (fun d => match d with | .tup [_, _, .bl b, _] => !b | _ => false) (fun d => d) ?_
  array_get_dec
  refine ⟨by have := hs.len; omega, ?_, ?_⟩
  · intro d hd
    obtain ⟨s, ms, rfl⟩ := List.mem_map.mp hd
    refine ⟨_, rfl, ?_, fun _ => ?_⟩
    · unfold ct_l_rules_1
      array_mem_dec
      rw [sym_d s]
      array_get_dec
    · unfold cc_l_rules_1
      array_mem_dec
      array_get_dec
  rw [List.map_id']
  have ework : ∃ ws : List Sym, (ss.map Sym.d).filter (fun d => match d with | .tup [_, _, .bl b, _] => !b | _ => false) = ws.map Sym.d ∧ ∀ w ∈ ws, w ∈ ss ∧ w.dn = false := by
    refine ⟨ss.filter fun s => !s.dn, ?_, fun w hw => ⟨(List.mem_filter.mp hw).1, by simpa using (List.mem_filter.mp hw).2⟩⟩
    rw [List.filter_map]
    rfl
  obtain ⟨ws, ew, hw⟩ := ework
  rw [ew]
  refine wp_seq (wp_set ?_)
  array_get_dec
  obtain ⟨nums, en, hl⟩ := den_numbers ns k 26 (by decide)
  rw [en, ok_ok]
  refine wp_seq (wp_set ?_)
  array_get_dec
  rw [nIxM]
  obtain ⟨n0, e0, _⟩ := at_lt (xs := nums) (k := 0) (by omega)
  refine ⟨n0, e0, ?_⟩
  array_get_dec
  rw [den_names n0 4 (by omega) (by omega), ok_ok]
  refine wp_seq (wp_new ?_)
  array_mem_dec
  refine wp_cut (fun ρ => ∃ rs : List Rl, ρ = [.dt (.lst (ss.map Sym.d)), .dt (.fls (ns.map D.int)), .dt (natD k), .dt (.lst (ws.map Sym.d)), .dt (.lst (nums.map natD)), .dt (.lst ((nms n0 4).map nmD)), .ol (rs.map Rl.d), .no, .no, .no, .no] ∧ (∀ r ∈ rs, r.ok ss) ∧ rs.length ≤ 3) (wp_if (Ok.imp (Q := fun b => b = true → 0 < ws.length) ?_ fun b hb => ⟨fun e => ?_, fun e => wp_nil ⟨[], rfl, by simp, by simp⟩⟩)) ?_
  · array_get_dec
    exact fun q => by simpa using q
  · have hwl := hb e
    refine wp_for (fun i ρ => ∃ rs : List Rl, ρ = [.dt (.lst (ss.map Sym.d)), .dt (.fls (ns.map D.int)), .dt (natD k), .dt (.lst (ws.map Sym.d)), .dt (.lst (nums.map natD)), .dt (.lst ((nms n0 4).map nmD)), .ol (rs.map Rl.d), .no, .no, .no, .no] ∧ rs.length ≤ i ∧ ∀ r ∈ rs, r.ok ss) ?_
    array_get_dec
    rw [nIxM]
    obtain ⟨n1, e1, _⟩ := at_lt (xs := nums) (k := 1) (by omega)
    refine ⟨n1, e1, ?_⟩
    array_get_dec
    have hn4 : n1 % 4 < 4 := Nat.mod_lt _ (by omega)
    refine ⟨by omega, ⟨[], rfl, by simp, by simp⟩, ?_, ?_⟩
    · rintro j d ρ hd ⟨rs, rfl, hrl, hro⟩
      obtain ⟨hj, rfl⟩ := rng_at hd
      refine ⟨_, rfl, ?_⟩
      unfold lb_l_rules_1
      array_mem_dec
      refine wp_seq (wp_set ?_)
      array_get_dec
      refine ⟨.inl (by decide), .inl (by decide), ?_⟩
      rw [← List.map_drop, ← List.map_take]
      generalize hm : List.take (10 + 8 * j - (2 + 8 * j)) (List.drop (2 + 8 * j) nums) = mine
      have hml : mine.length = 8 := by
        rw [← hm, List.length_take, List.length_drop]
        omega
      refine wp_seq (wp_set ?_)
      array_get_dec
      refine ⟨by omega, ?_⟩
      rw [nIxM]
      obtain ⟨w, ew1, mw⟩ := at_lt (xs := ws) (k := j % ws.length) (Nat.mod_lt _ (by omega))
      refine ⟨w, ew1, ?_⟩
      obtain ⟨m0, em0, _⟩ := at_lt (xs := mine) (k := 0) (by omega)
      refine wp_cut (fun ρ => ∃ w ∈ ws, ρ = [.dt (.lst (ss.map Sym.d)), .dt (.fls (ns.map D.int)), .dt (natD k), .dt (.lst (ws.map Sym.d)), .dt (.lst (nums.map natD)), .dt (.lst ((nms n0 4).map nmD)), .ol (rs.map Rl.d), .dt (natD j), .dt (.lst (mine.map natD)), .dt (Sym.d w), .no]) (wp_if ?_) ?_
      · array_get_dec
        rw [nIxM]
        refine ⟨m0, em0, ?_⟩
        array_get_dec
        refine ⟨fun _ => wp_set ?_, fun _ => wp_nil ⟨w, mw, rfl⟩⟩
        array_get_dec
        rw [nIxM]
        refine ⟨m0, em0, ?_⟩
        array_get_dec
        refine ⟨by omega, ?_⟩
        rw [nIxM]
        obtain ⟨w2, ew2, mw2⟩ := at_lt (xs := ws) (k := m0 / 3 % ws.length) (Nat.mod_lt _ (by omega))
        exact ⟨w2, ew2, w2, mw2, rfl⟩
      · rintro ρ ⟨w, mw, rfl⟩
        refine wp_app ?_
        array_get_dec
        rw [← List.map_drop]
        refine (ok_rule ss hs h1 hs0 w (hw w mw).1 (hw w mw).2 _ (by simp [hml]) _ (nms_len _ _) (nms_nodup (by omega)) (nms_ok (by omega))).imp ?_
        rintro _ ⟨r, rfl, hr⟩
        refine ⟨by omega, ?_⟩
        array_mem_dec
        refine ⟨rs ++ [r], by rw [List.map_append]; rfl, by simp; omega, ?_⟩
        intro q hq
        rcases List.mem_append.mp hq with h | h
        · exact hro q h
        · simp at h
          subst h
          exact hr
    · rintro ρ ⟨rs, rfl, hrl, hro⟩
      exact ⟨rs, rfl, hro, by omega⟩
  · rintro ρ ⟨rs, rfl, hro, hrl⟩
    refine wp_ret ?_
    array_get_dec
    exact ⟨rs, rfl, hro, hrl⟩
/-! ### tables -/
structure Tab where
  ss : List Sym
  ks : List (List Nat)
  ps : List (List Nat × List Nat)
  es : List En
  rs : List Rl
def Tab.d (T : Tab) : D := .tup [.lst (T.ss.map Sym.d), .lst (T.ks.map nmD), .lst (T.ps.map prD), .lst (T.es.map En.d), .lst (T.rs.map Rl.d)]
structure Tab.ok (T : Tab) : Prop where
  ss : SigOk T.ss
  s2 : 2 ≤ T.ss.length
  s5 : T.ss.length ≤ 6
  s0 : ∃ s, T.ss[0]? = some s ∧ s.pl = 0
  k1 : 1 ≤ T.ks.length
  k3 : T.ks.length ≤ 3
  kn : T.ks.Nodup
  kok : ∀ k ∈ T.ks, nameOk k
  ps : ∃ t : List Nat, t.Nodup ∧ LowsOk T.ks t T.ps
  es : ∀ e ∈ T.es, e.ok T.ss T.ks
  el : T.es.length ≤ 100
  pl : T.ps.length ≤ 12
  rs : ∀ r ∈ T.rs, r.ok T.ss
  rl : T.rs.length ≤ 10
theorem ok_random (ns : List Int) (k lim : Nat) (h1 : 1 ≤ lim) (h3 : lim ≤ 3) : Ok (den_l_random [.fls (ns.map D.int), natD k, natD lim]) fun d => ∃ T : Tab, d = T.d ∧ T.ok ∧ T.ks.length ≤ lim ∧ (T.es.length ≤ 50 ∧ T.ps.length ≤ 9 ∧ T.ss.length ≤ 5) := by
  refine ok_run ?_
  unfold b_l_random
  array_mem_dec
  refine wp_seq (wp_set ?_)
  array_get_dec
  obtain ⟨nums, en, hl⟩ := den_numbers ns k 12 (by decide)
  rw [en, ok_ok]
  refine wp_seq (wp_set ?_)
  array_get_dec
  refine (ok_symbols nums (by omega)).imp ?_
  rintro _ ⟨ss, rfl, hss, hs2, hs5, hs0⟩
  refine wp_seq (wp_set ?_)
  array_get_dec
  rw [nIxM]
  obtain ⟨n8, e8, _⟩ := at_lt (xs := nums) (k := 8) (by omega)
  refine ⟨n8, e8, ?_⟩
  array_get_dec
  rw [nIxM]
  obtain ⟨n9, e9, _⟩ := at_lt (xs := nums) (k := 9) (by omega)
  refine ⟨n9, e9, ?_⟩
  array_get_dec
  refine ⟨by omega, ?_⟩
  have hmod : n9 % lim < lim := Nat.mod_lt _ (by omega)
  generalize hc : 1 + n9 % lim = c
  rw [den_names n8 c (by omega) (by omega), ok_ok]
  refine wp_seq (wp_set ?_)
  array_get_dec
  obtain ⟨nums2, en2, hl2⟩ := den_numbers ns (k + 1) 9 (by decide)
  rw [en2, ok_ok]
  refine wp_seq (wp_set ?_)
  array_get_dec
  rw [nIxM]
  obtain ⟨n11, e11, _⟩ := at_lt (xs := nums) (k := 11) (by omega)
  refine ⟨n11, e11, ?_⟩
  array_get_dec
  rw [← List.map_take]
  have hkl : (nms n8 c).length = c := nms_len _ _
  refine (ok_entries ss (nms n8 c) _ hss (by omega) (by omega) (by omega) (by rw [List.length_take]; omega)).imp ?_
  rintro _ ⟨es, rfl, hes, hel, _⟩
  refine wp_ret ?_
  array_get_dec
  rw [nIxM]
  obtain ⟨n10, e10, _⟩ := at_lt (xs := nums) (k := 10) (by omega)
  refine ⟨n10, e10, ?_⟩
  array_get_dec
  refine (ok_lows n10 (nms n8 c) (by omega)).imp ?_
  rintro _ ⟨ps, t, rfl, hnd, hps, hp9⟩
  refine (ok_rules ss hss (by omega) (fun s e => by obtain ⟨s', e', h'⟩ := hs0; rw [e] at e'; cases e'; exact h') ns (k + 2)).imp ?_
  rintro _ ⟨rs, rfl, hro, hrl⟩
  exact ⟨⟨ss, nms n8 c, ps, es, rs⟩, rfl, ⟨hss, hs2, by show ss.length ≤ 6; omega, hs0, by show 1 ≤ (nms n8 c).length; omega, by show (nms n8 c).length ≤ 3; omega, nms_nodup (by omega), nms_ok (by omega), ⟨t, hnd, hps⟩, hes, by rw [List.length_take] at hel; show es.length ≤ 100; omega, by show ps.length ≤ 12; omega, hro, by show rs.length ≤ 10; omega⟩, by show (nms n8 c).length ≤ lim; omega, by rw [List.length_take] at hel; show es.length ≤ 50 ∧ ps.length ≤ 9 ∧ ss.length ≤ 5; omega⟩
end KL

namespace KL
open PySem L2 KD
theorem nmIn {P : D → Prop} {l : List Nat} {ls : List (List Nat)} : Ok (gIn (nmD l) (.lst (ls.map nmD))) P = P (.bl (decide (l ∈ ls))) := by rw [in_nm, ok_ok]
theorem nmNotIn {P : D → Prop} {l : List Nat} {ls : List (List Nat)} : Ok (gNotIn (nmD l) (.lst (ls.map nmD))) P = P (.bl (!decide (l ∈ ls))) := by
  unfold gNotIn
  rw [in_nm, Rs.bind_ok, ok_ok]
def upStep (fs : List (List Nat)) (p : List Nat × List Nat) : List (List Nat) := if p.1 ∈ fs ∧ p.2 ∉ fs then fs ++ [p.2] else fs
def upPass (ps : List (List Nat × List Nat)) (fs : List (List Nat)) : List (List Nat) := ps.foldl upStep fs
def upIt (ps : List (List Nat × List Nat)) : Nat → List (List Nat) → List (List Nat)
  | 0, fs => fs
  | n + 1, fs => upPass ps (upIt ps n fs)
def Tab.up (T : Tab) (k : List Nat) : List (List Nat) := T.ks.filter fun x => decide (x ∈ upIt T.ps T.ks.length [k])
theorem upStep_len (fs : List (List Nat)) (p : List Nat × List Nat) : (upStep fs p).length ≤ fs.length + 1 := by
  unfold upStep
  split <;> simp
theorem tab_d (T : Tab) : T.d = .tup [.lst (T.ss.map Sym.d), .lst (T.ks.map nmD), .lst (T.ps.map prD), .lst (T.es.map En.d), .lst (T.rs.map Rl.d)] := rfl
theorem ok_up (T : Tab) (hT : T.ok) (kd : List Nat) : Ok (den_l_up [T.d, nmD kd]) fun d => d = .lst ((T.up kd).map nmD) := by
  have hk3 := hT.k3
  have hp9 := hT.pl
  refine ok_run ?_
  unfold b_l_up
  array_mem_dec
  rw [tab_d]
  generalize htd : D.tup [.lst (T.ss.map Sym.d), .lst (T.ks.map nmD), .lst (T.ps.map prD), .lst (T.es.map En.d), .lst (T.rs.map Rl.d)] = td
  refine wp_seq (wp_own ?_)
  array_get_dec
  refine wp_seq (wp_for (fun i ρ => ∃ fs : List (List Nat), ρ = [.dt td, .dt (nmD kd), .ol (fs.map nmD), .no, .no, .no] ∧ fs = upIt T.ps i [kd] ∧ fs.length ≤ 1 + 12 * i) ?_)
  rw [← htd]
  array_get_dec
  refine ⟨⟨[kd], by rw [htd]; rfl, rfl, by simp⟩, ?_, ?_⟩
  · rintro k d ρ hd ⟨fs, rfl, hfs, hfl⟩
    obtain ⟨hk, x, _, rfl⟩ := map_at_mem hd
    refine ⟨_, rfl, ?_⟩
    unfold lb_l_up_2
    array_mem_dec
    refine wp_for (fun i ρ => ∃ gs : List (List Nat), ρ = [.dt td, .dt (nmD kd), .ol (gs.map nmD), .dt (nmD x), .no, .no] ∧ gs = (T.ps.take i).foldl upStep fs ∧ gs.length ≤ fs.length + i) ?_
    rw [← htd]
    array_get_dec
    refine ⟨⟨fs, by rw [htd], rfl, by simp⟩, ?_, ?_⟩
    · rintro j d ρ hd ⟨gs, rfl, hgs, hgl⟩
      obtain ⟨p, ep, rfl⟩ := map_at hd
      have hj := (List.getElem?_eq_some_iff.mp ep).1
      refine ⟨_, rfl, ?_⟩
      unfold lb_l_up_1
      array_mem_dec
      have next : ∀ hs : List (List Nat), hs = upStep gs p → hs = (T.ps.take (j + 1)).foldl upStep fs ∧ hs.length ≤ fs.length + (j + 1) := fun hs e => by
        refine ⟨?_, ?_⟩
        · rw [List.take_add_one, ep, List.foldl_append, ← hgs, e]; rfl
        · have := upStep_len gs p; rw [e]; omega
      refine wp_if (Ok.imp (Q := fun b => b = decide (p.1 ∈ gs ∧ p.2 ∉ gs)) ?_ fun b hb => ⟨fun e => wp_app ?_, fun e => wp_nil ?_⟩)
      · unfold prD
        array_get_dec
        rw [nmIn]
        array_get_dec
        rw [nmNotIn]
        array_get_dec
        refine ⟨fun h => ?_, fun h => ?_⟩
        · have h' : p.1 ∈ gs := by simpa using h
          simp [h']
        · have h' : ¬ p.1 ∈ gs := by simpa using h
          simp [h']
      · unfold prD
        array_get_dec
        refine ⟨by omega, ?_⟩
        array_mem_dec
        have hc : p.1 ∈ gs ∧ p.2 ∉ gs := by rw [e] at hb; simpa using hb.symm
        exact ⟨gs ++ [p.2], by rw [List.map_append]; rfl, next _ (by unfold upStep; rw [if_pos hc])⟩
      · array_mem_dec
        have hc : ¬ (p.1 ∈ gs ∧ p.2 ∉ gs) := by rw [e] at hb; simpa using hb.symm
        exact ⟨gs, rfl, next _ (by unfold upStep; rw [if_neg hc])⟩
    · rintro ρ ⟨gs, rfl, hgs, hgl⟩
      array_mem_dec
      refine ⟨gs, rfl, ?_, by omega⟩
      rw [hgs, List.take_length, hfs]
      rfl
  · rintro ρ ⟨fs, rfl, hfs, hfl⟩
    refine wp_ret ?_
    array_get_dec
    refine ok_compF (fun d => match d with | .str x => decide (x.cps.toList ∈ fs) | _ => false) (fun d => d) ?_
    array_get_dec
    refine ⟨by omega, ?_, ?_⟩
    · intro d hd
      obtain ⟨s, ms, rfl⟩ := List.mem_map.mp hd
      refine ⟨_, rfl, ?_, fun _ => ?_⟩
      · unfold ct_l_up_1
        array_mem_dec
        array_get_dec
        rw [nmIn]
        array_get_dec
        unfold nmD
        simp only [sO_cps]
      · unfold cc_l_up_1
        array_mem_dec
        array_get_dec
    · rw [List.map_id', List.filter_map]
      unfold Tab.up
      congr 2
      apply List.filter_congr
      intro x _
      simp only [Function.comp, nmD, sO_cps, hfs]
end KL

namespace KL
open PySem L2 KD
theorem compL_typedF {α : Type} {g h : α → D} {t : D → Ev → Option Ev} {c : Ev → Rs Bool} {f : Ev → Rs D} {ρ : Ev} (p : α → Bool) : ∀ zs : List α, (∀ z ∈ zs, ∃ ρ', t (g z) ρ = some ρ' ∧ Ok (c ρ') (fun b => b = p z) ∧ (p z = true → Ok (f ρ') (fun y => y = h z))) → compL t c f ρ (zs.map g) = .ok ((zs.filter p).map h)
  | [], _ => rfl
  | z :: zs, hs => by
    obtain ⟨ρ', e1, e2, e3⟩ := hs z List.mem_cons_self
    have ih := compL_typedF (g := g) (h := h) (t := t) (c := c) (f := f) (ρ := ρ) p zs fun d hd => hs d (List.mem_cons_of_mem _ hd)
    rw [List.map_cons]
    unfold compL
    rw [e1]
    cases q : p z with
    | true => simp [e2.eq, (e3 q).eq, ih, q]
    | false => simp [e2.eq, ih, q]
theorem ok_compFP {α : Type} {g : α → D} {zs : List α} {P : D → Prop} {ρ : Ev} {vs : List Nat} {it : Ev → Rs (List D)} {t : D → Ev → Option Ev} {ft : Ev → Rs Bool} {fa : Ev → Rs D} (p : α → Bool) (h : α → D) (hi : Ok (it ρ) fun ds => ds = zs.map g) (hl : zs.length ≤ 1000000)
    (hs : ∀ z ∈ zs, ∃ ρ', t (g z) (wipeE vs ρ) = some ρ' ∧ Ok (ft ρ') (fun b => b = p z) ∧ (p z = true → Ok (fa ρ') (fun y => y = h z))) (hp : P (.lst ((zs.filter p).map h))) : Ok (dComp vs it t ft fa ρ) P := by
  unfold dComp
  rw [hi.eq, Rs.bind_ok, if_pos (by simpa using hl), compL_typedF p zs hs, Rs.bind_ok, ok_ok]
  exact hp
theorem inT_nm (l : List Nat) (ls : List (List Nat)) : gIn (nmD l) (.tup (ls.map nmD)) = .ok (.bl (decide (l ∈ ls))) := by
  have e : gIn (nmD l) (.tup (ls.map nmD)) = gIn (nmD l) (.lst (ls.map nmD)) := rfl
  rw [e, in_nm]
theorem nmInT {P : D → Prop} {l : List Nat} {ls : List (List Nat)} : Ok (gIn (nmD l) (.tup (ls.map nmD))) P = P (.bl (decide (l ∈ ls))) := by rw [inT_nm, ok_ok]
def kdD (ks : List (List Nat)) : D := .tup (ks.map nmD)
def En.fitAt (e : En) (nm : List Nat) (sets : List (List (List Nat))) (i : Nat) : Bool := decide (e.nm = nm) && decide (e.ps.getD i [] ∈ sets.getD i [])
def En.fits (e : En) (nm : List Nat) (sets : List (List (List Nat))) : Bool := decide (e.nm = nm) && (List.range e.ps.length).all (e.fitAt nm sets)
def Tab.found (T : Tab) (nm : List Nat) (sets : List (List (List Nat))) (es : List En) : List (List Nat) := (es.filter fun e => e.fits nm sets).flatMap fun e => T.up e.kd
def Tab.comb (T : Tab) (nm : List Nat) (sets : List (List (List Nat))) : List (List Nat) := T.ks.filter fun k => decide (k ∈ T.found nm sets T.es)
theorem up_len (T : Tab) (k : List Nat) : (T.up k).length ≤ T.ks.length := List.length_filter_le _ _
theorem found_len (T : Tab) (nm : List Nat) (sets : List (List (List Nat))) (hk : T.ks.length ≤ 3) : ∀ es : List En, (T.found nm sets es).length ≤ 3 * es.length
  | [] => by simp [Tab.found]
  | e :: es => by
    have ih := found_len T nm sets hk es
    have h2 := up_len T e.kd
    unfold Tab.found at ih ⊢
    rw [List.filter_cons]
    split
    · rw [List.flatMap_cons, List.length_append, List.length_cons]; omega
    · rw [List.length_cons]; omega
theorem found_snoc (T : Tab) (nm : List Nat) (sets : List (List (List Nat))) (es : List En) (e : En) : T.found nm sets (es ++ [e]) = if e.fits nm sets = true then T.found nm sets es ++ T.up e.kd else T.found nm sets es := by
  unfold Tab.found
  rw [List.filter_append, List.flatMap_append]
  by_cases h : e.fits nm sets = true
  · simp [h]
  · simp [h]
theorem ok_combineG {g : List (List Nat) → D} (hg : ∀ (S : List (List Nat)) (l : List Nat) (P : D → Prop), Ok (gIn (nmD l) (g S)) P = P (.bl (decide (l ∈ S)))) (T : Tab) (hT : T.ok) (nm : List Nat) (sets : List (List (List Nat))) (hset : ∀ e ∈ T.es, e.nm = nm → e.ps.length ≤ sets.length) :
    Ok (den_l_combine [T.d, nmD nm, .lst (sets.map g)]) fun d => d = kdD (T.comb nm sets) := by
  have hk3 := hT.k3
  have hel := hT.el
  refine ok_run ?_
  unfold b_l_combine
  array_mem_dec
  refine wp_seq (wp_set ?_)
  array_get_dec
  refine wp_seq (wp_for (fun i ρ => ρ = [.dt T.d, .dt (nmD nm), .dt (.lst (sets.map g)), .dt (.lst ((T.found nm sets (T.es.take i)).map nmD)), .no, .no, .no, .no]) ?_)
  rw [tab_d]
  array_get_dec
  refine ⟨rfl, ?_, ?_⟩
  · rintro k d ρ hd rfl
    obtain ⟨e, ee, rfl⟩ := map_at hd
    have hk := (List.getElem?_eq_some_iff.mp ee).1
    have me := List.mem_of_getElem? ee
    have eok := hT.es e me
    have hpl : e.ps.length ≤ 3 := by obtain ⟨s, ms, _, q⟩ := eok.sy; have := sym_len hT.ss ms; omega
    refine ⟨_, rfl, ?_⟩
    unfold lb_l_combine_1
    array_mem_dec
    rw [show En.d e = .tup [nmD e.nm, .tup (e.ps.map nmD), nmD e.kd] from rfl]
    refine wp_seq (wp_set ?_)
    refine ok_compFP (zs := List.range e.ps.length) (g := natD) (e.fitAt nm sets) natD ?_ (by simp; omega) ?_ ?_
    · array_get_dec
      omega
    · intro i hi
      have hi' : i < e.ps.length := by simpa using hi
      refine ⟨_, rfl, ?_, fun _ => ?_⟩
      · unfold ct_l_combine_1
        array_mem_dec
        array_get_dec
        refine ⟨fun z => ?_, fun z => ?_⟩
        · have z' : e.nm = nm := by simpa using z
          rw [nIxMT]
          obtain ⟨q, eq, _⟩ := at_lt (xs := e.ps) (k := i) hi'
          refine ⟨q, eq, ?_⟩
          rw [nIxM]
          obtain ⟨r, er, _⟩ := at_lt (xs := sets) (k := i) (Nat.lt_of_lt_of_le hi' (hset e me z'))
          refine ⟨r, er, ?_⟩
          rw [hg]
          array_get_dec
          unfold En.fitAt
          rw [List.getD_eq_getElem?_getD, List.getD_eq_getElem?_getD, eq, er]
          simp [z']
        · have z' : ¬ e.nm = nm := by simpa using z
          unfold En.fitAt
          simp [z']
      · unfold cc_l_combine_1
        array_mem_dec
        array_get_dec
    have hf : e.fits nm sets = (decide (e.nm = nm) && decide (((List.range e.ps.length).filter (e.fitAt nm sets)).length = e.ps.length)) := by
      unfold En.fits
      congr 1
      rw [Bool.eq_iff_iff, decide_eq_true_iff, List.all_eq_true]
      have := List.length_filter_eq_length_iff (p := e.fitAt nm sets) (l := List.range e.ps.length)
      rw [List.length_range] at this
      exact this.symm
    have nxt : T.found nm sets (T.es.take (k + 1)) = if e.fits nm sets = true then T.found nm sets (T.es.take k) ++ T.up e.kd else T.found nm sets (T.es.take k) := by
      rw [List.take_add_one, ee]
      exact found_snoc T nm sets _ e
    refine wp_if (Ok.imp (Q := fun b => b = e.fits nm sets) ?_ fun b hb => ⟨fun q => wp_set ?_, fun q => wp_nil ?_⟩)
    · array_get_dec
      rw [hf]
      refine ⟨fun z => by rw [z]; rfl, fun z => by rw [z]; rfl⟩
    · array_get_dec
      have h := ok_up T hT e.kd
      rw [tab_d] at h
      refine h.imp ?_
      rintro _ rfl
      array_get_dec
      refine ⟨line_ok ?_, ?_⟩
      · have h1 := found_len T nm sets hk3 (T.es.take k)
        have h2 := up_len T e.kd
        rw [List.length_take] at h1
        omega
      · array_mem_dec
        rw [nxt, if_pos (by rw [← hb]; exact q), List.map_append]
    · array_mem_dec
      rw [nxt, if_neg (by rw [← hb, q]; simp)]
  · rintro ρ rfl
    refine wp_ret ?_
    array_get_dec
    refine ok_compFP (zs := T.ks) (g := nmD) (fun k => decide (k ∈ T.found nm sets T.es)) nmD ?_ (by omega) ?_ ?_
    · array_get_dec
    · intro x hx
      refine ⟨_, rfl, ?_, fun _ => ?_⟩
      · unfold ct_l_combine_2
        array_mem_dec
        array_get_dec
        rw [nmIn, List.take_length]
        array_get_dec
      · unfold cc_l_combine_2
        array_mem_dec
        array_get_dec
    · array_get_dec
      rfl
theorem ok_combine (T : Tab) (hT : T.ok) (nm : List Nat) (sets : List (List (List Nat))) (hset : ∀ e ∈ T.es, e.nm = nm → e.ps.length ≤ sets.length) :
    Ok (den_l_combine [T.d, nmD nm, .lst (sets.map kdD)]) fun d => d = kdD (T.comb nm sets) := ok_combineG (g := kdD) (fun _ _ _ => nmInT) T hT nm sets hset
end KL

namespace KL
open PySem L2 KD
mutual
def Tm.wf (ss : List Sym) : Tm → Prop
  | .v _ => False
  | .n nm ps => (∃ s ∈ ss, s.nm = nm ∧ ps.length = s.pl) ∧ Tm.wfs ss ps
def Tm.wfs (ss : List Sym) : List Tm → Prop
  | [] => True
  | t :: ts => t.wf ss ∧ Tm.wfs ss ts
end
theorem Tm.wfs_iff (ss : List Sym) : ∀ ts : List Tm, Tm.wfs ss ts ↔ ∀ t ∈ ts, t.wf ss
  | [] => by simp [Tm.wfs]
  | t :: ts => by simp [Tm.wfs, Tm.wfs_iff ss ts]
theorem sym_uniq : ∀ {ss : List Sym}, (ss.map (·.nm)).Nodup → ∀ {s s' : Sym}, s ∈ ss → s' ∈ ss → s.nm = s'.nm → s = s'
  | [], _, s, s', h, _, _ => by cases h
  | u :: ss, nd, s, s', h, h', e => by
    rw [List.map_cons, List.nodup_cons] at nd
    rcases List.mem_cons.mp h with q | q <;> rcases List.mem_cons.mp h' with q' | q'
    · rw [q, q']
    · subst q; exact (nd.1 (e ▸ List.mem_map.mpr ⟨s', q', rfl⟩)).elim
    · subst q'; exact (nd.1 (e ▸ List.mem_map.mpr ⟨s, q, rfl⟩)).elim
    · exact sym_uniq nd.2 q q' e
def stD (p : Tm × List (List Nat)) : D := .tup [p.1.d, kdD p.2]
theorem Tab.ok.fit {T : Tab} (hT : T.ok) {s : Sym} (ms : s ∈ T.ss) : ∀ e ∈ T.es, e.nm = s.nm → e.ps.length = s.pl := fun e me h => by
  obtain ⟨s', ms', h1, h2⟩ := (hT.es e me).sy
  rw [sym_uniq hT.ss.nd ms ms' (h.symm.trans h1)]
  exact h2
theorem ne_unit {P : D → Prop} (kk : List (List Nat)) (h : ∀ b, P (.bl b)) : Ok (gNe (kdD kk) (.tup [])) P := by
  rw [ok_ne]
  refine ⟨?_, h _⟩
  unfold eqOk kdD
  simp [D.plain, D.plains, plains_nm, D.dep, D.deps]
theorem ok_fitting (T : Tab) (hT : T.ok) (stk : List (Tm × List (List Nat))) (hl : stk.length ≤ 1000) (n : Nat) :
    Ok (den_l_fitting [T.d, .lst (stk.map stD), natD n]) fun d => ∃ s ∈ T.ss, s.pl ≤ stk.length ∧ d = .tup [Sym.d s, kdD (T.comb s.nm ((stk.drop (stk.length - s.pl)).map (·.2)))] := by
  have h2 := hT.s2
  have h5 := hT.s5
  refine ok_run ?_
  unfold b_l_fitting
  array_mem_dec
  refine wp_seq (wp_set ?_)
  rw [tab_d]
  array_get_dec
  refine wp_seq (wp_set ?_)
  array_get_dec
  refine wp_seq (wp_set ?_)
  array_get_dec
  rw [← tab_d]
  generalize decide (n / 6 % 5 = 0) = free
  generalize decide (n / 30 % 3 = 0) = small
  refine wp_seq (wp_for (fun i ρ => ∃ s8 : Sl, ρ = [.dt T.d, .dt (.lst (stk.map stD)), .dt (natD n), .dt (natD T.ss.length), .dt (.bl free), .dt (.bl small), .no, .no, s8, .no]) ?_)
  array_get_dec
  refine ⟨.inl (by decide), by omega, ⟨.no, rfl⟩, ?_, ?_⟩
  · rintro k d ρ hd ⟨s8, rfl⟩
    obtain ⟨hk, rfl⟩ := rng_at hd
    refine ⟨_, rfl, ?_⟩
    unfold lb_l_fitting_1
    array_mem_dec
    refine wp_seq (wp_set ?_)
    rw [tab_d]
    array_get_dec
    refine ⟨by omega, ?_⟩
    rw [nIxM]
    obtain ⟨s, es, ms⟩ := at_lt (xs := T.ss) (k := (n % 6 + k) % T.ss.length) (Nat.mod_lt _ (by omega))
    refine ⟨s, es, ?_⟩
    rw [← tab_d, sym_d s]
    refine wp_if (Ok.imp (Q := fun b => b = true → s.pl ≤ stk.length) ?_ fun b hb => ⟨fun e => wp_seq (wp_set ?_), fun e => wp_nil ?_⟩)
    · array_get_dec
      refine ⟨fun z => ?_, fun z q => by simp at q⟩
      have z' : s.pl ≤ stk.length := by simpa using z
      exact ⟨fun _ _ => z', fun _ => ⟨fun _ _ => z', fun _ => ⟨fun _ _ => z', fun _ _ => z'⟩⟩⟩
    · have hpl := hb e
      array_get_dec
      refine ok_compP (zs := stk.drop (stk.length - s.pl)) (g := stD) (fun p => kdD p.2) ?_ (by rw [List.length_drop]; omega) ?_ ?_
      · array_get_dec
        rw [subD_le (by omega), nAsI, cut_from, List.map_drop]
      · intro p hp
        refine ⟨_, rfl, rfl, ?_⟩
        unfold cc_l_fitting_1 stD
        array_mem_dec
        array_get_dec
      · array_get_dec
        rw [show List.map (fun p => kdD p.2) (stk.drop (stk.length - s.pl)) = ((stk.drop (stk.length - s.pl)).map (·.2)).map kdD by rw [List.map_map]; rfl]
        refine (ok_combine T hT s.nm _ fun e me h => ?_).imp ?_
        · rw [hT.fit ms e me h, List.length_map, List.length_drop]; omega
        rintro _ rfl
        refine wp_if ?_
        array_get_dec
        refine ne_unit _ fun b => ?_
        array_get_dec
        have fin : Wp (sRet (dTup (dCons (dVar 7) (dCons (dVar 8) dNil))) [.dt T.d, .dt (.lst (stk.map stD)), .dt (natD n), .dt (natD T.ss.length), .dt (.bl free), .dt (.bl small), .dt (natD k), .dt (.tup [nmD s.nm, natD s.pl, .bl s.dn, .tup (s.od.map natD)]), .dt (kdD (T.comb s.nm ((stk.drop (stk.length - s.pl)).map (·.2)))), .no]) (fun ρ2 => ∃ s8 : Sl, wipeE [6, 7] ρ2 = [.dt T.d, .dt (.lst (stk.map stD)), .dt (natD n), .dt (natD T.ss.length), .dt (.bl free), .dt (.bl small), .no, .no, s8, .no]) (fun d => ∃ s ∈ T.ss, s.pl ≤ stk.length ∧ d = .tup [Sym.d s, kdD (T.comb s.nm ((stk.drop (stk.length - s.pl)).map (·.2)))]) := by
          refine wp_ret ?_
          array_get_dec
          exact ⟨s, ms, hpl, rfl⟩
        refine ⟨fun _ => ⟨fun _ => fin, fun q => by simp at q⟩, fun _ => ⟨fun _ => fin, fun _ => wp_nil ?_⟩⟩
        array_mem_dec
        exact ⟨_, rfl⟩
    · array_mem_dec
      exact ⟨s8, rfl⟩
  · rintro ρ ⟨s8, rfl⟩
    refine wp_ret ?_
    obtain ⟨s0, e0, hp0⟩ := hT.s0
    have m0 := List.mem_of_getElem? e0
    rw [tab_d]
    array_get_dec
    rw [nIxM]
    refine ⟨s0, e0, ?_⟩
    rw [nIxM]
    refine ⟨s0, e0, ?_⟩
    rw [sym_d s0]
    array_get_dec
    have hc := ok_combine T hT s0.nm [] fun e me h => by rw [hT.fit m0 e me h, hp0]; exact Nat.zero_le _
    rw [tab_d] at hc
    refine Ok.imp (show Ok (den_l_combine [_, nmD s0.nm, .lst []]) _ from hc) ?_
    rintro _ rfl
    refine ⟨s0, m0, by omega, ?_⟩
    rw [hp0]
    simp [sym_d, hp0]
end KL

namespace KL
open PySem L2 KD
def stN (stk : List (Tm × List (List Nat))) : Nat := (stk.map fun p => p.1.cnt).sum
theorem stN_split (stk : List (Tm × List (List Nat))) (k : Nat) : stN (stk.take k) + stN (stk.drop k) = stN stk := by
  unfold stN
  rw [← List.sum_append_nat, ← List.map_append, List.take_append_drop]
theorem stN_len : ∀ stk : List (Tm × List (List Nat)), stk.length ≤ stN stk
  | [] => by simp [stN]
  | p :: stk => by
    have ih := stN_len stk
    have := Tm.cnt_pos p.1
    unfold stN at ih ⊢
    rw [List.map_cons, List.sum_cons, List.length_cons]
    omega
theorem stN_mem {stk : List (Tm × List (List Nat))} {p : Tm × List (List Nat)} (h : p ∈ stk) : p.1.cnt ≤ stN stk := le_sum (List.mem_map.mpr ⟨p, h, rfl⟩)
theorem ok_term (T : Tab) (hT : T.ok) (nums : List Nat) (h1 : 1 ≤ nums.length) (h2 : nums.length ≤ 60) :
    Ok (den_l_term [T.d, .lst (nums.map natD)]) fun d => ∃ t : Tm, d = t.d ∧ t.wf T.ss ∧ t.cnt ≤ nums.length := by
  refine ok_run ?_
  unfold b_l_term
  array_mem_dec
  refine wp_seq (wp_new ?_)
  array_mem_dec
  refine wp_seq (wp_for (fun i ρ => ∃ stk : List (Tm × List (List Nat)), ρ = [.dt T.d, .dt (.lst (nums.map natD)), .ol (stk.map stD), .no, .no, .no, .no, .no, .no] ∧ (∀ p ∈ stk, p.1.wf T.ss) ∧ stN stk = i ∧ (1 ≤ i → 1 ≤ stk.length)) ?_)
  array_get_dec
  refine ⟨⟨[], rfl, by simp, rfl, by simp⟩, ?_, ?_⟩
  · rintro k d ρ hd ⟨stk, rfl, hwf, hcn, hone⟩
    obtain ⟨hk, m, _, rfl⟩ := map_at_mem hd
    have hsl := stN_len stk
    refine ⟨_, rfl, ?_⟩
    unfold lb_l_term_1
    array_mem_dec
    refine wp_seq (wp_unp ?_)
    array_get_dec
    refine (ok_fitting T hT stk (by omega) m).imp ?_
    rintro _ ⟨s, ms, hpl, rfl⟩
    refine ⟨_, rfl, ?_⟩
    simp only [setsE]
    array_mem_dec
    rw [sym_d s]
    refine wp_seq (wp_set ?_)
    refine ok_compP (zs := stk.drop (stk.length - s.pl)) (g := stD) (fun p => p.1.d) ?_ (by rw [List.length_drop]; omega) ?_ ?_
    · array_get_dec
      rw [subD_le (by omega), nAsI, cut_from, List.map_drop]
    · intro p hp
      refine ⟨_, rfl, rfl, ?_⟩
      unfold cc_l_term_1 stD
      array_mem_dec
      array_get_dec
    array_mem_dec
    refine wp_seq (wp_own ?_)
    array_get_dec
    rw [subD_le (by omega), nAsI, cut_to]
    refine wp_app ?_
    array_get_dec
    refine ⟨line_ok (by rw [List.length_drop]; omega), by rw [List.length_take, List.length_map]; omega, ?_⟩
    array_mem_dec
    generalize hq : stk.drop (stk.length - s.pl) = qs
    have hql : qs.length = s.pl := by rw [← hq, List.length_drop]; omega
    refine ⟨stk.take (stk.length - s.pl) ++ [(Tm.n s.nm (qs.map (·.1)), T.comb s.nm (qs.map (·.2)))], ?_, ?_, ?_, by simp⟩
    · rw [List.map_append, List.map_take]
      unfold stD
      rw [List.map_cons, List.map_nil, Tm.d_n, List.map_map]
      rfl
    · intro p hp
      rcases List.mem_append.mp hp with h | h
      · exact hwf p (List.mem_of_mem_take h)
      · simp at h
        subst h
        refine ⟨⟨s, ms, rfl, by simpa using hql⟩, (Tm.wfs_iff _ _).mpr fun t ht => ?_⟩
        obtain ⟨p, hp', rfl⟩ := List.mem_map.mp ht
        rw [← hq] at hp'
        exact hwf p (List.mem_of_mem_drop hp')
    · have h3 := stN_split stk (stk.length - s.pl)
      rw [hq] at h3
      unfold stN at h3 hcn ⊢
      rw [List.map_append, List.sum_append_nat, List.map_cons, List.map_nil, List.sum_cons, List.sum_nil, Tm.cnt_n, List.map_map]
      have e : (qs.map (Tm.cnt ∘ fun x => x.1)).sum = (qs.map fun p => p.1.cnt).sum := rfl
      rw [e]
      omega
  · rintro ρ ⟨stk, rfl, hwf, hcn, hone⟩
    have hsl := stN_len stk
    have h1s : 1 ≤ stk.length := hone h1
    refine wp_seq (wp_set ?_)
    array_get_dec
    rw [nIxM]
    obtain ⟨p0, e0, m0⟩ := at_lt (xs := stk) (k := 0) (by omega)
    refine ⟨p0, e0, ?_⟩
    unfold stD
    array_get_dec
    have fold : (List.map (fun p : Tm × List (List Nat) => D.tup [p.1.d, kdD p.2]) stk) = stk.map stD := rfl
    rw [fold]
    refine wp_seq (wp_for (fun i ρ => ∃ (p : Tm × List (List Nat)) (s6 : Sl), p ∈ stk ∧ ρ = [.dt T.d, .dt (.lst (nums.map natD)), .dt (.lst (stk.map stD)), .no, .no, .no, s6, .no, .dt p.1.d]) ?_)
    array_get_dec
    refine ⟨⟨p0, .no, m0, rfl⟩, ?_, ?_⟩
    · rintro k d ρ hd ⟨p, s6, mp, rfl⟩
      obtain ⟨hk, q, mq, rfl⟩ := map_at_mem hd
      refine ⟨_, rfl, ?_⟩
      unfold lb_l_term_2
      array_mem_dec
      have b1 := stN_mem mp
      have b2 := stN_mem mq
      have c1 := Tm.dep_cnt p.1
      have c2 := Tm.dep_cnt q.1
      refine wp_if ?_
      unfold stD
      array_get_dec
      refine (ok_count 120 q.1 (by omega) (by omega)).imp ?_
      rintro _ rfl
      refine (ok_count 120 p.1 (by omega) (by omega)).imp ?_
      rintro _ rfl
      array_get_dec
      refine ⟨fun _ => wp_set ?_, fun _ => wp_nil ?_⟩
      · array_get_dec
        array_mem_dec
        exact ⟨q, _, mq, rfl⟩
      · array_mem_dec
        exact ⟨p, _, mp, rfl⟩
    · rintro ρ ⟨p, s6, mp, rfl⟩
      refine wp_ret ?_
      array_get_dec
      exact ⟨p.1, rfl, hwf p mp, by have := stN_mem mp; omega⟩
end KL

namespace KL
open PySem L2 KD
/-! ### sides by numbers -/
inductive Sd where
  | v (c : Nat)
  | n (i : Nat) (ps : List Sd)
mutual
def Sd.d : Sd → D
  | .v c => .str (sO [97 + c])
  | .n i ps => .tup (natD i :: Sd.ds ps)
def Sd.ds : List Sd → List D
  | [] => []
  | t :: ts => t.d :: Sd.ds ts
end
mutual
def Sd.tm (ns vs : List (List Nat)) : Sd → Tm
  | .v c => .v (vs.getD c [])
  | .n i ps => .n (ns.getD i []) (Sd.tms ns vs ps)
def Sd.tms (ns vs : List (List Nat)) : List Sd → List Tm
  | [] => []
  | t :: ts => t.tm ns vs :: Sd.tms ns vs ts
end
mutual
def Sd.dep : Sd → Nat
  | .v _ => 0
  | .n _ ps => 1 + Sd.deps ps
def Sd.deps : List Sd → Nat
  | [] => 0
  | t :: ts => max t.dep (Sd.deps ts)
end
mutual
def Sd.ok (n : Nat) : Sd → Bool
  | .v c => decide (c < 4)
  | .n i ps => decide (i < n) && decide (ps.length ≤ 10) && Sd.oks n ps
def Sd.oks (n : Nat) : List Sd → Bool
  | [] => true
  | t :: ts => t.ok n && Sd.oks n ts
end
theorem Sd.ds_map : ∀ ts : List Sd, Sd.ds ts = ts.map Sd.d
  | [] => by simp [Sd.ds]
  | t :: ts => by simp [Sd.ds, Sd.ds_map ts]
theorem Sd.tms_map (ns vs : List (List Nat)) : ∀ ts : List Sd, Sd.tms ns vs ts = ts.map (Sd.tm ns vs)
  | [] => by simp [Sd.tms]
  | t :: ts => by simp [Sd.tms, Sd.tms_map ns vs ts]
theorem Sd.deps_le : ∀ {ts : List Sd} {t : Sd}, t ∈ ts → t.dep ≤ Sd.deps ts
  | t :: ts, u, h => by
    rcases List.mem_cons.mp h with e | e
    · subst e; simp only [Sd.deps]; omega
    · have := Sd.deps_le e; simp only [Sd.deps]; omega
theorem Sd.oks_mem {n : Nat} : ∀ {ts : List Sd} {t : Sd}, Sd.oks n ts = true → t ∈ ts → t.ok n = true
  | t :: ts, u, h, m => by
    simp only [Sd.oks, Bool.and_eq_true] at h
    rcases List.mem_cons.mp m with e | e
    · subst e; exact h.1
    · exact Sd.oks_mem h.2 e
theorem find4 {c : Nat} (h : c < 4) : gFind "abcd" (.str (sO [97 + c])) = .ok (natD c) := by
  have e : Txt.find "abcd" (sO [97 + c]) = (c : Int) := by
    match c, h with
    | 0, _ => decide +kernel
    | 1, _ => decide +kernel
    | 2, _ => decide +kernel
    | 3, _ => decide +kernel
  show Rs.ok (D.int (Txt.find "abcd" (sO [97 + c]))) = _
  rw [e]
  rfl
theorem ok_dFind {P : D → Prop} {ρ : Ev} {z : Str} {f : Ev → Rs D} : Ok (dFind z f ρ) P = Ok (f ρ) fun x => Ok (gFind z x) P := by unfold dFind; rw [ok_bind]
theorem ok_side (ns vs : List (List Nat)) (hv : vs.length = 4) : ∀ (f : Nat) (s : Sd), s.dep < f → s.ok ns.length = true → Ok (den_l_side f [s.d, .lst (ns.map nmD), .lst (vs.map nmD)]) fun d => d = (s.tm ns vs).d
  | 0, s, h, _ => by omega
  | f + 1, .v c, _, ho => by
    have hc : c < 4 := by simpa [Sd.ok] using ho
    show Ok (runD 4 (b_l_side (den_l_side f)) _) _
    refine ok_run ?_
    unfold b_l_side
    rw [Sd.d]
    array_mem_dec
    refine wp_seq (wp_if ?_)
    rw [ok_dTru, ok_dIsi]
    array_get_dec
    rw [isi_str, ok_ok]
    array_get_dec
    refine ⟨fun _ => wp_ret ?_, fun z => by cases z⟩
    array_get_dec
    rw [ok_dFind]
    array_get_dec
    rw [find4 hc, ok_ok, nIxM]
    obtain ⟨z, ez, _⟩ := at_lt (xs := vs) (k := c) (by omega)
    refine ⟨z, ez, ?_⟩
    rw [Sd.tm, Tm.d, List.getD_eq_getElem?_getD, ez]
    rfl
  | f + 1, .n i ps, hd, ho => by
    have ho' : (i < ns.length ∧ ps.length ≤ 10) ∧ Sd.oks ns.length ps = true := by simpa [Sd.ok] using ho
    have hdp : ∀ p ∈ ps, p.dep < f := fun p hp => by
      have := Sd.deps_le hp
      simp only [Sd.dep] at hd
      omega
    show Ok (runD 4 (b_l_side (den_l_side f)) _) _
    refine ok_run ?_
    unfold b_l_side
    rw [Sd.d, Sd.ds_map]
    array_mem_dec
    refine wp_seq (wp_if ?_)
    rw [ok_dTru, ok_dIsi]
    array_get_dec
    rw [isi_tup, ok_ok]
    array_get_dec
    refine ⟨fun z => (by cases z), fun _ => wp_nil (wp_ret ?_)⟩
    array_get_dec
    rw [nIxM]
    obtain ⟨z, ez, _⟩ := at_lt (xs := ns) (k := i) (by omega)
    refine ⟨z, ez, ?_⟩
    refine ok_compP (zs := ps) (g := Sd.d) (fun p => (p.tm ns vs).d) ?_ (by omega) ?_ ?_
    · array_get_dec
      rw [drop1]
    · intro p hp
      refine ⟨_, rfl, rfl, ?_⟩
      unfold cc_l_side_1
      array_mem_dec
      array_get_dec
      exact ok_side ns vs hv f p (hdp p hp) (Sd.oks_mem ho'.2 hp)
    · array_get_dec
      refine ⟨line_ok (by omega), ?_⟩
      rw [Sd.tm, Tm.d_n, Sd.tms_map, List.map_map, List.getD_eq_getElem?_getD, ez]
      rfl
/-! ### tables by numbers -/
structure RowT where
  pl : Nat
  dn : Bool
  od : List Nat
def RowT.d (r : RowT) : D := .tup [natD r.pl, .bl r.dn, .tup (r.od.map natD)]
structure EnT where
  nm : Nat
  ps : List Nat
  kd : Nat
def EnT.d (e : EnT) : D := .tup [natD e.nm, .tup (e.ps.map natD), natD e.kd]
def rlT (p : Sd × Sd) : D := .tup [p.1.d, p.2.d]
def symT (ns : List (List Nat)) (rows : List RowT) (i : Nat) : Sym := ⟨ns.getD i [], (rows.getD i ⟨0, true, []⟩).pl, (rows.getD i ⟨0, true, []⟩).dn, (rows.getD i ⟨0, true, []⟩).od⟩
def enT (ns ks : List (List Nat)) (e : EnT) : En := ⟨ns.getD e.nm [], e.ps.map fun p => ks.getD p [], ks.getD e.kd []⟩
def rlD (ns vs : List (List Nat)) (p : Sd × Sd) : D := .tup [(p.1.tm ns vs).d, (p.2.tm ns vs).d]
theorem getD_at {xs : List (List Nat)} {i : Nat} (h : i < xs.length) : xs[i]? = some (xs.getD i []) := by
  rw [List.getD_eq_getElem?_getD, List.getElem?_eq_getElem h]
  rfl
theorem ok_named (ns : List Int) (k c : Nat) (rows : List RowT) (told : List EnT) (rules : List (Sd × Sd)) (hc1 : 1 ≤ c) (hc3 : c ≤ 6) (hr1 : 1 ≤ rows.length) (hr6 : rows.length ≤ 6) (ht : told.length ≤ 100) (hrl : rules.length ≤ 100)
    (hte : ∀ e ∈ told, e.nm < rows.length ∧ e.kd < c ∧ e.ps.length ≤ 3 ∧ ∀ p ∈ e.ps, p < c) (hre : ∀ p ∈ rules, p.1.dep < 12 ∧ p.2.dep < 12 ∧ p.1.ok rows.length = true ∧ p.2.ok rows.length = true) :
    Ok (den_l_named [.fls (ns.map D.int), natD k, natD c, .lst (rows.map RowT.d), .lst (told.map EnT.d), .lst (rules.map rlT)]) fun d => ∃ a b v : Nat,
      d = .tup [.lst ((List.range rows.length).map fun i => (symT (nms a rows.length) rows i).d), .lst ((nms b c).map nmD), .lst [], .lst (told.map fun e => (enT (nms a rows.length) (nms b c) e).d), .lst (rules.map (rlD (nms a rows.length) (nms v 4)))] := by
  refine ok_run ?_
  unfold b_l_named
  array_mem_dec
  refine wp_seq (wp_set ?_)
  array_get_dec
  obtain ⟨nums, en, hl⟩ := den_numbers ns k 3 (by decide)
  rw [en, ok_ok]
  refine wp_seq (wp_set ?_)
  array_get_dec
  rw [nIxM]
  obtain ⟨a, ea, _⟩ := at_lt (xs := nums) (k := 0) (by omega)
  refine ⟨a, ea, ?_⟩
  rw [den_names a rows.length hr6 hr1, ok_ok]
  refine wp_seq (wp_set ?_)
  array_get_dec
  rw [nIxM]
  obtain ⟨b, eb, _⟩ := at_lt (xs := nums) (k := 1) (by omega)
  refine ⟨b, eb, ?_⟩
  rw [den_names b c hc3 hc1, ok_ok]
  refine wp_seq (wp_set ?_)
  array_get_dec
  rw [nIxM]
  obtain ⟨v, ev_, _⟩ := at_lt (xs := nums) (k := 2) (by omega)
  refine ⟨v, ev_, ?_⟩
  array_get_dec
  rw [den_names v 4 (by omega) (by omega), ok_ok]
  have la : (nms a rows.length).length = rows.length := nms_len _ _
  have lb : (nms b c).length = c := nms_len _ _
  have lv : (nms v 4).length = 4 := nms_len _ _
  generalize ena : nms a rows.length = na at la ⊢
  generalize enb : nms b c = nb at lb ⊢
  generalize env : nms v 4 = nv at lv ⊢
  refine wp_seq (wp_set ?_)
  refine ok_compP (zs := List.range rows.length) (g := natD) (fun i => (symT na rows i).d) ?_ (by simp; omega) ?_ ?_
  · array_get_dec
    omega
  · intro i hi
    have hi' : i < rows.length := by simpa using hi
    refine ⟨_, rfl, rfl, ?_⟩
    unfold cc_l_named_1
    array_mem_dec
    array_get_dec
    rw [nIxM]
    refine ⟨_, getD_at (by omega), ?_⟩
    rw [nIxM]
    refine ⟨rows[i], List.getElem?_eq_getElem hi', ?_⟩
    unfold RowT.d
    array_get_dec
    refine ⟨line_ok (by omega), ?_⟩
    unfold symT
    rw [List.getD_eq_getElem?_getD, List.getD_eq_getElem?_getD (l := rows), List.getElem?_eq_getElem hi']
    rfl
  refine wp_seq (wp_set ?_)
  refine ok_compP (zs := told) (g := EnT.d) (fun e => (enT na nb e).d) ?_ (by omega) ?_ ?_
  · array_get_dec
  · intro e he
    obtain ⟨h1, h2, h3, h4⟩ := hte e he
    refine ⟨_, rfl, rfl, ?_⟩
    unfold cc_l_named_3 EnT.d
    array_mem_dec
    array_get_dec
    rw [nIxM]
    refine ⟨_, getD_at (by omega), ?_⟩
    refine ok_compP (zs := e.ps) (g := natD) (fun p => nmD (nb.getD p [])) ?_ (by omega) ?_ ?_
    · array_get_dec
    · intro p hp
      refine ⟨_, rfl, rfl, ?_⟩
      unfold cc_l_named_2
      array_mem_dec
      array_get_dec
      rw [nIxM]
      exact ⟨_, getD_at (by have := h4 p hp; omega), rfl⟩
    · array_get_dec
      rw [nIxM]
      refine ⟨_, getD_at (by omega), ?_⟩
      unfold enT En.d
      rw [List.map_map]
      rfl
  refine wp_seq (wp_set ?_)
  refine ok_compP (zs := rules) (g := rlT) (rlD na nv) ?_ (by omega) ?_ ?_
  · array_get_dec
  · intro p hp
    obtain ⟨h1, h2, h3, h4⟩ := hre p hp
    refine ⟨_, rfl, rfl, ?_⟩
    unfold cc_l_named_4 rlT
    array_mem_dec
    array_get_dec
    refine (ok_side na nv lv 12 p.1 h1 (by rw [la]; exact h3)).imp ?_
    rintro _ rfl
    refine (ok_side na nv lv 12 p.2 h2 (by rw [la]; exact h4)).imp ?_
    rintro _ rfl
    rfl
  refine wp_ret ?_
  array_get_dec
  exact ⟨a, b, v, by rw [ena, enb, env]⟩
end KL

namespace KL
open PySem L2 KD
inductive PtT where
  | v (c : Nat)
  | p (i : Nat) (cs : List Nat)
def PtT.sd : PtT → Sd
  | .v c => .v c
  | .p i cs => .n i (cs.map .v)
def PtT.vars : PtT → List Nat
  | .v c => [c]
  | .p _ cs => cs
def PtT.pt (ns vs : List (List Nat)) : PtT → Pt
  | .v c => .v (vs.getD c [])
  | .p i cs => .p (ns.getD i []) (cs.map fun c => vs.getD c [])
structure RlT where
  h : Nat
  lp : List PtT
  r : Sd
def RlT.l (t : RlT) : Sd := .n t.h (t.lp.map PtT.sd)
def RlT.vars (t : RlT) : List Nat := t.lp.flatMap PtT.vars
def RlT.rl (ns vs : List (List Nat)) (t : RlT) : Rl := ⟨ns.getD t.h [], t.lp.map (PtT.pt ns vs), t.r.tm ns vs⟩
def rowAt (rows : List RowT) (i : Nat) : RowT := rows.getD i ⟨0, true, []⟩
def PtT.ok (rows : List RowT) : PtT → Bool
  | .v _ => true
  | .p i cs => decide (i < rows.length) && decide (cs.length = (rowAt rows i).pl)
mutual
def Sd.okv (rows : List RowT) (xs : List Nat) : Sd → Bool
  | .v c => decide (c ∈ xs)
  | .n i ps => decide (i < rows.length) && decide (ps.length = (rowAt rows i).pl) && Sd.okvs rows xs ps
def Sd.okvs (rows : List RowT) (xs : List Nat) : List Sd → Bool
  | [] => true
  | t :: ts => t.okv rows xs && Sd.okvs rows xs ts
end
mutual
def Sd.cnt : Sd → Nat
  | .v _ => 1
  | .n _ ps => 1 + Sd.cnts ps
def Sd.cnts : List Sd → Nat
  | [] => 0
  | t :: ts => t.cnt + Sd.cnts ts
end
def RlT.ok (rows : List RowT) (t : RlT) : Bool := decide (t.h < rows.length) && !(rowAt rows t.h).dn && decide (t.lp.length = (rowAt rows t.h).pl) && t.lp.all (PtT.ok rows) && decide t.vars.Nodup && t.vars.all (fun c => decide (c < 4)) && t.r.okv rows t.vars && decide (t.r.cnt ≤ 9)
def RowT.ok (r : RowT) : Bool := decide (r.pl ≤ 3) && decide r.od.Nodup && r.od.all fun i => decide (i < r.pl)
def EnT.ok (rows : List RowT) (c : Nat) (e : EnT) : Bool := decide (e.nm < rows.length) && decide (e.ps.length = (rowAt rows e.nm).pl) && e.ps.all (fun p => decide (p < c)) && decide (e.kd < c)
section
variable {ns vs : List (List Nat)} {rows : List RowT}
theorem sym_in (ns : List (List Nat)) {i : Nat} (h : i < rows.length) : symT ns rows i ∈ (List.range rows.length).map (symT ns rows) := List.mem_map.mpr ⟨i, by simpa using h, rfl⟩
theorem getD_mem {xs : List (List Nat)} {i : Nat} (h : i < xs.length) : xs.getD i [] ∈ xs := List.mem_of_getElem? (getD_at h)
theorem getD_inj {xs : List (List Nat)} (nd : xs.Nodup) {i j : Nat} (hi : i < xs.length) (hj : j < xs.length) (e : xs.getD i [] = xs.getD j []) : i = j := by
  have h1 := getD_at hi
  have h2 := getD_at hj
  rw [List.getElem?_eq_getElem hi] at h1
  rw [List.getElem?_eq_getElem hj] at h2
  have h3 : xs[i] = xs[j] := by rw [Option.some.inj h1, Option.some.inj h2, e]
  exact (List.getElem_inj nd).mp h3
theorem nodup_getD {xs : List (List Nat)} (nd : xs.Nodup) : ∀ {cs : List Nat}, cs.Nodup → (∀ c ∈ cs, c < xs.length) → (cs.map fun c => xs.getD c []).Nodup
  | [], _, _ => by simp
  | c :: cs, h, hb => by
    rw [List.nodup_cons] at h
    rw [List.map_cons, List.nodup_cons]
    refine ⟨fun m => ?_, nodup_getD nd h.2 fun c hc => hb c (List.mem_cons_of_mem _ hc)⟩
    obtain ⟨c', m', e⟩ := List.mem_map.mp m
    have := getD_inj nd (hb c' (List.mem_cons_of_mem _ m')) (hb c List.mem_cons_self) e
    subst this
    exact h.1 m'
theorem pt_sd (p : PtT) : (p.sd.tm ns vs).d = (p.pt ns vs).d := by
  cases p with
  | v c => rfl
  | p i cs =>
    show (Sd.tm ns vs (.n i (cs.map .v))).d = (Pt.p (ns.getD i []) (cs.map fun c => vs.getD c [])).d
    rw [Sd.tm, Tm.d_n, Sd.tms_map, List.map_map, List.map_map, Pt.d, List.map_map]
    congr 2
theorem rl_d (t : RlT) : rlD ns vs (t.l, t.r) = (t.rl ns vs).d := by
  show D.tup [(t.l.tm ns vs).d, (t.r.tm ns vs).d] = .tup [.tup (nmD (ns.getD t.h []) :: (t.lp.map (PtT.pt ns vs)).map Pt.d), (t.r.tm ns vs).d]
  have e : (t.l.tm ns vs).d = .tup (nmD (ns.getD t.h []) :: (t.lp.map (PtT.pt ns vs)).map Pt.d) := by
    unfold RlT.l
    rw [Sd.tm, Tm.d_n, Sd.tms_map, List.map_map, List.map_map, List.map_map]
    congr 2
    apply List.map_congr_left
    intro p _
    exact pt_sd p
  rw [e]
mutual
theorem wfv_of (hv : vs.length = 4) (hn : ns.length = rows.length) {xs : List Nat} : ∀ s : Sd, s.okv rows xs = true → (s.tm ns vs).wfv ((List.range rows.length).map (symT ns rows)) (xs.map fun c => vs.getD c [])
  | .v c, h => by
    have h' : c ∈ xs := by simpa [Sd.okv] using h
    exact List.mem_map.mpr ⟨c, h', rfl⟩
  | .n i ps, h => by
    have h' : (i < rows.length ∧ ps.length = (rowAt rows i).pl) ∧ Sd.okvs rows xs ps = true := by simpa [Sd.okv] using h
    rw [Sd.tm]
    refine ⟨⟨symT ns rows i, sym_in ns h'.1.1, rfl, ?_⟩, wfvs_of hv hn ps h'.2⟩
    rw [Sd.tms_map, List.length_map, h'.1.2]
    rfl
theorem wfvs_of (hv : vs.length = 4) (hn : ns.length = rows.length) {xs : List Nat} : ∀ s : List Sd, Sd.okvs rows xs s = true → Tm.wfvs ((List.range rows.length).map (symT ns rows)) (xs.map fun c => vs.getD c []) (Sd.tms ns vs s)
  | [], _ => trivial
  | t :: ts, h => by
    have h' : t.okv rows xs = true ∧ Sd.okvs rows xs ts = true := by simpa [Sd.okvs] using h
    exact ⟨wfv_of hv hn t h'.1, wfvs_of hv hn ts h'.2⟩
end
mutual
theorem cnt_tm : ∀ s : Sd, (s.tm ns vs).cnt = s.cnt
  | .v c => by simp [Sd.tm, Tm.cnt, Sd.cnt]
  | .n i ps => by simp [Sd.tm, Tm.cnt, Sd.cnt, cnts_tm ps]
theorem cnts_tm : ∀ s : List Sd, Tm.cnts (Sd.tms ns vs s) = Sd.cnts s
  | [] => by simp [Sd.tms, Tm.cnts, Sd.cnts]
  | t :: ts => by simp [Sd.tms, Tm.cnts, Sd.cnts, cnt_tm t, cnts_tm ts]
end
theorem vars_pt (p : PtT) : (p.pt ns vs).vars = p.vars.map fun c => vs.getD c [] := by cases p <;> rfl
theorem vars_rl (t : RlT) : (t.rl ns vs).vars = t.vars.map fun c => vs.getD c [] := by
  show (t.lp.map (PtT.pt ns vs)).flatMap Pt.vars = (t.lp.flatMap PtT.vars).map _
  rw [List.flatMap_map, List.map_flatMap]
  congr 1
  funext p
  exact vars_pt p
theorem nodup_le4 {l : List Nat} (nd : l.Nodup) (h : ∀ c ∈ l, c < 4) : l.length ≤ 4 := nodup_lt 4 l nd h
theorem rl_ok (hv : vs.length = 4) (vnd : vs.Nodup) (vok : ∀ v ∈ vs, nameOk v) (hn : ns.length = rows.length) {t : RlT} (h : t.ok rows = true) : (t.rl ns vs).ok ((List.range rows.length).map (symT ns rows)) := by
  have h' : ((((((t.h < rows.length ∧ (rowAt rows t.h).dn = false) ∧ t.lp.length = (rowAt rows t.h).pl) ∧ ∀ p ∈ t.lp, p.ok rows = true) ∧ t.vars.Nodup) ∧ ∀ c ∈ t.vars, c < 4) ∧ t.r.okv rows t.vars = true) ∧ t.r.cnt ≤ 9 := by
    simpa [RlT.ok] using h
  obtain ⟨⟨⟨⟨⟨⟨⟨h1, h2⟩, h3⟩, h4⟩, h5⟩, h6⟩, h7⟩, h8⟩ := h'
  refine ⟨⟨symT ns rows t.h, sym_in ns h1, rfl, h2, ?_⟩, ?_, ?_, ?_, ?_, ?_, ?_⟩
  · show (t.lp.map (PtT.pt ns vs)).length = _
    rw [List.length_map, h3]
    rfl
  · intro p hp
    obtain ⟨q, mq, rfl⟩ := List.mem_map.mp hp
    have hq := h4 q mq
    cases q with
    | v c => trivial
    | p i cs =>
      have hq' : i < rows.length ∧ cs.length = (rowAt rows i).pl := by simpa [PtT.ok] using hq
      exact ⟨symT ns rows i, sym_in ns hq'.1, rfl, by rw [List.length_map, hq'.2]; rfl⟩
  · rw [vars_rl]
    exact nodup_getD vnd h5 fun c hc => by have := h6 c hc; omega
  · rw [vars_rl]
    intro x hx
    obtain ⟨c, mc, rfl⟩ := List.mem_map.mp hx
    exact vok _ (getD_mem (by have := h6 c mc; omega))
  · rw [vars_rl, List.length_map]
    exact nodup_le4 h5 h6
  · rw [vars_rl]
    exact wfv_of hv hn t.r h7
  · show (t.r.tm ns vs).cnt ≤ 9
    rw [cnt_tm]
    exact h8
end
mutual
theorem sd_dep_cnt : ∀ s : Sd, s.dep ≤ s.cnt
  | .v _ => by simp [Sd.dep]
  | .n _ ps => by
    have := sd_deps_cnts ps
    simp only [Sd.dep, Sd.cnt]
    omega
theorem sd_deps_cnts : ∀ s : List Sd, Sd.deps s ≤ Sd.cnts s
  | [] => by simp [Sd.deps]
  | t :: ts => by
    have := sd_dep_cnt t
    have := sd_deps_cnts ts
    simp only [Sd.deps, Sd.cnts]
    omega
end
/-- tables made of numbers: what ok_named gives -/
theorem tab_of (rows : List RowT) (told : List EnT) (rules : List RlT) (ps : List (Nat × Nat)) (c a b v : Nat) (hr2 : 2 ≤ rows.length) (hr6 : rows.length ≤ 6) (hc1 : 1 ≤ c) (hc3 : c ≤ 3) (ht : told.length ≤ 50) (hrl : rules.length ≤ 5) (hr0 : (rowAt rows 0).pl = 0)
    (hrows : rows.all RowT.ok = true) (htold : told.all (EnT.ok rows c) = true) (hrules : rules.all (RlT.ok rows) = true) (hp : ps = [] ∨ ∃ x y, ps = [(x, y)] ∧ x < c ∧ y < c ∧ x ≠ y) :
    Tab.ok ⟨(List.range rows.length).map (symT (nms a rows.length) rows), nms b c, ps.map fun p => ((nms b c).getD p.1 [], (nms b c).getD p.2 []), told.map (enT (nms a rows.length) (nms b c)), rules.map (RlT.rl (nms a rows.length) (nms v 4))⟩ := by
  have la : (nms a rows.length).length = rows.length := nms_len _ _
  have lb : (nms b c).length = c := nms_len _ _
  have lv : (nms v 4).length = 4 := nms_len _ _
  have na : (nms a rows.length).Nodup := nms_nodup (by omega)
  have oa := nms_ok (n := a) (c := rows.length) (by omega)
  have nb : (nms b c).Nodup := nms_nodup (by omega)
  have ob := nms_ok (n := b) (c := c) (by omega)
  have nv : (nms v 4).Nodup := nms_nodup (by omega)
  have ov := nms_ok (n := v) (c := 4) (by omega)
  generalize nms a rows.length = za at la na oa ⊢
  generalize nms b c = zb at lb nb ob ⊢
  generalize nms v 4 = zv at lv nv ov ⊢
  have rowok : ∀ i, i < rows.length → (rowAt rows i).ok = true := fun i hi => by
    refine List.all_eq_true.mp hrows _ ?_
    unfold rowAt
    rw [List.getD_eq_getElem?_getD, List.getElem?_eq_getElem hi]
    exact List.getElem_mem hi
  refine ⟨⟨?_, ?_, by simp; omega⟩, by simpa using hr2, by simpa using hr6, ⟨symT za rows 0, by rw [List.getElem?_map, List.getElem?_range (by omega)]; rfl, hr0⟩, by rw [lb]; exact hc1, by rw [lb]; exact hc3, nb, ob, ?_, ?_, by simp; omega, ?_, ?_, by simp; omega⟩
  · intro s hs
    obtain ⟨i, mi, rfl⟩ := List.mem_map.mp hs
    have hi : i < rows.length := by simpa using mi
    have hro := rowok i hi
    have hro' : ((rowAt rows i).pl ≤ 3 ∧ (rowAt rows i).od.Nodup) ∧ ∀ j ∈ (rowAt rows i).od, j < (rowAt rows i).pl := by simpa [RowT.ok] using hro
    exact ⟨oa _ (getD_mem (by omega)), hro'.1.1, hro'.1.2, hro'.2⟩
  · rw [List.map_map]
    exact nodup_getD na (List.nodup_range) fun c hc => by rw [la]; simpa using hc
  · rcases hp with e | ⟨x, y, e, hx, hy, hxy⟩
    · subst e
      exact ⟨[], by simp, fun p hp => by simp at hp⟩
    · subst e
      refine ⟨[x, y], by simpa using hxy, fun p hp => ?_⟩
      simp at hp
      subst hp
      exact ⟨0, 1, x, y, by omega, rfl, rfl, getD_at (show x < zb.length by omega), getD_at (show y < zb.length by omega)⟩
  · intro e he
    obtain ⟨t, mt, rfl⟩ := List.mem_map.mp he
    have h := List.all_eq_true.mp htold t mt
    have h' : ((t.nm < rows.length ∧ t.ps.length = (rowAt rows t.nm).pl) ∧ ∀ p ∈ t.ps, p < c) ∧ t.kd < c := by simpa [EnT.ok] using h
    refine ⟨⟨symT za rows t.nm, sym_in za h'.1.1.1, rfl, ?_⟩, ?_, ?_⟩
    · show (t.ps.map _).length = _
      rw [List.length_map, h'.1.1.2]
      rfl
    · intro p hp
      obtain ⟨q, mq, rfl⟩ := List.mem_map.mp hp
      exact getD_mem (show q < zb.length by have := h'.1.2 q mq; omega)
    · exact getD_mem (show t.kd < zb.length by omega)
  · rcases hp with e | ⟨x, y, e, _⟩ <;> subst e <;> simp
  · intro r hr
    obtain ⟨t, mt, rfl⟩ := List.mem_map.mp hr
    exact rl_ok lv nv ov la (List.all_eq_true.mp hrules t mt)
end KL

namespace KL
open PySem L2 KD
/-! ### == of data that hold no truth values -/
mutual
def cd : D → Bool
  | .non => true
  | .int _ => true
  | .str _ => true
  | .tup xs => cds xs
  | .lst xs => cds xs
  | _ => false
def cds : List D → Bool
  | [] => true
  | x :: xs => cd x && cds xs
end
mutual
theorem eqD_cd : ∀ (d e : D), cd d = true → cd e = true → (eqD d e = true ↔ d = e)
  | .non, e, _, h => by cases e <;> simp [cd] at h <;> simp [eqD, D.py, PyData.eqv]
  | .int i, e, _, h => by cases e <;> simp [cd] at h <;> simp [eqD, D.py, PyData.eqv]
  | .str i, e, _, h => by cases e <;> simp [cd] at h <;> simp [eqD, D.py, PyData.eqv]
  | .tup xs, e, h1, h => by
    cases e with
    | tup ys =>
      have ih := eqDs_cd xs ys (by simpa [cd] using h1) (by simpa [cd] using h)
      show PyData.eqvAll (D.pys xs) (D.pys ys) = true ↔ _
      rw [ih]
      simp
    | lst ys => simp [eqD, D.py, PyData.eqv]
    | non => simp [eqD, D.py, PyData.eqv]
    | int => simp [eqD, D.py, PyData.eqv]
    | str => simp [eqD, D.py, PyData.eqv]
    | _ => simp [cd] at h
  | .lst xs, e, h1, h => by
    cases e with
    | lst ys =>
      have ih := eqDs_cd xs ys (by simpa [cd] using h1) (by simpa [cd] using h)
      show PyData.eqvAll (D.pys xs) (D.pys ys) = true ↔ _
      rw [ih]
      simp
    | tup ys => simp [eqD, D.py, PyData.eqv]
    | non => simp [eqD, D.py, PyData.eqv]
    | int => simp [eqD, D.py, PyData.eqv]
    | str => simp [eqD, D.py, PyData.eqv]
    | _ => simp [cd] at h
  | .bl _, _, h, _ => by simp [cd] at h
  | .fls _, _, h, _ => by simp [cd] at h
  | .dic _ _, _, h, _ => by simp [cd] at h
  | .ob _ _ _, _, h, _ => by simp [cd] at h
theorem eqDs_cd : ∀ (xs ys : List D), cds xs = true → cds ys = true → (PyData.eqvAll (D.pys xs) (D.pys ys) = true ↔ xs = ys)
  | [], [], _, _ => by simp [D.pys, PyData.eqvAll]
  | [], _ :: _, _, _ => by simp [D.pys, PyData.eqvAll]
  | _ :: _, [], _, _ => by simp [D.pys, PyData.eqvAll]
  | x :: xs, y :: ys, h1, h2 => by
    have a1 : cd x = true ∧ cds xs = true := by simpa [cds] using h1
    have a2 : cd y = true ∧ cds ys = true := by simpa [cds] using h2
    have e1 := eqD_cd x y a1.1 a2.1
    have e2 := eqDs_cd xs ys a1.2 a2.2
    unfold eqD at e1
    simp only [D.pys, PyData.eqvAll, Bool.and_eq_true, List.cons.injEq]
    rw [e1, e2]
end
mutual
theorem cd_plain : ∀ d : D, cd d = true → d.plain = true
  | .non, _ => rfl
  | .int _, _ => rfl
  | .str _, _ => rfl
  | .tup xs, h => by simpa [D.plain] using cds_plains xs (by simpa [cd] using h)
  | .lst xs, h => by simpa [D.plain] using cds_plains xs (by simpa [cd] using h)
  | .bl _, h => by simp [cd] at h
  | .fls _, h => by simp [cd] at h
  | .dic _ _, h => by simp [cd] at h
  | .ob _ _ _, h => by simp [cd] at h
theorem cds_plains : ∀ xs : List D, cds xs = true → D.plains xs = true
  | [], _ => rfl
  | x :: xs, h => by
    have a1 : cd x = true ∧ cds xs = true := by simpa [cds] using h
    simp [D.plains, cd_plain x a1.1, cds_plains xs a1.2]
end
theorem cds_map {α : Type} {f : α → D} (h : ∀ a, cd (f a) = true) : ∀ xs : List α, cds (xs.map f) = true
  | [] => rfl
  | x :: xs => by simp [cds, h x, cds_map h xs]
theorem cds_append : ∀ {xs ys : List D}, cds xs = true → cds ys = true → cds (xs ++ ys) = true
  | [], _, _, h => h
  | x :: xs, ys, h1, h2 => by
    have a1 : cd x = true ∧ cds xs = true := by simpa [cds] using h1
    simp [cds, a1.1, cds_append a1.2 h2]
theorem cd_nm (l : List Nat) : cd (nmD l) = true := rfl
theorem cd_nat (l : Nat) : cd (natD l) = true := rfl
theorem cd_kd (l : List (List Nat)) : cd (kdD l) = true := by simpa [kdD, cd] using cds_map cd_nm l
theorem cd_en (e : En) : cd e.d = true := by simp [En.d, cd, cds, cd_nm, cds_map cd_nm]
mutual
theorem cd_tm : ∀ t : Tm, cd t.d = true
  | .v nm => rfl
  | .n nm ps => by simp [Tm.d, cd, cds, cd_nm, cds_tm ps]
theorem cds_tm : ∀ t : List Tm, cds (Tm.ds t) = true
  | [] => rfl
  | t :: ts => by simp [Tm.ds, cds, cd_tm t, cds_tm ts]
end
theorem cd_pt (p : Pt) : cd p.d = true := by cases p <;> simp [Pt.d, cd, cds, nmD, cds_map cd_nm]
theorem cd_rl (r : Rl) : cd r.d = true := by
  simp [Rl.d, Rl.ld, cd, cds, cd_nm, cd_tm, cds_map cd_pt]
theorem nmD_inj {a b : List Nat} (h : nmD a = nmD b) : a = b := sO_inj (D.str.inj h)
theorem natD_inj {a b : Nat} (h : natD a = natD b) : a = b := by
  have := D.int.inj h
  omega
theorem map_inj {α : Type} {f : α → D} (hf : ∀ a b, f a = f b → a = b) : ∀ {xs ys : List α}, xs.map f = ys.map f → xs = ys
  | [], [], _ => rfl
  | [], _ :: _, h => by simp at h
  | _ :: _, [], h => by simp at h
  | x :: xs, y :: ys, h => by
    simp only [List.map_cons, List.cons.injEq] at h
    rw [hf _ _ h.1, map_inj hf h.2]
theorem kdD_inj {a b : List (List Nat)} (h : kdD a = kdD b) : a = b := map_inj (fun _ _ => nmD_inj) (D.tup.inj h)
theorem En.d_inj {a b : En} (h : a.d = b.d) : a = b := by
  obtain ⟨n1, p1, k1⟩ := a
  obtain ⟨n2, p2, k2⟩ := b
  simp only [En.d, D.tup.injEq, List.cons.injEq, and_true] at h
  obtain ⟨h1, h2, h3⟩ := h
  rw [nmD_inj h1, map_inj (fun _ _ => nmD_inj) h2, nmD_inj h3]
mutual
theorem Tm.d_inj : ∀ (a b : Tm), a.d = b.d → a = b
  | .v x, .v y, h => by rw [nmD_inj h]
  | .v x, .n y ps, h => by simp [Tm.d, nmD] at h
  | .n x ps, .v y, h => by simp [Tm.d, nmD] at h
  | .n x ps, .n y qs, h => by
    simp only [Tm.d, D.tup.injEq, List.cons.injEq] at h
    rw [nmD_inj h.1, Tm.ds_inj ps qs h.2]
theorem Tm.ds_inj : ∀ (a b : List Tm), Tm.ds a = Tm.ds b → a = b
  | [], [], _ => rfl
  | [], _ :: _, h => by simp [Tm.ds] at h
  | _ :: _, [], h => by simp [Tm.ds] at h
  | x :: xs, y :: ys, h => by
    simp only [Tm.ds, List.cons.injEq] at h
    rw [Tm.d_inj x y h.1, Tm.ds_inj xs ys h.2]
end
/-- == of canonical data, one of them not deep -/
theorem cEq {P : D → Prop} {x y : D} [Decidable (x = y)] (h1 : cd x = true) (h2 : cd y = true) (hd : x.dep ≤ 200 ∨ y.dep ≤ 200) (hp : P (.bl (decide (x = y)))) : Ok (gEq x y) P := by
  rw [ok_eq]
  have e : eqD x y = decide (x = y) := by
    by_cases c : x = y
    · rw [decide_eq_true c]; exact (eqD_cd x y h1 h2).mpr c
    · rw [decide_eq_false c]
      cases q : eqD x y with
      | false => rfl
      | true => exact (c ((eqD_cd x y h1 h2).mp q)).elim
  refine ⟨?_, by rw [e]; exact hp⟩
  unfold eqOk
  rw [cd_plain x h1, cd_plain y h2]
  simpa using hd
theorem cNe {P : D → Prop} {x y : D} [Decidable (x = y)] (h1 : cd x = true) (h2 : cd y = true) (hd : x.dep ≤ 200 ∨ y.dep ≤ 200) (hp : P (.bl (!decide (x = y)))) : Ok (gNe x y) P := by
  rw [ok_ne]
  have h := cEq (P := fun d => d = .bl (decide (x = y))) h1 h2 hd rfl
  rw [ok_eq] at h
  refine ⟨h.1, ?_⟩
  have e : eqD x y = decide (x = y) := D.bl.inj h.2
  rw [e]
  exact hp
theorem cInL {α : Type} [DecidableEq α] {f : α → D} (hf : ∀ a b, f a = f b → a = b) (hc : ∀ a, cd (f a) = true) {P : D → Prop} {x : α} {xs : List α} (hd : (f x).dep ≤ 100) (hp : P (.bl (decide (x ∈ xs)))) : Ok (gIn (f x) (.lst (xs.map f))) P := by
  rw [ok_inL]
  refine ⟨?_, ?_⟩
  · unfold inOk
    rw [cd_plain _ (hc x), cds_plains _ (cds_map hc xs)]
    simp [hd]
  · have e : ((xs.map f).any fun z => eqD z (f x)) = decide (x ∈ xs) := by
      rw [Bool.eq_iff_iff, decide_eq_true_iff, List.any_eq_true]
      constructor
      · rintro ⟨z, mz, ez⟩
        obtain ⟨y, my, rfl⟩ := List.mem_map.mp mz
        rw [← hf _ _ ((eqD_cd _ _ (hc y) (hc x)).mp ez)]
        exact my
      · intro m
        exact ⟨f x, List.mem_map.mpr ⟨x, m, rfl⟩, (eqD_cd _ _ (hc x) (hc x)).mpr rfl⟩
    rw [e]
    exact hp
theorem cInT {α : Type} [DecidableEq α] {f : α → D} (hf : ∀ a b, f a = f b → a = b) (hc : ∀ a, cd (f a) = true) {P : D → Prop} {x : α} {xs : List α} (hd : (f x).dep ≤ 100) (hp : P (.bl (decide (x ∈ xs)))) : Ok (gIn (f x) (.tup (xs.map f))) P := by
  have e : gIn (f x) (.tup (xs.map f)) = gIn (f x) (.lst (xs.map f)) := rfl
  rw [e]
  exact cInL hf hc hd hp
theorem cNotIn {P : D → Prop} {x y : D} {b : Bool} (h : Ok (gIn x y) fun d => d = .bl b) (hp : P (.bl (!b))) : Ok (gNotIn x y) P := by
  unfold gNotIn
  rw [ok_bind, h.eq, ok_ok, ok_ok]
  exact hp
instance : DecidableEq En := fun a b => match a, b with
  | ⟨n, p, k⟩, ⟨n', p', k'⟩ => decidable_of_iff (n = n' ∧ p = p' ∧ k = k') (by simp)
end KL

namespace KL
open PySem L2 KD
instance : DecidableEq Sym := fun a b => match a, b with
  | ⟨n, p, k, o⟩, ⟨n', p', k', o'⟩ => decidable_of_iff (n = n' ∧ p = p' ∧ k = k' ∧ o = o') (by simp)
theorem nat_inj : ∀ a b : Nat, natD a = natD b → a = b := fun _ _ => natD_inj
theorem sym_eq (s t : Sym) : eqD s.d t.d = decide (s = t) := by
  rw [Bool.eq_iff_iff, decide_eq_true_iff]
  obtain ⟨n1, p1, d1, o1⟩ := s
  obtain ⟨n2, p2, d2, o2⟩ := t
  have e1 := eqD_cd (nmD n1) (nmD n2) rfl rfl
  have e2 := eqD_cd (natD p1) (natD p2) rfl rfl
  have e4 := eqD_cd (.tup (o1.map natD)) (.tup (o2.map natD)) (by simpa [cd] using cds_map cd_nat o1) (by simpa [cd] using cds_map cd_nat o2)
  have e3 : PyData.eqv (D.bl d1).py (D.bl d2).py = true ↔ d1 = d2 := by simp [D.py, PyData.eqv]
  unfold eqD at *
  show (PyData.eqv (nmD n1).py (nmD n2).py && (PyData.eqv (natD p1).py (natD p2).py && (PyData.eqv (D.bl d1).py (D.bl d2).py && (PyData.eqv (D.tup (o1.map natD)).py (D.tup (o2.map natD)).py && true)))) = true ↔ _
  simp only [Bool.and_eq_true, Bool.and_true]
  rw [e1, e2, e3, e4]
  constructor
  · rintro ⟨h1, h2, h3, h4⟩
    rw [nmD_inj h1, natD_inj h2, h3, map_inj nat_inj (D.tup.inj h4)]
  · intro h
    cases h
    exact ⟨rfl, rfl, rfl, rfl⟩
theorem sym_dep (s : Sym) : s.d.dep ≤ 2 := dep_sym s
theorem symEq {P : D → Prop} (s t : Sym) (hp : P (.bl (decide (s = t)))) : Ok (gEq s.d t.d) P := by
  rw [ok_eq, sym_eq]
  refine ⟨?_, hp⟩
  unfold eqOk
  rw [plain_sym, plain_sym]
  have := sym_dep s
  simp
  omega
theorem cIntB {P : D → Prop} {b : Bool} : Ok (cInt [.bl b]) P = P (natD (if b then 1 else 0)) := by
  cases b <;> exact ok_ok
theorem tab3' (j x y z : Nat) (h : j < 3) : ([natD x, natD y, natD z] : List D)[j]? = some (natD ([x, y, z].getD j 1)) := by
  match j, h with
  | 0, _ => rfl
  | 1, _ => rfl
  | 2, _ => rfl
/-- another order of a symbol -/
def reOrd (row : Sym) (od : List Nat) (s : Sym) : Sym := if s = row then ⟨row.nm, row.pl, row.dn, od⟩ else s
theorem reOrd_nm (row : Sym) (od : List Nat) (s : Sym) : (reOrd row od s).nm = s.nm := by unfold reOrd; split <;> simp [*]
theorem reOrd_pl (row : Sym) (od : List Nat) (s : Sym) : (reOrd row od s).pl = s.pl := by unfold reOrd; split <;> simp [*]
theorem reOrd_dn (row : Sym) (od : List Nat) (s : Sym) : (reOrd row od s).dn = s.dn := by unfold reOrd; split <;> simp [*]
/-- symbols alike but for their orders -/
def Alike (ss ss' : List Sym) : Prop := ∀ s ∈ ss, ∃ s' ∈ ss', s'.nm = s.nm ∧ s'.pl = s.pl ∧ s'.dn = s.dn
theorem Alike.refl (ss : List Sym) : Alike ss ss := fun s h => ⟨s, h, rfl, rfl, rfl⟩
theorem En.ok.alike {ss ss' : List Sym} {ks : List (List Nat)} {e : En} (a : Alike ss ss') (h : e.ok ss ks) : e.ok ss' ks := by
  obtain ⟨s, m, h1, h2⟩ := h.sy
  obtain ⟨s', m', e1, e2, e3⟩ := a s m
  exact ⟨⟨s', m', by rw [h1, e1], by rw [h2, e2]⟩, h.ps, h.kd⟩
mutual
theorem Tm.wfv_alike {ss ss' : List Sym} (a : Alike ss ss') {xs : List (List Nat)} : ∀ t : Tm, t.wfv ss xs → t.wfv ss' xs
  | .v _, h => h
  | .n nm ps, h => by
    obtain ⟨⟨s, m, h1, h2⟩, h3⟩ := h
    obtain ⟨s', m', e1, e2, e3⟩ := a s m
    exact ⟨⟨s', m', by rw [e1, h1], by rw [h2, e2]⟩, Tm.wfvs_alike a ps h3⟩
theorem Tm.wfvs_alike {ss ss' : List Sym} (a : Alike ss ss') {xs : List (List Nat)} : ∀ t : List Tm, Tm.wfvs ss xs t → Tm.wfvs ss' xs t
  | [], _ => trivial
  | t :: ts, h => ⟨Tm.wfv_alike a t h.1, Tm.wfvs_alike a ts h.2⟩
end
theorem Rl.ok.alike {ss ss' : List Sym} {r : Rl} (a : Alike ss ss') (h : r.ok ss) : r.ok ss' := by
  obtain ⟨s, m, h1, h2, h3⟩ := h.hd
  obtain ⟨s', m', e1, e2, e3⟩ := a s m
  refine ⟨⟨s', m', by rw [e1, h1], by rw [e3, h2], by rw [h3, e2]⟩, fun p hp => ?_, h.nd, h.nm, h.vl, Tm.wfv_alike a _ h.rt, h.cn⟩
  have := h.pt p hp
  cases p with
  | v x => trivial
  | p nm xs =>
    obtain ⟨u, mu, h1, h2⟩ := this
    obtain ⟨u', mu', e1, e2, e3⟩ := a u mu
    exact ⟨u', mu', by rw [e1, h1], by rw [h2, e2]⟩
theorem mem_cut {α : Type} {xs : List α} {i : Nat} {x : α} (h : x ∈ xs.take i ++ xs.drop (i + 1)) : x ∈ xs := by
  rcases List.mem_append.mp h with h | h
  · exact List.mem_of_mem_take h
  · exact List.mem_of_mem_drop h
theorem ok_spoil (T : Tab) (hT : T.ok) (hel : T.es.length ≤ 90) (n : Nat) : Ok (den_l_spoil [T.d, natD n]) fun d => ∃ T' : Tab, d = T'.d ∧ T'.ok ∧ T'.ks = T.ks ∧ T'.es.length ≤ T.es.length + 1 := by
  have h2 := hT.s2
  have h6 := hT.s5
  have hk1 := hT.k1
  have hk3 := hT.k3
  have hrl := hT.rl
  refine ok_run ?_
  unfold b_l_spoil
  array_mem_dec
  refine wp_seq (wp_unp ?_)
  rw [tab_d]
  array_get_dec
  refine ⟨_, rfl, ?_⟩
  simp only [setsE]
  array_mem_dec
  refine wp_seq (wp_set ?_)
  array_get_dec
  refine wp_seq (wp_set ?_)
  array_get_dec
  refine wp_seq (wp_set ?_)
  array_get_dec
  refine ⟨by omega, ?_⟩
  refine wp_seq (wp_set ?_)
  array_get_dec
  refine ⟨by omega, ?_⟩
  rw [nIxM]
  obtain ⟨row, erow, mrow⟩ := at_lt (xs := T.ss) (k := n / 6 % 6 % T.ss.length) (Nat.mod_lt _ (by omega))
  refine ⟨row, erow, ?_⟩
  have hrp := sym_len hT.ss mrow
  generalize n / 6 = pk
  generalize n % 6 = way
  generalize pk % (T.es.length + 1) = at1
  -- entries
  refine wp_cut (fun ρ => ∃ (es : List En), ρ = [.dt T.d, .dt (natD n), .dt (.lst (T.ss.map Sym.d)), .dt (.lst (T.ks.map nmD)), .dt (.lst (T.ps.map prD)), .dt (.lst (es.map En.d)), .dt (.lst (T.rs.map Rl.d)), .dt (natD way), .dt (natD pk), .dt (natD at1), .dt row.d, .no, .no, .no, .no, .no, .no] ∧ (∀ e ∈ es, e.ok T.ss T.ks) ∧ es.length ≤ T.es.length) (wp_if ?_) ?_
  · array_get_dec
    refine ⟨fun _ => wp_set ?_, fun _ => wp_nil ⟨T.es, rfl, hT.es, by omega⟩⟩
    array_get_dec
    rw [← List.map_take, ← List.map_drop]
    refine ⟨line_ok (by simp <;> omega), ?_⟩
    refine ⟨T.es.take at1 ++ T.es.drop (at1 + 1), by rw [List.map_append]; rfl, fun e he => hT.es e (mem_cut he), by simp <;> omega⟩
  rintro ρ ⟨es1, rfl, hes1, hl1⟩
  refine wp_cut (fun ρ => ∃ (es : List En) (s11 : Sl), ρ = [.dt T.d, .dt (natD n), .dt (.lst (T.ss.map Sym.d)), .dt (.lst (T.ks.map nmD)), .dt (.lst (T.ps.map prD)), .dt (.lst (es.map En.d)), .dt (.lst (T.rs.map Rl.d)), .dt (natD way), .dt (natD pk), .dt (natD at1), .dt row.d, s11, .no, .no, .no, .no, .no] ∧ (∀ e ∈ es, e.ok T.ss T.ks) ∧ es.length ≤ T.es.length + 1) (wp_if ?_) ?_
  · array_get_dec
    refine ⟨fun _ => wp_seq (wp_set ?_), fun _ => wp_nil ⟨es1, _, rfl, hes1, by omega⟩⟩
    rw [sym_d row]
    refine ok_compA (fun _ y => ∃ p, p ∈ T.ks ∧ y = nmD p) ?_
    array_get_dec
    refine ⟨by omega, by omega, ?_, ?_⟩
    · intro d hd
      obtain ⟨j, hj, rfl⟩ := rng_mem hd
      refine ⟨_, rfl, ?_⟩
      unfold cc_l_spoil_1
      array_mem_dec
      array_get_dec
      rw [nIxL]
      refine ⟨_, tab3' j 6 18 54 (by omega), ?_⟩
      array_get_dec
      refine ⟨?_, by omega, ?_⟩
      · match j, (show j < 3 by omega) with
        | 0, _ => decide
        | 1, _ => decide
        | 2, _ => decide
      · rw [nIxM]
        obtain ⟨z, ez, mz⟩ := at_lt (xs := T.ks) (k := pk / [6, 18, 54].getD j 1 % 3 % T.ks.length) (Nat.mod_lt _ (by omega))
        exact ⟨z, ez, z, mz, rfl⟩
    intro ys hy hj
    obtain ⟨qs, rfl, hql, hq⟩ := unmap (f := nmD) (C := fun p => p ∈ T.ks) (ys := ys) (fun y hy2 => by
      obtain ⟨k, hk2, e⟩ := List.getElem_of_mem hy2
      have hk3 : k < row.pl := by simpa [hy] using hk2
      exact hj k (natD k) y (by rw [List.getElem?_map, List.getElem?_range hk3]; rfl) (by rw [List.getElem?_eq_getElem hk2, e]))
    have hql2 : qs.length = row.pl := by simpa using hy
    refine wp_set ?_
    array_get_dec
    refine ⟨by omega, ?_⟩
    rw [nIxM]
    obtain ⟨kd, ek, mk⟩ := at_lt (xs := T.ks) (k := pk / 162 % 3 % T.ks.length) (Nat.mod_lt _ (by omega))
    refine ⟨kd, ek, line_ok (by omega), ?_⟩
    refine ⟨es1 ++ [⟨row.nm, qs, kd⟩], _, by rw [List.map_append]; rfl, ?_, by simp <;> omega⟩
    intro e he
    rcases List.mem_append.mp he with h | h
    · exact hes1 e h
    · simp at h
      subst h
      exact ⟨⟨row, mrow, rfl, hql2⟩, hq, mk⟩
  rintro ρ ⟨es, s11, rfl, hes, hl⟩
  refine wp_seq (wp_set ?_)
  array_get_dec
  refine ⟨by omega, ?_⟩
  generalize pk % (T.rs.length + 1) = at2
  -- rules
  refine wp_cut (fun ρ => ∃ (rs : List Rl), ρ = [.dt T.d, .dt (natD n), .dt (.lst (T.ss.map Sym.d)), .dt (.lst (T.ks.map nmD)), .dt (.lst (T.ps.map prD)), .dt (.lst (es.map En.d)), .dt (.lst (rs.map Rl.d)), .dt (natD way), .dt (natD pk), .dt (natD at2), .dt row.d, s11, .no, .no, .no, .no, .no] ∧ (∀ r ∈ rs, r.ok T.ss) ∧ rs.length ≤ T.rs.length) (wp_if ?_) ?_
  · array_get_dec
    refine ⟨fun _ => wp_set ?_, fun _ => wp_nil ⟨T.rs, rfl, hT.rs, by omega⟩⟩
    array_get_dec
    rw [← List.map_take, ← List.map_drop]
    refine ⟨line_ok (by rw [List.length_map, List.length_map, List.length_take, List.length_drop]; omega), ?_⟩
    refine ⟨T.rs.take at2 ++ T.rs.drop (at2 + 1), by rw [List.map_append], fun e he => hT.rs e (mem_cut he), by simp <;> omega⟩
  rintro ρ ⟨rs1, rfl, hrs1, hrl1⟩
  refine wp_cut (fun ρ => ∃ (rs : List Rl), ρ = [.dt T.d, .dt (natD n), .dt (.lst (T.ss.map Sym.d)), .dt (.lst (T.ks.map nmD)), .dt (.lst (T.ps.map prD)), .dt (.lst (es.map En.d)), .dt (.lst (rs.map Rl.d)), .dt (natD way), .dt (natD pk), .dt (natD at2), .dt row.d, s11, .no, .no, .no, .no, .no] ∧ (∀ r ∈ rs, r.ok T.ss) ∧ rs.length ≤ 10) (wp_if ?_) ?_
  · array_get_dec
    refine ⟨fun _ => wp_set ?_, fun _ => wp_nil ⟨rs1, rfl, hrs1, by omega⟩⟩
    obtain ⟨s0, e0, hp0⟩ := hT.s0
    have m0 := List.mem_of_getElem? e0
    array_get_dec
    rw [← List.map_take, ← List.map_drop]
    refine ok_compP (zs := (rs1.drop at2).take (at2 + 1 - at2)) (g := Rl.d) (fun r => Rl.d ⟨r.nm, r.lp, .n s0.nm []⟩) ?_ (by simp <;> omega) ?_ ?_
    · array_get_dec
      rw [← List.map_drop, ← List.map_take]
    · intro r hr
      refine ⟨_, rfl, rfl, ?_⟩
      unfold cc_l_spoil_2 Rl.d
      array_mem_dec
      array_get_dec
      rw [nIxM]
      refine ⟨s0, e0, ?_⟩
      rw [sym_d s0]
      array_get_dec
      rw [Tm.d_n]
      rfl
    · array_get_dec
      refine ⟨line_ok (by simp <;> omega), line_ok (by simp <;> omega), ?_⟩
      refine ⟨rs1.take at2 ++ ((rs1.drop at2).take (at2 + 1 - at2)).map (fun r => (⟨r.nm, r.lp, .n s0.nm []⟩ : Rl)) ++ rs1.drop (at2 + 1), ?_, ?_, ?_⟩
      · rw [List.map_append, List.map_append, List.map_map]
        rfl
      · intro r hr
        rcases List.mem_append.mp hr with hr | hr
        · rcases List.mem_append.mp hr with hr | hr
          · exact hrs1 r (List.mem_of_mem_take hr)
          · obtain ⟨q, mq, rfl⟩ := List.mem_map.mp hr
            have hq := hrs1 q (List.mem_of_mem_drop (List.mem_of_mem_take mq))
            exact ⟨hq.hd, hq.pt, hq.nd, hq.nm, hq.vl, ⟨⟨s0, m0, rfl, hp0.symm⟩, trivial⟩, by simp [Tm.cnt, Tm.cnts]⟩
        · exact hrs1 r (List.mem_of_mem_drop hr)
      · simp
        omega
  rintro ρ ⟨rs, rfl, hrs, hrl2⟩
  -- order
  refine wp_cut (fun ρ => ∃ (ss : List Sym) (s12 : Sl), ρ = [.dt T.d, .dt (natD n), .dt (.lst (ss.map Sym.d)), .dt (.lst (T.ks.map nmD)), .dt (.lst (T.ps.map prD)), .dt (.lst (es.map En.d)), .dt (.lst (rs.map Rl.d)), .dt (natD way), .dt (natD pk), .dt (natD at2), .dt row.d, s11, s12, .no, .no, .no, .no] ∧ SigOk ss ∧ ss.length = T.ss.length ∧ Alike T.ss ss ∧ ∃ s, ss[0]? = some s ∧ s.pl = 0) (wp_if ?_) ?_
  · array_get_dec
    refine ⟨fun _ => wp_seq (wp_set ?_), fun _ => wp_nil ⟨T.ss, _, rfl, hT.ss, rfl, Alike.refl _, hT.s0⟩⟩
    rw [sym_d row]
    refine ok_compFP (zs := List.range row.pl) (g := natD) (fun j => decide (pk / [6, 12, 24].getD j 1 % 2 = 1)) natD ?_ (by simp <;> omega) ?_ ?_
    · array_get_dec
      omega
    · intro j hj
      have hj' : j < row.pl := by simpa using hj
      refine ⟨_, rfl, ?_, fun _ => ?_⟩
      · unfold ct_l_spoil_3
        array_mem_dec
        array_get_dec
        rw [nIxL]
        refine ⟨_, tab3' j 6 12 24 (by omega), ?_⟩
        array_get_dec
        match j, (show j < 3 by omega) with
        | 0, _ => decide
        | 1, _ => decide
        | 2, _ => decide
      · unfold cc_l_spoil_3
        array_mem_dec
        array_get_dec
    generalize hod : (List.range row.pl).filter (fun j => decide (pk / [6, 12, 24].getD j 1 % 2 = 1)) = od
    have ond : od.Nodup := by rw [← hod]; exact List.nodup_range.sublist List.filter_sublist
    have olt : ∀ j ∈ od, j < row.pl := fun j hj => by
      rw [← hod] at hj
      simpa using (List.mem_filter.mp hj).1
    refine wp_set ?_
    refine ok_compP (zs := T.ss) (g := Sym.d) (fun s => (reOrd row od s).d) ?_ (by omega) ?_ ?_
    · array_get_dec
    · intro s ms
      refine ⟨_, rfl, rfl, ?_⟩
      unfold cc_l_spoil_4
      array_mem_dec
      array_get_dec
      rw [← sym_d row]
      refine symEq s row ?_
      rw [cIntB, nIxL]
      by_cases c : s = row
      · rw [decide_eq_true c]
        refine ⟨_, rfl, ?_⟩
        unfold reOrd
        rw [if_pos c]
        rfl
      · rw [decide_eq_false c]
        refine ⟨_, rfl, ?_⟩
        unfold reOrd
        rw [if_neg c]
    array_mem_dec
    refine ⟨T.ss.map (reOrd row od), _, by rw [List.map_map]; rfl, ⟨?_, ?_, by simpa using hT.ss.len⟩, by simp, fun s ms => ⟨reOrd row od s, List.mem_map.mpr ⟨s, ms, rfl⟩, reOrd_nm .., reOrd_pl .., reOrd_dn ..⟩, ?_⟩
    · intro s hs
      obtain ⟨q, mq, rfl⟩ := List.mem_map.mp hs
      have hq := hT.ss.all q mq
      refine ⟨by rw [reOrd_nm]; exact hq.nm, by rw [reOrd_pl]; exact hq.pl, ?_, ?_⟩
      · unfold reOrd
        split
        · exact ond
        · exact hq.nd
      · unfold reOrd
        split
        · exact olt
        · exact hq.lt
    · rw [List.map_map]
      have : ((fun s : Sym => s.nm) ∘ reOrd row od) = fun s => s.nm := by funext s; exact reOrd_nm ..
      rw [this]
      exact hT.ss.nd
    · obtain ⟨s0, e0, hp0⟩ := hT.s0
      exact ⟨reOrd row od s0, by rw [List.getElem?_map, e0]; rfl, by rw [reOrd_pl]; exact hp0⟩
  rintro ρ ⟨ss, s12, rfl, hss, hsl, hal, hs0⟩
  refine wp_ret ?_
  array_get_dec
  refine ⟨⟨ss, T.ks, T.ps, es, rs⟩, rfl, ⟨hss, ?_, ?_, hs0, hT.k1, hT.k3, hT.kn, hT.kok, hT.ps, fun e he => (hes e he).alike hal, ?_, hT.pl, fun r hr => (hrs r hr).alike hal, hrl2⟩, rfl, hl⟩
  · show 2 ≤ ss.length
    omega
  · show ss.length ≤ 6
    omega
  · show es.length ≤ 100
    omega
end KL

/-! KP4: the calculus for dicts, objects, comprehensions of two clauses, while. -/
namespace KD
open PySem L2
section
variable {α β : Type} {P : D → Prop} {Q : List D → Prop} {B : Bool → Prop} {ρ : Ev} {fa fb fk fv : Ev → Rs D} {fs : Ev → Rs (List D)} {ft fu : Ev → Rs Bool} {N : Ev → Prop} {R : D → Prop} {f g h : Ev → SR} {i : Nat} {ks vs : List D}
theorem wp_newD (hh : N (ρ.set i (.od [] []))) : Wp (sNewD i ρ) N R := by with_unfolding_all exact hh
theorem wp_putD (e : ρ[i]? = some (.od ks vs)) (hh : Ok (fv ρ) fun y => Ok (fk ρ) fun d => ∃ k, d.key = some k ∧ ks.length < 1000000 ∧ N (ρ.set i (.od (setD ks vs d k y).1 (setD ks vs d k y).2))) : Wp (sPutD i fk fv ρ) N R := by
  with_unfolding_all
    obtain ⟨y, e1, q⟩ := hh.ex
    obtain ⟨d, e2, k, e3, l, z⟩ := q.ex
    unfold sPutD
    simp only [e, e1, Rs.sr_ok, e2, e3]
    rw [if_pos l]
    exact z
theorem ok_dInD (neg : Bool) (e : ρ[i]? = some (.od ks vs)) (hh : Ok (fa ρ) fun d => ∃ k, d.key = some k ∧ P (.bl (neg ^^ (lookD ks vs k).isSome))) : Ok (dInD neg i fa ρ) P := by
  with_unfolding_all
    obtain ⟨d, e2, k, e3, z⟩ := hh.ex
    unfold dInD
    simp only [e, e2, Rs.bind_ok, e3]
    exact z
theorem ok_dIxD (e : ρ[i]? = some (.od ks vs)) (hh : Ok (fb ρ) fun d => Ok (gIx (.dic ks vs) d) P) : Ok (dIxD i fb ρ) P := by
  with_unfolding_all
    obtain ⟨d, e2, z⟩ := hh.ex
    unfold dIxD
    simp only [e, e2, Rs.bind_ok]
    exact z
/-! ### objects -/
theorem wp_fldS {p : Option Addr} {c x : Str} {ns : List Str} {ds : List D} (e : ρ[i]? = some (.oo p c ns ds)) (hh : Ok (fv ρ) fun y => ns.length < 1000 ∧ N (ρ.set i (.oo p c (putS ns ds x y).1 (putS ns ds x y).2))) : Wp (sFldS i c x fv ρ) N R := by
  with_unfolding_all
    obtain ⟨y, e1, l, z⟩ := hh.ex
    unfold sFldS
    simp only [e]
    rw [if_pos ⟨trivial, l⟩, e1]
    exact z
theorem ok_dFldO {p : Option Addr} {c x : Str} {ns : List Str} {ds : List D} (e : ρ[i]? = some (.oo p c ns ds)) (hh : ∃ d, fldD ns ds x = some d ∧ P d) : Ok (dFldO i c x ρ) P := by
  with_unfolding_all
    obtain ⟨d, e1, z⟩ := hh
    unfold dFldO
    simp only [e]
    rw [if_pos trivial]
    simp only [e1]
    exact z
theorem ok_initD {n : Nat} {c : Str} {b : Ev → SR} {x : Addr} {ds : List D} (hh : Wp (b (.oo (some x) c [] [] :: ev0 n ds)) (fun ρ => ∃ ns fs, (ρ : List Sl)[0]? = some (.oo (some x) c ns fs) ∧ P (.ob c ns fs)) (fun _ => False)) : Ok (initD n c b x ds) P := by
  with_unfolding_all
    unfold initD
    cases q : b (.oo (some x) c [] [] :: ev0 n ds) with
    | nx ρ =>
      rw [q] at hh
      have hh' : ∃ ns fs, (ρ : List Sl)[0]? = some (.oo (some x) c ns fs) ∧ P (.ob c ns fs) := hh
      obtain ⟨ns, fs, e, z⟩ := hh'
      simp only [e]
      rw [if_pos trivial]
      exact z
    | rt d => rw [q] at hh; exact False.elim hh
    | ro d => rw [q] at hh; exact False.elim hh
    | _ => rw [q] at hh; exact False.elim hh
theorem ok_mkD {g : Addr → List D → Rs D} {ds : List D} {v : D} (h : ∀ x, Ok (g x ds) fun d => d = v) (hp : P v) : Ok (mkD g ds) P := by
  have e : mkD g ds = .ok v := mkD_eq fun x => (h x).eq
  rw [e, ok_ok]
  exact hp
theorem ok_dCallK {n m : Nat} {g : List D → Rs D} {fk : Ev → Rs (List D)} : Ok (dCallK n m g fs fk ρ) P = Ok (fs ρ) fun xs => Ok (fk ρ) fun ys => (xs.length = n ∧ ys.length = m) ∧ Ok (g (xs ++ ys)) P := by
  unfold dCallK
  simp only [ok_bind, ok_iteR]
theorem ok_dProp {c : Str} {g : List D → Rs D} : Ok (dProp c g fa ρ) P = Ok (fa ρ) fun x => Ok (gCls c x) fun x => Ok (g [x]) P := by
  unfold dProp
  simp only [ok_bind, ok_nox]
theorem ok_gCls {c : Str} {ns : List Str} {fs : List D} : Ok (gCls c (.ob c ns fs)) P = P (.ob c ns fs) := by
  unfold gCls
  simp only [if_true, ok_ok]
theorem frz_oo {p : Option Addr} {c : Str} {ns : List Str} {fs : List D} : frz 0 (.oo p c ns fs :: ρ) = .dt (.ob c ns fs) :: ρ := rfl
theorem frz_od : frz 0 (.od ks vs :: ρ) = .dt (.dic ks vs) :: ρ := rfl
theorem frz_on {w : World} : frz 0 (.on w ks vs :: ρ) = .on w ks vs :: ρ := rfl
theorem ok_dAndV : Ok (dAndV fa fb ρ) P = Ok (fa ρ) fun x => Ok (asB x) fun b => (b = true → Ok (fb ρ) P) ∧ (b = false → P (.bl false)) := by
  unfold dAndV
  simp only [ok_bind]
  congr 1; funext x; congr 1; funext b
  cases b <;> simp [ok_ok]
theorem ok_dOrV : Ok (dOrV fa fb ρ) P = Ok (fa ρ) fun x => Ok (asB x) fun b => (b = true → P (.bl true)) ∧ (b = false → Ok (fb ρ) P) := by
  unfold dOrV
  simp only [ok_bind]
  congr 1; funext x; congr 1; funext b
  cases b <;> simp [ok_ok]
theorem ok_dNotV : Ok (dNotV fa ρ) P = Ok (fa ρ) fun x => Ok (asB x) fun b => P (.bl (!b)) := by
  unfold dNotV
  simp only [ok_bind, ok_ok]
theorem ok_dIsN : Ok (dIsN fa ρ) P = Ok (fa ρ) fun x => P (.bl x.isNon) := by
  unfold dIsN
  simp only [ok_bind, ok_ok]
theorem ok_dNotN : Ok (dNotN fa ρ) P = Ok (fa ρ) fun x => P (.bl (!x.isNon)) := by
  unfold dNotN
  simp only [ok_bind, ok_ok]
theorem asBls_map : ∀ bs : List Bool, asBls (bs.map D.bl) = some bs
  | [] => rfl
  | b :: bs => by
    show (asBls (bs.map D.bl)).map _ = _
    rw [asBls_map bs]
    rfl
theorem ok_any {bs : List Bool} : Ok (cAny [.lst (bs.map D.bl)]) P = P (.bl (bs.any fun b => b)) := by
  have e : cAny [.lst (bs.map D.bl)] = .ok (.bl (bs.any fun b => b)) := by
    show (match asBls (bs.map D.bl) with | some bs => Rs.ok (D.bl (bs.any fun b => b)) | none => .bot) = _
    rw [asBls_map]
  rw [e, ok_ok]
theorem ok_all {bs : List Bool} : Ok (cAll [.lst (bs.map D.bl)]) P = P (.bl (bs.all fun b => b)) := by
  have e : cAll [.lst (bs.map D.bl)] = .ok (.bl (bs.all fun b => b)) := by
    show (match asBls (bs.map D.bl) with | some bs => Rs.ok (D.bl (bs.all fun b => b)) | none => .bot) = _
    rw [asBls_map]
  rw [e, ok_ok]
/-! ### comprehensions -/
theorem comp2_typed {t : D → Ev → Option Ev} {c : Ev → Rs Bool} {vs1 : List Nat} {it1 : Ev → Rs (List D)} {t1 : D → Ev → Option Ev} {c1 : Ev → Rs Bool} {f : Ev → Rs D} {g0 : α → D} {g1 : β → D} (us : α → List β) (p : α → β → Bool) (h : α → β → D) : ∀ zs : List α,
    (∀ z ∈ zs, ∃ ρ', t (g0 z) ρ = some ρ' ∧ c ρ' = .ok true ∧ Ok (it1 ρ') (fun es => es = (us z).map g1) ∧ (us z).length ≤ 100 ∧ ∀ u ∈ us z, ∃ ρ2, t1 (g1 u) (wipeE vs1 ρ') = some ρ2 ∧ Ok (c1 ρ2) (fun b => b = p z u) ∧ (p z u = true → Ok (f ρ2) fun y => y = h z u)) →
    comp2L t c vs1 it1 t1 c1 f ρ (zs.map g0) = .ok (zs.flatMap fun z => ((us z).filter (p z)).map (h z))
  | [], _ => rfl
  | z :: zs, hs => by
    obtain ⟨ρ', e1, e2, e3, l, e4⟩ := hs z List.mem_cons_self
    have ih := comp2_typed (t := t) (c := c) (vs1 := vs1) (it1 := it1) (t1 := t1) (c1 := c1) (f := f) (g0 := g0) (g1 := g1) us p h zs fun d hd => hs d (List.mem_cons_of_mem _ hd)
    have inner : compL t1 c1 f (wipeE vs1 ρ') ((us z).map g1) = .ok (((us z).filter (p z)).map (h z)) := by
      generalize us z = ls at e4
      induction ls with
      | nil => rfl
      | cons u ls ihl =>
        obtain ⟨ρ2, a1, a2, a3⟩ := e4 u List.mem_cons_self
        have ih2 := ihl fun u hu => e4 u (List.mem_cons_of_mem _ hu)
        rw [List.map_cons]
        unfold compL
        rw [a1]
        cases q : p z u with
        | true => simp [a2.eq, (a3 q).eq, ih2, q]
        | false => simp [a2.eq, ih2, q]
    rw [List.map_cons]
    unfold comp2L
    rw [e1]
    simp only [e2, Rs.nox, Rs.bind_ok, if_true, e3.eq]
    rw [if_pos (by simpa using l), inner, Rs.bind_ok, ih, Rs.bind_ok, List.flatMap_cons]
theorem ok_comp2 {vs vs1 : List Nat} {it : Ev → Rs (List D)} {t : D → Ev → Option Ev} {c : Ev → Rs Bool} {it1 : Ev → Rs (List D)} {t1 : D → Ev → Option Ev} {c1 : Ev → Rs Bool} {f : Ev → Rs D} {g0 : α → D} {g1 : β → D} (zs : List α) (us : α → List β) (p : α → β → Bool) (h : α → β → D)
    (hi : Ok (it ρ) fun ds => ds = zs.map g0) (hl : zs.length ≤ 100000)
    (hs : ∀ z ∈ zs, ∃ ρ', t (g0 z) (wipeE vs ρ) = some ρ' ∧ c ρ' = .ok true ∧ Ok (it1 ρ') (fun es => es = (us z).map g1) ∧ (us z).length ≤ 100 ∧ ∀ u ∈ us z, ∃ ρ2, t1 (g1 u) (wipeE vs1 ρ') = some ρ2 ∧ Ok (c1 ρ2) (fun b => b = p z u) ∧ (p z u = true → Ok (f ρ2) fun y => y = h z u))
    (hp : P (.lst (zs.flatMap fun z => ((us z).filter (p z)).map (h z)))) : Ok (dComp2 vs vs1 it t c it1 t1 c1 f ρ) P := by
  unfold dComp2
  rw [hi.eq, Rs.bind_ok, if_pos (by simpa using hl), comp2_typed us p h zs hs, Rs.bind_ok, ok_ok]
  exact hp
/-! ### dicts with nested keys -/
theorem lookN_append {k y : D} {q q' : NestedKey} (hk : k.nk = some q') : ∀ {ks vs : List D}, ks.length = vs.length → lookN (ks ++ [k]) (vs ++ [y]) q = match lookN ks vs q with | some v => some v | none => if q' = q then some y else none
  | [], [], _ => by
    simp only [List.nil_append, lookN, hk, Option.some.injEq]
  | [], _ :: _, h => by simp at h
  | _ :: _, [], h => by simp at h
  | a :: ks, b :: vs, h => by
    simp only [List.cons_append, lookN]
    by_cases c : a.nk = some q
    · rw [if_pos c, if_pos c]
    · rw [if_neg c, if_neg c]
      exact lookN_append hk (by simpa using h)
theorem storeN_len {q : NestedKey} {y : D} : ∀ {ks vs : List D}, (storeN ks vs q y).length = vs.length
  | [], vs => by cases vs <;> simp [storeN]
  | _ :: _, [] => by simp [storeN]
  | a :: ks, b :: vs => by
    simp only [storeN]
    split <;> simp [storeN_len]
theorem lookN_store {q q' : NestedKey} {y : D} : ∀ {ks vs : List D}, ks.length = vs.length → lookN ks (storeN ks vs q' y) q = match lookN ks vs q with | some v => some (if q = q' then y else v) | none => none
  | [], [], _ => by simp [lookN]
  | [], _ :: _, h => by simp at h
  | _ :: _, [], h => by simp at h
  | a :: ks, b :: vs, h => by
    have ih := lookN_store (q := q) (q' := q') (y := y) (ks := ks) (vs := vs) (by simpa using h)
    simp only [storeN]
    by_cases c : a.nk = some q'
    · rw [if_pos c]
      simp only [lookN]
      by_cases c2 : a.nk = some q
      · rw [if_pos c2, if_pos c2]
        have : q = q' := by rw [c] at c2; exact (Option.some.inj c2).symm
        simp [this]
      · rw [if_neg c2, if_neg c2]; exact ih
    · rw [if_neg c]
      simp only [lookN]
      by_cases c2 : a.nk = some q
      · rw [if_pos c2, if_pos c2]
        have : ¬ q = q' := fun e => c (by rw [← e]; exact c2)
        simp [this]
      · rw [if_neg c2, if_neg c2]; exact ih
theorem setN_lens {ks vs : List D} {k y : D} {q : NestedKey} (h : ks.length = vs.length) : (setN ks vs k q y).1.length = (setN ks vs k q y).2.length := by
  unfold setN
  split
  · simpa [storeN_len] using h
  · simp [h]
theorem lookN_set {ks vs : List D} {k y : D} {q q' : NestedKey} (h : ks.length = vs.length) (hk : k.nk = some q') : lookN (setN ks vs k q' y).1 (setN ks vs k q' y).2 q = if q = q' then some y else lookN ks vs q := by
  unfold setN
  by_cases c : (lookN ks vs q').isSome = true
  · rw [if_pos c, lookN_store h]
    by_cases e : q = q'
    · subst e
      rw [if_pos rfl]
      obtain ⟨v, hv⟩ := Option.isSome_iff_exists.mp c
      rw [hv]
      simp
    · rw [if_neg e]
      cases lookN ks vs q <;> simp [e]
  · rw [if_neg c]
    have hn : lookN ks vs q' = none := by simpa using c
    show lookN (ks ++ [k]) (vs ++ [y]) q = _
    rw [lookN_append hk h]
    by_cases e : q = q'
    · subst e; simp [hn]
    · rw [if_neg e]
      have : ¬ q' = q := fun z => e z.symm
      cases lookN ks vs q <;> simp [this]
theorem dcL_typed {t : D → Ev → Option Ev} {c : Ev → Rs Bool} {g0 K V : α → D} {q : α → NestedKey} : ∀ (zs : List α) (ks vs : List D), ks.length = vs.length →
    (∀ z ∈ zs, ∃ ρ', t (g0 z) ρ = some ρ' ∧ c ρ' = .ok true ∧ Ok (fk ρ') (fun d => d = K z) ∧ Ok (fv ρ') (fun d => d = V z) ∧ keyOk (K z) = some (q z)) →
    ∃ ks' vs', dcL t c fk fv ρ (zs.map g0) ks vs = .ok (ks', vs') ∧ ks'.length = vs'.length ∧ ∀ x, (lookN ks' vs' x).isSome = true ↔ ((lookN ks vs x).isSome = true ∨ ∃ z ∈ zs, q z = x)
  | [], ks, vs, h, _ => ⟨ks, vs, rfl, h, fun x => by simp⟩
  | z :: zs, ks, vs, h, hs => by
    obtain ⟨ρ', e1, e2, e3, e4, e5⟩ := hs z List.mem_cons_self
    obtain ⟨hk, _, _⟩ := keyOk_is e5
    obtain ⟨ks', vs', q1, q2, q3⟩ := dcL_typed (t := t) (c := c) (g0 := g0) (K := K) (V := V) (q := q) zs (setN ks vs (K z) (q z) (V z)).1 (setN ks vs (K z) (q z) (V z)).2 (setN_lens h) fun d hd => hs d (List.mem_cons_of_mem _ hd)
    refine ⟨ks', vs', ?_, q2, fun x => ?_⟩
    · rw [List.map_cons]
      unfold dcL
      rw [e1]
      simp only [e2, e3.eq, e4.eq, Rs.nox, Rs.bind_ok, if_true, e5]
      exact q1
    · rw [q3, lookN_set h hk]
      by_cases c : x = q z
      · subst c
        simp
      · rw [if_neg c]
        simp only [List.mem_cons, exists_eq_or_imp]
        constructor
        · rintro (a | ⟨y, my, ey⟩)
          · exact .inl a
          · exact .inr (.inr ⟨y, my, ey⟩)
        · rintro (a | a | ⟨y, my, ey⟩)
          · exact .inl a
          · exact (c a.symm).elim
          · exact .inr ⟨y, my, ey⟩
theorem wp_dcN {w : World} {vs : List Nat} {it : Ev → Rs (List D)} {t : D → Ev → Option Ev} {c : Ev → Rs Bool} {g0 K V : α → D} {q : α → NestedKey} (zs : List α) (hi : Ok (it ρ) fun ds => ds = zs.map g0) (hl : zs.length ≤ 1000000)
    (hs : ∀ z ∈ zs, ∃ ρ', t (g0 z) (wipeE vs ρ) = some ρ' ∧ c ρ' = .ok true ∧ Ok (fk ρ') (fun d => d = K z) ∧ Ok (fv ρ') (fun d => d = V z) ∧ keyOk (K z) = some (q z))
    (hn : ∀ ks vs, (∀ x, (lookN ks vs x).isSome = true ↔ ∃ z ∈ zs, q z = x) → N (ρ.set i (.on w ks vs))) : Wp (sDcN w i vs it t c fk fv ρ) N R := by
  obtain ⟨ks', vs', e, _, h⟩ := dcL_typed (ρ := wipeE vs ρ) (t := t) (c := c) (fk := fk) (fv := fv) (g0 := g0) (K := K) (V := V) (q := q) zs [] [] rfl hs
  have hf := hn ks' vs' fun x => by rw [h x]; simp [lookN]
  with_unfolding_all
    unfold sDcN
    rw [hi.eq, Rs.sr_ok, if_pos (by simpa using hl), e]
    exact hf
theorem ok_dInN (neg : Bool) {w : World} (e : ρ[i]? = some (.on w ks vs)) (hh : Ok (fa ρ) fun d => ∃ k, keyOk d = some k ∧ P (.bl (neg ^^ (lookN ks vs k).isSome))) : Ok (dInN neg w i fa ρ) P := by
  with_unfolding_all
    obtain ⟨d, e2, k, e3, z⟩ := hh.ex
    unfold dInN
    simp only [e]
    rw [if_pos trivial, e2]
    simp only [Rs.bind_ok, e3]
    exact z
end
end KD
namespace KD
open PySem L2
theorem ok_truL {xs : List D} {B : Bool → Prop} : Ok (truD (.lst xs)) B = B (!xs.isEmpty) := by with_unfolding_all exact rfl
theorem isNon_nm {l : List Nat} : (nmD l).isNon = false := rfl
theorem isNon_non : D.isNon .non = true := rfl
theorem isNon_tup {l : List D} : (D.tup l).isNon = false := rfl
-- what an expression answers, with objects
end KD
open PySem L2 KD
local macro_rules
  | `(tactic| sizeOf_list_dec) => `(tactic| try simp -implicitDefEqProofs only [ok_ok, ok_dOp, nC, ok_dCb, ok_dCs, ok_dCn, ok_dVar0, ok_dVarS, ok_dNil, ok_dCons, ok_dCall, ok_dCallN, ok_dTup, ok_dLst, ok_dFrL, ok_dTest, ok_dTru, ok_asB, ok_truB, ok_dAnd, ok_dOr, ok_dNot, ok_dSl, ok_dFrS, ok_dFrA, ok_slL, ok_addL, ok_dPart, nAsI, ok_dNoP, ok_slLst, ok_slTup,
  nAdd, ok_addT, ok_addLs, nSub, nMul, nDiv, nMod, nLt, nLe, nGt, nGe, nEq, nNe, nmEq, nT0, nT1, nT2, nT3, nT4, nLenL, nLenT, nLenF, nInt, ok_tupL, ok_tupT, ok_lstL, ok_lstT, ok_itR, nRng, ok_itA, ok_seqL, ok_seqT, ok_dIxO, ok_dLenX, slP_ol, slP_dt, slO_ol, ok_dtTmp, cut_to, cut_from, cutD_nn, cutD_all,
  ok_dCallK, ok_dProp, ok_gCls, ok_dMeth, ok_dFld, ok_dAndV, ok_dOrV, ok_dNotV, ok_dIsN, ok_dNotN, ok_truL, isNon_nm, isNon_non, isNon_tup, frz_oo, frz_od, frz_on, List.cons_append, List.nil_append,
  List.getElem?_cons_zero, List.getElem?_cons_succ, List.set_cons_zero, List.set_cons_succ, List.length_cons, List.length_nil, List.length_map, List.length_range, frz_ol, frz_dt, frz_no, frz_S, Nat.reduceAdd, Nat.reduceLeDiff, Nat.reduceLT, Nat.reduceMul, Int.reduceLE, Int.reduceToNat, true_and, and_true, and_self, Nat.zero_add, List.map_cons, List.map_nil])
namespace KD
end KD

namespace KL
open PySem L2 KD
/-! ### kinds under kinds -/
abbrev Kd := List Nat
inductive Rch (ps : List (Kd × Kd)) (a : Kd) : Kd → Prop
  | refl : Rch ps a a
  | tail {b c : Kd} : Rch ps a b → (b, c) ∈ ps → Rch ps a c
theorem Rch.trans {ps : List (Kd × Kd)} {a b c : Kd} (h : Rch ps a b) (k : Rch ps b c) : Rch ps a c := by
  induction k with
  | refl => exact h
  | tail _ m ih => exact .tail ih m
theorem Rch.mono {ps qs : List (Kd × Kd)} {a b : Kd} (s : ∀ p ∈ ps, p ∈ qs) (h : Rch ps a b) : Rch qs a b := by
  induction h with
  | refl => exact .refl
  | tail _ m ih => exact .tail ih (s _ m)
theorem Rch.in_ {ps : List (Kd × Kd)} {ks : List Kd} (hp : ∀ p ∈ ps, p.2 ∈ ks) {a b : Kd} (ha : a ∈ ks) (h : Rch ps a b) : b ∈ ks := by
  cases h with
  | refl => exact ha
  | tail _ m => exact hp _ m
/-- one more pair: used once or not at all -/
theorem Rch.snoc {ps : List (Kd × Kd)} {lo hi a b : Kd} : Rch (ps ++ [(lo, hi)]) a b ↔ Rch ps a b ∨ (Rch ps a lo ∧ Rch ps hi b) := by
  constructor
  · intro h
    induction h with
    | refl => exact .inl .refl
    | tail _ m ih =>
      rcases List.mem_append.mp m with m | m
      · rcases ih with h | ⟨h1, h2⟩
        · exact .inl (.tail h m)
        · exact .inr ⟨h1, .tail h2 m⟩
      · simp at m
        obtain ⟨rfl, rfl⟩ := m
        rcases ih with h | ⟨h1, h2⟩
        · exact .inr ⟨h, .refl⟩
        · exact .inr ⟨h1, .refl⟩
  · rintro (h | ⟨h1, h2⟩)
    · exact h.mono fun p m => List.mem_append.mpr (.inl m)
    · exact (Rch.tail (h1.mono fun p m => List.mem_append.mpr (.inl m)) (List.mem_append.mpr (.inr (by simp)))).trans (h2.mono fun p m => List.mem_append.mpr (.inl m))
/-! ### the law's way up -/
theorem upStep_sub (fs : List Kd) (p : Kd × Kd) : ∀ x ∈ fs, x ∈ upStep fs p := fun x h => by
  unfold upStep
  split
  · exact List.mem_append.mpr (.inl h)
  · exact h
theorem upPass_sub : ∀ (ps : List (Kd × Kd)) (fs : List Kd), ∀ x ∈ fs, x ∈ upPass ps fs
  | [], fs, x, h => h
  | p :: ps, fs, x, h => upPass_sub ps _ x (upStep_sub fs p x h)
theorem upStep_nd {fs : List Kd} (p : Kd × Kd) (h : fs.Nodup) : (upStep fs p).Nodup := by
  unfold upStep
  split
  · rename_i c
    rw [List.nodup_append]
    exact ⟨h, by simp, fun a ha b hb e => by simp at hb; subst hb; subst e; exact c.2 ha⟩
  · exact h
theorem upPass_nd : ∀ (ps : List (Kd × Kd)) {fs : List Kd}, fs.Nodup → (upPass ps fs).Nodup
  | [], _, h => h
  | p :: ps, _, h => upPass_nd ps (upStep_nd p h)
theorem upPass_in {all : List (Kd × Kd)} {a : Kd} : ∀ (ps : List (Kd × Kd)) {fs : List Kd}, (∀ p ∈ ps, p ∈ all) → (∀ x ∈ fs, Rch all a x) → ∀ x ∈ upPass ps fs, Rch all a x
  | [], _, _, h, x, m => h x m
  | p :: ps, fs, hp, h, x, m => by
    refine upPass_in ps (fun q hq => hp q (List.mem_cons_of_mem _ hq)) (fun y hy => ?_) x m
    unfold upStep at hy
    split at hy
    · rename_i c
      rcases List.mem_append.mp hy with hy | hy
      · exact h y hy
      · simp at hy
        subst hy
        exact .tail (h _ c.1) (hp p List.mem_cons_self)
    · exact h y hy
theorem upStep_len2 (fs : List Kd) (p : Kd × Kd) : fs.length ≤ (upStep fs p).length := by
  unfold upStep
  split <;> simp
theorem upPass_len : ∀ (ps : List (Kd × Kd)) (fs : List Kd), fs.length ≤ (upPass ps fs).length
  | [], _ => Nat.le_refl _
  | p :: ps, fs => Nat.le_trans (upStep_len2 fs p) (upPass_len ps _)
/-- a pass that adds nothing: closed -/
theorem upPass_closed : ∀ (ps : List (Kd × Kd)) (fs : List Kd), (upPass ps fs).length = fs.length → upPass ps fs = fs ∧ ∀ p ∈ ps, p.1 ∈ fs → p.2 ∈ fs
  | [], fs, _ => ⟨rfl, by simp⟩
  | p :: ps, fs, h => by
    have l1 := upStep_len2 fs p
    have l2 := upPass_len ps (upStep fs p)
    have h' : (upPass ps (upStep fs p)).length = fs.length := h
    have e1 : upStep fs p = fs ∧ (p.1 ∈ fs → p.2 ∈ fs) := by
      unfold upStep
      split
      · rename_i c
        exfalso
        have : (upStep fs p).length = fs.length + 1 := by unfold upStep; rw [if_pos c]; simp
        omega
      · rename_i c
        refine ⟨rfl, fun m => ?_⟩
        by_cases q : p.2 ∈ fs
        · exact q
        · exact (c ⟨m, q⟩).elim
    have ih := upPass_closed ps fs (by rw [e1.1] at h'; exact h')
    refine ⟨?_, fun q hq => ?_⟩
    · show upPass ps (upStep fs p) = fs
      rw [e1.1]
      exact ih.1
    · rcases List.mem_cons.mp hq with z | z
      · subst z; exact e1.2
      · exact ih.2 q z
theorem nodup_len_le {ks : List Kd} : ∀ {fs : List Kd}, fs.Nodup → (∀ x ∈ fs, x ∈ ks) → fs.length ≤ ks.length := by
  induction ks with
  | nil =>
    intro fs _ h
    cases fs with
    | nil => simp
    | cons x fs => exact absurd (h x List.mem_cons_self) (by simp)
  | cons k ks ih =>
    intro fs nd h
    have h1 : (fs.erase k).length ≤ ks.length := by
      refine ih (nd.erase k) fun x hx => ?_
      have hx' := List.mem_of_mem_erase hx
      have hne : x ≠ k := fun e => by
        subst e
        exact absurd hx (by rw [nd.mem_erase_iff]; simp)
      rcases List.mem_cons.mp (h x hx') with e | e
      · exact (hne e).elim
      · exact e
    by_cases m : k ∈ fs
    · rw [List.length_erase_of_mem m] at h1
      have : 0 < fs.length := List.length_pos_of_mem m
      simp only [List.length_cons]
      omega
    · rw [List.erase_of_not_mem m] at h1
      simp only [List.length_cons]
      omega
theorem upIt_succ (ps : List (Kd × Kd)) : ∀ (n : Nat) (fs : List Kd), upIt ps (n + 1) fs = upPass ps (upIt ps n fs) := by
  intro n
  induction n with
  | zero => intro fs; rfl
  | succ n ih => intro fs; rw [upIt, ih, ← upIt]
theorem upIt_iff {ps : List (Kd × Kd)} {ks : List Kd} (hp : ∀ p ∈ ps, p.2 ∈ ks) {k : Kd} (hk : k ∈ ks) (x : Kd) : x ∈ upIt ps ks.length [k] ↔ Rch ps k x := by
  have sound : ∀ n, (∀ x ∈ upIt ps n [k], Rch ps k x) ∧ (upIt ps n [k]).Nodup ∧ k ∈ upIt ps n [k] := by
    intro n
    induction n with
    | zero => exact ⟨fun x h => by simp [upIt] at h; subst h; exact .refl, by simp [upIt], by simp [upIt]⟩
    | succ n ih =>
      rw [upIt_succ]
      exact ⟨upPass_in ps (fun _ h => h) ih.1, upPass_nd ps ih.2.1, upPass_sub ps _ k ih.2.2⟩
  have grow : ∀ n, n + 1 ≤ (upIt ps n [k]).length ∨ (upPass ps (upIt ps n [k]) = upIt ps n [k] ∧ ∀ p ∈ ps, p.1 ∈ upIt ps n [k] → p.2 ∈ upIt ps n [k]) := by
    intro n
    induction n with
    | zero => exact .inl (by simp [upIt])
    | succ n ih =>
      rcases ih with h | h
      · by_cases c : (upPass ps (upIt ps n [k])).length = (upIt ps n [k]).length
        · have := upPass_closed ps _ c
          rw [upIt_succ, this.1]
          exact .inr this
        · have := upPass_len ps (upIt ps n [k])
          rw [upIt_succ]
          exact .inl (by omega)
      · rw [upIt_succ, h.1]
        exact .inr h
  obtain ⟨s1, s2, s3⟩ := sound ks.length
  refine ⟨s1 x, fun h => ?_⟩
  rcases grow ks.length with g | ⟨_, g⟩
  · have := nodup_len_le s2 fun y hy => (s1 y hy).in_ hp hk
    omega
  · induction h with
    | refl => exact s3
    | tail _ m ih => exact g _ m ih
theorem Tab.ok.low {T : Tab} (hT : T.ok) : ∀ p ∈ T.ps, p.1 ∈ T.ks ∧ p.2 ∈ T.ks := by
  obtain ⟨t, _, h⟩ := hT.ps
  intro p hp
  obtain ⟨j, k, a, b, _, _, _, h1, h2⟩ := h p hp
  exact ⟨List.mem_of_getElem? h1, List.mem_of_getElem? h2⟩
theorem up_iff {T : Tab} (hT : T.ok) {k : Kd} (hk : k ∈ T.ks) (x : Kd) : x ∈ T.up k ↔ x ∈ T.ks ∧ Rch T.ps k x := by
  unfold Tab.up
  rw [List.mem_filter, decide_eq_true_iff, upIt_iff (fun p hp => (hT.low p hp).2) hk]
/-! ### no circles -/
theorem ix_uniq {ks : List Kd} (nd : ks.Nodup) {i j : Nat} {k : Kd} (h1 : ks[i]? = some k) (h2 : ks[j]? = some k) : i = j := by
  have a := List.getElem?_eq_some_iff.mp h1
  have b := List.getElem?_eq_some_iff.mp h2
  obtain ⟨ha, ea⟩ := a
  obtain ⟨hb, eb⟩ := b
  exact (List.getElem_inj nd).mp (ea.trans eb.symm)
theorem nat_ix_uniq {ks : List Nat} (nd : ks.Nodup) {i j : Nat} {k : Nat} (h1 : ks[i]? = some k) (h2 : ks[j]? = some k) : i = j := by
  obtain ⟨ha, ea⟩ := List.getElem?_eq_some_iff.mp h1
  obtain ⟨hb, eb⟩ := List.getElem?_eq_some_iff.mp h2
  exact (List.getElem_inj nd).mp (ea.trans eb.symm)
/-- the place of a kind in the drawn order -/
theorem Rch.up {ks : List Kd} {t : List Nat} {ps : List (Kd × Kd)} (kn : ks.Nodup) (tn : t.Nodup) (h : LowsOk ks t ps) {a b : Kd} {i ai : Nat} (r : Rch ps a b) (e1 : t[i]? = some ai) (e2 : ks[ai]? = some a) : ∃ j bj, i ≤ j ∧ t[j]? = some bj ∧ ks[bj]? = some b := by
  induction r with
  | refl => exact ⟨i, ai, Nat.le_refl _, e1, e2⟩
  | tail _ m ih =>
    obtain ⟨j, bj, l, e3, e4⟩ := ih
    obtain ⟨j2, k2, a2, b2, l2, e5, e6, e7, e8⟩ := h _ m
    have : bj = a2 := ix_uniq kn e4 e7
    subst this
    have : j = j2 := nat_ix_uniq tn e3 e5
    subst this
    exact ⟨k2, b2, by omega, e6, e8⟩
theorem no_circle {T : Tab} (hT : T.ok) {p : Kd × Kd} (hp : p ∈ T.ps) : ¬ Rch T.ps p.2 p.1 := by
  obtain ⟨t, tn, h⟩ := hT.ps
  intro r
  obtain ⟨j, k, a, b, l, e1, e2, e3, e4⟩ := h p hp
  obtain ⟨j', a', l', e5, e6⟩ := r.up hT.kn tn h e2 e4
  have : a = a' := ix_uniq hT.kn e3 e6
  subst this
  have : j = j' := nat_ix_uniq tn e1 e5
  omega
end KL

namespace KL
open PySem L2 KD
def symIx (ss : List Sym) (nm : List Nat) : Nat := ss.findIdx fun s => decide (s.nm = nm)
/-! ### the program's side -/
theorem self_sig (m : Str) (ss : List Sym) (h1 : m ≠ "listed") (h2 : m ≠ "numbers") : gSelf "Signature" m (sigO ss) = .ok (sigO ss) := by
  unfold sigO sigOb gSelf fldD
  simp [fldD, h1, h2]
theorem fld_numbers (ss : List Sym) : gFld "Signature" "numbers" (sigO ss) = .ok (.dic (ss.map fun s => nmD s.nm) (numsD ss.length)) := by rfl
theorem fld_listed (ss : List Sym) : gFld "Signature" "listed" (sigO ss) = .ok (.lst (ss.map Sym.d)) := by rfl
theorem key_nm (l : List Nat) : (nmD l).key = some (.inr (sO l)) := rfl
theorem look_ix (nm : List Nat) : ∀ (ss : List Sym) (k : Nat), (∃ s ∈ ss, s.nm = nm) → lookD (ss.map fun s => nmD s.nm) ((List.range' k ss.length).map natD) (.inr (sO nm)) = some (natD (k + symIx ss nm))
  | [], k, h => by obtain ⟨s, ms, _⟩ := h; cases ms
  | s :: ss, k, h => by
    rw [List.map_cons, List.length_cons, List.range'_succ, List.map_cons]
    unfold lookD symIx
    rw [key_nm, List.findIdx_cons]
    by_cases e : s.nm = nm
    · rw [if_pos (by rw [e])]
      simp [e]
    · have e' : ¬ (some (Sum.inr (sO s.nm)) : Option Key) = some (.inr (sO nm)) := fun q => e (sO_inj (Sum.inr.inj (Option.some.inj q)))
      rw [if_neg e', look_ix nm ss (k + 1) (by
        obtain ⟨u, mu, q⟩ := h
        rcases List.mem_cons.mp mu with z | z
        · subst z; exact (e q).elim
        · exact ⟨u, z, q⟩)]
      have : decide (s.nm = nm) = false := by simpa using e
      rw [this]
      simp [symIx]
      congr 1
      omega
theorem look_sig {ss : List Sym} {nm : List Nat} (h : ∃ s ∈ ss, s.nm = nm) : lookD (ss.map fun s => nmD s.nm) (numsD ss.length) (.inr (sO nm)) = some (natD (symIx ss nm)) := by
  have e : numsD ss.length = (List.range' 0 ss.length).map natD := by unfold numsD; rw [List.range_eq_range']
  rw [e, look_ix nm ss 0 h, Nat.zero_add]
theorem nDicIx {P : D → Prop} {ss : List Sym} {nm : List Nat} (h : ∃ s ∈ ss, s.nm = nm) (hp : P (natD (symIx ss nm))) : Ok (gIx (.dic (ss.map fun s => nmD s.nm) (numsD ss.length)) (nmD nm)) P := by
  have e : gIx (.dic (ss.map fun s => nmD s.nm) (numsD ss.length)) (nmD nm) = .ok (natD (symIx ss nm)) := by
    unfold gIx
    dsimp only
    rw [key_nm]
    dsimp only
    rw [look_sig h]
  rw [e, ok_ok]
  exact hp
theorem nDicNotIn {P : D → Prop} {ss : List Sym} {nm : List Nat} (h : ∃ s ∈ ss, s.nm = nm) (hp : P (.bl false)) : Ok (gNotIn (nmD nm) (.dic (ss.map fun s => nmD s.nm) (numsD ss.length))) P := by
  have e : gIn (nmD nm) (.dic (ss.map fun s => nmD s.nm) (numsD ss.length)) = .ok (.bl true) := by
    unfold gIn
    dsimp only
    rw [key_nm]
    dsimp only
    rw [look_sig h]
    rfl
  unfold gNotIn
  rw [e, Rs.bind_ok, ok_ok]
  exact hp
theorem ok_number {ss : List Sym} {nm : List Nat} (h : ∃ s ∈ ss, s.nm = nm) : Ok (den_signature_number [sigO ss, nmD nm]) fun d => d = natD (symIx ss nm) := by
  refine ok_run ?_
  unfold b_signature_number
  array_mem_dec
  refine wp_seq (wp_if ?_)
  array_get_dec
  rw [ok_dFld]
  array_get_dec
  rw [fld_numbers, ok_ok]
  refine nDicNotIn h ?_
  array_get_dec
  refine ⟨fun q => by simp at q, fun _ => wp_nil (wp_ret ?_)⟩
  array_get_dec
  rw [ok_dFld]
  array_get_dec
  rw [fld_numbers, ok_ok]
  array_get_dec
  exact nDicIx h rfl
theorem symIx_at {ss : List Sym} (nd : (ss.map (·.nm)).Nodup) {s : Sym} (ms : s ∈ ss) : ss[symIx ss s.nm]? = some s := by
  have h : symIx ss s.nm < ss.length := List.findIdx_lt_length_of_exists ⟨s, ms, by simp⟩
  rw [List.getElem?_eq_getElem h]
  have q : decide ((ss[symIx ss s.nm]).nm = s.nm) = true := List.findIdx_getElem (xs := ss) (p := fun u : Sym => decide (u.nm = s.nm)) (w := h)
  rw [sym_uniq nd (List.getElem_mem h) ms (by simpa using q)]
theorem ok_places {ss : List Sym} (hs : SigOk ss) {s : Sym} (ms : s ∈ ss) : Ok (den_signature_places [sigO ss, nmD s.nm]) fun d => d = natD s.pl := by
  refine ok_run ?_
  unfold b_signature_places
  array_mem_dec
  refine wp_ret ?_
  array_get_dec
  rw [ok_dFld]
  array_get_dec
  rw [fld_listed, ok_ok, ok_dMeth]
  array_get_dec
  rw [self_sig _ _ (by decide +kernel) (by decide +kernel), ok_ok]
  array_get_dec
  refine (ok_number ⟨s, ms, rfl⟩).imp ?_
  rintro _ rfl
  rw [nIxM]
  refine ⟨s, symIx_at hs.nd ms, ?_⟩
  rw [sym_d s]
  array_get_dec
theorem isi_tt (xs : List D) : isiD "tuple" (.tup xs) = .ok (.bl true) := by
  show (match kitB "tuple" "tuple" with | some b => Rs.ok (D.bl b) | none => .bot) = _
  rw [show kitB "tuple" "tuple" = some true by decide +kernel]
end KL

namespace KL
open PySem L2 KD
/-! ### dicts by names -/
section
variable {ks : List Kd} {f : Kd → D} {k : Kd}
theorem look_nm (h : k ∈ ks) : lookD (ks.map nmD) (ks.map f) (.inr (sO k)) = some (f k) := by
  induction ks with
  | nil => cases h
  | cons a ks ih =>
    rw [List.map_cons, List.map_cons]
    unfold lookD
    by_cases e : a = k
    · subst e
      rw [if_pos (key_nm a)]
    · have : ¬ (nmD a).key = some (.inr (sO k)) := fun q => e (sO_inj (Sum.inr.inj (Option.some.inj q)))
      rw [if_neg this]
      rcases List.mem_cons.mp h with z | z
      · exact (e z.symm).elim
      · exact ih z
theorem look_nm_none {vs : List D} (h : k ∉ ks) : lookD (ks.map nmD) vs (.inr (sO k)) = none := look_none h
theorem store_nm (y : D) : storeD (ks.map nmD) (ks.map f) (.inr (sO k)) y = ks.map fun x => if x = k then y else f x := by
  induction ks with
  | nil => rfl
  | cons a ks ih =>
    rw [List.map_cons, List.map_cons, List.map_cons]
    unfold storeD
    by_cases e : a = k
    · subst e
      rw [if_pos (key_nm a), if_pos rfl, ih]
    · have : ¬ (nmD a).key = some (.inr (sO k)) := fun q => e (sO_inj (Sum.inr.inj (Option.some.inj q)))
      rw [if_neg this, if_neg e, ih]
theorem set_nm (h : k ∈ ks) (y : D) : setD (ks.map nmD) (ks.map f) (nmD k) (.inr (sO k)) y = (ks.map nmD, ks.map fun x => if x = k then y else f x) := by
  unfold setD
  rw [look_nm h, store_nm]
  rfl
theorem set_nm_new (h : k ∉ ks) (y : D) : setD (ks.map nmD) (ks.map f) (nmD k) (.inr (sO k)) y = ((ks ++ [k]).map nmD, (ks ++ [k]).map fun x => if x = k then y else f x) := by
  unfold setD
  rw [look_nm_none h]
  simp only [Option.isSome_none, Bool.false_eq_true, if_false, List.map_append, List.map_cons, List.map_nil, if_true]
  congr 2
  apply List.map_congr_left
  intro x hx
  have : ¬ x = k := fun e => h (by rw [← e]; exact hx)
  rw [if_neg this]
theorem ix_dic_nm {P : D → Prop} (h : k ∈ ks) (hp : P (f k)) : Ok (gIx (.dic (ks.map nmD) (ks.map f)) (nmD k)) P := by
  have e : gIx (.dic (ks.map nmD) (ks.map f)) (nmD k) = .ok (f k) := by
    unfold gIx
    dsimp only
    rw [key_nm]
    dsimp only
    rw [look_nm h]
  rw [e, ok_ok]
  exact hp
theorem in_dic_nm (ks : List Kd) (f : Kd → D) (k : Kd) : gIn (nmD k) (.dic (ks.map nmD) (ks.map f)) = .ok (.bl (decide (k ∈ ks))) := by
  unfold gIn
  dsimp only
  rw [key_nm]
  dsimp only
  by_cases h : k ∈ ks
  · rw [look_nm h, decide_eq_true h]; rfl
  · rw [look_nm_none h, decide_eq_false h]; rfl
theorem inDic {P : D → Prop} : Ok (gIn (nmD k) (.dic (ks.map nmD) (ks.map f))) P = P (.bl (decide (k ∈ ks))) := by rw [in_dic_nm, ok_ok]
theorem notInDic {P : D → Prop} : Ok (gNotIn (nmD k) (.dic (ks.map nmD) (ks.map f))) P = P (.bl (!decide (k ∈ ks))) := by
  unfold gNotIn
  rw [in_dic_nm, Rs.bind_ok, ok_ok]
end
/-! ### lists and tuples alike -/
structure SeqK (mk : List D → D) : Prop where
  len : ∀ {xs : List D} {P : D → Prop}, Ok (cLen [mk xs]) P = P (natD xs.length)
  ix : ∀ {xs : List D} {a : Nat} {P : D → Prop}, Ok (gIx (mk xs) (natD a)) P = ∃ d, xs[a]? = some d ∧ P d
  sl : ∀ {xs : List D} {lo hi : Option Int} {P : D → Prop}, Ok (gSl (mk xs) lo hi) P = P (mk (cutD xs lo hi))
  inn : ∀ (x : D) (ys : List D), gIn x (mk ys) = gIn x (.lst ys)
  seq : ∀ {xs : List D} {P : List D → Prop}, Ok (asSeq (mk xs)) P = P xs
  lst : ∀ {xs : List D} {P : D → Prop}, Ok (cList [mk xs]) P = P (.lst xs)
theorem seqL : SeqK D.lst := ⟨nLenL, nIxL, ok_slLst, fun _ _ => rfl, ok_seqL, ok_lstL⟩
theorem seqT : SeqK D.tup := ⟨nLenT, nIxT, ok_slTup, fun _ _ => rfl, ok_seqT, ok_lstT⟩
theorem SeqK.ixM {mk : List D → D} (h : SeqK mk) {α : Type} {f : α → D} {zs : List α} {a : Nat} {P : D → Prop} : Ok (gIx (mk (zs.map f)) (natD a)) P = ∃ z, zs[a]? = some z ∧ P (f z) := by
  rw [h.ix, ← nIxL, nIxM]
/-! ### check_kinds -/
theorem ok_check_kinds {mk : List D → D} (hm : SeqK mk) (ks : List Kd) (kn : ks.Nodup) (ko : ∀ k ∈ ks, nameOk k) (hl : ks.length ≤ 1000) : Ok (den_check_kinds [mk (ks.map nmD)]) fun _ => True := by
  refine ok_run ?_
  unfold b_check_kinds
  array_mem_dec
  refine wp_for (fun i ρ => ρ = [.dt (mk (ks.map nmD)), .no]) ?_
  array_get_dec
  rw [hm.len]
  array_get_dec
  refine ⟨by omega, ?_, fun _ _ => trivial⟩
  rintro i d ρ hd rfl
  obtain ⟨hi, rfl⟩ := rng_at hd
  refine ⟨_, rfl, ?_⟩
  unfold lb_check_kinds_1
  array_mem_dec
  have hi' : ks[i]? = some ks[i] := List.getElem?_eq_getElem hi
  refine wp_if (Ok.imp (Q := fun b => b = false) ?_ fun b hb => ⟨fun e => (by rw [hb] at e; cases e), fun _ => wp_nil rfl⟩)
  array_get_dec
  rw [hm.ixM]
  refine ⟨_, hi', ?_⟩
  rw [den_isname (ko _ (List.getElem_mem hi)), ok_ok]
  array_get_dec
  refine ⟨fun z => (by simp at z), fun _ => ?_⟩
  rw [hm.ixM]
  refine ⟨_, hi', ?_⟩
  rw [hm.sl, hm.inn]
  array_get_dec
  rw [← List.map_take, nmIn]
  array_get_dec
  apply decide_eq_false
  intro hm
  obtain ⟨j, hj, e⟩ := List.getElem_of_mem hm
  have hj' : j < i := by have := hj; simp at this; omega
  rw [List.getElem_take] at e
  have := (List.getElem_inj kn).mp e
  omega
/-! ### kinds_above -/
open Classical in
noncomputable def abv (ks : List Kd) (ps : List (Kd × Kd)) (k : Kd) : List Kd := ks.filter fun x => decide (Rch ps k x)
open Classical in
theorem mem_abv {ks : List Kd} {ps : List (Kd × Kd)} {k x : Kd} : x ∈ abv ks ps k ↔ x ∈ ks ∧ Rch ps k x := by
  unfold abv
  rw [List.mem_filter, decide_eq_true_iff]
noncomputable def abvD (ks : List Kd) (ps : List (Kd × Kd)) (k : Kd) : D := .lst ((abv ks ps k).map nmD)
open Classical in
theorem abv_nil {ks : List Kd} (kn : ks.Nodup) {k : Kd} (hk : k ∈ ks) : abv ks [] k = [k] := by
  have e : ∀ x, Rch [] k x ↔ x = k := fun x => ⟨fun h => (by cases h with | refl => rfl | tail _ m => cases m), fun h => (by subst h; exact .refl)⟩
  unfold abv
  simp only [e]
  clear e
  induction ks with
  | nil => cases hk
  | cons a ks ih =>
    rw [List.nodup_cons] at kn
    rw [List.filter_cons]
    by_cases c : a = k
    · subst c
      simp only [decide_true, if_true, List.cons.injEq, true_and]
      rw [List.filter_eq_nil_iff]
      intro x hx e
      rw [decide_eq_true_iff] at e
      subst e
      exact kn.1 hx
    · rw [decide_eq_false c, if_neg (by simp)]
      rcases List.mem_cons.mp hk with z | z
      · exact (c z.symm).elim
      · exact ih kn.2 z
open Classical in
theorem abv_snoc (ks : List Kd) (ps : List (Kd × Kd)) (lo hi k : Kd) (hlo : lo ∈ ks) (hhi : hi ∈ ks) : abv ks (ps ++ [(lo, hi)]) k = if lo ∈ abv ks ps k then ks.filter (fun n => decide (n ∈ abv ks ps k ∨ n ∈ abv ks ps hi)) else abv ks ps k := by
  have h1 : lo ∈ abv ks ps k ↔ Rch ps k lo := by rw [mem_abv]; simp [hlo]
  by_cases c : lo ∈ abv ks ps k
  · rw [if_pos c]
    have c' := h1.mp c
    unfold abv
    apply List.filter_congr
    intro x hx
    rw [decide_eq_decide, Rch.snoc]
    rw [List.mem_filter, List.mem_filter, decide_eq_true_iff, decide_eq_true_iff]
    simp [hx, c']
  · rw [if_neg c]
    have c' : ¬ Rch ps k lo := fun h => c (h1.mpr h)
    unfold abv
    apply List.filter_congr
    intro x hx
    rw [decide_eq_decide, Rch.snoc]
    simp [c']
theorem ok_kinds_above {mk : List D → D} (hm : SeqK mk) (ks : List Kd) (ps : List (Kd × Kd)) (kn : ks.Nodup) (hl : ks.length ≤ 1000) (hin : ∀ p ∈ ps, p.1 ∈ ks ∧ p.2 ∈ ks) (hc : ∀ p ∈ ps, ¬ Rch ps p.2 p.1) :
    Ok (den_kinds_above [.lst (ks.map nmD), mk (ps.map prD)]) fun d => d = .dic (ks.map nmD) (ks.map (abvD ks ps)) := by
  refine ok_run ?_
  unfold b_kinds_above
  array_mem_dec
  refine wp_seq (wp_newD ?_)
  array_mem_dec
  -- each kind by itself
  refine wp_cut (fun ρ => ∃ s3, ρ = [.dt (.lst (ks.map nmD)), .dt (mk (ps.map prD)), .od (ks.map nmD) (ks.map (abvD ks [])), s3, .no, .no, .no]) (wp_for (fun i ρ => ∃ s3, ρ = [.dt (.lst (ks.map nmD)), .dt (mk (ps.map prD)), .od ((ks.take i).map nmD) ((ks.take i).map (abvD ks [])), s3, .no, .no, .no]) ?_) ?_
  · array_get_dec
    refine ⟨⟨.no, rfl⟩, ?_, ?_⟩
    · rintro i d ρ hd ⟨s3, rfl⟩
      obtain ⟨k, ek, rfl⟩ := map_at hd
      have hi := (List.getElem?_eq_some_iff.mp ek).1
      have mk := List.mem_of_getElem? ek
      have nk : k ∉ ks.take i := by
        intro hm
        obtain ⟨j, hj, e⟩ := List.getElem_of_mem hm
        have hj' : j < i := by have := hj; simp at this; omega
        rw [List.getElem_take] at e
        have e2 : ks[i] = k := (List.getElem?_eq_some_iff.mp ek).2
        have := (List.getElem_inj kn).mp (e.trans e2.symm)
        omega
      refine ⟨_, rfl, ?_⟩
      unfold lb_kinds_above_1
      array_mem_dec
      refine wp_putD rfl ?_
      array_get_dec
      refine ⟨_, key_nm k, by simp; omega, ?_⟩
      rw [set_nm_new nk]
      refine ⟨.dt (nmD k), ?_⟩
      have e1 : ks.take (i + 1) = ks.take i ++ [k] := by rw [List.take_add_one, ek]; rfl
      rw [e1]
      array_mem_dec
      have e2 : (List.map (fun x => if x = k then D.lst [nmD k] else abvD ks [] x) (ks.take i ++ [k])) = (ks.take i ++ [k]).map (abvD ks []) := by
        apply List.map_congr_left
        intro x hx
        by_cases c : x = k
        · subst c
          rw [if_pos rfl]
          unfold abvD
          rw [abv_nil kn mk]
          rfl
        · rw [if_neg c]
      rw [e2]
    · rintro ρ ⟨s3, rfl⟩
      exact ⟨s3, by rw [List.take_length]⟩
  rintro ρ ⟨s3, rfl⟩
  -- pair by pair
  refine wp_seq (wp_for (fun i ρ => ∃ s3, ρ = [.dt (.lst (ks.map nmD)), .dt (mk (ps.map prD)), .od (ks.map nmD) (ks.map (abvD ks (ps.take i))), s3, .no, .no, .no]) ?_)
  array_get_dec
  rw [hm.seq]
  refine ⟨⟨s3, rfl⟩, ?_, ?_⟩
  · rintro i d ρ hd ⟨s3, rfl⟩
    obtain ⟨p, ep, rfl⟩ := map_at hd
    have mp := List.mem_of_getElem? ep
    obtain ⟨lo, hi⟩ := p
    obtain ⟨hlo, hhi⟩ := hin _ mp
    have hlo : lo ∈ ks := hlo
    have hhi : hi ∈ ks := hhi
    have e1 : ps.take (i + 1) = ps.take i ++ [(lo, hi)] := by rw [List.take_add_one, ep]; rfl
    have hnc : lo ∉ abv ks (ps.take i) hi := fun h => hc _ mp ((mem_abv.mp h).2.mono fun q hq => List.mem_of_mem_take hq)
    refine ⟨_, rfl, ?_⟩
    unfold lb_kinds_above_4
    simp only [setsE]
    array_mem_dec
    generalize hA : abv ks (ps.take i) = A at hnc ⊢
    have hAD : abvD ks (ps.take i) = fun k => .lst ((A k).map nmD) := by funext k; unfold abvD; rw [hA]
    rw [hAD]
    -- both are declared
    refine wp_cut (fun ρ => ∃ s3, ρ = [.dt (.lst (ks.map nmD)), .dt (mk (ps.map prD)), .od (ks.map nmD) (ks.map fun k => .lst ((A k).map nmD)), s3, .dt (nmD lo), .dt (nmD hi), .no]) (wp_for (fun j ρ => ∃ s3, ρ = [.dt (.lst (ks.map nmD)), .dt (mk (ps.map prD)), .od (ks.map nmD) (ks.map fun k => .lst ((A k).map nmD)), s3, .dt (nmD lo), .dt (nmD hi), .no]) ?_) ?_
    · array_get_dec
      refine ⟨⟨_, rfl⟩, ?_, fun ρ h => h⟩
      rintro j d ρ hd ⟨s3, rfl⟩
      obtain ⟨k, mk, rfl⟩ : ∃ k, k ∈ ks ∧ d = nmD k := by
        match j, hd with
        | 0, hd => simp at hd; exact ⟨lo, hlo, hd.symm⟩
        | 1, hd => simp at hd; exact ⟨hi, hhi, hd.symm⟩
        | j + 2, hd => simp at hd
      refine ⟨_, rfl, ?_⟩
      unfold lb_kinds_above_2
      array_mem_dec
      refine wp_if (Ok.imp (Q := fun b => b = false) ?_ fun b hb => ⟨fun e => (by rw [hb] at e; cases e), fun _ => wp_nil ⟨_, rfl⟩⟩)
      rw [ok_dTest]
      refine ok_dInD true rfl ?_
      array_get_dec
      refine ⟨_, key_nm k, ?_⟩
      rw [look_nm mk]
      rfl
    rintro ρ ⟨s3, rfl⟩
    refine wp_seq (wp_if (Ok.imp (Q := fun b => b = false) ?_ fun b hb => ⟨fun e => (by rw [hb] at e; cases e), fun _ => wp_nil ?_⟩))
    · array_get_dec
      refine ok_dIxD rfl ?_
      array_get_dec
      refine ix_dic_nm hhi ?_
      rw [nmIn]
      array_get_dec
      exact decide_eq_false hnc
    -- the kinds one behind another
    let B : Kd → List Kd := fun k => if lo ∈ A k then ks.filter (fun n => decide (n ∈ A k ∨ n ∈ A hi)) else A k
    refine wp_for (fun j ρ => ∃ s3, ρ = [.dt (.lst (ks.map nmD)), .dt (mk (ps.map prD)), .od (ks.map nmD) (ks.map fun k => .lst ((if k ∈ ks.take j then B k else A k).map nmD)), s3, .dt (nmD lo), .dt (nmD hi), .no]) ?_
    array_get_dec
    refine ⟨⟨s3, by simp⟩, ?_, ?_⟩
    · rintro j d ρ hd ⟨s3, rfl⟩
      obtain ⟨k, ek, rfl⟩ := map_at hd
      have hj := (List.getElem?_eq_some_iff.mp ek).1
      have mk := List.mem_of_getElem? ek
      have nk : k ∉ ks.take j := by
        intro hm
        obtain ⟨j', hj2, e⟩ := List.getElem_of_mem hm
        have hj' : j' < j := by have := hj2; simp at this; omega
        rw [List.getElem_take] at e
        have e2 : ks[j] = k := (List.getElem?_eq_some_iff.mp ek).2
        have := (List.getElem_inj kn).mp (e.trans e2.symm)
        omega
      have et : ks.take (j + 1) = ks.take j ++ [k] := by rw [List.take_add_one, ek]; rfl
      refine ⟨_, rfl, ?_⟩
      unfold lb_kinds_above_3
      array_mem_dec
      refine wp_if (Ok.imp (Q := fun b => b = decide (lo ∈ A k)) ?_ fun b hb => ⟨fun e => ?_, fun e => wp_nil ?_⟩)
      · array_get_dec
        refine ok_dIxD rfl ?_
        array_get_dec
        refine ix_dic_nm mk ?_
        rw [if_neg nk, nmIn]
        array_get_dec
      · have hlk : lo ∈ A k := by rw [hb] at e; exact of_decide_eq_true e
        refine wp_putD rfl ?_
        refine ok_compFP (zs := ks) (g := nmD) (fun n => decide (n ∈ A k ∨ n ∈ A hi)) nmD ?_ (by omega) ?_ ?_
        · array_get_dec
        · intro n mn
          refine ⟨_, rfl, ?_, fun _ => ?_⟩
          · unfold ct_kinds_above_1
            array_mem_dec
            array_get_dec
            refine ok_dIxD rfl ?_
            array_get_dec
            refine ix_dic_nm mk ?_
            rw [if_neg nk, nmIn]
            array_get_dec
            refine ⟨fun z => ?_, fun z => ?_⟩
            · have z' : n ∈ A k := by simpa using z
              simp [z']
            · have z' : n ∉ A k := by simpa using z
              refine ok_dIxD rfl ?_
              array_get_dec
              refine ix_dic_nm hhi ?_
              have e3 : (if hi ∈ ks.take j then B hi else A hi) = A hi := by
                split
                · show (if lo ∈ A hi then _ else A hi) = A hi
                  rw [if_neg hnc]
                · rfl
              rw [e3, nmIn]
              array_get_dec
              simp [z']
          · unfold cc_kinds_above_1
            array_mem_dec
            array_get_dec
        · array_get_dec
          refine ⟨_, key_nm k, by omega, ?_⟩
          rw [set_nm mk]
          refine ⟨.dt (nmD k), ?_⟩
          rw [et]
          array_mem_dec
          have e2 : (List.map (fun x => if x = k then D.lst (List.map nmD (List.filter (fun n => decide (n ∈ A k ∨ n ∈ A hi)) ks)) else D.lst (List.map nmD (if x ∈ ks.take j then B x else A x))) ks) = ks.map fun x => D.lst (List.map nmD (if x ∈ ks.take j ++ [k] then B x else A x)) := by
            apply List.map_congr_left
            intro x hx
            by_cases c : x = k
            · subst c
              rw [if_pos rfl, if_pos (by simp)]
              show _ = D.lst (List.map nmD (if lo ∈ A x then _ else A x))
              rw [if_pos hlk]
            · rw [if_neg c]
              have : (x ∈ ks.take j ++ [k]) ↔ x ∈ ks.take j := by simp [c]
              simp only [this]
          rw [e2]
      · have hlk : ¬ lo ∈ A k := by rw [hb] at e; exact of_decide_eq_false e
        refine ⟨.dt (nmD k), ?_⟩
        rw [et]
        array_mem_dec
        have e2 : (List.map (fun x => D.lst (List.map nmD (if x ∈ ks.take j then B x else A x))) ks) = ks.map fun x => D.lst (List.map nmD (if x ∈ ks.take j ++ [k] then B x else A x)) := by
          apply List.map_congr_left
          intro x hx
          by_cases c : x = k
          · subst c
            rw [if_neg nk, if_pos (by simp)]
            show _ = D.lst (List.map nmD (if lo ∈ A x then _ else A x))
            rw [if_neg hlk]
          · have : (x ∈ ks.take j ++ [k]) ↔ x ∈ ks.take j := by simp [c]
            simp only [this]
        rw [e2]
    · rintro ρ ⟨s3, rfl⟩
      array_mem_dec
      refine ⟨s3, ?_⟩
      rw [e1]
      have e2 : (List.map (fun k => D.lst (List.map nmD (if k ∈ ks.take ks.length then B k else A k))) ks) = ks.map (abvD ks (ps.take i ++ [(lo, hi)])) := by
        apply List.map_congr_left
        intro x hx
        rw [List.take_length, if_pos hx]
        unfold abvD
        rw [abv_snoc ks _ lo hi x hlo hhi, hA]
      rw [e2]
  · rintro ρ ⟨s3, rfl⟩
    rw [List.length_map, List.take_length]
    simp only [frz_S, frz_od]
    refine wp_ret ?_
    array_get_dec
end KL

namespace KL
open PySem L2 KD
theorem eq_unit {P : D → Prop} (x : D) (xs : List D) (hpl : D.plains (x :: xs) = true) (h : P (.bl false)) : Ok (gEq (.tup (x :: xs)) (.tup [])) P := by
  rw [ok_eq]
  refine ⟨?_, ?_⟩
  · unfold eqOk
    have hpl' : D.plain (.tup (x :: xs)) = true := by rw [D.plain]; exact hpl
    rw [hpl']
    simp [D.plain, D.plains, D.dep, D.deps]
  · have : eqD (.tup (x :: xs)) (.tup []) = false := by simp [eqD, D.py, D.pys, PyData.eqv, PyData.eqvAll]
    rw [this]; exact h
mutual
theorem Tm.plain : ∀ t : Tm, t.d.plain = true
  | .v nm => by rw [Tm.d]; exact plain_nm nm
  | .n nm ps => by rw [Tm.d, D.plain, D.plains, plain_nm, Tm.plains ps]; rfl
theorem Tm.plains : ∀ ts : List Tm, D.plains (Tm.ds ts) = true
  | [] => by simp [Tm.ds, D.plains]
  | t :: ts => by rw [Tm.ds, D.plains, Tm.plain t, Tm.plains ts]; rfl
end
theorem ok_size {ss : List Sym} (hs : SigOk ss) : ∀ (f : Nat) (t : Tm), t.dep < f → t.cnt ≤ 100000 → t.wf ss → Ok (den_signature_size f [sigO ss, t.d]) fun d => d = natD t.cnt
  | 0, t, h, _, _ => by omega
  | f + 1, .v nm, h, hc, hw => by simp [Tm.wf] at hw
  | f + 1, .n nm ps, h, hc, hw => by
    rw [Tm.wf, Tm.wfs_iff] at hw
    obtain ⟨⟨s, ms, hnm, hpl⟩, hws⟩ := hw
    have hp3 := sym_len hs ms
    have hps : ∀ p ∈ ps, p.dep < f ∧ p.cnt ≤ 100000 := fun p hp => by
      have h1 := Tm.deps_le hp
      rw [Tm.dep] at h
      rw [Tm.cnt_n] at hc
      have h2 : p.cnt ≤ (ps.map Tm.cnt).sum := le_sum (List.mem_map.mpr ⟨p, hp, rfl⟩)
      omega
    have hpn : D.plains (nmD nm :: ps.map Tm.d) = true := by rw [D.plains, plain_nm, ← Tm.ds_map, Tm.plains ps]; rfl
    show Ok (runD 3 (b_signature_size (den_signature_size f)) [sigO ss, (Tm.n nm ps).d]) _
    refine ok_run ?_
    unfold b_signature_size
    rw [Tm.d_n]
    array_mem_dec
    refine wp_seq (wp_if ?_)
    array_get_dec
    rw [ok_dIsi]
    array_get_dec
    rw [isi_tt, ok_ok]
    array_get_dec
    refine ⟨fun q => by simp at q, fun _ => ?_⟩
    refine eq_unit _ _ hpn ?_
    array_get_dec
    refine ⟨fun q => by simp at q, fun _ => ?_⟩
    rw [ok_dIsi]
    array_get_dec
    rw [isi_nm, ok_ok]
    array_get_dec
    refine ⟨fun q => by simp at q, fun _ => wp_nil (wp_seq (wp_if ?_))⟩
    array_get_dec
    rw [ok_dFld]
    array_get_dec
    rw [fld_numbers, ok_ok]
    refine nDicNotIn ⟨s, ms, hnm⟩ ?_
    array_get_dec
    refine ⟨fun q => by simp at q, fun _ => ?_⟩
    rw [ok_dMeth]
    array_get_dec
    rw [self_sig _ _ (by decide +kernel) (by decide +kernel), ok_ok]
    subst hnm
    refine (ok_places hs ms).imp ?_
    rintro _ rfl
    array_get_dec
    refine ⟨fun q => by simp at q; omega, fun _ => wp_nil (wp_ret ?_)⟩
    array_get_dec
    refine ok_compP (zs := ps) (g := Tm.d) (fun p => natD p.cnt) ?_ (by omega) ?_ ?_
    · array_get_dec
      rw [drop1]
    · intro p hp
      refine ⟨_, rfl, rfl, ?_⟩
      unfold cc_signature_size_1
      array_mem_dec
      rw [ok_dMeth]
      array_get_dec
      rw [self_sig _ _ (by decide +kernel) (by decide +kernel), ok_ok]
      exact ok_size hs f p (hps p hp).1 (hps p hp).2 (hws p hp)
    array_get_dec
    rw [show ps.map (fun p => natD p.cnt) = (ps.map Tm.cnt).map natD by rw [List.map_map]; rfl, nSum]
    array_get_dec
    rw [Tm.cnt_n]
end KL

namespace KL
open PySem L2 KD
/-! ### choices -/
def chStep {α : Type} (acc : List (List α)) (row : List α) : List (List α) := acc.flatMap fun m => row.map fun x => m ++ [x]
def chs {α : Type} (ls : List (List α)) : List (List α) := ls.foldl chStep [[]]
theorem chs_snoc {α : Type} (ls : List (List α)) (l : List α) : chs (ls ++ [l]) = chStep (chs ls) l := by
  unfold chs
  rw [List.foldl_append]
  rfl
/-- one item of each list -/
inductive Picks {α : Type} : List (List α) → List α → Prop
  | nil : Picks [] []
  | snoc {ls : List (List α)} {l m : List α} {x : α} : Picks ls m → x ∈ l → Picks (ls ++ [l]) (m ++ [x])
theorem list_snoc {α : Type} (l : List α) : l = [] ∨ ∃ m x, l = m ++ [x] := by
  rcases l.eq_nil_or_concat with h | ⟨m, x, h⟩
  · exact .inl h
  · exact .inr ⟨m, x, by simpa using h⟩
theorem mem_chStep {α : Type} {acc : List (List α)} {row m : List α} : m ∈ chStep acc row ↔ ∃ a ∈ acc, ∃ x ∈ row, m = a ++ [x] := by
  unfold chStep
  rw [List.mem_flatMap]
  constructor
  · rintro ⟨a, ha, h⟩
    obtain ⟨x, hx, e⟩ := List.mem_map.mp h
    exact ⟨a, ha, x, hx, e.symm⟩
  · rintro ⟨a, ha, x, hx, e⟩
    exact ⟨a, ha, List.mem_map.mpr ⟨x, hx, e.symm⟩⟩
theorem mem_chs_rep {α : Type} {ks : List α} : ∀ (n : Nat) (m : List α), m ∈ chs (List.replicate n ks) ↔ m.length = n ∧ ∀ x ∈ m, x ∈ ks
  | 0, m => by
    simp [chs]
    intro h
    subst h
    simp
  | n + 1, m => by
    rw [List.replicate_succ', chs_snoc, mem_chStep]
    constructor
    · rintro ⟨a, ha, x, hx, rfl⟩
      obtain ⟨h1, h2⟩ := (mem_chs_rep n a).mp ha
      refine ⟨by simp [h1], fun y hy => ?_⟩
      rcases List.mem_append.mp hy with h | h
      · exact h2 y h
      · simp at h; subst h; exact hx
    · rintro ⟨h1, h2⟩
      rcases list_snoc m with e | ⟨a, x, rfl⟩
      · subst e; simp at h1
      · exact ⟨a, (mem_chs_rep n a).mpr ⟨by simpa using h1, fun y hy => h2 y (List.mem_append.mpr (.inl hy))⟩, x, h2 x (by simp), rfl⟩
theorem chStep_len {α : Type} (acc : List (List α)) (row : List α) : (chStep acc row).length = acc.length * row.length := by
  unfold chStep
  induction acc with
  | nil => simp
  | cons a acc ih => rw [List.flatMap_cons, List.length_append, ih, List.length_map, List.length_cons, Nat.add_mul, Nat.one_mul, Nat.add_comm]
theorem filter_tt {α : Type} (l : List α) : l.filter (fun _ => true) = l := List.filter_eq_self.mpr fun _ _ => rfl
theorem mem_chs_len {α : Type} : ∀ (n : Nat) (ls : List (List α)) (m : List α), ls.length = n → m ∈ chs ls → m.length = n
  | 0, ls, m, h, hm => by
    have : ls = [] := List.eq_nil_of_length_eq_zero h
    subst this
    simp [chs] at hm
    subst hm
    rfl
  | n + 1, ls, m, h, hm => by
    rcases list_snoc ls with e | ⟨a, x, rfl⟩
    · subst e; simp at h
    · rw [chs_snoc, mem_chStep] at hm
      obtain ⟨q, hq, y, hy, rfl⟩ := hm
      have := mem_chs_len n a q (by simpa using h) hq
      simp [this]
theorem chs_rep_len {α : Type} (ks : List α) : ∀ n, (chs (List.replicate n ks)).length = ks.length ^ n
  | 0 => by simp [chs]
  | n + 1 => by rw [List.replicate_succ', chs_snoc, chStep_len, chs_rep_len ks n, Nat.pow_succ]
theorem ok_choices {α : Type} {f : α → D} (ls : List (List α)) (hl : ls.length ≤ 1000) (h100 : ∀ l ∈ ls, l.length ≤ 100) (hb : ∀ i, i < ls.length → (chs (ls.take i)).length ≤ 100000) :
    Ok (den_choices [.lst (ls.map fun l => .lst (l.map f))]) fun d => d = .lst ((chs ls).map fun m => .tup (m.map f)) := by
  refine ok_run ?_
  unfold b_choices
  array_mem_dec
  refine wp_seq (wp_set ?_)
  array_get_dec
  refine wp_seq (wp_for (fun i ρ => ρ = [.dt (.lst (ls.map fun l => .lst (l.map f))), .dt (.lst ((chs (ls.take i)).map fun m => .tup (m.map f))), .no, .no, .no]) ?_)
  array_get_dec
  refine ⟨rfl, ?_, ?_⟩
  · rintro i d ρ hd rfl
    obtain ⟨l, el, rfl⟩ := map_at hd
    have hi := (List.getElem?_eq_some_iff.mp el).1
    have ml := List.mem_of_getElem? el
    refine ⟨_, rfl, ?_⟩
    unfold lb_choices_2
    array_mem_dec
    refine wp_set ?_
    refine ok_comp2 (g0 := fun m : List α => D.tup (m.map f)) (g1 := f) (chs (ls.take i)) (fun _ => l) (fun _ _ => true) (fun m x => .tup ((m ++ [x]).map f)) ?_ (hb i hi) ?_ ?_
    · array_get_dec
    · intro m hm
      refine ⟨_, rfl, rfl, ?_, h100 l ml, ?_⟩
      · unfold it_choices_1
        array_mem_dec
        array_get_dec
      · intro x hx
        refine ⟨_, rfl, by rw [ok_ok], fun _ => ?_⟩
        unfold cc_choices_1
        array_mem_dec
        array_get_dec
        have := mem_chs_len _ _ m rfl hm
        rw [List.length_take] at this
        refine ⟨line_ok (by omega), ?_⟩
        rw [List.map_append]
        rfl
    · array_mem_dec
      have et : ls.take (i + 1) = ls.take i ++ [l] := by rw [List.take_add_one, el]; rfl
      rw [et, chs_snoc]
      unfold chStep
      rw [List.map_flatMap]
      simp only [filter_tt, List.map_map]
      rfl
  · rintro ρ rfl
    refine wp_ret ?_
    array_get_dec
    rw [List.take_length]
/-! ### entries in order -/
def poss (ks : List Kd) (s : Sym) : List En := (chs (List.replicate s.pl ks)).flatMap fun ps => ks.map fun k => ⟨s.nm, ps, k⟩
theorem mem_poss {ks : List Kd} {s : Sym} {e : En} : e ∈ poss ks s ↔ e.nm = s.nm ∧ e.ps.length = s.pl ∧ (∀ p ∈ e.ps, p ∈ ks) ∧ e.kd ∈ ks := by
  unfold poss
  rw [List.mem_flatMap]
  constructor
  · rintro ⟨ps, hps, h⟩
    obtain ⟨k, hk, rfl⟩ := List.mem_map.mp h
    obtain ⟨h1, h2⟩ := (mem_chs_rep _ _).mp hps
    exact ⟨rfl, h1, h2, hk⟩
  · rintro ⟨h1, h2, h3, h4⟩
    refine ⟨e.ps, (mem_chs_rep _ _).mpr ⟨h2, h3⟩, List.mem_map.mpr ⟨e.kd, h4, ?_⟩⟩
    rw [← h1]
theorem poss_len (ks : List Kd) (s : Sym) (h3 : ks.length ≤ 3) (hp : s.pl ≤ 3) : (poss ks s).length ≤ 81 := by
  have e : (poss ks s).length = ks.length ^ s.pl * ks.length := by
    unfold poss
    rw [← chs_rep_len]
    induction chs (List.replicate s.pl ks) with
    | nil => simp
    | cons a acc ih => rw [List.flatMap_cons, List.length_append, ih, List.length_map, List.length_cons, Nat.add_mul, Nat.one_mul, Nat.add_comm]
  rw [e]
  have h1 : ks.length ^ s.pl ≤ 3 ^ s.pl := Nat.pow_le_pow_left h3 _
  have h2 : 3 ^ s.pl ≤ 3 ^ 3 := Nat.pow_le_pow_right (by omega) hp
  calc ks.length ^ s.pl * ks.length ≤ 27 * 3 := Nat.mul_le_mul (by omega) h3
    _ = 81 := rfl
theorem gSelf_ob {P : D → Prop} {c m : Str} {ns : List Str} {fs : List D} (h : fldD ns fs m = none) : Ok (gSelf c m (.ob c ns fs)) P = P (.ob c ns fs) := by
  unfold gSelf
  dsimp only
  rw [if_pos rfl, h, ok_ok]
theorem self_sigP {P : D → Prop} (m : Str) (ss : List Sym) (h1 : m ≠ "listed") (h2 : m ≠ "numbers") : Ok (gSelf "Signature" m (sigO ss)) P = P (sigO ss) := by rw [self_sig m ss h1 h2, ok_ok]
theorem rep_flat {α : Type} (n : Nat) (x : α) : (List.replicate n [x]).flatten = List.replicate n x := by
  induction n with
  | zero => rfl
  | succ n ih => rw [List.replicate_succ, List.flatten_cons, ih, List.replicate_succ]; rfl
theorem take_rep {α : Type} (i n : Nat) (x : α) (h : i ≤ n) : (List.replicate n x).take i = List.replicate i x := by
  rw [List.take_replicate, Nat.min_eq_left h]
theorem ok_possible {ss : List Sym} (hs : SigOk ss) {s : Sym} (ms : s ∈ ss) (ks : List Kd) (h3 : ks.length ≤ 3) : Ok (den_possible_entries [sigO ss, .lst (ks.map nmD), nmD s.nm]) fun d => d = .lst ((poss ks s).map En.d) := by
  have hp := sym_len hs ms
  refine ok_run ?_
  unfold b_possible_entries
  array_mem_dec
  refine wp_seq (wp_set ?_)
  sizeOf_list_dec
  rw [self_sigP _ _ (by decide) (by decide)]
  refine (ok_places hs ms).imp ?_
  rintro _ rfl
  have e1 : gMul (.lst [.lst (ks.map nmD)]) (natD s.pl) = .ok (.lst (List.replicate s.pl (.lst (ks.map nmD)))) := by
    unfold gMul natD
    dsimp only
    rw [if_pos (by refine ⟨by omega, by omega, by simp⟩), Int.toNat_natCast, rep_flat]
  rw [e1, ok_ok]
  refine wp_ret ?_
  refine ok_comp2 (g0 := fun m : List Kd => D.tup (m.map nmD)) (g1 := nmD) (chs (List.replicate s.pl ks)) (fun _ => ks) (fun _ _ => true) (fun m k => (⟨s.nm, m, k⟩ : En).d) ?_ ?_ ?_ ?_
  · sizeOf_list_dec
    have e2 : List.replicate s.pl (D.lst (ks.map nmD)) = (List.replicate s.pl ks).map fun l => .lst (l.map nmD) := by rw [List.map_replicate]
    rw [e2]
    refine (ok_choices (f := nmD) (List.replicate s.pl ks) (by simp; omega) (fun l hl => by rw [(List.mem_replicate.mp hl).2]; omega) (fun i hi => ?_)).imp ?_
    · rw [List.length_replicate] at hi
      rw [take_rep i s.pl ks (by omega), chs_rep_len]
      have h1 : ks.length ^ i ≤ 3 ^ i := Nat.pow_le_pow_left h3 _
      have h2 : 3 ^ i ≤ 3 ^ 3 := Nat.pow_le_pow_right (by omega) (by omega)
      omega
    · rintro _ rfl
      sizeOf_list_dec
  · rw [chs_rep_len]
    have h1 : ks.length ^ s.pl ≤ 3 ^ s.pl := Nat.pow_le_pow_left h3 _
    have h2 : 3 ^ s.pl ≤ 3 ^ 3 := Nat.pow_le_pow_right (by omega) (by omega)
    omega
  · intro m hm
    refine ⟨_, rfl, rfl, ?_, by omega, ?_⟩
    · unfold it_possible_entries_1
      array_mem_dec
      array_get_dec
    · intro k hk
      refine ⟨_, rfl, by rw [ok_ok], fun _ => ?_⟩
      unfold cc_possible_entries_1
      array_mem_dec
      array_get_dec
      rfl
  · simp only [filter_tt]
    unfold poss
    rw [List.map_flatMap]
    simp only [List.map_map]
    rfl
def canon (ss : List Sym) (ks : List Kd) (es : List En) : List En := ss.flatMap fun s => (poss ks s).filter fun e => decide (e ∈ es)
theorem mem_canon {ss : List Sym} {ks : List Kd} {es : List En} (h : ∀ e ∈ es, e.ok ss ks) {e : En} : e ∈ canon ss ks es ↔ e ∈ es := by
  unfold canon
  rw [List.mem_flatMap]
  constructor
  · rintro ⟨s, ms, hm⟩
    exact of_decide_eq_true (List.mem_filter.mp hm).2
  · intro he
    obtain ⟨s, ms, h1, h2⟩ := (h e he).sy
    exact ⟨s, ms, List.mem_filter.mpr ⟨mem_poss.mpr ⟨h1, h2, (h e he).ps, (h e he).kd⟩, decide_eq_true he⟩⟩
/-- the key of an entry -/
def En.nk (e : En) : NestedKey := .tup [.text (sO e.nm), .tup (e.ps.map fun p => .text (sO p)), .text (sO e.kd)]
theorem nks_nm : ∀ l : List Kd, D.nks (l.map nmD) = some (l.map fun p => NestedKey.text (sO p))
  | [] => rfl
  | p :: l => by
    rw [List.map_cons, List.map_cons]
    show (nmD p).nk.bind _ = _
    rw [nks_nm l]
    rfl
theorem depthAll_text : ∀ l : List Kd, NestedKey.depthAll (l.map fun p => NestedKey.text (sO p)) = 0
  | [] => rfl
  | p :: l => by
    rw [List.map_cons]
    show max _ (NestedKey.depthAll (l.map fun p => NestedKey.text (sO p))) = 0
    rw [depthAll_text l]
    rfl
theorem En.keyOk (e : En) : KD.keyOk e.d = some e.nk := by
  have h1 : e.d.nk = some e.nk := by
    show (D.nks [nmD e.nm, .tup (e.ps.map nmD), nmD e.kd]).map NestedKey.tup = _
    have : D.nks [nmD e.nm, .tup (e.ps.map nmD), nmD e.kd] = some [.text (sO e.nm), .tup (e.ps.map fun p => .text (sO p)), .text (sO e.kd)] := by
      show (nmD e.nm).nk.bind (fun k => ((D.tup (e.ps.map nmD)).nk.bind fun k2 => ((nmD e.kd).nk.bind fun k3 => (some []).map (k3 :: ·)).map (k2 :: ·)).map (k :: ·)) = _
      have e2 : (D.tup (e.ps.map nmD)).nk = some (.tup (e.ps.map fun p => .text (sO p))) := by
        show (D.nks (e.ps.map nmD)).map NestedKey.tup = _
        rw [nks_nm]
        rfl
      rw [e2]
      rfl
    rw [this]
    rfl
  unfold KD.keyOk
  show (D.nk e.d).bind _ = _
  rw [h1]
  have hd : e.nk.depth ≤ 8 := by
    unfold En.nk
    simp [NestedKey.depth, NestedKey.depthAll, depthAll_text]
  show (if e.nk.depth ≤ 8 then some e.nk else none) = _
  rw [if_pos hd]
theorem text_inj : ∀ {l m : List Kd}, (l.map fun p => NestedKey.text (sO p)) = m.map (fun p => NestedKey.text (sO p)) → l = m
  | [], [], _ => rfl
  | [], _ :: _, h => by simp at h
  | _ :: _, [], h => by simp at h
  | a :: l, b :: m, h => by
    simp only [List.map_cons, List.cons.injEq, NestedKey.text.injEq] at h
    rw [sO_inj h.1, text_inj h.2]
theorem En.nk_inj {a b : En} (h : a.nk = b.nk) : a = b := by
  obtain ⟨n1, p1, k1⟩ := a
  obtain ⟨n2, p2, k2⟩ := b
  simp only [En.nk, NestedKey.tup.injEq, List.cons.injEq, NestedKey.text.injEq, and_true] at h
  obtain ⟨h1, h2, h3⟩ := h
  rw [sO_inj h1, text_inj h2, sO_inj h3]
theorem ok_symbolsP {P : D → Prop} (ss : List Sym) (hp : P (.tup (ss.map Sym.d))) : Ok (den_signature_symbols [sigO ss]) P := by
  refine ok_run ?_
  unfold b_signature_symbols
  array_mem_dec
  refine wp_ret ?_
  sizeOf_list_dec
  rw [fld_listed, ok_ok]
  sizeOf_list_dec
  exact hp
theorem cls_sig {P : D → Prop} (ss : List Sym) : Ok (gCls "Signature" (sigO ss)) P = P (sigO ss) := ok_gCls
theorem ok_canon (w : World) {ss : List Sym} (hs : SigOk ss) (ks : List Kd) (h3 : ks.length ≤ 3) (es : List En) (hl : es.length ≤ 1000) : Ok (den_in_canonical_order w [sigO ss, .lst (ks.map nmD), .lst (es.map En.d)]) fun d => d = .lst ((canon ss ks es).map En.d) := by
  refine ok_run ?_
  unfold b_in_canonical_order
  array_mem_dec
  refine wp_seq (wp_dcN (g0 := En.d) (K := En.d) (V := fun _ => .bl true) (q := En.nk) es ?_ (by omega) ?_ ?_)
  · array_get_dec
  · intro e he
    refine ⟨_, rfl, rfl, ?_, ?_, En.keyOk e⟩
    · unfold cc_in_canonical_order_1
      array_mem_dec
      array_get_dec
    · unfold cc_in_canonical_order_2
      array_mem_dec
      array_get_dec
  · intro kks vvs hlook
    array_mem_dec
    refine wp_ret ?_
    have hsl := hs.len
    refine ok_comp2 (g0 := Sym.d) (g1 := En.d) ss (poss ks) (fun _ e => decide (e ∈ es)) (fun _ e => e.d) ?_ (by omega) ?_ ?_
    · sizeOf_list_dec
      rw [cls_sig]
      refine ok_symbolsP ss ?_
      sizeOf_list_dec
    · intro s ms
      refine ⟨_, rfl, rfl, ?_, by have := poss_len ks s h3 (sym_len hs ms); omega, ?_⟩
      · unfold it_in_canonical_order_1
        array_mem_dec
        rw [sym_d s]
        sizeOf_list_dec
        refine (ok_possible hs ms ks h3).imp ?_
        rintro _ rfl
        sizeOf_list_dec
      · intro e he
        refine ⟨_, rfl, ?_, fun _ => ?_⟩
        · unfold ct_in_canonical_order_3
          array_mem_dec
          rw [ok_dTest]
          refine ok_dInN false rfl ?_
          sizeOf_list_dec
          refine ⟨_, En.keyOk e, ?_⟩
          have : (lookN kks vvs e.nk).isSome = decide (e ∈ es) := by
            rw [Bool.eq_iff_iff, hlook, decide_eq_true_iff]
            constructor
            · rintro ⟨z, mz, ez⟩
              rw [← En.nk_inj ez]
              exact mz
            · intro h
              exact ⟨e, h, rfl⟩
          rw [this]
          simp
        · unfold cc_in_canonical_order_3
          array_mem_dec
          array_get_dec
    · unfold canon
      rw [List.map_flatMap]
end KL

namespace KL
open PySem L2 KD
/-! ### books -/
structure Bk where
  ss : List Sym
  ks : List Kd
  ps : List (Kd × Kd)
  es : List En
noncomputable def Bk.up (B : Bk) (k : Kd) : List Kd := abv B.ks B.ps k
noncomputable def Bk.d (B : Bk) : D := .ob "Book" ["base", "names", "above", "rows"] [sigO B.ss, .lst (B.ks.map nmD), .dic (B.ks.map nmD) (B.ks.map (abvD B.ks B.ps)), .lst (B.es.map En.d)]
structure Bk.ok (B : Bk) : Prop where
  ss : SigOk B.ss
  kn : B.ks.Nodup
  k3 : B.ks.length ≤ 3
  low : ∀ p ∈ B.ps, p.1 ∈ B.ks ∧ p.2 ∈ B.ks
  es : ∀ e ∈ B.es, e.ok B.ss B.ks
  el : B.es.length ≤ 10000
def Tab.bk (T : Tab) : Bk := ⟨T.ss, T.ks, T.ps, canon T.ss T.ks T.es⟩
theorem sum_le_mul {α : Type} {f : α → Nat} {b : Nat} : ∀ {xs : List α}, (∀ x ∈ xs, f x ≤ b) → (xs.map f).sum ≤ b * xs.length
  | [], _ => by simp
  | x :: xs, h => by
    have h1 := h x List.mem_cons_self
    have h2 := sum_le_mul (f := f) (b := b) (xs := xs) fun y hy => h y (List.mem_cons_of_mem _ hy)
    rw [List.map_cons, List.sum_cons, List.length_cons, Nat.mul_add]
    omega
theorem canon_len {ss : List Sym} (hs : SigOk ss) {ks : List Kd} (h3 : ks.length ≤ 3) (es : List En) : (canon ss ks es).length ≤ 81 * ss.length := by
  unfold canon
  rw [List.length_flatMap]
  exact sum_le_mul fun s ms => Nat.le_trans (List.length_filter_le _ _) (poss_len ks s h3 (sym_len hs ms))
theorem Tab.ok.bk {T : Tab} (hT : T.ok) : T.bk.ok := by
  refine ⟨hT.ss, hT.kn, hT.k3, hT.low, fun e he => hT.es e ((mem_canon hT.es).mp he), ?_⟩
  have := canon_len hT.ss hT.k3 T.es
  have h6 := hT.s5
  show (canon T.ss T.ks T.es).length ≤ 10000
  omega
section
variable {P : D → Prop} (B : Bk)
theorem self_bk (m : Str) (h : fldD ["base", "names", "above", "rows"] [sigO B.ss, .lst (B.ks.map nmD), .dic (B.ks.map nmD) (B.ks.map (abvD B.ks B.ps)), .lst (B.es.map En.d)] m = none) : Ok (gSelf "Book" m B.d) P = P B.d := gSelf_ob h
theorem fld_base : Ok (gFld "Book" "base" B.d) P = P (sigO B.ss) := by
  have e : gFld "Book" "base" B.d = .ok (sigO B.ss) := rfl
  rw [e, ok_ok]
theorem fld_names : Ok (gFld "Book" "names" B.d) P = P (.lst (B.ks.map nmD)) := by
  have e : gFld "Book" "names" B.d = .ok (.lst (B.ks.map nmD)) := rfl
  rw [e, ok_ok]
theorem fld_above : Ok (gFld "Book" "above" B.d) P = P (.dic (B.ks.map nmD) (B.ks.map (abvD B.ks B.ps))) := by
  have e : gFld "Book" "above" B.d = .ok (.dic (B.ks.map nmD) (B.ks.map (abvD B.ks B.ps))) := rfl
  rw [e, ok_ok]
theorem fld_rows : Ok (gFld "Book" "rows" B.d) P = P (.lst (B.es.map En.d)) := by
  have e : gFld "Book" "rows" B.d = .ok (.lst (B.es.map En.d)) := rfl
  rw [e, ok_ok]
theorem fld_nums (ss : List Sym) : Ok (gFld "Signature" "numbers" (sigO ss)) P = P (.dic (ss.map fun s => nmD s.nm) (numsD ss.length)) := by
  rw [fld_numbers, ok_ok]
end
theorem above_at {B : Bk} {P : D → Prop} {k : Kd} (h : k ∈ B.ks) (hp : P (.lst ((B.up k).map nmD))) : Ok (gIx (.dic (B.ks.map nmD) (B.ks.map (abvD B.ks B.ps))) (nmD k)) P := ix_dic_nm h hp
theorem numsIn {P : D → Prop} {ss : List Sym} {nm : Kd} (hp : P (.bl (!decide (nm ∈ ss.map (·.nm))))) : Ok (gNotIn (nmD nm) (.dic (ss.map fun s => nmD s.nm) (numsD ss.length))) P := by
  by_cases h : nm ∈ ss.map (·.nm)
  · rw [decide_eq_true h] at hp
    obtain ⟨s, ms, e⟩ := List.mem_map.mp h
    exact nDicNotIn ⟨s, ms, e⟩ hp
  · rw [decide_eq_false h] at hp
    have e2 : (ss.map fun s => nmD s.nm) = (ss.map (·.nm)).map nmD := by rw [List.map_map]; rfl
    have e : gIn (nmD nm) (.dic (ss.map fun s => nmD s.nm) (numsD ss.length)) = .ok (.bl false) := by
      unfold gIn
      dsimp only
      rw [key_nm, e2]
      dsimp only
      rw [look_none h]
      rfl
    unfold gNotIn
    rw [e, Rs.bind_ok, ok_ok]
    exact hp
/-- there is such a place -/
def hasPl (ss : List Sym) (ks : List Kd) (nm : Kd) (ps : List Kd) : Bool := ss.any fun s => decide (s.nm = nm) && decide (ps.length = s.pl) && ps.all fun p => decide (p ∈ ks)
theorem ok_has_place (B : Bk) (hs : SigOk B.ss) (nm : Kd) (ps : List Kd) (hl : ps.length ≤ 1000) (q : D) (hq : q = .tup (ps.map nmD) ∨ q = .lst (ps.map nmD)) : Ok (den_book_has_place [B.d, nmD nm, q]) fun d => d = .bl (hasPl B.ss B.ks nm ps) := by
  have hlen : ∀ {P : D → Prop}, Ok (cLen [q]) P = P (natD ps.length) := fun {P} => by
    rcases hq with e | e
    · rw [e, nLenT, List.length_map]
    · rw [e, nLenL, List.length_map]
  have hseq : ∀ {P : List D → Prop}, Ok (asSeq q) P = P (ps.map nmD) := fun {P} => by
    rcases hq with e | e
    · rw [e, ok_seqT]
    · rw [e, ok_seqL]
  refine ok_run ?_
  unfold b_book_has_place
  array_mem_dec
  by_cases hin : ∃ s ∈ B.ss, s.nm = nm
  · obtain ⟨s, ms, rfl⟩ := hin
    have huniq : ∀ s' ∈ B.ss, s'.nm = s.nm → s' = s := fun s' m' e => sym_uniq hs.nd m' ms e
    have hmem : s.nm ∈ B.ss.map (·.nm) := List.mem_map.mpr ⟨s, ms, rfl⟩
    have hval : hasPl B.ss B.ks s.nm ps = (decide (ps.length = s.pl) && ps.all fun p => decide (p ∈ B.ks)) := by
      unfold hasPl
      rw [Bool.eq_iff_iff, List.any_eq_true]
      constructor
      · rintro ⟨s', m', h⟩
        simp only [Bool.and_eq_true, decide_eq_true_eq] at h
        rw [huniq s' m' h.1.1] at h
        rw [decide_eq_true h.1.2, h.2]
        rfl
      · intro h
        refine ⟨s, ms, ?_⟩
        simp only [Bool.and_eq_true, decide_eq_true_eq] at h ⊢
        exact ⟨⟨trivial, h.1⟩, h.2⟩
    rw [hval]
    refine wp_seq (wp_if (Ok.imp (Q := fun b => b = !decide (ps.length = s.pl)) ?_ fun b hb => ⟨fun e => wp_ret ?_, fun e => wp_nil (wp_ret ?_)⟩))
    · sizeOf_list_dec
      rw [fld_base, fld_nums]
      refine numsIn ?_
      rw [decide_eq_true hmem]
      sizeOf_list_dec
      refine ⟨fun z => (by cases z), fun _ => ?_⟩
      rw [hlen, fld_base, self_sigP _ _ (by decide) (by decide)]
      refine (ok_places hs ms).imp ?_
      rintro _ rfl
      sizeOf_list_dec
    · have : ¬ ps.length = s.pl := by rw [hb] at e; simpa using e
      sizeOf_list_dec
      rw [decide_eq_false this]
      rfl
    · have hpl : ps.length = s.pl := by rw [hb] at e; simpa using e
      sizeOf_list_dec
      refine ok_compP (zs := ps) (g := nmD) (fun p => D.bl (decide (p ∈ B.ks))) ?_ (by omega) ?_ ?_
      · rw [ok_itA]
        sizeOf_list_dec
        rw [hseq]
      · intro p hp
        refine ⟨_, rfl, rfl, ?_⟩
        unfold cc_book_has_place_1
        array_mem_dec
        sizeOf_list_dec
        rw [fld_above, inDic]
      · have e2 : (ps.map fun p => D.bl (decide (p ∈ B.ks))) = (ps.map fun p => decide (p ∈ B.ks)).map D.bl := by rw [List.map_map]; rfl
        rw [e2, ok_all, decide_eq_true hpl, List.all_map]
        rfl
  · have hmem : nm ∉ B.ss.map (·.nm) := fun h => by
      obtain ⟨s, ms, e⟩ := List.mem_map.mp h
      exact hin ⟨s, ms, e⟩
    have hval : hasPl B.ss B.ks nm ps = false := by
      unfold hasPl
      rw [List.any_eq_false]
      intro s ms h
      simp only [Bool.and_eq_true, decide_eq_true_eq] at h
      exact hin ⟨s, ms, h.1.1⟩
    rw [hval]
    refine wp_seq (wp_if ?_)
    sizeOf_list_dec
    rw [fld_base, fld_nums]
    refine numsIn ?_
    rw [decide_eq_false hmem]
    sizeOf_list_dec
    refine ⟨fun _ => ⟨fun _ => wp_ret ?_, fun z => (by cases z)⟩, fun z => (by cases z)⟩
    sizeOf_list_dec
theorem ok_book_init (w : World) (x : Addr) {m1 m2 m3 : List D → D} (hm1 : SeqK m1) (hm2 : SeqK m2) (hm3 : SeqK m3) (ss : List Sym) (ks : List Kd) (ps : List (Kd × Kd)) (es : List En) (hs : SigOk ss) (kn : ks.Nodup) (ko : ∀ k ∈ ks, nameOk k) (k3 : ks.length ≤ 3) (hlow : ∀ p ∈ ps, p.1 ∈ ks ∧ p.2 ∈ ks) (hc : ∀ p ∈ ps, ¬ Rch ps p.2 p.1)
    (hes : ∀ e ∈ es, e.ok ss ks) (hl : es.length ≤ 1000) (hpl : ps.length ≤ 1000) (qk qp qe : D) (hqk : qk = m1 (ks.map nmD)) (hqp : qp = m2 (ps.map prD)) (hqe : qe = m3 (es.map En.d)) :
    Ok (den_book_init w x [sigO ss, qk, qp, qe]) fun d => d = (⟨ss, ks, ps, canon ss ks es⟩ : Bk).d := by
  subst hqk hqp hqe
  refine ok_initD ?_
  unfold b_book_init
  array_mem_dec
  refine wp_seq (wp_expr ?_)
  sizeOf_list_dec
  refine (ok_check_kinds hm1 ks kn ko (by omega)).imp ?_
  rintro _ _
  have pu1 : ∀ y, putS [] [] "base" y = ((["base"] : List Str), [y]) := fun _ => rfl
  have pu2 : ∀ a y, putS ["base"] [a] "names" y = ((["base", "names"] : List Str), [a, y]) := fun _ _ => rfl
  have pu3 : ∀ a b y, putS ["base", "names"] [a, b] "above" y = ((["base", "names", "above"] : List Str), [a, b, y]) := fun _ _ _ => rfl
  have pu4 : ∀ a b c y, putS ["base", "names", "above"] [a, b, c] "rows" y = ((["base", "names", "above", "rows"] : List Str), [a, b, c, y]) := fun _ _ _ _ => rfl
  have pu5 : ∀ a b c d y, putS ["base", "names", "above", "rows"] [a, b, c, d] "rows" y = ((["base", "names", "above", "rows"] : List Str), [a, b, c, y]) := fun _ _ _ _ _ => rfl
  refine wp_seq (wp_fldS rfl ?_)
  sizeOf_list_dec
  rw [pu1]
  refine wp_seq (wp_fldS rfl ?_)
  sizeOf_list_dec
  rw [hm1.lst]
  sizeOf_list_dec
  rw [pu2]
  refine wp_seq (wp_fldS rfl ?_)
  sizeOf_list_dec
  refine ok_dFldO rfl ⟨_, rfl, ?_⟩
  refine (ok_kinds_above hm2 ks ps kn (by omega) hlow hc).imp ?_
  rintro _ rfl
  rw [pu3]
  refine wp_seq (wp_fldS rfl ?_)
  sizeOf_list_dec
  rw [pu4]
  refine wp_seq (wp_new ?_)
  array_mem_dec
  let B0 : Bk := ⟨ss, ks, ps, []⟩
  refine wp_cut (fun ρ => ρ = [.oo (some x) "Book" ["base", "names", "above", "rows"] [sigO ss, .lst (ks.map nmD), .dic (ks.map nmD) (ks.map (abvD ks ps)), .lst []], .dt (sigO ss), .dt (m1 (ks.map nmD)), .dt (m2 (ps.map prD)), .dt (m3 (es.map En.d)), .ol (es.map En.d), .no, .no, .no]) (wp_for (fun i ρ => ρ = [.oo (some x) "Book" ["base", "names", "above", "rows"] [sigO ss, .lst (ks.map nmD), .dic (ks.map nmD) (ks.map (abvD ks ps)), .lst []], .dt (sigO ss), .dt (m1 (ks.map nmD)), .dt (m2 (ps.map prD)), .dt (m3 (es.map En.d)), .ol ((es.take i).map En.d), .no, .no, .no]) ?_) ?_
  · sizeOf_list_dec
    rw [hm3.seq]
    refine ⟨rfl, ?_, ?_⟩
    · rintro i d ρ hd rfl
      obtain ⟨e, ee, rfl⟩ := map_at hd
      have me := List.mem_of_getElem? ee
      have eok := hes e me
      obtain ⟨s, ms, h1, h2⟩ := eok.sy
      have hp3 := sym_len hs ms
      refine ⟨_, rfl, ?_⟩
      unfold lb_book_init_1
      simp only [setsE]
      array_mem_dec
      refine wp_seq (wp_if (Ok.imp (Q := fun b => b = false) ?_ fun b hb => ⟨fun q => (by rw [hb] at q; cases q), fun _ => wp_nil (wp_app ?_)⟩))
      · sizeOf_list_dec
        show Ok (gSelf "Book" "has_place" B0.d) _
        rw [self_bk B0 "has_place" (by rfl)]
        refine (ok_has_place B0 hs e.nm e.ps (by omega) _ (.inl rfl)).imp ?_
        rintro _ rfl
        have hv : hasPl B0.ss B0.ks e.nm e.ps = true := by
          unfold hasPl
          rw [List.any_eq_true]
          refine ⟨s, ms, ?_⟩
          simp only [Bool.and_eq_true, decide_eq_true_eq]
          exact ⟨⟨h1.symm, h2⟩, List.all_eq_true.mpr fun p hp => decide_eq_true (eok.ps p hp)⟩
        rw [hv]
        sizeOf_list_dec
        refine ⟨fun z => (by simp at z), fun _ => ?_⟩
        show Ok (gFld "Book" "above" B0.d) _
        rw [fld_above, notInDic]
        sizeOf_list_dec
        simpa using eok.kd
      · sizeOf_list_dec
        refine ⟨by rw [List.length_take]; omega, ?_⟩
        array_mem_dec
        have et : es.take (i + 1) = es.take i ++ [e] := by rw [List.take_add_one, ee]; rfl
        rw [et, List.map_append]
        rfl
    · rintro ρ rfl
      rw [List.length_map, List.take_length]
  · rintro ρ rfl
    simp only [frz_S, frz_ol]
    refine wp_fldS rfl ?_
    sizeOf_list_dec
    refine ok_dFldO rfl ⟨_, rfl, ?_⟩
    refine (ok_canon w hs ks k3 es hl).imp ?_
    rintro _ rfl
    rw [pu5]
    exact ⟨_, _, rfl, rfl⟩
theorem ok_dMakeS {chk : List D → Rs D} {fa : Ev → Rs D} {ρ : Ev} {P : D → Prop} : Ok (dMakeS chk fa ρ) P = Ok (fa ρ) fun d => Ok (mkS chk d) P := by unfold dMakeS; rw [ok_bind]
theorem mkSig {P : D → Prop} {ss : List Sym} (h : SigOk ss) (hp : P (sigO ss)) : Ok (mkS den_check_symbol (.lst (ss.map Sym.d))) P := by
  have e : mkS den_check_symbol (.lst (ss.map Sym.d)) = .ok (sigO ss) := den_sig h
  rw [e, ok_ok]
  exact hp
theorem ok_book (w : World) (T : Tab) (hT : T.ok) : Ok (den_l_book w [T.d]) fun d => d = T.bk.d := by
  refine ok_run ?_
  unfold b_l_book
  array_mem_dec
  refine wp_ret ?_
  rw [tab_d]
  sizeOf_list_dec
  rw [ok_dMakeS]
  sizeOf_list_dec
  refine mkSig hT.ss ?_
  have hel := hT.el
  have hpl := hT.pl
  refine ok_mkD (fun x => ok_book_init w x seqL seqL seqL T.ss T.ks T.ps T.es hT.ss hT.kn hT.kok hT.k3 hT.low (fun p hp => no_circle hT hp) hT.es (by omega) (by omega) _ _ _ rfl rfl rfl) rfl
end KL

namespace KL
open PySem L2 KD
/-! ### kinds by a book -/
noncomputable def Bk.cl (B : Bk) (xs : List Kd) : List Kd := B.ks.filter fun h => xs.any fun l => decide (h ∈ B.up l)
theorem ok_closed (B : Bk) (hk : B.ks.length ≤ 3) (xs : List Kd) (hx : ∀ x ∈ xs, x ∈ B.ks) (hl : xs.length ≤ 100000) : Ok (den_book_closed [B.d, .lst (xs.map nmD)]) fun d => d = kdD (B.cl xs) := by
  refine ok_run ?_
  unfold b_book_closed
  array_mem_dec
  refine wp_ret ?_
  sizeOf_list_dec
  refine ok_compFP (zs := B.ks) (g := nmD) (fun h => xs.any fun l => decide (h ∈ B.up l)) nmD ?_ (by omega) ?_ ?_
  · sizeOf_list_dec
    rw [fld_names]
    sizeOf_list_dec
  · intro h hh
    refine ⟨_, rfl, ?_, fun _ => ?_⟩
    · unfold ct_book_closed_2
      array_mem_dec
      sizeOf_list_dec
      refine ok_compP (zs := xs) (g := nmD) (fun l => D.bl (decide (h ∈ B.up l))) ?_ (by omega) ?_ ?_
      · sizeOf_list_dec
      · intro l hl
        refine ⟨_, rfl, rfl, ?_⟩
        unfold cc_book_closed_1
        array_mem_dec
        sizeOf_list_dec
        rw [fld_above]
        refine above_at (hx l hl) ?_
        rw [nmIn]
      · have e2 : (xs.map fun l => D.bl (decide (h ∈ B.up l))) = (xs.map fun l => decide (h ∈ B.up l)).map D.bl := by rw [List.map_map]; rfl
        rw [e2, ok_any]
        sizeOf_list_dec
        rw [List.any_map]
        rfl
    · unfold cc_book_closed_2
      array_mem_dec
      sizeOf_list_dec
  · sizeOf_list_dec
    rfl
noncomputable def Bk.fitAt (B : Bk) (ps : List Kd) (sets : List (List Kd)) (i : Nat) : Bool := (sets.getD i []).any fun k => decide (ps.getD i [] ∈ B.up k)
noncomputable def Bk.suit (B : Bk) (ps : List Kd) (sets : List (List Kd)) : Bool := (List.range ps.length).all (B.fitAt ps sets)
theorem range_take (n : Nat) : ∀ i, i ≤ n → (List.range n).take i = List.range i := fun i h => by
  rw [List.take_range, Nat.min_eq_left h]
theorem ok_suits (B : Bk) (ps : List Kd) (sets : List (List Kd)) (hps : ps.length ≤ 1000) (hl : ps.length ≤ sets.length) (hs : ∀ S ∈ sets, (∀ x ∈ S, x ∈ B.ks) ∧ S.length ≤ 100000) : Ok (den_book_suits [B.d, .tup (ps.map nmD), .lst (sets.map kdD)]) fun d => d = .bl (B.suit ps sets) := by
  refine ok_run ?_
  unfold b_book_suits
  array_mem_dec
  refine wp_seq (wp_for (fun i ρ => ρ = [.dt B.d, .dt (.tup (ps.map nmD)), .dt (.lst (sets.map kdD)), .no, .no] ∧ (List.range i).all (B.fitAt ps sets) = true) ?_)
  sizeOf_list_dec
  refine ⟨by omega, by simp, ?_, ?_⟩
  · rintro i d ρ hd ⟨rfl, hall⟩
    obtain ⟨hi, rfl⟩ := rng_at hd
    refine ⟨_, rfl, ?_⟩
    unfold lb_book_suits_1
    array_mem_dec
    obtain ⟨S, eS, mS⟩ := at_lt (xs := sets) (k := i) (by omega)
    have hval : B.fitAt ps sets i = S.any fun k => decide (ps.getD i [] ∈ B.up k) := by
      unfold Bk.fitAt
      rw [List.getD_eq_getElem?_getD, eS]
      rfl
    refine wp_if (Ok.imp (Q := fun b => b = !B.fitAt ps sets i) ?_ fun b hb => ⟨fun e => wp_ret ?_, fun e => wp_nil ⟨rfl, ?_⟩⟩)
    · sizeOf_list_dec
      refine ok_compP (zs := S) (g := nmD) (fun k => D.bl (decide (ps.getD i [] ∈ B.up k))) ?_ (by have := (hs S mS).2; omega) ?_ ?_
      · sizeOf_list_dec
        rw [nIxM]
        refine ⟨S, eS, ?_⟩
        unfold kdD
        sizeOf_list_dec
      · intro k hk
        refine ⟨_, rfl, rfl, ?_⟩
        unfold cc_book_suits_1
        array_mem_dec
        sizeOf_list_dec
        rw [nIxMT]
        refine ⟨_, getD_at hi, ?_⟩
        rw [fld_above]
        refine above_at ((hs S mS).1 k hk) ?_
        rw [nmIn]
      · have e2 : (S.map fun l => D.bl (decide (ps.getD i [] ∈ B.up l))) = (S.map fun l => decide (ps.getD i [] ∈ B.up l)).map D.bl := by rw [List.map_map]; rfl
        rw [e2, ok_any]
        sizeOf_list_dec
        rw [hval, List.any_map]
        rfl
    · sizeOf_list_dec
      have : B.fitAt ps sets i = false := by rw [hb] at e; simpa using e
      congr 1
      unfold Bk.suit
      symm
      rw [List.all_eq_false]
      exact ⟨i, by simpa using hi, by rw [this]; simp⟩
    · have : B.fitAt ps sets i = true := by rw [hb] at e; simpa using e
      rw [List.range_succ, List.all_append, hall]
      simp [this]
  · rintro ρ ⟨rfl, hall⟩
    refine wp_ret ?_
    sizeOf_list_dec
    unfold Bk.suit
    rw [hall]
noncomputable def Bk.comb (B : Bk) (nm : Kd) (sets : List (List Kd)) : List Kd := B.cl ((B.es.filter fun e => decide (e.nm = nm) && B.suit e.ps sets).map (·.kd))
theorem ok_bcombine (B : Bk) (hB : B.ok) {s : Sym} (ms : s ∈ B.ss) (sets : List (List Kd)) (hl : s.pl ≤ sets.length) (hs : ∀ S ∈ sets, (∀ x ∈ S, x ∈ B.ks) ∧ S.length ≤ 100000) : Ok (den_book_combine [B.d, nmD s.nm, .lst (sets.map kdD)]) fun d => d = kdD (B.comb s.nm sets) := by
  have hel := hB.el
  refine ok_run ?_
  unfold b_book_combine
  array_mem_dec
  refine wp_seq (wp_expr ?_)
  sizeOf_list_dec
  rw [fld_base, self_sigP _ _ (by decide) (by decide)]
  refine (ok_number ⟨s, ms, rfl⟩).imp ?_
  rintro _ _
  refine wp_ret ?_
  sizeOf_list_dec
  rw [self_bk B "closed" (by rfl)]
  refine ok_compFP (zs := B.es) (g := En.d) (fun e => decide (e.nm = s.nm) && B.suit e.ps sets) (fun e => nmD e.kd) ?_ (by omega) ?_ ?_
  · sizeOf_list_dec
    rw [fld_rows]
    sizeOf_list_dec
  · intro e he
    obtain ⟨s', ms', h1, h2⟩ := (hB.es e he).sy
    have hp3 := sym_len hB.ss ms'
    refine ⟨_, rfl, ?_, fun _ => ?_⟩
    · unfold ct_book_combine_1 En.d
      array_mem_dec
      sizeOf_list_dec
      refine ⟨fun z => ?_, fun z => by rw [z]; rfl⟩
      have z' : e.nm = s.nm := by simpa using z
      have : s' = s := sym_uniq hB.ss.nd ms' ms (h1.symm.trans z')
      subst this
      rw [self_bk B "suits" (by rfl)]
      refine (ok_suits B e.ps sets (by omega) (by omega) hs).imp ?_
      rintro _ rfl
      sizeOf_list_dec
      rw [z]
      rfl
    · unfold cc_book_combine_1 En.d
      array_mem_dec
      sizeOf_list_dec
  · have e2 : ((B.es.filter fun e => decide (e.nm = s.nm) && B.suit e.ps sets).map fun e => nmD e.kd) = ((B.es.filter fun e => decide (e.nm = s.nm) && B.suit e.ps sets).map (·.kd)).map nmD := by rw [List.map_map]; rfl
    rw [e2]
    refine (ok_closed B hB.k3 _ ?_ ?_).imp ?_
    · intro x hx
      obtain ⟨e, me, rfl⟩ := List.mem_map.mp hx
      exact (hB.es e (List.mem_filter.mp me).1).kd
    · rw [List.length_map]
      have := List.length_filter_le (fun e : En => decide (e.nm = s.nm) && B.suit e.ps sets) B.es
      omega
    · rintro _ rfl
      rfl
theorem cl_sub (B : Bk) (xs : List Kd) : ∀ x ∈ B.cl xs, x ∈ B.ks := fun x h => (List.mem_filter.mp h).1
theorem cl_len (B : Bk) (xs : List Kd) : (B.cl xs).length ≤ B.ks.length := List.length_filter_le _ _
theorem mem_cl (B : Bk) {xs : List Kd} {x : Kd} : x ∈ B.cl xs ↔ x ∈ B.ks ∧ ∃ l ∈ xs, x ∈ B.up l := by
  unfold Bk.cl
  rw [List.mem_filter, List.any_eq_true]
  simp
/-- all kinds above belong to it -/
def Bk.Up (B : Bk) (S : List Kd) : Prop := ∀ x ∈ S, ∀ y ∈ B.up x, y ∈ S
theorem cl_up (B : Bk) (xs : List Kd) : B.Up (B.cl xs) := fun x hx y hy => by
  obtain ⟨h1, l, hl, h2⟩ := (mem_cl B).mp hx
  obtain ⟨k1, k2⟩ := mem_abv.mp hy
  exact (mem_cl B).mpr ⟨k1, l, hl, mem_abv.mpr ⟨k1, (mem_abv.mp h2).2.trans k2⟩⟩
/-! ### kinds of terms -/
mutual
noncomputable def Bk.kds (B : Bk) : Tm → List Kd
  | .v _ => []
  | .n nm ps => B.comb nm (Bk.kdss B ps)
noncomputable def Bk.kdss (B : Bk) : List Tm → List (List Kd)
  | [] => []
  | t :: ts => B.kds t :: Bk.kdss B ts
end
theorem Bk.kdss_map (B : Bk) : ∀ ts : List Tm, Bk.kdss B ts = ts.map B.kds
  | [] => by simp [Bk.kdss]
  | t :: ts => by simp [Bk.kdss, Bk.kdss_map B ts]
theorem kds_n (B : Bk) (nm : Kd) (ps : List Tm) : B.kds (.n nm ps) = B.comb nm (ps.map B.kds) := by rw [Bk.kds, Bk.kdss_map]
theorem kds_sub (B : Bk) : ∀ t : Tm, ∀ x ∈ B.kds t, x ∈ B.ks
  | .v _, x, h => by simp [Bk.kds] at h
  | .n nm ps, x, h => by rw [kds_n] at h; exact cl_sub B _ x h
theorem kds_len (B : Bk) : ∀ t : Tm, (B.kds t).length ≤ B.ks.length
  | .v _ => by simp [Bk.kds]
  | .n nm ps => by rw [kds_n]; exact cl_len B _
theorem kds_up (B : Bk) : ∀ t : Tm, B.Up (B.kds t)
  | .v _ => fun x h => by simp [Bk.kds] at h
  | .n nm ps => by rw [kds_n]; exact cl_up B _
theorem wf_n {ss : List Sym} {nm : Kd} {ps : List Tm} (h : (Tm.n nm ps).wf ss) : (∃ s ∈ ss, s.nm = nm ∧ ps.length = s.pl) ∧ ∀ p ∈ ps, p.wf ss := ⟨h.1, (Tm.wfs_iff ss ps).mp h.2⟩
theorem ok_told_kinds (B : Bk) (hB : B.ok) : ∀ (f : Nat) (t : Tm), t.dep < f → t.wf B.ss → Ok (den_book_told_kinds f [B.d, t.d]) fun d => d = kdD (B.kds t)
  | 0, t, h, _ => by omega
  | f + 1, .v _, _, hw => hw.elim
  | f + 1, .n nm ps, hd, hw => by
    obtain ⟨⟨s, ms, h1, h2⟩, hps⟩ := wf_n hw
    subst h1
    have hk3 := hB.k3
    have hp3 := sym_len hB.ss ms
    have hdp : ∀ p ∈ ps, p.dep < f := fun p hp => by
      have := Tm.deps_le hp
      simp only [Tm.dep] at hd
      omega
    show Ok (runD 3 (b_book_told_kinds (den_book_told_kinds f)) _) _
    refine ok_run ?_
    unfold b_book_told_kinds
    rw [Tm.d_n]
    array_mem_dec
    refine wp_ret ?_
    sizeOf_list_dec
    rw [self_bk B "combine" (by rfl)]
    refine ok_compP (zs := ps) (g := Tm.d) (fun p => kdD (B.kds p)) ?_ (by omega) ?_ ?_
    · sizeOf_list_dec
      rw [drop1]
    · intro p hp
      refine ⟨_, rfl, rfl, ?_⟩
      unfold cc_book_told_kinds_1
      array_mem_dec
      sizeOf_list_dec
      rw [self_bk B "told_kinds" (by rfl)]
      exact ok_told_kinds B hB f p (hdp p hp) (hps p hp)
    · have e2 : (ps.map fun p => kdD (B.kds p)) = (ps.map B.kds).map kdD := by rw [List.map_map]; rfl
      rw [e2]
      refine (ok_bcombine B hB ms (ps.map B.kds) (by simp; omega) ?_).imp ?_
      · intro S hS
        obtain ⟨p, mp, rfl⟩ := List.mem_map.mp hS
        exact ⟨kds_sub B p, by have := kds_len B p; omega⟩
      · rintro _ rfl
        rw [kds_n]
theorem ok_kinds_of (B : Bk) (hB : B.ok) (t : Tm) (hd : t.dep < 120) (hc : t.cnt ≤ 100000) (hw : t.wf B.ss) : Ok (den_book_kinds_of [B.d, t.d]) fun d => d = kdD (B.kds t) := by
  refine ok_run ?_
  unfold b_book_kinds_of
  array_mem_dec
  refine wp_seq (wp_expr ?_)
  sizeOf_list_dec
  rw [fld_base, self_sigP _ _ (by decide) (by decide)]
  refine (ok_size hB.ss 120 t hd hc hw).imp ?_
  rintro _ _
  refine wp_ret ?_
  sizeOf_list_dec
  rw [self_bk B "told_kinds" (by rfl)]
  exact ok_told_kinds B hB 120 t hd hw
noncomputable def Bk.low (B : Bk) (xs : List Kd) (k : Kd) : Bool := xs.all fun h => decide (h ∈ B.up k)
noncomputable def Bk.least (B : Bk) (xs : List Kd) : Option Kd := xs.find? (B.low xs)
def optD : Option Kd → D
  | some k => nmD k
  | none => .non
theorem ok_least_kind (B : Bk) (hB : B.ok) (t : Tm) (hd : t.dep < 120) (hc : t.cnt ≤ 100000) (hw : t.wf B.ss) : Ok (den_book_least_kind [B.d, t.d]) fun d => d = optD (B.least (B.kds t)) := by
  have hk3 := hB.k3
  have hkl := kds_len B t
  refine ok_run ?_
  unfold b_book_least_kind
  array_mem_dec
  refine wp_seq (wp_set ?_)
  sizeOf_list_dec
  rw [self_bk B "kinds_of" (by rfl)]
  refine (ok_kinds_of B hB t hd hc hw).imp ?_
  rintro _ rfl
  have hsub := kds_sub B t
  generalize B.kds t = xs at hkl hsub ⊢
  refine wp_seq (wp_for (fun i ρ => ρ = [.dt B.d, .dt t.d, .dt (kdD xs), .no, .no] ∧ (xs.take i).find? (B.low xs) = none) ?_)
  sizeOf_list_dec
  rw [show kdD xs = .tup (xs.map nmD) from rfl]
  sizeOf_list_dec
  refine ⟨by simp, ?_, ?_⟩
  · rintro i d ρ hd ⟨rfl, hn⟩
    obtain ⟨k, ek, rfl⟩ := map_at hd
    have mk := List.mem_of_getElem? ek
    have hi := (List.getElem?_eq_some_iff.mp ek).1
    have et : xs.take (i + 1) = xs.take i ++ [k] := by rw [List.take_add_one, ek]; rfl
    refine ⟨_, rfl, ?_⟩
    unfold lb_book_least_kind_1
    array_mem_dec
    refine wp_if (Ok.imp (Q := fun b => b = B.low xs k) ?_ fun b hb => ⟨fun e => wp_ret ?_, fun e => wp_nil ⟨rfl, ?_⟩⟩)
    · sizeOf_list_dec
      refine ok_compP (zs := xs) (g := nmD) (fun h => D.bl (decide (h ∈ B.up k))) ?_ (by omega) ?_ ?_
      · sizeOf_list_dec
      · intro h hh
        refine ⟨_, rfl, rfl, ?_⟩
        unfold cc_book_least_kind_1
        array_mem_dec
        sizeOf_list_dec
        rw [fld_above]
        refine above_at (hsub k mk) ?_
        rw [nmIn]
      · have e2 : (xs.map fun l => D.bl (decide (l ∈ B.up k))) = (xs.map fun l => decide (l ∈ B.up k)).map D.bl := by rw [List.map_map]; rfl
        rw [e2, ok_all]
        sizeOf_list_dec
        rw [List.all_map]
        rfl
    · sizeOf_list_dec
      have h1 : B.low xs k = true := by rw [← hb]; exact e
      have : B.least xs = some k := by
        unfold Bk.least
        generalize B.low xs = p at hn h1
        rw [← List.take_append_drop (i + 1) xs, List.find?_append, et, List.find?_append, hn]
        simp [h1]
      rw [this]
      rfl
    · have h1 : B.low xs k = false := by rw [← hb]; exact e
      rw [et, List.find?_append, hn]
      simp [h1]
  · rintro ρ ⟨rfl, hn⟩
    refine wp_ret ?_
    sizeOf_list_dec
    unfold Bk.least
    rw [List.take_length] at hn
    rw [hn]
    rfl
end KL

namespace KL
open PySem L2 KD
/-! ### the law's kinds are the book's -/
theorem up_eq {T : Tab} (hT : T.ok) {k : Kd} (hk : k ∈ T.ks) : T.bk.up k = T.up k := by
  show abv T.ks T.ps k = _
  unfold abv Tab.up
  apply List.filter_congr
  intro x hx
  rw [decide_eq_decide, upIt_iff (fun p hp => (hT.low p hp).2) hk]
theorem up_self (B : Bk) {k : Kd} (hk : k ∈ B.ks) : k ∈ B.up k := mem_abv.mpr ⟨hk, .refl⟩
theorem fits_iff (e : En) (nm : Kd) (sets : List (List Kd)) : e.fits nm sets = true ↔ e.nm = nm ∧ ∀ i, i < e.ps.length → e.ps.getD i [] ∈ sets.getD i [] := by
  unfold En.fits En.fitAt
  simp only [Bool.and_eq_true, decide_eq_true_eq, List.all_eq_true, List.mem_range]
  constructor
  · rintro ⟨h1, h2⟩
    exact ⟨h1, fun i hi => (h2 i hi).2⟩
  · rintro ⟨h1, h2⟩
    exact ⟨h1, fun i hi => ⟨h1, h2 i hi⟩⟩
theorem suit_iff (B : Bk) (ps : List Kd) (sets : List (List Kd)) (hU : ∀ S ∈ sets, B.Up S ∧ ∀ x ∈ S, x ∈ B.ks) : B.suit ps sets = true ↔ ∀ i, i < ps.length → ps.getD i [] ∈ sets.getD i [] := by
  unfold Bk.suit Bk.fitAt
  simp only [List.all_eq_true, List.mem_range, List.any_eq_true, decide_eq_true_eq]
  have hS : ∀ i, sets.getD i [] = [] ∨ sets.getD i [] ∈ sets := fun i => by
    rw [List.getD_eq_getElem?_getD]
    cases q : sets[i]? with
    | none => exact .inl rfl
    | some S => exact .inr (List.mem_of_getElem? q)
  constructor
  · intro h i hi
    obtain ⟨k, mk, hk⟩ := h i hi
    rcases hS i with e | e
    · rw [e] at mk; cases mk
    · exact (hU _ e).1 k mk _ hk
  · intro h i hi
    refine ⟨_, h i hi, ?_⟩
    rcases hS i with e | e
    · have := h i hi
      rw [e] at this; cases this
    · exact up_self B ((hU _ e).2 _ (h i hi))
theorem mem_found (T : Tab) (nm : Kd) (sets : List (List Kd)) (es : List En) (x : Kd) : x ∈ T.found nm sets es ↔ ∃ e ∈ es, e.fits nm sets = true ∧ x ∈ T.up e.kd := by
  unfold Tab.found
  rw [List.mem_flatMap]
  constructor
  · rintro ⟨e, he, h⟩
    exact ⟨e, (List.mem_filter.mp he).1, (List.mem_filter.mp he).2, h⟩
  · rintro ⟨e, he, h1, h2⟩
    exact ⟨e, List.mem_filter.mpr ⟨he, h1⟩, h2⟩
theorem mem_bcomb (B : Bk) {nm : Kd} {sets : List (List Kd)} {x : Kd} : x ∈ B.comb nm sets ↔ x ∈ B.ks ∧ ∃ e ∈ B.es, (e.nm = nm ∧ B.suit e.ps sets = true) ∧ x ∈ B.up e.kd := by
  unfold Bk.comb
  rw [mem_cl]
  constructor
  · rintro ⟨h1, l, hl, h2⟩
    obtain ⟨e, he, rfl⟩ := List.mem_map.mp hl
    obtain ⟨m1, m2⟩ := List.mem_filter.mp he
    simp only [Bool.and_eq_true, decide_eq_true_eq] at m2
    exact ⟨h1, e, m1, m2, h2⟩
  · rintro ⟨h1, e, he, h2, h3⟩
    refine ⟨h1, e.kd, List.mem_map.mpr ⟨e, List.mem_filter.mpr ⟨he, ?_⟩, rfl⟩, h3⟩
    simp only [Bool.and_eq_true, decide_eq_true_eq]
    exact h2
theorem comb_eq {T : Tab} (hT : T.ok) (nm : Kd) (sets : List (List Kd)) (hU : ∀ S ∈ sets, T.bk.Up S ∧ ∀ x ∈ S, x ∈ T.ks) : T.comb nm sets = T.bk.comb nm sets := by
  unfold Tab.comb Bk.comb Bk.cl
  apply List.filter_congr
  intro x hx
  rw [Bool.eq_iff_iff, decide_eq_true_iff, mem_found]
  have h2 := mem_bcomb T.bk (nm := nm) (sets := sets) (x := x)
  unfold Bk.comb Bk.cl at h2
  rw [List.mem_filter] at h2
  have hx' : x ∈ T.bk.ks := hx
  have h3 : _ ↔ _ := h2
  constructor
  · rintro ⟨e, he, hf, hu⟩
    have hf' := (fits_iff e nm sets).mp hf
    refine (h3.mpr ⟨hx', e, (mem_canon hT.es).mpr he, ⟨hf'.1, (suit_iff T.bk e.ps sets hU).mpr hf'.2⟩, ?_⟩).2
    rw [up_eq hT (hT.es e he).kd]
    exact hu
  · intro h
    obtain ⟨_, e, he, ⟨h4, h5⟩, h6⟩ := h3.mp ⟨hx', h⟩
    have he' : e ∈ T.es := (mem_canon hT.es).mp he
    refine ⟨e, he', (fits_iff e nm sets).mpr ⟨h4, (suit_iff T.bk e.ps sets hU).mp h5⟩, ?_⟩
    rw [← up_eq hT (hT.es e he').kd]
    exact h6
theorem ok_lkinds {T : Tab} (hT : T.ok) : ∀ (f : Nat) (t : Tm), t.dep < f → t.wf T.ss → Ok (den_l_kinds f [T.d, t.d]) fun d => d = kdD (T.bk.kds t)
  | 0, t, h, _ => by omega
  | f + 1, .v _, _, hw => hw.elim
  | f + 1, .n nm ps, hd, hw => by
    obtain ⟨⟨s, ms, h1, h2⟩, hps⟩ := wf_n hw
    subst h1
    have hk3 := hT.k3
    have hp3 := sym_len hT.ss ms
    have hdp : ∀ p ∈ ps, p.dep < f := fun p hp => by
      have := Tm.deps_le hp
      simp only [Tm.dep] at hd
      omega
    show Ok (runD 3 (b_l_kinds (den_l_kinds f)) _) _
    refine ok_run ?_
    unfold b_l_kinds
    rw [Tm.d_n]
    array_mem_dec
    refine wp_ret ?_
    sizeOf_list_dec
    refine ok_compP (zs := ps) (g := Tm.d) (fun p => kdD (T.bk.kds p)) ?_ (by omega) ?_ ?_
    · sizeOf_list_dec
      rw [drop1]
    · intro p hp
      refine ⟨_, rfl, rfl, ?_⟩
      unfold cc_l_kinds_1
      array_mem_dec
      sizeOf_list_dec
      exact ok_lkinds hT f p (hdp p hp) (hps p hp)
    · have e2 : (ps.map fun p => kdD (T.bk.kds p)) = (ps.map T.bk.kds).map kdD := by rw [List.map_map]; rfl
      rw [e2]
      refine (ok_combine T hT s.nm (ps.map T.bk.kds) (fun e me h => ?_)).imp ?_
      · have := hT.fit ms e me h
        simp
        omega
      · rintro _ rfl
        rw [kds_n, comb_eq hT]
        intro S hS
        obtain ⟨p, mp, rfl⟩ := List.mem_map.mp hS
        exact ⟨kds_up T.bk p, kds_sub T.bk p⟩
/-! ### the least kind -/
theorem Rch.head {ps : List (Kd × Kd)} {a b : Kd} (h : Rch ps a b) : a = b ∨ ∃ c, (a, c) ∈ ps ∧ Rch ps c b := by
  induction h with
  | refl => exact .inl rfl
  | @tail b c _ m ih =>
    rcases ih with e | ⟨c', m', h'⟩
    · subst e
      exact .inr ⟨_, m, .refl⟩
    · exact .inr ⟨c', m', .tail h' m⟩
theorem Rch.anti {ps : List (Kd × Kd)} (hc : ∀ p ∈ ps, ¬ Rch ps p.2 p.1) {a b : Kd} (h : Rch ps a b) (k : Rch ps b a) : a = b := by
  rcases h.head with e | ⟨c, m, r⟩
  · exact e
  · exact (hc _ m (r.trans k)).elim
theorem low_uniq {B : Bk} (hc : ∀ p ∈ B.ps, ¬ Rch B.ps p.2 p.1) {xs : List Kd} {a b : Kd} (ha : a ∈ xs) (hb : b ∈ xs) (la : B.low xs a = true) (lb : B.low xs b = true) : a = b := by
  unfold Bk.low at la lb
  have h1 := of_decide_eq_true (List.all_eq_true.mp la b hb)
  have h2 := of_decide_eq_true (List.all_eq_true.mp lb a ha)
  exact Rch.anti hc (mem_abv.mp h1).2 (mem_abv.mp h2).2
theorem least_some {B : Bk} (hc : ∀ p ∈ B.ps, ¬ Rch B.ps p.2 p.1) {xs : List Kd} {a : Kd} (ha : a ∈ xs) (la : B.low xs a = true) : B.least xs = some a := by
  cases q : B.least xs with
  | none =>
    unfold Bk.least at q
    exact absurd la (by simpa using List.find?_eq_none.mp q a ha)
  | some b =>
    have h1 := List.find?_some q
    have h2 := List.mem_of_find?_eq_some q
    rw [low_uniq hc ha h2 la h1]
theorem least_none {B : Bk} {xs : List Kd} (h : ∀ a ∈ xs, B.low xs a = false) : B.least xs = none := by
  unfold Bk.least
  rw [List.find?_eq_none]
  intro a ha
  rw [h a ha]
  simp
end KL

namespace KL
open PySem L2 KD
/-! ### symbols asked -/
theorem ok_is_done {ss : List Sym} (hs : SigOk ss) {s : Sym} (ms : s ∈ ss) : Ok (den_signature_is_done [sigO ss, nmD s.nm]) fun d => d = .bl s.dn := by
  refine ok_run ?_
  unfold b_signature_is_done
  array_mem_dec
  refine wp_ret ?_
  sizeOf_list_dec
  rw [fld_listed, ok_ok, self_sigP _ _ (by decide) (by decide)]
  refine (ok_number ⟨s, ms, rfl⟩).imp ?_
  rintro _ rfl
  rw [nIxM]
  refine ⟨s, symIx_at hs.nd ms, ?_⟩
  rw [sym_d s]
  sizeOf_list_dec
theorem ok_order {ss : List Sym} (hs : SigOk ss) {s : Sym} (ms : s ∈ ss) : Ok (den_signature_order [sigO ss, nmD s.nm]) fun d => d = .tup (s.od.map natD) := by
  refine ok_run ?_
  unfold b_signature_order
  array_mem_dec
  refine wp_ret ?_
  sizeOf_list_dec
  rw [fld_listed, ok_ok, self_sigP _ _ (by decide) (by decide)]
  refine (ok_number ⟨s, ms, rfl⟩).imp ?_
  rintro _ rfl
  rw [nIxM]
  refine ⟨s, symIx_at hs.nd ms, ?_⟩
  rw [sym_d s]
  sizeOf_list_dec
theorem inNums {P : D → Prop} {ss : List Sym} {nm : Kd} (h : ∃ s ∈ ss, s.nm = nm) (hp : P (.bl true)) : Ok (gIn (nmD nm) (.dic (ss.map fun s => nmD s.nm) (numsD ss.length))) P := by
  have e : gIn (nmD nm) (.dic (ss.map fun s => nmD s.nm) (numsD ss.length)) = .ok (.bl true) := by
    unfold gIn
    dsimp only
    rw [key_nm]
    dsimp only
    rw [look_sig h]
    rfl
  rw [e, ok_ok]
  exact hp
theorem isiTT {P : D → Prop} (xs : List D) : Ok (isiD "tuple" (.tup xs)) P = P (.bl true) := by rw [isi_tt, ok_ok]
theorem isiSN {P : D → Prop} (l : Kd) : Ok (isiD "str" (nmD l)) P = P (.bl true) := by rw [isi_nm, ok_ok]
theorem isiST {P : D → Prop} (xs : List D) : Ok (isiD "str" (.tup xs)) P = P (.bl false) := by rw [isi_tup, ok_ok]
theorem isi_tn (l : Kd) : isiD "tuple" (nmD l) = .ok (.bl false) := by
  unfold isiD nmD
  dsimp only
  have : kitB (tyN (D.str (sO l))) "tuple" = some false := by
    show kitB "str" "tuple" = some false
    decide +kernel
  rw [this]
theorem isiTN {P : D → Prop} (l : Kd) : Ok (isiD "tuple" (nmD l)) P = P (.bl false) := by rw [isi_tn, ok_ok]
theorem ok_has_parts {ss : List Sym} (hs : SigOk ss) {s : Sym} (ms : s ∈ ss) (xs : List D) (hpl : D.plains xs = true) (hl : xs.length = s.pl) : Ok (den_has_parts [sigO ss, .tup (nmD s.nm :: xs)]) fun d => d = .bl true := by
  refine ok_run ?_
  unfold b_has_parts
  array_mem_dec
  refine wp_seq (wp_if ?_)
  sizeOf_list_dec
  rw [ok_dIsi]
  sizeOf_list_dec
  rw [isiTT]
  sizeOf_list_dec
  refine ⟨fun z => (by simp at z), fun _ => ?_⟩
  refine eq_unit _ _ (by simp [D.plains, plain_nm, hpl]) ?_
  sizeOf_list_dec
  refine ⟨fun z => (by simp at z), fun _ => ?_⟩
  rw [ok_dIsi]
  sizeOf_list_dec
  rw [isiSN]
  sizeOf_list_dec
  refine ⟨fun z => (by simp at z), fun _ => wp_nil (wp_ret ?_)⟩
  sizeOf_list_dec
  rw [fld_nums]
  refine inNums ⟨s, ms, rfl⟩ ?_
  sizeOf_list_dec
  refine ⟨fun _ => ?_, fun z => (by simp at z)⟩
  rw [self_sigP _ _ (by decide) (by decide)]
  refine (ok_places hs ms).imp ?_
  rintro _ rfl
  sizeOf_list_dec
  rw [hl, Nat.add_comm]
  simp
theorem plains_pt : ∀ ps : List Pt, D.plains (ps.map Pt.d) = true := fun ps => cds_plains _ (cds_map cd_pt ps)
theorem plains_nm' : ∀ ps : List Kd, D.plains (ps.map nmD) = true := fun ps => cds_plains _ (cds_map cd_nm ps)
theorem plains_tm' : ∀ ps : List Tm, D.plains (ps.map Tm.d) = true := fun ps => by rw [← Tm.ds_map]; exact cds_plains _ (cds_tm ps)
theorem pt_name {p : Pt} {r : Rl} (hr : p ∈ r.lp) : ∀ x ∈ p.vars, x ∈ r.vars := fun x hx => List.mem_flatMap.mpr ⟨p, hr, hx⟩
theorem ok_left_variables {ss : List Sym} (hs : SigOk ss) {r : Rl} (hr : r.ok ss) : Ok (den_left_variables [sigO ss, r.d]) fun d => d = .lst (r.vars.map nmD) := by
  obtain ⟨s, ms, h1, h2, h3⟩ := hr.hd
  have hp3 := sym_len hs ms
  refine ok_run ?_
  unfold b_left_variables Rl.d
  array_mem_dec
  refine wp_seq (wp_if (Ok.imp (Q := fun b => b = false) ?_ fun b hb => ⟨fun e => (by rw [hb] at e; cases e), fun _ => wp_nil ?_⟩))
  · sizeOf_list_dec
    rw [ok_dIsi]
    sizeOf_list_dec
    rw [isiTT]
    sizeOf_list_dec
    refine ⟨fun z => (by simp at z), fun _ => ?_⟩
    simp only [decide_true, Bool.not_true]
    refine ⟨fun z => (by cases z), fun _ => ?_⟩
    unfold Rl.ld
    rw [← h1]
    refine (ok_has_parts hs ms (r.lp.map Pt.d) (plains_pt _) (by rw [List.length_map]; exact h3)).imp ?_
    rintro _ rfl
    sizeOf_list_dec
    rfl
  refine wp_seq (wp_if (Ok.imp (Q := fun b => b = false) ?_ fun b hb => ⟨fun e => (by rw [hb] at e; cases e), fun _ => wp_nil ?_⟩))
  · unfold Rl.ld
    sizeOf_list_dec
    rw [self_sigP _ _ (by decide) (by decide), ← h1]
    refine (ok_is_done hs ms).imp ?_
    rintro _ rfl
    rw [h2]
    sizeOf_list_dec
  refine wp_seq (wp_new ?_)
  array_mem_dec
  refine wp_seq (wp_for (fun i ρ => ρ = [.dt (sigO ss), .dt (.tup [r.ld, r.rt.d]), .ol (((r.lp.take i).flatMap Pt.vars).map nmD), .no, .no, .no]) ?_)
  unfold Rl.ld
  sizeOf_list_dec
  refine ⟨rfl, ?_, ?_⟩
  · rintro i d ρ hd rfl
    rw [drop1] at hd
    obtain ⟨p, ep, rfl⟩ := map_at hd
    have mp := List.mem_of_getElem? ep
    have et : r.lp.take (i + 1) = r.lp.take i ++ [p] := by rw [List.take_add_one, ep]; rfl
    have hvars : r.vars = (r.lp.take i).flatMap Pt.vars ++ (p.vars ++ (r.lp.drop (i + 1)).flatMap Pt.vars) := by
      unfold Rl.vars
      conv => lhs; rw [← List.take_append_drop (i + 1) r.lp, et]
      rw [List.flatMap_append, List.flatMap_append]
      simp [List.append_assoc]
    have nd := hr.nd
    rw [hvars] at nd
    refine ⟨_, rfl, ?_⟩
    unfold lb_left_variables_2
    array_mem_dec
    refine wp_seq (wp_set ?_)
    sizeOf_list_dec
    refine wp_cut (fun ρ => ρ = [.dt (sigO ss), .dt (.tup [.tup (nmD r.nm :: r.lp.map Pt.d), r.rt.d]), .ol (((r.lp.take i).flatMap Pt.vars).map nmD), .dt p.d, .dt (.lst (p.vars.map nmD)), .no]) (wp_if ?_) ?_
    · sizeOf_list_dec
      rw [ok_dIsi]
      sizeOf_list_dec
      cases p with
      | v x =>
        rw [show Pt.d (.v x) = nmD x from rfl, isiTN]
        sizeOf_list_dec
        refine ⟨fun z => (by cases z), fun _ => wp_nil rfl⟩
      | p nm xs =>
        obtain ⟨s', ms', e1, e2⟩ := hr.pt _ mp
        rw [show Pt.d (.p nm xs) = .tup (nmD nm :: xs.map nmD) from rfl, isiTT]
        sizeOf_list_dec
        refine ⟨fun _ => ?_, fun z => (by cases z)⟩
        refine wp_seq (wp_if (Ok.imp (Q := fun b => b = false) ?_ fun b hb => ⟨fun e => (by rw [hb] at e; cases e), fun _ => wp_nil (wp_set ?_)⟩))
        · sizeOf_list_dec
          rw [← e1]
          refine (ok_has_parts hs ms' (xs.map nmD) (plains_nm' _) (by rw [List.length_map]; exact e2)).imp ?_
          rintro _ rfl
          sizeOf_list_dec
          rfl
        · sizeOf_list_dec
          rw [drop1]
          rfl
    rintro ρ rfl
    -- its variables
    refine wp_for (fun j ρ => ρ = [.dt (sigO ss), .dt (.tup [.tup (nmD r.nm :: r.lp.map Pt.d), r.rt.d]), .ol (((r.lp.take i).flatMap Pt.vars ++ p.vars.take j).map nmD), .dt p.d, .dt (.lst (p.vars.map nmD)), .no]) ?_
    sizeOf_list_dec
    refine ⟨by simp, ?_, ?_⟩
    · rintro j d ρ hd rfl
      obtain ⟨x, ex, rfl⟩ := map_at hd
      have mx := List.mem_of_getElem? ex
      have ext : p.vars.take (j + 1) = p.vars.take j ++ [x] := by rw [List.take_add_one, ex]; rfl
      have hnm : nameOk x := hr.nm x (pt_name mp x mx)
      have hsplit : p.vars = p.vars.take j ++ (x :: p.vars.drop (j + 1)) := by
        conv => lhs; rw [← List.take_append_drop (j + 1) p.vars, ext]
        simp
      have hnot : x ∉ (r.lp.take i).flatMap Pt.vars ++ p.vars.take j := by
        rw [hsplit] at nd
        intro hm
        have nd2 : ((r.lp.take i).flatMap Pt.vars ++ p.vars.take j ++ (x :: (p.vars.drop (j + 1) ++ (r.lp.drop (i + 1)).flatMap Pt.vars))).Nodup := by
          simpa [List.append_assoc] using nd
        rw [List.nodup_append] at nd2
        exact nd2.2.2 x hm x (by simp) rfl
      have hlen : ((r.lp.take i).flatMap Pt.vars ++ p.vars.take j).length ≤ 1000 := by
        have h4 := hr.vl
        rw [hvars] at h4
        simp only [List.length_append] at h4 ⊢
        have : (p.vars.take j).length ≤ p.vars.length := by rw [List.length_take]; omega
        omega
      refine ⟨_, rfl, ?_⟩
      unfold lb_left_variables_1
      array_mem_dec
      refine wp_seq (wp_if (Ok.imp (Q := fun b => b = false) ?_ fun b hb => ⟨fun e => (by rw [hb] at e; cases e), fun _ => wp_nil (wp_app ?_)⟩))
      · sizeOf_list_dec
        rw [ok_dIsi]
        sizeOf_list_dec
        rw [isiSN]
        sizeOf_list_dec
        refine ⟨fun z => (by simp at z), fun _ => ?_⟩
        rw [den_isname hnm, ok_ok]
        sizeOf_list_dec
        refine ⟨fun z => (by simp at z), fun _ => ?_⟩
        rw [nmIn]
        sizeOf_list_dec
        exact decide_eq_false hnot
      · sizeOf_list_dec
        refine ⟨by omega, ?_⟩
        array_mem_dec
        rw [ext, ← List.append_assoc, List.map_append (l₂ := [x])]
        rfl
    · rintro ρ rfl
      array_mem_dec
      rw [et, List.flatMap_append, List.take_length]
      simp
  · rintro ρ rfl
    simp only [frz_S, frz_ol]
    refine wp_ret ?_
    sizeOf_list_dec
    rw [drop1, List.length_map, List.take_length]
    rfl
mutual
theorem ok_check_right {ss : List Sym} (hs : SigOk ss) (rl : D) (xs : List Kd) (hx : xs.length ≤ 1000) : ∀ (f : Nat) (t : Tm), t.dep < f → t.wfv ss xs → Ok (den_check_right f [sigO ss, rl, t.d, .lst (xs.map nmD)]) fun d => d = .non
  | 0, t, h, _ => by omega
  | f + 1, .v x, _, hw => by
    have hw' : x ∈ xs := hw
    show Ok (runD 5 (b_check_right (den_check_right f)) _) _
    refine ok_run ?_
    unfold b_check_right
    rw [Tm.d]
    array_mem_dec
    refine wp_seq (wp_if ?_)
    sizeOf_list_dec
    rw [ok_dIsi]
    sizeOf_list_dec
    rw [isiSN]
    sizeOf_list_dec
    refine ⟨fun _ => wp_seq (wp_if ?_), fun z => (by cases z)⟩
    sizeOf_list_dec
    rw [nmNotIn]
    sizeOf_list_dec
    rw [decide_eq_true hw']
    refine ⟨fun z => (by cases z), fun _ => wp_nil ?_⟩
    with_unfolding_all exact rfl
  | f + 1, .n nm ps, hd, hw => by
    obtain ⟨⟨s, ms, h1, h2⟩, h3⟩ := hw
    subst h1
    have h3' := (Tm.wfvs_iff ss xs ps).mp h3
    have hdp : ∀ p ∈ ps, p.dep < f := fun p hp => by
      have := Tm.deps_le hp
      simp only [Tm.dep] at hd
      omega
    show Ok (runD 5 (b_check_right (den_check_right f)) _) _
    refine ok_run ?_
    unfold b_check_right
    rw [Tm.d_n]
    array_mem_dec
    refine wp_seq (wp_if ?_)
    sizeOf_list_dec
    rw [ok_dIsi]
    sizeOf_list_dec
    rw [isiST]
    sizeOf_list_dec
    refine ⟨fun z => (by cases z), fun _ => wp_nil ?_⟩
    refine wp_seq (wp_if (Ok.imp (Q := fun b => b = false) ?_ fun b hb => ⟨fun e => (by rw [hb] at e; cases e), fun _ => wp_nil ?_⟩))
    · sizeOf_list_dec
      refine (ok_has_parts hs ms (ps.map Tm.d) (plains_tm' _) (by rw [List.length_map]; exact h2)).imp ?_
      rintro _ rfl
      sizeOf_list_dec
      rfl
    · refine wp_for (fun i ρ => ρ = [.dt (sigO ss), .dt rl, .dt (.tup (nmD s.nm :: ps.map Tm.d)), .dt (.lst (xs.map nmD)), .no]) ?_
      sizeOf_list_dec
      rw [drop1]
      refine ⟨?_, fun _ _ => trivial⟩
      rintro i d ρ hd rfl
      obtain ⟨p, ep, rfl⟩ := map_at hd
      have mp := List.mem_of_getElem? ep
      refine ⟨_, rfl, ?_⟩
      unfold lb_check_right_1
      array_mem_dec
      refine wp_expr ?_
      sizeOf_list_dec
      refine (ok_check_right hs rl xs hx f p (hdp p mp) (h3' p mp)).imp ?_
      rintro _ rfl
      trivial
end
end KL

namespace KL
open PySem L2 KD
/-! ### copies of books -/
structure Bk.good (B : Bk) : Prop where
  took : B.ok
  kok : ∀ k ∈ B.ks, nameOk k
  cir : ∀ p ∈ B.ps, ¬ Rch B.ps p.2 p.1
  can : canon B.ss B.ks B.es = B.es
  s6 : B.ss.length ≤ 6
theorem canon_congr {ss : List Sym} {ks : List Kd} {es es' : List En} (h : ∀ e, e ∈ es ↔ e ∈ es') : canon ss ks es = canon ss ks es' := by
  unfold canon
  congr 1
  funext s
  apply List.filter_congr
  intro e _
  rw [decide_eq_decide]
  exact h e
theorem canon_canon {ss : List Sym} {ks : List Kd} {es : List En} (h : ∀ e ∈ es, e.ok ss ks) : canon ss ks (canon ss ks es) = canon ss ks es := canon_congr fun e => mem_canon h
theorem Tab.ok.good {T : Tab} (hT : T.ok) : T.bk.good :=
  ⟨hT.bk, hT.kok, fun p hp => no_circle hT hp, canon_canon hT.es, hT.s5⟩
theorem Bk.good.ss {B : Bk} (h : B.good) : SigOk B.ss := h.took.ss
theorem Bk.good.kn {B : Bk} (h : B.good) : B.ks.Nodup := h.took.kn
theorem Bk.good.k3 {B : Bk} (h : B.good) : B.ks.length ≤ 3 := h.took.k3
theorem Bk.good.low {B : Bk} (h : B.good) : ∀ p ∈ B.ps, p.1 ∈ B.ks ∧ p.2 ∈ B.ks := h.took.low
theorem Bk.good.es {B : Bk} (h : B.good) : ∀ e ∈ B.es, e.ok B.ss B.ks := h.took.es
/-- all pairs of different kinds -/
noncomputable def Bk.unders (B : Bk) : List (Kd × Kd) := B.ks.flatMap fun lo => ((B.up lo).filter fun hi => !decide (lo = hi)).map fun hi => (lo, hi)
theorem mem_unders {B : Bk} {p : Kd × Kd} : p ∈ B.unders ↔ p.1 ∈ B.ks ∧ p.2 ∈ B.ks ∧ Rch B.ps p.1 p.2 ∧ p.1 ≠ p.2 := by
  unfold Bk.unders
  rw [List.mem_flatMap]
  constructor
  · rintro ⟨lo, mlo, h⟩
    obtain ⟨hi, mhi, rfl⟩ := List.mem_map.mp h
    obtain ⟨m1, m2⟩ := List.mem_filter.mp mhi
    obtain ⟨m3, m4⟩ := mem_abv.mp m1
    exact ⟨mlo, m3, m4, by simpa using m2⟩
  · rintro ⟨h1, h2, h3, h4⟩
    exact ⟨p.1, h1, List.mem_map.mpr ⟨p.2, List.mem_filter.mpr ⟨mem_abv.mpr ⟨h2, h3⟩, by simpa using h4⟩, rfl⟩⟩
theorem Rch.out {ps : List (Kd × Kd)} {ks : List Kd} (hl : ∀ p ∈ ps, p.1 ∈ ks ∧ p.2 ∈ ks) {a b : Kd} (h : Rch ps a b) : a = b ∨ (a ∈ ks ∧ b ∈ ks) := by
  rcases h.head with e | ⟨c, m, r⟩
  · exact .inl e
  · exact .inr ⟨(hl _ m).1, r.in_ (fun p hp => (hl p hp).2) (hl _ m).2⟩
theorem unders_rch {B : Bk} (hB : B.ok) {a b : Kd} : Rch B.unders a b ↔ Rch B.ps a b := by
  constructor
  · intro h
    induction h with
    | refl => exact .refl
    | tail _ m ih => exact ih.trans (mem_unders.mp m).2.2.1
  · intro h
    rcases h.out hB.low with e | ⟨h1, h2⟩
    · subst e; exact .refl
    · by_cases c : a = b
      · subst c; exact .refl
      · exact .tail .refl (mem_unders.mpr ⟨h1, h2, h, c⟩)
theorem nmNe {P : D → Prop} {l m : Kd} : Ok (gNe (nmD l) (nmD m)) P = P (.bl (!decide (l = m))) := by
  rw [ok_ne]
  have e : eqOk (nmD l) (nmD m) = true := rfl
  have e3 : eqD (nmD l) (nmD m) = (l == m) := eqD_sO l m
  have e2 : (l == m) = decide (l = m) := by by_cases h : l = m <;> simp [h]
  rw [e3, e2]
  exact propext ⟨fun z => z.2, fun z => ⟨e, z⟩⟩
theorem ok_under (B : Bk) (hk3 : B.ks.length ≤ 3) : Ok (den_book_under [B.d]) fun d => d = .tup (B.unders.map prD) := by
  have hul : ∀ k, (B.up k).length ≤ 3 := fun k => by
    have : (B.up k).length ≤ B.ks.length := List.length_filter_le _ _
    omega
  refine ok_run ?_
  unfold b_book_under
  array_mem_dec
  refine wp_ret ?_
  sizeOf_list_dec
  refine ok_comp2 (g0 := nmD) (g1 := nmD) B.ks B.up (fun lo hi => !decide (lo = hi)) (fun lo hi => prD (lo, hi)) ?_ (by omega) ?_ ?_
  · sizeOf_list_dec
    rw [fld_names]
    sizeOf_list_dec
  · intro lo mlo
    refine ⟨_, rfl, rfl, ?_, by have := hul lo; omega, ?_⟩
    · unfold it_book_under_1
      array_mem_dec
      sizeOf_list_dec
      rw [fld_above]
      refine above_at mlo ?_
      sizeOf_list_dec
    · intro hi mhi
      refine ⟨_, rfl, ?_, fun _ => ?_⟩
      · unfold ct_book_under_1
        array_mem_dec
        rw [ok_dTest]
        sizeOf_list_dec
        rw [nmNe]
        sizeOf_list_dec
      · unfold cc_book_under_1
        array_mem_dec
        sizeOf_list_dec
        rfl
  · sizeOf_list_dec
    unfold Bk.unders
    rw [List.map_flatMap]
    simp only [List.map_map]
    rfl
theorem ok_bkinds {P : D → Prop} (B : Bk) (hp : P (.tup (B.ks.map nmD))) : Ok (den_book_kinds [B.d]) P := by
  refine ok_run ?_
  unfold b_book_kinds
  array_mem_dec
  refine wp_ret ?_
  sizeOf_list_dec
  rw [fld_names]
  sizeOf_list_dec
  exact hp
theorem ok_bsig {P : D → Prop} (B : Bk) (hp : P (sigO B.ss)) : Ok (den_book_signature [B.d]) P := by
  refine ok_run ?_
  unfold b_book_signature
  array_mem_dec
  refine wp_ret ?_
  sizeOf_list_dec
  rw [fld_base]
  exact hp
theorem ok_bentries {P : D → Prop} (B : Bk) (hp : P (.tup (B.es.map En.d))) : Ok (den_book_entries [B.d]) P := by
  refine ok_run ?_
  unfold b_book_entries
  array_mem_dec
  refine wp_ret ?_
  sizeOf_list_dec
  rw [fld_rows]
  sizeOf_list_dec
  exact hp
theorem cls_bk {P : D → Prop} (B : Bk) : Ok (gCls "Book" B.d) P = P B.d := ok_gCls
end KL

namespace KL
open PySem L2 KD
theorem unders_len (B : Bk) (hk3 : B.ks.length ≤ 3) : B.unders.length ≤ 9 := by
  unfold Bk.unders
  rw [List.length_flatMap]
  have : (B.ks.map fun lo => (((B.up lo).filter fun hi => !decide (lo = hi)).map fun hi => (lo, hi)).length).sum ≤ 3 * B.ks.length := sum_le_mul fun lo _ => by
    rw [List.length_map]
    have h1 : (B.up lo).length ≤ B.ks.length := List.length_filter_le _ _
    have h2 := List.length_filter_le (fun hi => !decide (lo = hi)) (B.up lo)
    omega
  omega
theorem Bk.d_congr {B B' : Bk} (h1 : B.ss = B'.ss) (h2 : B.ks = B'.ks) (h3 : ∀ k ∈ B.ks, abv B.ks B.ps k = abv B'.ks B'.ps k) (h4 : B.es = B'.es) : B.d = B'.d := by
  unfold Bk.d
  rw [h1, h4]
  have e : B.ks.map (abvD B.ks B.ps) = B'.ks.map (abvD B'.ks B'.ps) := by
    rw [← h2]
    apply List.map_congr_left
    intro k hk
    unfold abvD
    rw [h3 k hk, h2]
  rw [e, h2]
/-- Book(b.signature, b.kinds, under=b.under, entries=es) -/
theorem ok_copy (w : World) (x : Addr) {B : Bk} (hB : B.good) {m3 : List D → D} (hm3 : SeqK m3) (es : List En) (hes : ∀ e ∈ es, e.ok B.ss B.ks) (hl : es.length ≤ 1000) :
    Ok (den_book_init w x [sigO B.ss, .tup (B.ks.map nmD), .tup (B.unders.map prD), m3 (es.map En.d)]) fun d => d = (⟨B.ss, B.ks, B.ps, canon B.ss B.ks es⟩ : Bk).d := by
  have hu := unders_len B hB.k3
  refine (ok_book_init w x seqT seqT hm3 B.ss B.ks B.unders es hB.ss hB.kn hB.kok hB.k3 (fun p hp => ⟨(mem_unders.mp hp).1, (mem_unders.mp hp).2.1⟩) (fun p hp h => ?_) hes hl (by omega) _ _ _ rfl rfl rfl).imp ?_
  · have h1 := (unders_rch hB.took).mp h
    obtain ⟨_, _, h2, h3⟩ := mem_unders.mp hp
    exact h3 (Rch.anti hB.cir h2 h1)
  · rintro _ rfl
    refine Bk.d_congr rfl rfl (fun k hk => ?_) rfl
    show abv B.ks B.unders k = abv B.ks B.ps k
    unfold abv
    apply List.filter_congr
    intro y hy
    rw [decide_eq_decide]
    exact unders_rch hB.took
theorem good_len {B : Bk} (hB : B.good) : B.es.length ≤ 486 := by
  have := canon_len hB.ss hB.k3 B.es
  rw [hB.can] at this
  have := hB.s6
  omega
/-! ### languages -/
structure Lg where
  b : Bk
  rs : List Rl
noncomputable def Lg.d (L : Lg) : D := .ob "Language" ["held", "listed"] [L.b.d, .lst (L.rs.map Rl.d)]
structure Lg.ok (L : Lg) : Prop where
  b : L.b.good
  rs : ∀ r ∈ L.rs, r.ok L.b.ss
  rl : L.rs.length ≤ 100
theorem fldL_typed {x : Addr} {i : Nat} {t : D → Ev → Option Ev} {wp : List Nat} {f1 f2 : Ev → SR} {fe : Ev → Rs D} {α : Type} {g h : α → D} {ρ : Ev} : ∀ (zs : List α) (xs : List D), xs.length + zs.length ≤ 100000 →
    (∀ z ∈ zs, ∃ ρ', t (g z) ρ = some ρ' ∧ Wp ((f1 ρ').seq f2) (fun ρ2 => (ρ2 : List Sl)[i]? = some (.rf x) ∧ noOwn ρ2 = true ∧ Ok (fe ρ2) (fun d => d = h z) ∧ wipeE wp ρ2 = ρ) (fun _ => False)) →
    fldL x i t wp f1 f2 fe (zs.map g) ρ xs = .ok (ρ, xs ++ zs.map h)
  | [], xs, _, _ => by simp [fldL]
  | z :: zs, xs, hl, hs => by
    obtain ⟨ρ', e1, e2⟩ := hs z List.mem_cons_self
    have ih := fldL_typed (x := x) (i := i) (t := t) (wp := wp) (f1 := f1) (f2 := f2) (fe := fe) (g := g) (h := h) (ρ := ρ) zs (xs ++ [h z]) (by simp at hl ⊢; omega) fun d hd => hs d (List.mem_cons_of_mem _ hd)
    rw [List.map_cons]
    unfold fldL
    rw [e1]
    dsimp only
    cases q : (f1 ρ').seq f2 with
    | nx ρ2 =>
      rw [q] at e2
      have e2' : (ρ2 : List Sl)[i]? = some (.rf x) ∧ noOwn ρ2 = true ∧ Ok (fe ρ2) (fun d => d = h z) ∧ wipeE wp ρ2 = ρ := by with_unfolding_all exact e2
      obtain ⟨a1, a2, a3, a4⟩ := e2'
      simp only [a1]
      rw [if_pos ⟨trivial, a2, by simp at hl; omega⟩, a3.eq, Rs.bind_ok, a4, ih]
      simp
    | rt d => rw [q] at e2; with_unfolding_all exact False.elim e2
    | ro d => rw [q] at e2; with_unfolding_all exact False.elim e2
    | bk d => rw [q] at e2; with_unfolding_all exact False.elim e2
    | ct d => rw [q] at e2; with_unfolding_all exact False.elim e2
    | xc c n f => rw [q] at e2; with_unfolding_all exact False.elim e2
    | bot => rw [q] at e2; with_unfolding_all exact False.elim e2
theorem wp_fldLoop {α : Type} {g h : α → D} {ρ : Ev} {i : Nat} {x : Addr} {c f : Str} {ns : List Str} {fs : List D} {it : Ev → Rs (List D)} {t : D → Ev → Option Ev} {wp : List Nat} {f1 f2 : Ev → SR} {fe : Ev → Rs D} {N : Ev → Prop} {R : D → Prop} (zs : List α)
    (e : (ρ : List Sl)[i]? = some (.oo (some x) c ns fs)) (hf : f ∉ ns) (hn : ns.length < 999) (ho : noOwn (ρ.set i (.rf x)) = true) (hw : i ∉ wp) (hl : zs.length ≤ 100000) (hi : Ok (it (ρ.set i (.rf x))) fun ds => ds = zs.map g)
    (hs : ∀ z ∈ zs, ∃ ρ', t (g z) (ρ.set i (.rf x)) = some ρ' ∧ Wp ((f1 ρ').seq f2) (fun ρ2 => (ρ2 : List Sl)[i]? = some (.rf x) ∧ noOwn ρ2 = true ∧ Ok (fe ρ2) (fun d => d = h z) ∧ wipeE wp ρ2 = ρ.set i (.rf x)) (fun _ => False))
    (hN : N ((ρ.set i (.rf x)).set i (.oo (some x) c (ns ++ [f]) (fs ++ [.lst (zs.map h)])))) : Wp (sFldLoop i c f it t wp f1 f2 fe ρ) N R := by
  have hi' : i < (ρ : List Sl).length := (List.getElem?_eq_some_iff.mp e).1
  unfold sFldLoop
  simp only [e]
  rw [if_pos ⟨trivial, hf, hn, ho, hw⟩, hi.eq, Rs.sr_ok, fldL_typed zs [] (by simpa using hl) hs, Rs.sr_ok]
  have e2 : ((ρ.set i (.rf x) : Ev) : List Sl)[i]? = some (.rf x) := List.getElem?_set_self hi'
  simp only [e2]
  rw [if_pos ⟨trivial, ho⟩]
  with_unfolding_all exact hN
theorem wp_seqR {f g : Ev → SR} {ρ : Ev} {N : Ev → Prop} {R : D → Prop} (hh : Wp (f ρ) (fun ρ' => Wp (g ρ') N R) R) : Wp ((f ρ).seq g) N R := wp_seq (f := f) (g := g) hh
theorem ok_lang_init (w : World) (x : Addr) {B : Bk} (hB : B.good) (rs : List Rl) (hr : ∀ r ∈ rs, r.ok B.ss) (hl : rs.length ≤ 1000) {m : List D → D} (hm : SeqK m) : Ok (den_language_init w x [B.d, m (rs.map Rl.d)]) fun d => d = (⟨B, rs⟩ : Lg).d := by
  have hel := good_len hB
  refine ok_initD ?_
  unfold b_language_init
  array_mem_dec
  have pu1 : ∀ y, putS [] [] "held" y = ((["held"] : List Str), [y]) := fun _ => rfl
  refine wp_seq (wp_fldS rfl ?_)
  sizeOf_list_dec
  rw [cls_bk]
  refine ok_bsig B ?_
  sizeOf_list_dec
  rw [cls_bk]
  refine ok_bkinds B ?_
  sizeOf_list_dec
  rw [cls_bk]
  refine (ok_under B hB.k3).imp ?_
  rintro _ rfl
  sizeOf_list_dec
  rw [cls_bk]
  refine ok_bentries B ?_
  sizeOf_list_dec
  refine ok_mkD (fun y => ok_copy w y hB seqT B.es hB.es (by omega)) ?_
  rw [pu1, hB.can]
  show Wp _ _ _
  dsimp only
  refine wp_fldLoop (g := Rl.d) (h := Rl.d) rs rfl (by decide) (by decide) (by rfl) (by decide) (by omega) ?_ ?_ ?_
  · array_mem_dec
    sizeOf_list_dec
    rw [hm.seq]
  · intro r mr
    have hrk := hr r mr
    array_mem_dec
    refine ⟨_, rfl, ?_⟩
    refine wp_seqR ?_
    unfold lb_language_init_1
    array_mem_dec
    refine wp_set ?_
    sizeOf_list_dec
    rw [cls_bk]
    refine ok_bsig B ?_
    sizeOf_list_dec
    refine (ok_left_variables hB.ss hrk).imp ?_
    rintro _ rfl
    unfold lb_language_init_2
    refine wp_expr ?_
    have erd : r.d = .tup [r.ld, r.rt.d] := rfl
    rw [erd]
    sizeOf_list_dec
    rw [cls_bk]
    refine ok_bsig B ?_
    sizeOf_list_dec
    have hcn := hrk.cn
    have hvl := hrk.vl
    have hdp := Tm.dep_cnt r.rt
    refine (ok_check_right hB.ss _ r.vars (by omega) 12 r.rt (by omega) hrk.rt).imp ?_
    rintro _ rfl
    refine ⟨rfl, ?_⟩
    unfold cc_language_init_1
    sizeOf_list_dec
  · array_mem_dec
    exact ⟨_, _, rfl, rfl⟩
theorem ok_language (w : World) (T : Tab) (hT : T.ok) : Ok (den_l_language w [T.d]) fun d => d = (⟨T.bk, T.rs⟩ : Lg).d := by
  have hrl := hT.rl
  refine ok_run ?_
  unfold b_l_language
  array_mem_dec
  refine wp_ret ?_
  sizeOf_list_dec
  refine (ok_book w T hT).imp ?_
  rintro _ rfl
  rw [tab_d]
  sizeOf_list_dec
  refine ok_mkD (fun y => ok_lang_init w y hT.good T.rs hT.rs (by omega) seqL) rfl
def Tab.lg (T : Tab) : Lg := ⟨T.bk, T.rs⟩
theorem Tab.ok.lg {T : Tab} (hT : T.ok) : T.lg.ok := ⟨hT.good, hT.rs, by have := hT.rl; show T.rs.length ≤ 100; omega⟩
end KL

namespace KL
open PySem L2 KD
/-! ### the active place -/
def symOf (ss : List Sym) (nm : Kd) : Sym := (ss.find? fun s => decide (s.nm = nm)).getD ⟨[], 0, true, []⟩
theorem symOf_eq {ss : List Sym} (hs : SigOk ss) {s : Sym} (ms : s ∈ ss) : symOf ss s.nm = s := by
  unfold symOf
  cases q : ss.find? fun x => decide (x.nm = s.nm) with
  | none => exact absurd (List.find?_eq_none.mp q s ms) (by simp)
  | some s' =>
    have h1 := List.find?_some q
    have h2 := List.mem_of_find?_eq_some q
    exact sym_uniq hs.nd h2 ms (by simpa using h1)
mutual
def Tm.act (ss : List Sym) : Tm → Option (List Nat)
  | .v _ => none
  | .n nm ps => match (symOf ss nm).od.findSome? (fun i => ((Tm.acts ss ps).getD i none).map (i :: ·)) with
    | some p => some p
    | none => if (symOf ss nm).dn = true then none else some []
def Tm.acts (ss : List Sym) : List Tm → List (Option (List Nat))
  | [] => []
  | t :: ts => t.act ss :: Tm.acts ss ts
end
theorem Tm.acts_map (ss : List Sym) : ∀ ts : List Tm, Tm.acts ss ts = ts.map (Tm.act ss)
  | [] => by simp [Tm.acts]
  | t :: ts => by simp [Tm.acts, Tm.acts_map ss ts]
theorem act_n (ss : List Sym) (nm : Kd) (ps : List Tm) : (Tm.n nm ps).act ss = match (symOf ss nm).od.findSome? (fun i => ((ps.map (Tm.act ss)).getD i none).map (i :: ·)) with
    | some p => some p
    | none => if (symOf ss nm).dn = true then none else some [] := by rw [Tm.act, Tm.acts_map]
def pathD : Option (List Nat) → D
  | none => .non
  | some p => .tup (p.map natD)
theorem pathD_non (o : Option (List Nat)) : (pathD o).isNon = o.isNone := by cases o <;> rfl
mutual
theorem act_len (ss : List Sym) : ∀ (t : Tm) (p : List Nat), t.act ss = some p → p.length ≤ t.dep
  | .v _, p, h => by simp [Tm.act] at h
  | .n nm ps, p, h => by
    rw [Tm.act] at h
    split at h
    · rename_i q e
      cases h
      obtain ⟨i, mi, ei⟩ := List.exists_of_findSome?_eq_some e
      have := acts_len ss ps i
      cases z : (Tm.acts ss ps).getD i none with
      | none => rw [z] at ei; cases ei
      | some p' =>
        rw [z] at ei
        cases ei
        have := this p' z
        simp only [List.length_cons, Tm.dep]
        omega
    · split at h
      · cases h
      · cases h
        simp
theorem acts_len (ss : List Sym) : ∀ (ts : List Tm) (i : Nat) (p : List Nat), (Tm.acts ss ts).getD i none = some p → p.length ≤ Tm.deps ts
  | [], i, p, h => by simp [Tm.acts] at h
  | t :: ts, 0, p, h => by
    have := act_len ss t p (by simpa [Tm.acts] using h)
    simp only [Tm.deps]
    omega
  | t :: ts, i + 1, p, h => by
    have := acts_len ss ts i p (by simpa [Tm.acts] using h)
    simp only [Tm.deps]
    omega
end
theorem nIxTm {P : D → Prop} {nm : Kd} {ps : List Tm} {i : Nat} : Ok (gIx (.tup (nmD nm :: ps.map Tm.d)) (natD (1 + i))) P = ∃ t, ps[i]? = some t ∧ P t.d := by
  rw [nIxT, Nat.add_comm]
  simp only [List.getElem?_cons_succ]
  apply propext
  constructor
  · rintro ⟨d, h, p⟩
    obtain ⟨t, et, rfl⟩ := map_at h
    exact ⟨t, et, p⟩
  · rintro ⟨t, h, p⟩
    exact ⟨t.d, by rw [List.getElem?_map, h]; rfl, p⟩
theorem findSome_snoc {α β : Type} (f : α → Option β) (l : List α) (x : α) : (l ++ [x]).findSome? f = (l.findSome? f).or (f x) := by
  rw [List.findSome?_append]
  cases h : f x <;> simp [h]
/-- the loop over the evaluated places, in either text -/
theorem act_loop {ss : List Sym} (hs : SigOk ss) {s : Sym} (ms : s ∈ ss) {ps : List Tm} (hl : ps.length = s.pl) (k : Nat) {i : Nat} (ei : s.od[k]? = some i) : ∃ t, ps[i]? = some t ∧ t ∈ ps ∧ (ps.map (Tm.act ss)).getD i none = t.act ss := by
  have mi := List.mem_of_getElem? ei
  have hi := (hs.all s ms).lt i mi
  obtain ⟨t, et, mt⟩ := at_lt (xs := ps) (k := i) (by omega)
  refine ⟨t, et, mt, ?_⟩
  rw [List.getD_eq_getElem?_getD, List.getElem?_map, et]
  rfl
theorem ok_active_path {ss : List Sym} (hs : SigOk ss) : ∀ (f : Nat) (t : Tm), t.dep < f → t.dep ≤ 1000 → t.wf ss → Ok (den_active_path f [sigO ss, t.d]) fun d => d = pathD (t.act ss)
  | 0, t, h, _, _ => by omega
  | f + 1, .v _, _, _, hw => hw.elim
  | f + 1, .n nm ps, hd, hd2, hw => by
    obtain ⟨⟨s, ms, h1, h2⟩, hps⟩ := wf_n hw
    subst h1
    have hdp : ∀ p ∈ ps, p.dep < f ∧ p.dep ≤ 999 := fun p hp => by
      have := Tm.deps_le hp
      simp only [Tm.dep] at hd hd2
      omega
    have hso := symOf_eq hs ms
    show Ok (runD 4 (b_active_path (den_active_path f)) _) _
    refine ok_run ?_
    unfold b_active_path
    rw [Tm.d_n, act_n, hso]
    array_mem_dec
    refine wp_seq (wp_for (fun i ρ => ρ = [.dt (sigO ss), .dt (.tup (nmD s.nm :: ps.map Tm.d)), .no, .no] ∧ (s.od.take i).findSome? (fun i => ((ps.map (Tm.act ss)).getD i none).map (i :: ·)) = none) ?_)
    sizeOf_list_dec
    rw [self_sigP _ _ (by decide) (by decide)]
    refine (ok_order hs ms).imp ?_
    rintro _ rfl
    sizeOf_list_dec
    refine ⟨by simp, ?_, ?_⟩
    · rintro k d ρ hd ⟨rfl, hn⟩
      obtain ⟨i, ei, rfl⟩ := map_at hd
      obtain ⟨t, et, mt, ea⟩ := act_loop hs ms h2 k ei
      have ext : s.od.take (k + 1) = s.od.take k ++ [i] := by rw [List.take_add_one, ei]; rfl
      refine ⟨_, rfl, ?_⟩
      unfold lb_active_path_1
      array_mem_dec
      refine wp_seq (wp_set ?_)
      sizeOf_list_dec
      rw [nIxTm]
      refine ⟨t, et, ?_⟩
      refine (ok_active_path hs f t (hdp t mt).1 (by have := (hdp t mt).2; omega) (hps t mt)).imp ?_
      rintro _ rfl
      refine wp_if ?_
      sizeOf_list_dec
      rw [pathD_non]
      cases q : t.act ss with
      | none =>
        refine ⟨fun z => (by cases z), fun _ => wp_nil ⟨rfl, ?_⟩⟩
        rw [ext, findSome_snoc, hn, ea, q]
        rfl
      | some p =>
        refine ⟨fun _ => wp_ret ?_, fun z => (by cases z)⟩
        have hp := act_len ss t p q
        have := (hdp t mt).2
        rw [show pathD (some p) = .tup (p.map natD) from rfl]
        sizeOf_list_dec
        refine ⟨line_ok (by omega), ?_⟩
        have e2 : s.od.findSome? (fun i => ((ps.map (Tm.act ss)).getD i none).map (i :: ·)) = some (i :: p) := by
          rw [← List.take_append_drop (k + 1) s.od, List.findSome?_append, ext, findSome_snoc, hn, ea, q]
          rfl
        rw [e2]
        rfl
    · rintro ρ ⟨rfl, hn⟩
      rw [List.take_length] at hn
      rw [hn]
      refine wp_seq (wp_if ?_)
      sizeOf_list_dec
      rw [self_sigP _ _ (by decide) (by decide)]
      refine (ok_is_done hs ms).imp ?_
      rintro _ rfl
      sizeOf_list_dec
      refine ⟨fun z => wp_ret ?_, fun z => wp_nil (wp_ret ?_)⟩
      · sizeOf_list_dec
        rw [if_pos z]
        rfl
      · sizeOf_list_dec
        rw [if_neg (by rw [z]; simp)]
        rfl
theorem filter_sym : ∀ {ss : List Sym}, (ss.map (·.nm)).Nodup → ∀ {s : Sym}, s ∈ ss → ss.filter (fun x => decide (x.nm = s.nm)) = [s]
  | [], _, s, h => by cases h
  | a :: ss, nd, s, h => by
    rw [List.map_cons, List.nodup_cons] at nd
    rw [List.filter_cons]
    rcases List.mem_cons.mp h with e | e
    · subst e
      rw [if_pos (by simp)]
      congr 1
      rw [List.filter_eq_nil_iff]
      intro x hx hc
      have hc' : x.nm = s.nm := by simpa using hc
      exact nd.1 (List.mem_map.mpr ⟨x, hx, hc'⟩)
    · have hne : ¬ a.nm = s.nm := fun q => nd.1 (List.mem_map.mpr ⟨s, e, q.symm⟩)
      rw [if_neg (by simpa using hne)]
      exact filter_sym nd.2 e
theorem ok_lactive {T : Tab} (hT : T.ok) : ∀ (f : Nat) (t : Tm), t.dep < f → t.dep ≤ 1000 → t.wf T.ss → Ok (den_l_active f [T.d, t.d]) fun d => d = pathD (t.act T.ss)
  | 0, t, h, _, _ => by omega
  | f + 1, .v _, _, _, hw => hw.elim
  | f + 1, .n nm ps, hd, hd2, hw => by
    have hs := hT.ss
    obtain ⟨⟨s, ms, h1, h2⟩, hps⟩ := wf_n hw
    subst h1
    have h6 := hT.s5
    have hdp : ∀ p ∈ ps, p.dep < f ∧ p.dep ≤ 999 := fun p hp => by
      have := Tm.deps_le hp
      simp only [Tm.dep] at hd hd2
      omega
    have hso := symOf_eq hs ms
    show Ok (runD 5 (b_l_active (den_l_active f)) _) _
    refine ok_run ?_
    unfold b_l_active
    rw [Tm.d_n, act_n, hso]
    array_mem_dec
    refine wp_seq (wp_set ?_)
    sizeOf_list_dec
    refine ok_compFP (zs := T.ss) (g := Sym.d) (fun x => decide (x.nm = s.nm)) Sym.d ?_ (by omega) ?_ ?_
    · rw [tab_d]
      sizeOf_list_dec
    · intro x mx
      refine ⟨_, rfl, ?_, fun _ => ?_⟩
      · unfold ct_l_active_1
        rw [sym_d x]
        array_mem_dec
        sizeOf_list_dec
      · unfold cc_l_active_1
        array_mem_dec
        sizeOf_list_dec
    have efil := filter_sym hs.nd ms
    rw [efil]
    sizeOf_list_dec
    rw [nIxL]
    refine ⟨_, rfl, ?_⟩
    rw [sym_d s]
    refine wp_seq (wp_for (fun i ρ => ρ = [.dt T.d, .dt (.tup (nmD s.nm :: ps.map Tm.d)), .dt (.tup [nmD s.nm, natD s.pl, .bl s.dn, .tup (s.od.map natD)]), .no, .no] ∧ (s.od.take i).findSome? (fun i => ((ps.map (Tm.act T.ss)).getD i none).map (i :: ·)) = none) ?_)
    sizeOf_list_dec
    refine ⟨by simp, ?_, ?_⟩
    · rintro k d ρ hd ⟨rfl, hn⟩
      obtain ⟨i, ei, rfl⟩ := map_at hd
      obtain ⟨t, et, mt, ea⟩ := act_loop hs ms h2 k ei
      have ext : s.od.take (k + 1) = s.od.take k ++ [i] := by rw [List.take_add_one, ei]; rfl
      refine ⟨_, rfl, ?_⟩
      unfold lb_l_active_1
      array_mem_dec
      refine wp_seq (wp_set ?_)
      sizeOf_list_dec
      rw [nIxTm]
      refine ⟨t, et, ?_⟩
      refine (ok_lactive hT f t (hdp t mt).1 (by have := (hdp t mt).2; omega) (hps t mt)).imp ?_
      rintro _ rfl
      refine wp_if ?_
      sizeOf_list_dec
      rw [pathD_non]
      cases q : t.act T.ss with
      | none =>
        refine ⟨fun z => (by cases z), fun _ => wp_nil ⟨rfl, ?_⟩⟩
        rw [ext, findSome_snoc, hn, ea, q]
        rfl
      | some p =>
        refine ⟨fun _ => wp_ret ?_, fun z => (by cases z)⟩
        have hp := act_len T.ss t p q
        have := (hdp t mt).2
        rw [show pathD (some p) = .tup (p.map natD) from rfl]
        sizeOf_list_dec
        refine ⟨line_ok (by omega), ?_⟩
        have e2 : s.od.findSome? (fun i => ((ps.map (Tm.act T.ss)).getD i none).map (i :: ·)) = some (i :: p) := by
          rw [← List.take_append_drop (k + 1) s.od, List.findSome?_append, ext, findSome_snoc, hn, ea, q]
          rfl
        rw [e2]
        rfl
    · rintro ρ ⟨rfl, hn⟩
      rw [List.take_length] at hn
      rw [hn]
      refine wp_seq (wp_if ?_)
      sizeOf_list_dec
      refine ⟨fun z => wp_ret ?_, fun z => wp_nil (wp_ret ?_)⟩
      · sizeOf_list_dec
        rw [if_pos z]
        rfl
      · sizeOf_list_dec
        rw [if_neg (by rw [z]; simp)]
        rfl
section
variable {P : D → Prop} (L : Lg)
theorem self_lg (m : Str) (h : fldD ["held", "listed"] [L.b.d, .lst (L.rs.map Rl.d)] m = none) : Ok (gSelf "Language" m L.d) P = P L.d := gSelf_ob h
theorem fld_held : Ok (gFld "Language" "held" L.d) P = P L.b.d := by
  have e : gFld "Language" "held" L.d = .ok L.b.d := rfl
  rw [e, ok_ok]
theorem fld_rules : Ok (gFld "Language" "listed" L.d) P = P (.lst (L.rs.map Rl.d)) := by
  have e : gFld "Language" "listed" L.d = .ok (.lst (L.rs.map Rl.d)) := rfl
  rw [e, ok_ok]
theorem cls_lg : Ok (gCls "Language" L.d) P = P L.d := ok_gCls
end
theorem ok_active (L : Lg) (hL : L.ok) (t : Tm) (hd : t.dep < 120) (hc : t.cnt ≤ 100000) (hw : t.wf L.b.ss) : Ok (den_language_active [L.d, t.d]) fun d => d = pathD (t.act L.b.ss) := by
  refine ok_run ?_
  unfold b_language_active
  array_mem_dec
  refine wp_seq (wp_expr ?_)
  sizeOf_list_dec
  rw [fld_held, cls_bk]
  refine ok_bsig L.b ?_
  rw [self_sigP _ _ (by decide) (by decide)]
  refine (ok_size hL.b.ss 120 t hd hc hw).imp ?_
  rintro _ _
  refine wp_ret ?_
  sizeOf_list_dec
  rw [fld_held, cls_bk]
  refine ok_bsig L.b ?_
  exact ok_active_path hL.b.ss 120 t hd (by omega) hw
theorem ok_is_value (L : Lg) (hL : L.ok) (t : Tm) (hd : t.dep < 120) (hc : t.cnt ≤ 100000) (hw : t.wf L.b.ss) : Ok (den_language_is_value [L.d, t.d]) fun d => d = .bl (t.act L.b.ss).isNone := by
  refine ok_run ?_
  unfold b_language_is_value
  array_mem_dec
  refine wp_ret ?_
  sizeOf_list_dec
  rw [self_lg L "active" (by rfl)]
  refine (ok_active L hL t hd hc hw).imp ?_
  rintro _ rfl
  rw [pathD_non]
theorem isi_int (n : Nat) : isiD "int" (natD n) = .ok (.bl true) := by
  have : kitB "int" "int" = some true := by decide +kernel
  show (match kitB "int" "int" with | some b => Rs.ok (D.bl b) | none => .bot) = _
  rw [this]
theorem isi_intb (n : Nat) : isiD "bool" (natD n) = .ok (.bl false) := by
  have : kitB "int" "bool" = some false := by decide +kernel
  show (match kitB "int" "bool" with | some b => Rs.ok (D.bl b) | none => .bot) = _
  rw [this]
theorem isi_bb (b : Bool) : isiD "bool" (.bl b) = .ok (.bl true) := by
  have : kitB "bool" "bool" = some true := by decide +kernel
  show (match kitB "bool" "bool" with | some b => Rs.ok (D.bl b) | none => .bot) = _
  rw [this]
theorem ok_integer (n : Nat) : Ok (den_l_integer [natD n]) fun d => d = .bl true := by
  refine ok_run ?_
  unfold b_l_integer
  array_mem_dec
  refine wp_ret ?_
  sizeOf_list_dec
  rw [ok_dIsi]
  sizeOf_list_dec
  rw [isi_int, ok_ok]
  sizeOf_list_dec
  refine ⟨fun _ => ?_, fun z => (by cases z)⟩
  rw [ok_dIsi]
  sizeOf_list_dec
  rw [isi_intb, ok_ok]
  sizeOf_list_dec
  rfl
theorem cd_path (p : List Nat) : cd (.tup (p.map natD)) = true := by simpa [cd] using cds_map cd_nat p
theorem pathEq {P : D → Prop} (p : List Nat) : Ok (gEq (.tup (p.map natD)) (.tup [])) P = P (.bl p.isEmpty) := by
  rw [ok_eq]
  have e : eqOk (.tup (p.map natD)) (.tup []) = true := by
    unfold eqOk
    rw [cd_plain _ (cd_path p)]
    have : (D.tup (p.map natD)).dep ≤ 200 := by simp [D.dep, deps_nat]
    simp [this, D.plain, D.plains]
  have e2 : eqD (.tup (p.map natD)) (.tup []) = p.isEmpty := by
    cases p with
    | nil => rfl
    | cons i p =>
      have := (eqD_cd _ _ (cd_path (i :: p)) (cd_path [])).mp
      cases h : eqD (.tup ((i :: p).map natD)) (.tup []) with
      | false => rfl
      | true => exact absurd (this h) (by simp)
  rw [e2]
  exact propext ⟨fun z => z.2, fun z => ⟨e, z⟩⟩
end KL

namespace KL
open PySem L2 KD
theorem blNe {P : D → Prop} {a b : Bool} : Ok (gNe (.bl a) (.bl b)) P = P (.bl (a != b)) := by
  rw [ok_ne]
  have e : eqOk (.bl a) (.bl b) = true := rfl
  have e2 : eqD (.bl a) (.bl b) = (a == b) := by cases a <;> cases b <;> rfl
  rw [e2]
  exact propext ⟨fun z => z.2, fun z => ⟨e, z⟩⟩
theorem deps_le {α : Type} {f : α → D} {b : Nat} : ∀ {xs : List α}, (∀ x ∈ xs, (f x).dep ≤ b) → D.deps (xs.map f) ≤ b
  | [], _ => by simp [D.deps]
  | x :: xs, h => by
    have h1 := h x List.mem_cons_self
    have h2 := deps_le (f := f) (b := b) (xs := xs) fun y hy => h y (List.mem_cons_of_mem _ hy)
    rw [List.map_cons, D.deps]
    omega
theorem dep_pr (p : Kd × Kd) : (prD p).dep ≤ 1 := by simp [prD, D.dep, D.deps, dep_nm]
theorem cd_pr (p : Kd × Kd) : cd (prD p) = true := by simp [prD, cd, cds, cd_nm]
open Classical in
theorem cNeS {P : D → Prop} {x : D} (h1 : cd x = true) (hd : x.dep ≤ 200) (hp : P (.bl false)) : Ok (gNe x x) P := cNe h1 h1 (.inl hd) (by simpa using hp)
open Classical in
theorem cEqS {P : D → Prop} {x : D} (h1 : cd x = true) (hd : x.dep ≤ 200) (hp : P (.bl true)) : Ok (gEq x x) P := cEq h1 h1 (.inl hd) (by simpa using hp)
theorem noQ {T : Tab} (hT : T.ok) (l : Kd) (c : Nat) (hc : c ∈ l) (h97 : c < 97) : l ∉ T.ks := fun h => by
  have := (hT.kok l h).2.2 c hc
  omega
end KL

/-! KP5: the calculus for new lists that are given away. -/
namespace KD
open PySem L2
section
variable {P : D → Prop} {Q : List D → Prop} {ρ : Ev} {fa : Ev → Rs D} {fs : Ev → Rs (List D)} {N : Ev → Prop} {R : D → Prop} {i : Nat}
theorem wp_retO {xs : List D} (e : (ρ : List Sl)[i]? = some (.ol xs)) (hh : R (.lst xs)) : Wp (sRetO i ρ) N R := by
  with_unfolding_all
    unfold sRetO
    rw [e]
    exact hh
theorem wp_retF (hh : Ok (fs ρ) fun xs => R (.lst xs)) : Wp (sRetF fs ρ) N R := by
  with_unfolding_all
    obtain ⟨xs, e, q⟩ := hh.ex
    unfold sRetF
    rw [e]
    exact q
theorem ok_dFrM {c m : Str} {n : Nat} {g : List D → Rs D} : Ok (dFrM c m n g fa fs ρ) Q = Ok (fa ρ) fun x => Ok (gSelf c m x) fun x => Ok (fs ρ) fun ds => ds.length + 1 = n ∧ Ok (g (x :: ds)) (fun d => Ok (asLs d) Q) := by with_unfolding_all (unfold dFrM; simp only [ok_bind, ok_iteR])
theorem ok_asLs {xs : List D} : Ok (asLs (.lst xs)) Q = Q xs := by with_unfolding_all exact rfl
theorem wp_clear {xs : List D} (e : (ρ : List Sl)[i]? = some (.ol xs)) (hh : N (ρ.set i (.ol []))) : Wp (sClear i ρ) N R := by
  with_unfolding_all
    unfold sClear
    rw [e]
    exact hh
end
end KD

/-! KP6: the calculus with errors. -/
namespace KD
open PySem L2
abbrev XP := Str → List Str → List D → Prop
@[irreducible] def Ox {α : Type} (r : Rs α) (P : α → Prop) (X : XP) : Prop := match r with
  | .ok a => P a
  | .xc c n f => X c n f
  | .bot => False
@[irreducible] def Wx (r : SR) (N : Ev → Prop) (R : D → Prop) (X : XP) : Prop := match r with
  | .nx ρ => N ρ
  | .rt d => R d
  | .ro xs => R (.lst xs)
  | .xc c n f => X c n f
  | _ => False
@[irreducible] def Wt (r : TR) (N : Ev → Prop) (R : D → Prop) (X : Ev → XP) : Prop := match r with
  | .nx ρ => N ρ
  | .rt d => R d
  | .xc ρ c n f => X ρ c n f
  | .bot => False
theorem Ox.imp {α : Type} {r : Rs α} {P Q : α → Prop} {X Y : XP} (h : Ox r P X) (k : ∀ a, P a → Q a) (l : ∀ c n f, X c n f → Y c n f) : Ox r Q Y := by
  with_unfolding_all
    cases r with
    | ok a => exact k a h
    | xc c n f => exact l _ _ _ h
    | bot => exact h
theorem Ox.ofOk {α : Type} {r : Rs α} {P : α → Prop} {X : XP} (h : Ok r P) : Ox r P X := by
  with_unfolding_all
    obtain ⟨a, rfl, h⟩ := h.ex
    exact h
/-- one of the two -/
theorem Ox.ex {α : Type} {r : Rs α} {P : α → Prop} {X : XP} (h : Ox r P X) : (∃ a, r = .ok a ∧ P a) ∨ ∃ c n f, r = .xc c n f ∧ X c n f := by
  with_unfolding_all
    cases r with
    | ok a => exact .inl ⟨a, rfl, h⟩
    | xc c n f => exact .inr ⟨c, n, f, rfl, h⟩
    | bot => exact False.elim h
theorem ox_ok {α : Type} {a : α} {P : α → Prop} {X : XP} : Ox (.ok a) P X = P a := by with_unfolding_all exact rfl
theorem ox_xc {α : Type} {c n f} {P : α → Prop} {X : XP} : Ox (.xc c n f : Rs α) P X = X c n f := by with_unfolding_all exact rfl
theorem Ox.of {α : Type} {r : Rs α} {a : α} {P : α → Prop} {X : XP} (e : r = .ok a) (h : P a) : Ox r P X := by rw [e, ox_ok]; exact h
theorem Ox.ofX {α : Type} {r : Rs α} {c n f} {P : α → Prop} {X : XP} (e : r = .xc c n f) (h : X c n f) : Ox r P X := by rw [e, ox_xc]; exact h
/-- only the error c with these fields -/
theorem Ox.eqX {α : Type} {r : Rs α} {c : Str} {n : List Str} {f : List D} (h : Ox r (fun _ => False) (fun c' n' f' => c' = c ∧ n' = n ∧ f' = f)) : r = .xc c n f := by
  rcases h.ex with ⟨a, _, z⟩ | ⟨c', n', f', e, rfl, rfl, rfl⟩
  · exact z.elim
  · exact e
theorem Ox.eqO {α : Type} {r : Rs α} {P : α → Prop} (h : Ox r P (fun _ _ _ => False)) : Ok r P := by
  rcases h.ex with ⟨a, e, z⟩ | ⟨c', n', f', e, z⟩
  · exact Ok.of e z
  · exact z.elim
theorem Wx.ofWp {r : SR} {N : Ev → Prop} {R : D → Prop} {X : XP} (h : Wp r N R) : Wx r N R X := by
  with_unfolding_all
    cases r <;> first | exact h | exact False.elim h
theorem Wx.imp {r : SR} {N N' : Ev → Prop} {R R' : D → Prop} {X X' : XP} (h : Wx r N R X) (k : ∀ ρ, N ρ → N' ρ) (l : ∀ d, R d → R' d) (m : ∀ c n f, X c n f → X' c n f) : Wx r N' R' X' := by
  with_unfolding_all
    cases r with
    | nx ρ => exact k ρ h
    | rt d => exact l d h
    | ro d => exact l _ h
    | xc c n f => exact m _ _ _ h
    | _ => exact h
section
variable {α β : Type} {P : D → Prop} {Q : List D → Prop} {B : Bool → Prop} {ρ : Ev} {fa fb : Ev → Rs D} {fs fk : Ev → Rs (List D)} {ft fu : Ev → Rs Bool} {N : Ev → Prop} {R : D → Prop} {X : XP} {f g h : Ev → SR} {i : Nat} {Y : Ev → XP} {p q : Ev → TR}
theorem ox_bind {r : Rs α} {k : α → Rs β} {P : β → Prop} : Ox (r.bind k) P X = Ox r (fun a => Ox (k a) P X) X := by with_unfolding_all (cases r <;> rfl)
theorem ox_iteR {c : Prop} [Decidable c] {r : Rs α} {P : α → Prop} : Ox (if c then r else .bot) P X = (c ∧ Ox r P X) := by
  with_unfolding_all
    by_cases h : c
    · rw [if_pos h]; exact propext ⟨fun q => ⟨h, q⟩, fun q => q.2⟩
    · rw [if_neg h]; exact propext ⟨fun q => False.elim q, fun q => (h q.1).elim⟩
theorem ox_dCallN {n : Nat} {g : List D → Rs D} (h : Ok (fs ρ) fun ds => ds.length = n ∧ Ox (g ds) P X) : Ox (dCallN n g fs ρ) P X := by
  obtain ⟨ds, e, l, z⟩ := h.ex
  unfold dCallN
  rw [e, Rs.bind_ok, if_pos l]
  exact z
theorem ox_dMeth {c m : Str} {n : Nat} {g : List D → Rs D} (h : Ok (fa ρ) fun x => Ok (gSelf c m x) fun x => Ok (fs ρ) fun ds => ds.length + 1 = n ∧ Ox (g (x :: ds)) P X) : Ox (dMeth c m n g fa fs ρ) P X := by
  obtain ⟨x, e, h⟩ := h.ex
  obtain ⟨y, e2, h⟩ := h.ex
  obtain ⟨ds, e3, l, z⟩ := h.ex
  unfold dMeth
  rw [e, Rs.bind_ok, e2, Rs.bind_ok, e3, Rs.bind_ok, if_pos l]
  exact z
theorem ox_rCallN {n : Nat} {g : List D → Rs D} (h : Ok (fs ρ) fun ds => ds.length = n ∧ Ox (g ds) P X) : Ox (rCallN n g fs ρ) P X := by
  obtain ⟨ds, e, l, z⟩ := h.ex
  unfold rCallN
  rw [e, Rs.nox_ok, Rs.bind_ok, if_pos l]
  exact z
theorem ox_rMeth {c m : Str} {n : Nat} {g : List D → Rs D} (h : Ok (fa ρ) fun x => Ok (gSelf c m x) fun x => Ok (fs ρ) fun ds => ds.length + 1 = n ∧ Ox (g (x :: ds)) P X) : Ox (rMeth c m n g fa fs ρ) P X := by
  obtain ⟨x, e, h⟩ := h.ex
  obtain ⟨y, e2, h⟩ := h.ex
  obtain ⟨ds, e3, l, z⟩ := h.ex
  unfold rMeth
  rw [e, Rs.nox_ok, Rs.bind_ok, e2, Rs.nox_ok, Rs.bind_ok, e3, Rs.nox_ok, Rs.bind_ok, if_pos l]
  exact z
theorem ox_rCallK {n m : Nat} {g : List D → Rs D} (h : Ok (fs ρ) fun xs => Ok (fk ρ) fun ys => (xs.length = n ∧ ys.length = m) ∧ Ox (g (xs ++ ys)) P X) : Ox (rCallK n m g fs fk ρ) P X := by
  obtain ⟨x, e, h⟩ := h.ex
  obtain ⟨y, e2, l, z⟩ := h.ex
  unfold rCallK
  rw [e, Rs.nox_ok, Rs.bind_ok, e2, Rs.nox_ok, Rs.bind_ok, if_pos l]
  exact z
theorem ox_noE (h : Ok (fa ρ) P) : Ox (noE fa ρ) P X := by
  obtain ⟨x, e, h⟩ := h.ex
  unfold noE
  rw [e, Rs.nox_ok, ox_ok]
  exact h
/-! ### statements -/
theorem wx_seq (hh : Wx (f ρ) (fun ρ' => Wx (g ρ') N R X) R X) : Wx (sSeq f g ρ) N R X := by
  with_unfolding_all
    unfold sSeq
    cases q : f ρ <;> rw [q] at hh <;> exact hh
theorem wx_set (hh : Ox (fa ρ) (fun d => N (ρ.set i (.dt d))) X) : Wx (sSet i fa ρ) N R X := by
  with_unfolding_all
    rcases hh.ex with ⟨d, e, q⟩ | ⟨c, n, f, e, q⟩
    · unfold sSet; rw [e]; exact q
    · unfold sSet; rw [e]; exact q
theorem wx_ret (hh : Ox (fa ρ) R X) : Wx (sRet fa ρ) N R X := by
  with_unfolding_all
    rcases hh.ex with ⟨d, e, q⟩ | ⟨c, n, f, e, q⟩
    · unfold sRet; rw [e]; exact q
    · unfold sRet; rw [e]; exact q
theorem wx_expr (hh : Ox (fa ρ) (fun _ => N ρ) X) : Wx (sExpr fa ρ) N R X := by
  with_unfolding_all
    rcases hh.ex with ⟨d, e, q⟩ | ⟨c, n, f, e, q⟩
    · unfold sExpr; rw [e]; exact q
    · unfold sExpr; rw [e]; exact q
theorem wx_nil (hh : N ρ) : Wx (sNil ρ) N R X := by with_unfolding_all exact (hh)
theorem wx_if (hh : Ok (ft ρ) fun b => (b = true → Wx (f ρ) N R X) ∧ (b = false → Wx (g ρ) N R X)) : Wx (sIf ft f g ρ) N R X := by
  with_unfolding_all
    obtain ⟨b, e, h1, h2⟩ := hh.ex
    unfold sIf; rw [e, Rs.sr_ok]
    cases b with
    | true => rw [if_pos rfl]; exact h1 rfl
    | false => rw [if_neg (by simp)]; exact h2 rfl
theorem wx_raise {c : Str} {ns : List Str} (hh : Ok (fs ρ) fun ds => ds.length = ns.length ∧ ds.length ≤ 1000 ∧ X c ns.reverse ds.reverse) : Wx (sRaise c ns fs ρ) N R X := by
  with_unfolding_all
    obtain ⟨ds, e, h1, h2, h3⟩ := hh.ex
    unfold sRaise; rw [e, Rs.sr_ok, if_pos ⟨h1, h2⟩]
    exact h3
theorem wx_forL {t : D → Ev → Option Ev} {wp : List Nat} {body : Ev → SR} (I : Nat → Ev → Prop) : ∀ (ds : List D) (ρ : Ev) (j : Nat), I j ρ →
    (∀ k d ρ, ds[k]? = some d → I (j + k) ρ → ∃ ρ', t d ρ = some ρ' ∧ Wx (body ρ') (fun ρ2 => I (j + k + 1) (wipeE wp ρ2)) R X) → (∀ ρ, I (j + ds.length) ρ → N ρ) → Wx (forL t wp body ds ρ) N R X
  | [], ρ, j, h0, _, hN => by with_unfolding_all exact hN ρ h0
  | d :: ds, ρ, j, h0, hs, hN => by
    obtain ⟨ρ', e1, e2⟩ := hs 0 d ρ rfl h0
    unfold forL
    rw [e1]
    dsimp only
    cases q : body ρ' with
    | nx ρ2 =>
      rw [q] at e2
      refine wx_forL I ds (wipeE wp ρ2) (j + 1) (by with_unfolding_all exact e2) (fun k d ρ hd hp => ?_) (fun ρ h => hN ρ (by rw [List.length_cons, show j + (ds.length + 1) = j + 1 + ds.length by omega]; exact h))
      obtain ⟨a, q1, q2⟩ := hs (k + 1) d ρ (by simpa using hd) (by rw [show j + (k + 1) = j + 1 + k by omega]; exact hp)
      exact ⟨a, q1, by rw [show j + 1 + k + 1 = j + (k + 1) + 1 by omega]; exact q2⟩
    | rt d => rw [q] at e2; with_unfolding_all exact e2
    | ro d => rw [q] at e2; with_unfolding_all exact e2
    | xc c n f => rw [q] at e2; with_unfolding_all exact e2
    | _ => rw [q] at e2; with_unfolding_all exact False.elim e2
theorem wx_for {it : Ev → Rs (List D)} {t : D → Ev → Option Ev} {wp : List Nat} {body : Ev → SR} (I : Nat → Ev → Prop)
    (hh : Ok (it ρ) fun ds => I 0 ρ ∧ (∀ k d ρ, ds[k]? = some d → I k ρ → ∃ ρ', t d ρ = some ρ' ∧ Wx (body ρ') (fun ρ2 => I (k + 1) (wipeE wp ρ2)) R X) ∧ ∀ ρ, I ds.length ρ → N ρ) : Wx (sFor it t wp body ρ) N R X := by
  with_unfolding_all
    obtain ⟨ds, e, h0, hs, hN⟩ := hh.ex
    unfold sFor
    rw [e, Rs.sr_ok]
    exact wx_forL I ds ρ 0 h0 (fun k d ρ hd hp => by simpa using hs k d ρ hd (by simpa using hp)) (fun ρ h => hN ρ (by simpa using h))
theorem ox_run {n : Nat} {ds : List D} (hh : Wx (f (ev0 n ds)) (fun _ => P .non) P X) : Ox (runD n f ds) P X := by
  with_unfolding_all
    unfold runD
    cases q : f (ev0 n ds) <;> rw [q] at hh <;> first | exact hh | exact False.elim hh
/-! ### try -/
theorem wt_expr (hh : Ox (fa ρ) (fun _ => N ρ) (Y ρ)) : Wt (bExpr fa ρ) N R Y := by
  with_unfolding_all
    rcases hh.ex with ⟨d, e, q⟩ | ⟨c, n, f, e, q⟩
    · unfold bExpr; rw [e]; exact q
    · unfold bExpr; rw [e]; exact q
theorem wt_set (hh : Ox (fa ρ) (fun d => N (ρ.set i (.dt d))) (Y ρ)) : Wt (bSet i fa ρ) N R Y := by
  with_unfolding_all
    rcases hh.ex with ⟨d, e, q⟩ | ⟨c, n, f, e, q⟩
    · unfold bSet; rw [e]; exact q
    · unfold bSet; rw [e]; exact q
theorem wt_if (hh : Ok (ft ρ) fun b => (b = true → Wt (p ρ) N R Y) ∧ (b = false → Wt (q ρ) N R Y)) : Wt (bIf ft p q ρ) N R Y := by
  with_unfolding_all
    obtain ⟨b, e, h1, h2⟩ := hh.ex
    unfold bIf; rw [e]
    cases b with
    | true => exact h1 rfl
    | false => exact h2 rfl
theorem wt_nil (hh : N ρ) : Wt (bNil ρ) N R Y := by with_unfolding_all exact hh
theorem wt_seq (hh : Wt (p ρ) (fun ρ' => Wt (q ρ') N R Y) R Y) : Wt (bSeq p q ρ) N R Y := by
  with_unfolding_all
    unfold bSeq TR.seq
    cases r : p ρ <;> rw [r] at hh <;> exact hh
theorem wt_st (hh : Wp (f ρ) N R) (hn : ∀ xs, f ρ ≠ .ro xs) : Wt (bSt f ρ) N R Y := by
  with_unfolding_all
    unfold bSt
    cases q : f ρ with
    | ro xs => exact absurd q (hn xs)
    | _ => rw [q] at hh; first | exact hh | exact False.elim hh
theorem wp_try {C : Str} {fsu : Addr → Option Addr → Ev → SR} (hh : Wt (p ρ) N R (fun ρ' c ns fs => c = C ∧ ∃ r, (∀ a od, (fsu a od (ρ'.set i (.ex a od ns fs))).tail i = r) ∧ Wp r N R)) : Wp (sTry C i p fsu ρ) N R := by
  with_unfolding_all
    unfold sTry
    cases q : p ρ with
    | nx ρ' => rw [q] at hh; exact hh
    | rt d => rw [q] at hh; exact hh
    | bot => rw [q] at hh; exact False.elim hh
    | xc ρ' c ns fs =>
      rw [q] at hh
      have hh2 : c = C ∧ ∃ r, (∀ a od, (fsu a od (ρ'.set i (.ex a od ns fs))).tail i = r) ∧ Wp r N R := hh
      obtain ⟨rfl, r, h1, h2⟩ := hh2
      dsimp only
      rw [if_pos rfl, uni_eq h1]
      exact h2
theorem tail_ret {d : D} (h : Ok (fa ρ) fun x => x = d) : (sRet fa ρ).tail i = .rt d := by
  unfold sRet
  rw [h.eq, Rs.sr_ok]
  rfl
theorem dXf_ok {a : Addr} {od : Option Addr} {ns : List Str} {gs : List D} {m : Str} {d : D} (h : ρ[i]? = some (.ex a od ns gs)) (e : fldD ns gs m = some d) : dXf a od i m ρ = .ok d := by
  unfold dXf
  rw [h]
  dsimp only
  rw [if_pos ⟨rfl, rfl⟩, e]
end
end KD

namespace KL
open PySem L2 KD
/-! ### only this error -/
theorem fin2_of {r : SR} {b : Bool} (h : Wp r (fun _ => False) (fun x => x = .bl b)) : r.fin2 = .ok (.bl b) := by
  with_unfolding_all
    cases r with
    | nx ρ => exact False.elim h
    | rt d => cases (show d = .bl b from h); rfl
    | ro xs => cases (show D.lst xs = .bl b from h)
    | _ => exact False.elim h
theorem ok_dIsX {a : Addr} {od : Option Addr} {ns : List Str} {fs : List D} {b : Bool} {ρ : Ev} {P : D → Prop} : Ok (dIsX a od 0 b (.ex a od ns fs :: ρ)) P = P (.bl b) := by
  unfold dIsX
  rw [List.getElem?_cons_zero]
  dsimp only
  rw [if_pos ⟨rfl, rfl⟩, ok_ok]
def bN (b : Bool) : Nat := if b = true then 1 else 0
theorem ok_intB {b : Bool} {P : D → Prop} : Ok (cInt [.bl b]) P = P (natD (bN b)) := by
  with_unfolding_all cases b <;> exact rfl
/-- how many of the errors c is -/
def excN (c : Str) : Nat := bN (excSub c "BadSymbol") + bN (excSub c "BadTerm") + bN (excSub c "BadKind") + bN (excSub c "BadEntry") + bN (excSub c "BadRule") + bN (excSub c "BadChange") + bN (excSub c "OtherBook") + bN (excSub c "NotOnTop") + bN (excSub c "LostKind") + bN (excSub c "Stuck")
theorem only_ok (c : Str) (h1 : excN c = 1) (h2 : excSub c "KindsError" = true) : den_l_only c = .ok (.bl true) := by
  refine uniR_eq fun a od ns fs => fin2_of ?_
  unfold b_l_only
  show Wp (sSeq _ _ [.ex a od ns fs, .no]) _ _
  have st : ∀ {fa : Ev → Rs D} {i : Nat} {g : Ev → SR} {ρ : Ev} {N : Ev → Prop} {R : D → Prop}, Ok (fa ρ) (fun d => Wp (g (ρ.set i (.dt d))) N R) → Wp (sSeq (sSet i fa) g ρ) N R := fun h => wp_seq (wp_set h)
  refine st ?_
  sizeOf_list_dec
  simp -implicitDefEqProofs only [ok_dIsX, ok_intB]
  sizeOf_list_dec
  refine st ?_
  sizeOf_list_dec
  repeat (first | rw [ok_dIsX] | rw [ok_intB] | rw [nAdd])
  refine st ?_
  sizeOf_list_dec
  repeat (first | rw [ok_dIsX] | rw [ok_intB] | rw [nAdd])
  refine st ?_
  sizeOf_list_dec
  repeat (first | rw [ok_dIsX] | rw [ok_intB] | rw [nAdd])
  refine wp_ret ?_
  sizeOf_list_dec
  refine ⟨fun _ => ?_, fun z => ?_⟩
  · rw [ok_dIsX]
    sizeOf_list_dec
    refine ⟨fun _ => ?_, fun z => ?_⟩
    · rw [ok_dIsX]
    · rw [h2] at z; cases z
  · exact (of_decide_eq_false z h1).elim
theorem only_sym : den_l_only "BadSymbol" = .ok (.bl true) := only_ok _ (by decide +kernel) (by decide +kernel)
theorem only_term : den_l_only "BadTerm" = .ok (.bl true) := only_ok _ (by decide +kernel) (by decide +kernel)
theorem only_kind : den_l_only "BadKind" = .ok (.bl true) := only_ok _ (by decide +kernel) (by decide +kernel)
theorem only_entry : den_l_only "BadEntry" = .ok (.bl true) := only_ok _ (by decide +kernel) (by decide +kernel)
theorem only_rule : den_l_only "BadRule" = .ok (.bl true) := only_ok _ (by decide +kernel) (by decide +kernel)
theorem only_change : den_l_only "BadChange" = .ok (.bl true) := only_ok _ (by decide +kernel) (by decide +kernel)
theorem only_other : den_l_only "OtherBook" = .ok (.bl true) := only_ok _ (by decide +kernel) (by decide +kernel)
theorem only_top : den_l_only "NotOnTop" = .ok (.bl true) := only_ok _ (by decide +kernel) (by decide +kernel)
theorem only_lost : den_l_only "LostKind" = .ok (.bl true) := only_ok _ (by decide +kernel) (by decide +kernel)
theorem only_stuck : den_l_only "Stuck" = .ok (.bl true) := only_ok _ (by decide +kernel) (by decide +kernel)
end KL

namespace KD
open PySem L2
theorem ox_initD {n : Nat} {c : Str} {b : Ev → SR} {x : Addr} {ds : List D} {P : D → Prop} {X : XP} (hh : Wx (b (.oo (some x) c [] [] :: ev0 n ds)) (fun ρ => ∃ ns fs, (ρ : List Sl)[0]? = some (.oo (some x) c ns fs) ∧ P (.ob c ns fs)) (fun _ => False) X) : Ox (initD n c b x ds) P X := by
  with_unfolding_all
    unfold initD
    cases q : b (.oo (some x) c [] [] :: ev0 n ds) with
    | nx ρ =>
      rw [q] at hh
      have hh' : ∃ ns fs, (ρ : List Sl)[0]? = some (.oo (some x) c ns fs) ∧ P (.ob c ns fs) := hh
      obtain ⟨ns, fs, e, z⟩ := hh'
      simp only [e]
      rw [if_pos trivial]
      exact z
    | rt d => rw [q] at hh; exact False.elim hh
    | ro d => rw [q] at hh; exact False.elim hh
    | xc c n f => rw [q] at hh; exact hh
    | _ => rw [q] at hh; exact False.elim hh
end KD
namespace KL
open PySem L2 KD
/-- an entry fits -/
def En.fit (e : En) (ss : List Sym) (ks : List Kd) : Bool := hasPl ss ks e.nm e.ps && decide (e.kd ∈ ks)
theorem fit_ok {ss : List Sym} {ks : List Kd} {e : En} : e.fit ss ks = true ↔ e.ok ss ks := by
  unfold En.fit hasPl
  rw [Bool.and_eq_true, List.any_eq_true, decide_eq_true_iff]
  constructor
  · rintro ⟨⟨s, ms, h⟩, hk⟩
    simp only [Bool.and_eq_true, decide_eq_true_eq] at h
    exact ⟨⟨s, ms, h.1.1.symm, h.1.2⟩, fun p hp => of_decide_eq_true (List.all_eq_true.mp h.2 p hp), hk⟩
  · rintro ⟨⟨s, ms, h1, h2⟩, h3, h4⟩
    refine ⟨⟨s, ms, ?_⟩, h4⟩
    simp only [Bool.and_eq_true, decide_eq_true_eq]
    exact ⟨⟨h1.symm, h2⟩, List.all_eq_true.mpr fun p hp => decide_eq_true (h3 p hp)⟩
theorem ox_book_init (w : World) (x : Addr) {m1 m2 m3 : List D → D} (hm1 : SeqK m1) (hm2 : SeqK m2) (hm3 : SeqK m3) (ss : List Sym) (ks : List Kd) (ps : List (Kd × Kd)) (es : List En) (hs : SigOk ss) (kn : ks.Nodup) (ko : ∀ k ∈ ks, nameOk k) (k3 : ks.length ≤ 3) (hlow : ∀ p ∈ ps, p.1 ∈ ks ∧ p.2 ∈ ks) (hc : ∀ p ∈ ps, ¬ Rch ps p.2 p.1)
    (hl : es.length ≤ 1000) (hel : ∀ e ∈ es, e.ps.length ≤ 100) (hpl : ps.length ≤ 1000) (qk qp qe : D) (hqk : qk = m1 (ks.map nmD)) (hqp : qp = m2 (ps.map prD)) (hqe : qe = m3 (es.map En.d)) :
    Ox (den_book_init_x w x [sigO ss, qk, qp, qe]) (fun d => (∀ e ∈ es, e.fit ss ks = true) ∧ d = (⟨ss, ks, ps, canon ss ks es⟩ : Bk).d)
      (fun c n f => ∃ (i : Nat) (e : En), es[i]? = some e ∧ e.fit ss ks = false ∧ (∀ e' ∈ es.take i, e'.fit ss ks = true) ∧ c = "BadEntry" ∧ n = (["entry"] : List Str) ∧ f = [e.d]) := by
  subst hqk hqp hqe
  refine ox_initD ?_
  unfold b_book_init_x
  array_mem_dec
  refine wx_seq (Wx.ofWp (wp_expr ?_))
  sizeOf_list_dec
  refine (ok_check_kinds hm1 ks kn ko (by omega)).imp ?_
  rintro _ _
  have pu1 : ∀ y, putS [] [] "base" y = ((["base"] : List Str), [y]) := fun _ => rfl
  have pu2 : ∀ a y, putS ["base"] [a] "names" y = ((["base", "names"] : List Str), [a, y]) := fun _ _ => rfl
  have pu3 : ∀ a b y, putS ["base", "names"] [a, b] "above" y = ((["base", "names", "above"] : List Str), [a, b, y]) := fun _ _ _ => rfl
  have pu4 : ∀ a b c y, putS ["base", "names", "above"] [a, b, c] "rows" y = ((["base", "names", "above", "rows"] : List Str), [a, b, c, y]) := fun _ _ _ _ => rfl
  have pu5 : ∀ a b c d y, putS ["base", "names", "above", "rows"] [a, b, c, d] "rows" y = ((["base", "names", "above", "rows"] : List Str), [a, b, c, y]) := fun _ _ _ _ _ => rfl
  refine wx_seq (Wx.ofWp (wp_fldS rfl ?_))
  sizeOf_list_dec
  rw [pu1]
  refine wx_seq (Wx.ofWp (wp_fldS rfl ?_))
  sizeOf_list_dec
  rw [hm1.lst]
  sizeOf_list_dec
  rw [pu2]
  refine wx_seq (Wx.ofWp (wp_fldS rfl ?_))
  sizeOf_list_dec
  refine ok_dFldO rfl ⟨_, rfl, ?_⟩
  refine (ok_kinds_above hm2 ks ps kn (by omega) hlow hc).imp ?_
  rintro _ rfl
  rw [pu3]
  refine wx_seq (Wx.ofWp (wp_fldS rfl ?_))
  sizeOf_list_dec
  rw [pu4]
  refine wx_seq (Wx.ofWp (wp_new ?_))
  array_mem_dec
  let B0 : Bk := ⟨ss, ks, ps, []⟩
  refine wx_seq (wx_for (fun i ρ => ρ = [.oo (some x) "Book" ["base", "names", "above", "rows"] [sigO ss, .lst (ks.map nmD), .dic (ks.map nmD) (ks.map (abvD ks ps)), .lst []], .dt (sigO ss), .dt (m1 (ks.map nmD)), .dt (m2 (ps.map prD)), .dt (m3 (es.map En.d)), .ol ((es.take i).map En.d), .no, .no, .no] ∧ ∀ e' ∈ es.take i, e'.fit ss ks = true) ?_)
  sizeOf_list_dec
  rw [hm3.seq]
  refine ⟨⟨rfl, fun e' h => (by simp at h)⟩, ?_, ?_⟩
  · rintro i d ρ hd ⟨rfl, hv⟩
    obtain ⟨e, ee, rfl⟩ := map_at hd
    have me := List.mem_of_getElem? ee
    have hp3 := hel e me
    refine ⟨_, rfl, ?_⟩
    unfold lb_book_init_x_1
    simp only [setsE]
    array_mem_dec
    refine wx_seq (wx_if (Ok.imp (Q := fun b => b = !e.fit ss ks) ?_ fun b hb => ⟨fun q => wx_raise ?_, fun q => wx_nil (Wx.ofWp (wp_app ?_))⟩))
    · sizeOf_list_dec
      show Ok (gSelf "Book" "has_place" B0.d) _
      rw [self_bk B0 "has_place" (by rfl)]
      refine (ok_has_place B0 hs e.nm e.ps (by omega) _ (.inl rfl)).imp ?_
      rintro _ rfl
      sizeOf_list_dec
      refine ⟨fun z => ?_, fun z => ?_⟩
      · have z' : hasPl B0.ss B0.ks e.nm e.ps = false := by simpa using z
        have z2 : hasPl ss ks e.nm e.ps = false := z'
        unfold En.fit
        rw [z2]
        rfl
      · have z' : hasPl B0.ss B0.ks e.nm e.ps = true := by simpa using z
        have z2 : hasPl ss ks e.nm e.ps = true := z'
        show Ok (gFld "Book" "above" B0.d) _
        rw [fld_above, notInDic]
        sizeOf_list_dec
        unfold En.fit
        rw [z2]
        rfl
    · sizeOf_list_dec
      refine ⟨i, e, ee, ?_, hv, ?_⟩
      · rw [q] at hb; simpa using hb.symm
      · simp
        rfl
    · sizeOf_list_dec
      refine ⟨by rw [List.length_take]; omega, ?_⟩
      array_mem_dec
      have et : es.take (i + 1) = es.take i ++ [e] := by rw [List.take_add_one, ee]; rfl
      refine ⟨?_, ?_⟩
      · rw [et, List.map_append]
        rfl
      · intro e' he'
        rw [et] at he'
        rcases List.mem_append.mp he' with h | h
        · exact hv e' h
        · simp at h
          subst h
          rw [q] at hb; simpa using hb.symm
  · rintro ρ ⟨rfl, hv⟩
    rw [List.length_map, List.take_length]
    rw [List.length_map, List.take_length] at hv
    simp only [frz_S, frz_ol]
    refine Wx.ofWp (wp_fldS rfl ?_)
    sizeOf_list_dec
    refine ok_dFldO rfl ⟨_, rfl, ?_⟩
    refine (ok_canon w hs ks k3 es hl).imp ?_
    rintro _ rfl
    rw [pu5]
    exact ⟨_, _, rfl, hv, rfl⟩
end KL

namespace KL
open PySem L2 KD
/-! ### combined kinds -/
theorem tab124 (k : Nat) (h : k < 3) : ∃ v : Nat, (0 < v ∧ v < 5) ∧ ([natD 1, natD 2, natD 4] : List D)[k]? = some (natD v) := by
  match k, h with
  | 0, _ => exact ⟨1, by omega, rfl⟩
  | 1, _ => exact ⟨2, by omega, rfl⟩
  | 2, _ => exact ⟨4, by omega, rfl⟩
def v124 (k : Nat) : Nat := if k = 0 then 1 else if k = 1 then 2 else 4
theorem at124 (k : Nat) (h : k < 3) : ([natD 1, natD 2, natD 4] : List D)[k]? = some (natD (v124 k)) := by
  match k, h with
  | 0, _ => rfl
  | 1, _ => rfl
  | 2, _ => rfl
theorem ok_picked (T : Tab) (hT : T.ok) (n : Nat) : Ok (den_l_picked [T.d, natD n]) fun d => ∃ S : List Kd, d = kdD S ∧ (∀ x ∈ S, x ∈ T.ks) ∧ S.length ≤ 3 := by
  have hk3 := hT.k3
  refine ok_run ?_
  unfold b_l_picked
  array_mem_dec
  rw [tab_d]
  refine wp_seq (wp_set ?_)
  sizeOf_list_dec
  refine wp_cut (fun ρ => ∃ S : List Kd, ρ = [.dt T.d, .dt (natD n), .dt (.lst (T.ks.map nmD)), .dt (.lst (S.map nmD)), .no] ∧ (∀ x ∈ S, x ∈ T.ks) ∧ S.length ≤ 3) (wp_set ?_) ?_
  · refine ok_compFP (zs := List.range T.ks.length) (g := natD) (fun k => decide (n / v124 k % 2 = 1)) (fun k => nmD (T.ks.getD k [])) ?_ (by simp; omega) ?_ ?_
    · sizeOf_list_dec
      omega
    · intro k hk
      have hk' : k < T.ks.length := by simpa using hk
      obtain ⟨x, ex, _⟩ := at_lt (xs := T.ks) (k := k) hk'
      refine ⟨_, rfl, ?_, fun _ => ?_⟩
      · unfold ct_l_picked_1
        array_mem_dec
        sizeOf_list_dec
        rw [nIxL]
        refine ⟨_, at124 k (by omega), ?_⟩
        have : 0 < v124 k ∧ v124 k < 5 := by unfold v124; split <;> (try split) <;> omega
        sizeOf_list_dec
        omega
      · unfold cc_l_picked_1
        array_mem_dec
        sizeOf_list_dec
        rw [nIxM]
        refine ⟨x, ex, ?_⟩
        rw [List.getD_eq_getElem?_getD, ex]
        rfl
    · refine ⟨((List.range T.ks.length).filter fun k => decide (n / v124 k % 2 = 1)).map (fun k => T.ks.getD k []), ?_, ?_, ?_⟩
      · rw [tab_d]
        array_mem_dec
        rw [List.map_map]
        rfl
      · intro x hx
        obtain ⟨k, hk, rfl⟩ := List.mem_map.mp hx
        have hk' : k < T.ks.length := by simpa using (List.mem_filter.mp hk).1
        obtain ⟨x, ex, mx⟩ := at_lt (xs := T.ks) (k := k) hk'
        rw [List.getD_eq_getElem?_getD, ex]
        exact mx
      · rw [List.length_map]
        have := List.length_filter_le (fun k => decide (n / v124 k % 2 = 1)) (List.range T.ks.length)
        rw [List.length_range] at this
        omega
  · rintro ρ ⟨S, rfl, hS, hl⟩
    refine wp_cut (fun ρ => ∃ S : List Kd, ρ = [.dt T.d, .dt (natD n), .dt (.lst (T.ks.map nmD)), .dt (.lst (S.map nmD)), .no] ∧ (∀ x ∈ S, x ∈ T.ks) ∧ S.length ≤ 3) (wp_if ?_) ?_
    · sizeOf_list_dec
      refine ⟨fun _ => wp_set ?_, fun _ => wp_nil ⟨S, rfl, hS, hl⟩⟩
      refine ok_compA (fun _ y => ∃ p, p ∈ S ∧ y = nmD p) ?_
      sizeOf_list_dec
      refine ⟨by omega, by omega, ?_, ?_⟩
      · intro d hd
        obtain ⟨k, hk2, rfl⟩ := rng_mem hd
        refine ⟨_, rfl, ?_⟩
        unfold cc_l_picked_2
        array_mem_dec
        sizeOf_list_dec
        rw [subD_le (by omega), nSub, subD_le (by omega), nIxM]
        obtain ⟨z, ez, mz⟩ := at_lt (xs := S) (k := S.length - 1 - k) (by omega)
        exact ⟨z, ez, z, mz, rfl⟩
      · intro ys hy hj
        obtain ⟨qs, rfl, hql9, hq⟩ := unmap (f := nmD) (C := fun p => p ∈ S) (ys := ys) (fun y hy2 => by
          obtain ⟨k, hk2, e⟩ := List.getElem_of_mem hy2
          have hk3 : k < S.length := by simpa [hy] using hk2
          exact hj k (natD k) y (by rw [List.getElem?_map, List.getElem?_range hk3]; rfl) (by rw [List.getElem?_eq_getElem hk2, e]))
        exact ⟨qs, rfl, fun p hp => hS p (hq p hp), by rw [hql9, hy]; omega⟩
    · rintro ρ ⟨S, rfl, hS, hl⟩
      refine wp_ret ?_
      sizeOf_list_dec
      exact ⟨S, rfl, hS, hl⟩
theorem ok_all_up (T : Tab) (hT : T.ok) (S : List Kd) (hl : S.length ≤ 100) : Ok (den_l_all_up [T.d, kdD S]) fun d => d = .lst ((S.flatMap T.up).map nmD) := by
  have hk3 := hT.k3
  refine ok_run ?_
  unfold b_l_all_up
  array_mem_dec
  refine wp_seq (wp_set ?_)
  sizeOf_list_dec
  refine wp_seq (wp_for (fun i ρ => ρ = [.dt T.d, .dt (kdD S), .dt (.lst (((S.take i).flatMap T.up).map nmD)), .no]) ?_)
  unfold kdD
  sizeOf_list_dec
  refine ⟨by simp, ?_, ?_⟩
  · rintro i d ρ hd rfl
    obtain ⟨k, ek, rfl⟩ := map_at hd
    have hi := (List.getElem?_eq_some_iff.mp ek).1
    refine ⟨_, rfl, ?_⟩
    unfold lb_l_all_up_1
    array_mem_dec
    refine wp_set ?_
    sizeOf_list_dec
    refine (ok_up T hT k).imp ?_
    rintro _ rfl
    have h1 : ((S.take i).flatMap T.up).length ≤ 3 * (S.take i).length := by
      rw [List.length_flatMap]
      exact sum_le_mul fun s _ => Nat.le_trans (up_len T s) hk3
    have h2 := up_len T k
    have h3 : (S.take i).length ≤ S.length := by rw [List.length_take]; omega
    sizeOf_list_dec
    refine ⟨line_ok (by omega), ?_⟩
    rw [List.take_add_one, ek, List.flatMap_append, List.map_append]
    simp
  · rintro ρ rfl
    refine wp_ret ?_
    sizeOf_list_dec
    rw [List.take_length]
theorem mem_allup (T : Tab) (S : List Kd) (x : Kd) : x ∈ S.flatMap T.up ↔ ∃ k ∈ S, x ∈ T.up k := List.mem_flatMap
theorem fit_iff (B : Bk) (ps : List Kd) (sets : List (List Kd)) : B.suit ps sets = true ↔ ∀ i, i < ps.length → B.fitAt ps sets i = true := by
  unfold Bk.suit
  rw [List.all_eq_true]
  simp
theorem comb_up {T : Tab} (hT : T.ok) (nm : Kd) (sets : List (List Kd)) (hs : ∀ S ∈ sets, ∀ x ∈ S, x ∈ T.ks) : T.comb nm (sets.map fun S => S.flatMap T.up) = T.bk.comb nm sets := by
  have hU : ∀ S ∈ sets.map (fun S => S.flatMap T.up), T.bk.Up S ∧ ∀ x ∈ S, x ∈ T.ks := by
    intro S' hS'
    obtain ⟨S, mS, rfl⟩ := List.mem_map.mp hS'
    refine ⟨fun x hx y hy => ?_, fun x hx => ?_⟩
    · obtain ⟨k, mk, h⟩ := (mem_allup T S x).mp hx
      refine (mem_allup T S y).mpr ⟨k, mk, ?_⟩
      rw [← up_eq hT (hs S mS k mk)] at h ⊢
      obtain ⟨h1, h2⟩ := mem_abv.mp h
      obtain ⟨h3, h4⟩ := mem_abv.mp hy
      exact mem_abv.mpr ⟨h3, h2.trans h4⟩
    · obtain ⟨k, mk, h⟩ := (mem_allup T S x).mp hx
      exact (List.mem_filter.mp h).1
  rw [comb_eq hT nm _ hU]
  unfold Bk.comb
  congr 2
  apply List.filter_congr
  intro e _
  congr 1
  rw [Bool.eq_iff_iff, suit_iff T.bk e.ps _ hU, fit_iff]
  have key : ∀ i, e.ps.getD i [] ∈ (sets.map fun S => S.flatMap T.up).getD i [] ↔ T.bk.fitAt e.ps sets i = true := fun i => by
    unfold Bk.fitAt
    rw [List.getD_eq_getElem?_getD (l := sets), List.getD_eq_getElem?_getD (l := sets.map _), List.getElem?_map, List.any_eq_true]
    cases q : sets[i]? with
    | none => simp
    | some S =>
      have mS := List.mem_of_getElem? q
      simp only [Option.map_some, Option.getD_some, mem_allup, decide_eq_true_eq]
      exact ⟨fun ⟨k, mk, h⟩ => ⟨k, mk, by rw [up_eq hT (hs S mS k mk)]; exact h⟩, fun ⟨k, mk, h⟩ => ⟨k, mk, by rw [← up_eq hT (hs S mS k mk)]; exact h⟩⟩
  exact ⟨fun h i hi => (key i).mp (h i hi), fun h i hi => (key i).mpr (h i hi)⟩
end KL

namespace KL
open PySem L2 KD
theorem dHot_ok {a : Addr} {od : Option Addr} {i : Nat} {g : Rs D} {ρ : Ev} {ns : List Str} {fs : List D} (h : ρ[i]? = some (.ex a od ns fs)) : dHot a od i g ρ = g := by
  unfold dHot
  rw [h]
  dsimp only
  rw [if_pos ⟨rfl, rfl⟩]
theorem tail_if {c : Ev → Rs Bool} {f g : Ev → SR} {ρ : Ev} {i : Nat} {r : SR} (hc : Ok (c ρ) fun b => b = false) (h : (g ρ).tail i = r) : (sSeq (sIf c f sNil) g ρ).tail i = r := by
  unfold sSeq sIf
  rw [hc.eq, Rs.sr_ok]
  simp only [Bool.false_eq_true, if_false]
  exact h
theorem sY : (Str.ofString "Y") = sO [89] := by decide +kernel
theorem sW : (Str.ofString "W") = sO [87] := by decide +kernel
theorem sK : (Str.ofString "K") = sO [75] := by decide +kernel
def v139 (k : Nat) : Nat := if k = 0 then 1 else if k = 1 then 3 else 9
theorem at139 (k : Nat) (h : k < 3) : ([natD 1, natD 3, natD 9] : List D)[k]? = some (natD (v139 k)) := by
  match k, h with
  | 0, _ => rfl
  | 1, _ => rfl
  | 2, _ => rfl
theorem ok_entry_for (T : Tab) (hT : T.ok) (nums : List Nat) (hl : 3 ≤ nums.length) : Ok (den_l_entry_for [T.d, .lst (nums.map natD)]) fun d => ∃ e : En, d = e.d ∧ e.ok T.ss T.ks := by
  have hs2 := hT.s2
  have hk1 := hT.k1
  obtain ⟨n0, e0, _⟩ := at_lt (xs := nums) (k := 0) (by omega)
  obtain ⟨n1, e1, _⟩ := at_lt (xs := nums) (k := 1) (by omega)
  obtain ⟨n2, e2, _⟩ := at_lt (xs := nums) (k := 2) (by omega)
  obtain ⟨s, es, ms⟩ := at_lt (xs := T.ss) (k := n0 % T.ss.length) (Nat.mod_lt _ (by omega))
  have hp3 := sym_len hT.ss ms
  refine ok_run ?_
  unfold b_l_entry_for
  array_mem_dec
  rw [tab_d]
  refine wp_seq (wp_set ?_)
  sizeOf_list_dec
  rw [nIxM]
  refine ⟨n0, e0, ?_⟩
  sizeOf_list_dec
  refine ⟨by omega, ?_⟩
  rw [nIxM]
  refine ⟨s, es, ?_⟩
  refine wp_seq (wp_set ?_)
  sizeOf_list_dec
  refine wp_seq (wp_set ?_)
  refine ok_compA (fun _ y => ∃ p, p ∈ T.ks ∧ y = nmD p) ?_
  rw [sym_d]
  sizeOf_list_dec
  refine ⟨by omega, by omega, ?_, ?_⟩
  · intro d hd
    obtain ⟨j, hj, rfl⟩ := rng_mem hd
    refine ⟨_, rfl, ?_⟩
    unfold cc_l_entry_for_1
    array_mem_dec
    sizeOf_list_dec
    rw [nIxM]
    refine ⟨n1, e1, ?_⟩
    rw [nIxL]
    refine ⟨_, at139 j (by omega), ?_⟩
    have : 0 < v139 j ∧ v139 j < 10 := by unfold v139; split <;> (try split) <;> omega
    sizeOf_list_dec
    refine ⟨by omega, by omega, ?_⟩
    rw [nIxM]
    obtain ⟨k, ek, mk⟩ := at_lt (xs := T.ks) (k := n1 / v139 j % T.ks.length) (Nat.mod_lt _ (by omega))
    exact ⟨k, ek, k, mk, rfl⟩
  · intro ys hy hj
    obtain ⟨qs, rfl, hql, hq⟩ := unmap (f := nmD) (C := fun p => p ∈ T.ks) (ys := ys) (fun y hy2 => by
      obtain ⟨k, hk2, e⟩ := List.getElem_of_mem hy2
      have hk3 : k < s.pl := by simpa [hy] using hk2
      exact hj k (natD k) y (by rw [List.getElem?_map, List.getElem?_range hk3]; rfl) (by rw [List.getElem?_eq_getElem hk2, e]))
    obtain ⟨k, ek, mk⟩ := at_lt (xs := T.ks) (k := n2 % T.ks.length) (Nat.mod_lt _ (by omega))
    refine wp_ret ?_
    sizeOf_list_dec
    rw [nIxM]
    refine ⟨n2, e2, ?_⟩
    sizeOf_list_dec
    refine ⟨by omega, ?_⟩
    rw [nIxM]
    refine ⟨k, ek, ⟨s.nm, qs, k⟩, rfl, ⟨s, ms, rfl, by rw [hql, hy]⟩, hq, mk⟩
theorem nofit_len {ss : List Sym} (hs : SigOk ss) {ks : List Kd} {e : En} (he : e.ok ss ks) {ps : List Kd} (h : ps.length ≠ e.ps.length) : hasPl ss ks e.nm ps = false := by
  unfold hasPl
  rw [List.any_eq_false]
  intro s' ms' z
  simp only [Bool.and_eq_true, decide_eq_true_eq] at z
  obtain ⟨s, ms, h1, h2⟩ := he.sy
  have : s' = s := by
    have e1 := symOf_eq hs ms'
    have e2 := symOf_eq hs ms
    rw [← e1, ← e2, z.1.1, h1]
  subst this
  exact h (z.1.2.trans h2.symm)
theorem nofit_nm {ss : List Sym} (hs : SigOk ss) {ks : List Kd} {nm : Kd} {ps : List Kd} (c : Nat) (hc : c ∈ nm) (h97 : c < 97) : hasPl ss ks nm ps = false := by
  unfold hasPl
  rw [List.any_eq_false]
  intro s' ms' z
  simp only [Bool.and_eq_true, decide_eq_true_eq] at z
  have := (hs.all s' ms').nm.2.2 c (by rw [z.1.1]; exact hc)
  omega
theorem nofit_ps {ss : List Sym} {ks : List Kd} {nm : Kd} {ps : List Kd} {p : Kd} (hp : p ∈ ps) (hn : p ∉ ks) : hasPl ss ks nm ps = false := by
  unfold hasPl
  rw [List.any_eq_false]
  intro s' ms' z
  simp only [Bool.and_eq_true, decide_eq_true_eq] at z
  exact hn (of_decide_eq_true (List.all_eq_true.mp z.2 p hp))
theorem fit_no1 {e : En} {ss : List Sym} {ks : List Kd} (h : hasPl ss ks e.nm e.ps = false) : e.fit ss ks = false := by unfold En.fit; rw [h]; rfl
theorem ok_faulty (T : Tab) (hT : T.ok) (e : En) (he : e.ok T.ss T.ks) (nums : List Nat) (hl : 5 ≤ nums.length) : Ok (den_l_faulty [e.d, .lst (nums.map natD)]) fun d => ∃ e' : En, d = e'.d ∧ e'.fit T.ss T.ks = false ∧ e'.ps.length ≤ 10 := by
  obtain ⟨s, ms, hs1, hs2⟩ := id he.sy
  have hp3 := sym_len hT.ss ms
  have hnm := (hT.ss.all s ms).nm
  have hK : [75] ∉ T.ks := noQ hT [75] 75 (by simp) (by omega)
  obtain ⟨n3, e3, _⟩ := at_lt (xs := nums) (k := 3) (by omega)
  obtain ⟨n4, e4, _⟩ := at_lt (xs := nums) (k := 4) (by omega)
  have eZ : D.str (Str.ofString "Z") = nmD [90] := congrArg D.str (by decide +kernel)
  have eK : D.str (Str.ofString "K") = nmD [75] := congrArg D.str sK
  refine ok_run ?_
  unfold b_l_faulty En.d
  array_mem_dec
  refine wp_seq (wp_set ?_)
  sizeOf_list_dec
  rw [nIxM]
  refine ⟨n3, e3, ?_⟩
  sizeOf_list_dec
  refine wp_seq (wp_set ?_)
  sizeOf_list_dec
  refine wp_seq (wp_set ?_)
  sizeOf_list_dec
  rw [nIxM]
  refine ⟨n4, e4, ?_⟩
  sizeOf_list_dec
  refine ⟨by omega, ?_⟩
  have hat : n4 % (e.ps.length + 1) ≤ e.ps.length := by have := Nat.mod_lt n4 (show 0 < e.ps.length + 1 by omega); omega
  generalize hath : n4 % (e.ps.length + 1) = at_ at hat
  generalize hw : n3 % 5 = wy
  have mk : ∀ (e' : En), e'.fit T.ss T.ks = false → e'.ps.length ≤ 10 → ∃ e'' : En, D.tup [nmD e'.nm, .tup (e'.ps.map nmD), nmD e'.kd] = D.tup [nmD e''.nm, .tup (e''.ps.map nmD), nmD e''.kd] ∧ e''.fit T.ss T.ks = false ∧ e''.ps.length ≤ 10 := fun e' h1 h2 => ⟨e', rfl, h1, h2⟩
  refine wp_cut (fun ρ => ρ = [.dt (.tup [nmD e.nm, .tup (e.ps.map nmD), nmD e.kd]), .dt (.lst (nums.map natD)), .dt (natD wy), .dt (.tup (e.ps.map nmD)), .dt (natD at_)]) (wp_if ?_) ?_
  · sizeOf_list_dec
    refine ⟨fun _ => wp_ret ?_, fun _ => wp_nil rfl⟩
    sizeOf_list_dec
    rw [eZ, show gAdd (nmD e.nm) (nmD [90]) = .ok (nmD (e.nm ++ [90])) from gAdd_sO _ _ (by rw [hs1]; have := hnm.2.1; simp; omega), ok_ok]
    exact mk ⟨e.nm ++ [90], e.ps, e.kd⟩ (fit_no1 (nofit_nm hT.ss 90 (by simp) (by omega))) (by show e.ps.length ≤ 10; omega)
  rintro ρ rfl
  refine wp_cut (fun ρ => ρ = [.dt (.tup [nmD e.nm, .tup (e.ps.map nmD), nmD e.kd]), .dt (.lst (nums.map natD)), .dt (natD wy), .dt (.tup (e.ps.map nmD)), .dt (natD at_)]) (wp_if ?_) ?_
  · sizeOf_list_dec
    refine ⟨fun _ => ⟨fun hpos => wp_ret ?_, fun _ => wp_nil rfl⟩, fun _ => ⟨fun z => (by cases z), fun _ => wp_nil rfl⟩⟩
    have hpos' : 0 < e.ps.length := by simpa using hpos
    sizeOf_list_dec
    rw [← List.map_drop]
    exact mk ⟨e.nm, e.ps.drop 1, e.kd⟩ (fit_no1 (nofit_len hT.ss he (by rw [List.length_drop]; omega))) (by show (e.ps.drop 1).length ≤ 10; rw [List.length_drop]; omega)
  rintro ρ rfl
  refine wp_cut (fun ρ => ρ = [.dt (.tup [nmD e.nm, .tup (e.ps.map nmD), nmD e.kd]), .dt (.lst (nums.map natD)), .dt (natD wy), .dt (.tup (e.ps.map nmD)), .dt (natD at_)]) (wp_if ?_) ?_
  · sizeOf_list_dec
    refine ⟨fun _ => ⟨fun hpos => wp_ret ?_, fun _ => wp_nil rfl⟩, fun _ => ⟨fun z => (by cases z), fun _ => wp_nil rfl⟩⟩
    have hpos' : at_ < e.ps.length := by simpa using hpos
    sizeOf_list_dec
    refine ⟨line_ok (by rw [List.length_take, List.length_map]; omega), line_ok (by rw [List.length_append, List.length_take, List.length_drop, List.length_map]; simp; omega), ?_⟩
    rw [eK, ← List.map_take, ← List.map_drop, show ([nmD [75]] : List D) = [[75]].map nmD from rfl, ← List.map_append, ← List.map_append]
    exact mk ⟨e.nm, e.ps.take at_ ++ [[75]] ++ e.ps.drop (at_ + 1), e.kd⟩ (fit_no1 (nofit_ps (p := [75]) (by simp) hK)) (by show (e.ps.take at_ ++ [[75]] ++ e.ps.drop (at_ + 1)).length ≤ 10; simp; omega)
  rintro ρ rfl
  refine wp_cut (fun ρ => ρ = [.dt (.tup [nmD e.nm, .tup (e.ps.map nmD), nmD e.kd]), .dt (.lst (nums.map natD)), .dt (natD wy), .dt (.tup (e.ps.map nmD)), .dt (natD at_)]) (wp_if ?_) ?_
  · sizeOf_list_dec
    refine ⟨fun _ => wp_ret ?_, fun _ => wp_nil rfl⟩
    sizeOf_list_dec
    rw [eK]
    refine mk ⟨e.nm, e.ps, [75]⟩ ?_ (by show e.ps.length ≤ 10; omega)
    unfold En.fit
    simp [hK]
  rintro ρ rfl
  refine wp_ret ?_
  sizeOf_list_dec
  refine ⟨line_ok (by rw [List.length_take, List.length_map]; omega), line_ok (by rw [List.length_append, List.length_take, List.length_drop, List.length_map]; simp; omega), ?_⟩
  rw [← List.map_take, ← List.map_drop, show ([nmD e.kd] : List D) = [e.kd].map nmD from rfl, ← List.map_append, ← List.map_append]
  exact mk ⟨e.nm, e.ps.take at_ ++ [e.kd] ++ e.ps.drop at_, e.kd⟩ (fit_no1 (nofit_len hT.ss he (by simp; omega))) (by show (e.ps.take at_ ++ [e.kd] ++ e.ps.drop at_).length ≤ 10; simp; omega)
/-! ### _law_made -/
theorem init_good (w : World) (T : Tab) (hT : T.ok) (es : List En) (hl : es.length ≤ 1000) (hel : ∀ e ∈ es, e.ps.length ≤ 100) (hf : ∀ e ∈ es, e.fit T.ss T.ks = true) :
    mkD (den_book_init_x w) [sigO T.ss, .lst (T.ks.map nmD), .lst (T.ps.map prD), .lst (es.map En.d)] = .ok (⟨T.ss, T.ks, T.ps, canon T.ss T.ks es⟩ : Bk).d := by
  have hpl := hT.pl
  refine mkD_eq fun x => ?_
  rcases (ox_book_init w x seqL seqL seqL T.ss T.ks T.ps es hT.ss hT.kn hT.kok hT.k3 hT.low (fun p hp => no_circle hT hp) hl hel (by omega) _ _ _ rfl rfl rfl).ex with ⟨d, e, _, rfl⟩ | ⟨c, n, f, _, i, e, ei, h, _⟩
  · exact e
  · rw [hf e (List.mem_of_getElem? ei)] at h
    cases h
theorem first_bad {es : List En} {ss : List Sym} {ks : List Kd} {i j : Nat} {a b : En} (h1 : es[i]? = some a) (h2 : a.fit ss ks = false) (h3 : ∀ e ∈ es.take i, e.fit ss ks = true) (k1 : es[j]? = some b) (k2 : b.fit ss ks = false) (k3 : ∀ e ∈ es.take j, e.fit ss ks = true) : a = b := by
  rcases Nat.lt_trichotomy i j with h | h | h
  · have : a ∈ es.take j := List.mem_of_getElem? (show (es.take j)[i]? = some a by rw [List.getElem?_take_of_lt h]; exact h1)
    rw [k3 a this] at h2; cases h2
  · subst h; rw [h1] at k1; cases k1; rfl
  · have : b ∈ es.take i := List.mem_of_getElem? (show (es.take i)[j]? = some b by rw [List.getElem?_take_of_lt h]; exact k1)
    rw [h3 b this] at k2; cases k2
theorem init_bad (w : World) (T : Tab) (hT : T.ok) (es : List En) (hl : es.length ≤ 1000) (hel : ∀ e ∈ es, e.ps.length ≤ 100) {i : Nat} {e : En} (he : es[i]? = some e) (hf : e.fit T.ss T.ks = false) (hb : ∀ e ∈ es.take i, e.fit T.ss T.ks = true) :
    mkD (den_book_init_x w) [sigO T.ss, .lst (T.ks.map nmD), .lst (T.ps.map prD), .lst (es.map En.d)] = .xc "BadEntry" ["entry"] [e.d] := by
  have hpl := hT.pl
  refine mkD_eq fun x => ?_
  rcases (ox_book_init w x seqL seqL seqL T.ss T.ks T.ps es hT.ss hT.kn hT.kok hT.k3 hT.low (fun p hp => no_circle hT hp) hl hel (by omega) _ _ _ rfl rfl rfl).ex with ⟨d, _, h, _⟩ | ⟨c, n, f, e', j, b, ej, h, hj, rfl, rfl, rfl⟩
  · rw [h e (List.mem_of_getElem? he)] at hf
    cases hf
  · rw [e', first_bad he hf hb ej h hj]
theorem dep_en (e : En) : e.d.dep ≤ 2 := by
  unfold En.d
  have := deps_le (f := nmD) (b := 0) (xs := e.ps) (fun x _ => by rw [dep_nm]; omega)
  simp [D.dep, D.deps, dep_nm]
  omega
theorem ok_made_good (w : World) (T : Tab) (hT : T.ok) (es : List En) (hl : es.length ≤ 1000) (hel : ∀ e ∈ es, e.ps.length ≤ 100) (hf : ∀ e ∈ es, e.fit T.ss T.ks = true) : Ok (den_l_made w [T.d, .lst (es.map En.d), .non]) fun d => d = .bl true := by
  refine ok_run ?_
  unfold b_l_made
  array_mem_dec
  rw [tab_d]
  refine wp_seq (wp_try (wt_set (ox_rCallK ?_)))
  sizeOf_list_dec
  rw [ok_dMakeS]
  sizeOf_list_dec
  refine mkSig hT.ss ?_
  refine Ox.of (init_good w T hT es hl hel hf) ?_
  refine wp_ret ?_
  sizeOf_list_dec
  refine ⟨fun _ => ?_, fun z => (by cases z)⟩
  have hok : ∀ e ∈ es, e.ok T.ss T.ks := fun e he => fit_ok.mp (hf e he)
  refine ok_compFP (zs := es) (g := En.d) (fun e => false) En.d ?_ (by omega) ?_ ?_
  · sizeOf_list_dec
  · intro e he
    refine ⟨_, rfl, ?_, fun z => (by cases z)⟩
    unfold ct_l_made_1
    array_mem_dec
    rw [ok_dTest]
    sizeOf_list_dec
    rw [cls_bk]
    refine ok_bentries _ ?_
    refine cNotIn (b := true) (cInT (f := En.d) (fun _ _ => En.d_inj) cd_en (by have := dep_en e; omega) ?_) ?_
    · have : e ∈ canon T.ss T.ks es := (mem_canon hok).mpr he
      simpa using this
    · sizeOf_list_dec
      rfl
  · sizeOf_list_dec
    simp
theorem ok_made_bad (w : World) (T : Tab) (hT : T.ok) (es : List En) (hl : es.length ≤ 1000) (hel : ∀ e ∈ es, e.ps.length ≤ 100) {i : Nat} {e : En} (he : es[i]? = some e) (hf : e.fit T.ss T.ks = false) (hb : ∀ e ∈ es.take i, e.fit T.ss T.ks = true) : Ok (den_l_made w [T.d, .lst (es.map En.d), e.d]) fun d => d = .bl true := by
  refine ok_run ?_
  unfold b_l_made
  array_mem_dec
  rw [tab_d]
  refine wp_seq (wp_try (wt_set (ox_rCallK ?_)))
  sizeOf_list_dec
  rw [ok_dMakeS]
  sizeOf_list_dec
  refine mkSig hT.ss ?_
  refine Ox.ofX (init_bad w T hT es hl hel he hf hb) ⟨rfl, .rt (.bl true), fun a od => tail_if ?_ (tail_ret ?_), ?_⟩
  · array_mem_dec
    sizeOf_list_dec
    rw [dHot_ok rfl, only_entry]
    sizeOf_list_dec
    rfl
  · array_mem_dec
    sizeOf_list_dec
    rw [show (e.d).isNon = false from rfl]
    sizeOf_list_dec
    refine ⟨fun _ => ?_, fun z => (by cases z)⟩
    rw [ok_dIsi, dXf_ok (ns := ["entry"]) (gs := [e.d]) rfl rfl, ok_ok]
    rw [show e.d = .tup [nmD e.nm, .tup (e.ps.map nmD), nmD e.kd] from rfl, isiTT]
    sizeOf_list_dec
    refine ⟨fun _ => ?_, fun z => (by cases z)⟩
    exact cEqS (x := e.d) (cd_en e) (by have := dep_en e; omega) rfl
  · with_unfolding_all exact rfl
theorem law_ok09 (w : World) (ns : List Int) : Ok (den_law_k09 w [.fls (ns.map D.int)]) fun d => d = .bl true := by
  refine ok_run ?_
  unfold b_law_k09
  array_mem_dec
  refine wp_seq (wp_set ?_)
  sizeOf_list_dec
  refine (ok_random ns 0 3 (by omega) (by omega)).imp ?_
  rintro _ ⟨T, rfl, hT, _, hel⟩
  refine wp_seq (wp_set ?_)
  sizeOf_list_dec
  obtain ⟨nums, en, hl⟩ := den_numbers ns 4 7 (by decide)
  rw [en, ok_ok]
  obtain ⟨n5, e5, _⟩ := at_lt (xs := nums) (k := 5) (by omega)
  obtain ⟨n6, e6, _⟩ := at_lt (xs := nums) (k := 6) (by omega)
  refine wp_seq (wp_set ?_)
  sizeOf_list_dec
  refine (ok_entry_for T hT nums (by omega)).imp ?_
  rintro _ ⟨e, rfl, he⟩
  refine wp_seq (wp_set ?_)
  sizeOf_list_dec
  refine (ok_faulty T hT e he nums (by omega)).imp ?_
  rintro _ ⟨b, rfl, hb, hbl⟩
  refine wp_seq (wp_set ?_)
  rw [tab_d]
  sizeOf_list_dec
  refine wp_seq (wp_set ?_)
  sizeOf_list_dec
  rw [nIxM]
  refine ⟨n5, e5, ?_⟩
  sizeOf_list_dec
  refine ⟨by omega, ?_⟩
  have hat : n5 % (T.es.length + 1) ≤ T.es.length := by have := Nat.mod_lt n5 (show 0 < T.es.length + 1 by omega); omega
  generalize n5 % (T.es.length + 1) = q at hat
  have hep : ∀ x ∈ T.es, x.ps.length ≤ 3 := fun x hx => by
    obtain ⟨s, ms, _, h⟩ := (hT.es x hx).sy
    have := sym_len hT.ss ms
    omega
  have hep1 : e.ps.length ≤ 3 := by
    obtain ⟨s, ms, _, h⟩ := he.sy
    have := sym_len hT.ss ms
    omega
  have hfit : ∀ x ∈ T.es, x.fit T.ss T.ks = true := fun x hx => fit_ok.mpr (hT.es x hx)
  have gs : ∀ x : En, (List.take q (List.map En.d T.es) ++ [x.d] ++ List.drop q (List.map En.d T.es)) = (T.es.take q ++ [x] ++ T.es.drop q).map En.d := fun x => by
    rw [List.map_append, List.map_append, List.map_take, List.map_drop]; rfl
  have gl : ∀ x : En, (T.es.take q ++ [x] ++ T.es.drop q).length ≤ 60 := fun x => by simp; omega
  refine wp_seq (wp_set ?_)
  sizeOf_list_dec
  refine ⟨line_ok (by rw [List.length_take, List.length_map]; omega), line_ok (by rw [List.length_append, List.length_take, List.length_drop, List.length_map]; simp; omega), ?_⟩
  refine wp_seq (wp_own ?_)
  sizeOf_list_dec
  refine ⟨line_ok (by rw [List.length_take, List.length_map]; omega), line_ok (by rw [List.length_append, List.length_take, List.length_drop, List.length_map]; simp; omega), ?_⟩
  rw [gs e, gs b, ← tab_d]
  have hgood : ∀ x ∈ T.es.take q ++ [e] ++ T.es.drop q, x.fit T.ss T.ks = true ∧ x.ps.length ≤ 100 := fun x hx => by
    rcases List.mem_append.mp hx with hx | hx
    · rcases List.mem_append.mp hx with hx | hx
      · have hx := List.mem_of_mem_take hx
        exact ⟨hfit x hx, by have := hep x hx; omega⟩
      · simp at hx; subst hx; exact ⟨fit_ok.mpr he, by omega⟩
    · have hx := List.mem_of_mem_drop hx
      exact ⟨hfit x hx, by have := hep x hx; omega⟩
  have r1 := ok_made_good w T hT (T.es.take q ++ [e] ++ T.es.drop q) (by have := gl e; omega) (fun x hx => (hgood x hx).2) (fun x hx => (hgood x hx).1)
  have eY : D.str (Str.ofString "Y") = nmD [89] := congrArg D.str sY
  have eW : D.str (Str.ofString "W") = nmD [87] := congrArg D.str sW
  refine wp_cut (fun ρ => ∃ more : List En, ρ = [.dt (.fls (ns.map D.int)), .dt T.d, .dt (.lst (nums.map natD)), .dt e.d, .dt b.d, .dt (.lst (T.es.map En.d)), .dt (natD q), .dt (.lst ((T.es.take q ++ [e] ++ T.es.drop q).map En.d)), .ol ((T.es.take q ++ [b] ++ T.es.drop q ++ more).map En.d)] ∧ more.length ≤ 1 ∧ ∀ x ∈ more, x.ps.length ≤ 100) (wp_if ?_) ?_
  · sizeOf_list_dec
    rw [nIxM]
    refine ⟨n6, e6, ?_⟩
    sizeOf_list_dec
    refine ⟨fun _ => wp_app ?_, fun _ => wp_nil ⟨[], by rw [List.append_nil], by simp, fun x hx => (by cases hx)⟩⟩
    sizeOf_list_dec
    refine ⟨by have := gl b; omega, ?_⟩
    rw [eY, eW]
    refine ⟨[⟨[89], [], [87]⟩], ?_, by simp, fun x hx => ?_⟩
    · rw [List.map_append (l₂ := [_])]
      rfl
    · simp at hx; subst hx; simp
  rintro ρ ⟨more, rfl, hml, hmp⟩
  have hbadl : ∀ x ∈ T.es.take q ++ [b] ++ T.es.drop q ++ more, x.ps.length ≤ 100 := fun x hx => by
    rcases List.mem_append.mp hx with hx | hx
    · rcases List.mem_append.mp hx with hx | hx
      · rcases List.mem_append.mp hx with hx | hx
        · have hx := List.mem_of_mem_take hx
          have := hep x hx; omega
        · simp at hx; subst hx; omega
      · have hx := List.mem_of_mem_drop hx
        have := hep x hx; omega
    · exact hmp x hx
  have hix : (T.es.take q ++ [b] ++ T.es.drop q ++ more)[q]? = some b := by
    rw [List.append_assoc, List.append_assoc, List.getElem?_append_right (by rw [List.length_take]; omega), List.length_take, Nat.min_eq_left hat, Nat.sub_self]
    rfl
  have htk : (T.es.take q ++ [b] ++ T.es.drop q ++ more).take q = T.es.take q := by
    rw [List.append_assoc, List.append_assoc, List.take_append_of_le_length (by rw [List.length_take]; omega), List.take_take, Nat.min_self]
  have r2 := ok_made_bad w T hT (T.es.take q ++ [b] ++ T.es.drop q ++ more) (by have := gl b; rw [List.length_append]; omega) hbadl hix hb (fun x hx => by rw [htk] at hx; exact hfit x (List.mem_of_mem_take hx))
  refine wp_seq (wp_if ?_)
  sizeOf_list_dec
  refine r1.imp ?_
  rintro _ rfl
  sizeOf_list_dec
  refine ⟨fun z => (by cases z), fun _ => ?_⟩
  refine r2.imp ?_
  rintro _ rfl
  sizeOf_list_dec
  refine ⟨fun z => (by cases z), fun _ => wp_nil (wp_ret ?_)⟩
  sizeOf_list_dec
  exact r1
theorem law_true (w : World) (ns : List Int) (_h : ns.length ≤ 63) : den_law_k09 w [.fls (ns.map D.int)] = .ok (.bl true) := (law_ok09 w ns).eq
end KL

namespace KL
open PySem L2 KD
abbrev R : PySem.W.OpenRow := PySem.W.OpenLaw.row PySem.Challenge.rw_keptkinds_k09_invalid_entries
def adrs : List Addr := ([2, 3, 30, 31, 53, 74, 95, 101, 112, 113, 115, 116, 137, 158, 170, 191, 212, 233, 241, 242, 248, 249, 262, 263, 269, 270, 271, 277, 278, 284] : List Addr) ++ ([285, 318, 319, 327, 328, 334, 335, 339, 340, 344, 345, 349, 350, 366, 367, 395, 396, 397, 401, 402, 514, 515, 542, 543, 549, 550, 554, 555, 559, 560] : List Addr) ++ ([566, 567, 571, 572, 576, 577, 581, 582, 586, 587, 591, 592, 598, 599, 605, 606, 610, 611, 617, 618, 622, 623, 629, 630] : List Addr)
abbrev hk : PySem.W.Hook := hookA adrs fa fn
def ob (s : PySem.W.SharedT) : AlP := obsA adrs fa fn (HandSHeadRun.getT s)
theorem ob_eq (s : PySem.W.SharedT) : ob s = hk.obs s.abs := obsA_eq (HandSHeadRun.getT_eq s)
def loose : List Str := (["_wall", "__name__", "KindsError", "BadSymbol", "BadTerm", "BadKind", "BadEntry", "BadRule", "BadChange", "OtherBook", "NotOnTop", "LostKind", "Stuck", "LETTERS", "is_name", "check_symbol", "Signature", "choices", "check_kinds", "kinds_above", "possible_entries", "in_canonical_order", "Book", "both_kinds", "parting_round", "parting", "_law_cell", "_law_numbers", "_law_names", "_law_turn"] : List Str) ++ (["_law_symbols", "_law_lows", "_law_entries", "_law_count", "_law_rule", "_law_rules", "_law_random", "_law_only", "_law_entry_for", "_law_faulty", "_law_made"] : List Str)
theorem run (w : World) : HandSHeadRun.RunEq R (PySem.W.view R.prog [44]) hk ob 20000 loose w := by
  intro os
  kernel_rfl
theorem facts {P : Program} {w : World} {K : PySem.W.Frag} {h : Heap} {mg : Str → Option Value} {f : Addr} (X : K.In h) (G : h.Ns mainGlobals mg) (hfa : mg ("law" : Str) = some (.ref f)) (c : SaysP fa fn K) (HP : ProgOk P "/claim/cut.py") :
    ∃ fd : FuncData, (∀ (s : Shared) (v : Value), BindsTo s fd ⟨[v], []⟩ [("_law_script", v)]) ∧ ∀ base : Heap, K.In base → base.Ns mainGlobals mg → FnOk P w K mg base (L2N.CX P w) 125 f fd ["_law_script"] (spD K 1 (den_law_k09 w)) := by
  have T : Tx fa fn K mg := ⟨⟨h, X, G⟩, c⟩
  obtain ⟨fd, F⟩ := c.def_ 28 (d := d_law) (by rfl)
  have e := hfa.symm.trans (T.glo 0)
  cases e
  have b := FunD.bindsA (ps := ["_law_script"]) F fun _ _ _ _ _ _ us hl => match us, hl with | [_], _ => rfl
  refine ⟨fd, fun s v => b s [v] rfl, fun base _ _ => ?_⟩
  have X_badentry : MkX P w K mg base "BadEntry" ["entry"] := wk_x_badentry T HP
  have F_l_only_badentry : FnX P w K mg base 1 (gAd "_law_only") "BadEntry" (den_l_only "BadEntry") := wk_l_only_badentry T
  have F_l_cell : FnD P w K mg base 1 (gAd "_law_cell") 2 den_l_cell := wk_l_cell T
  have F_l_numbers : FnD P w K mg base 2 (gAd "_law_numbers") 3 den_l_numbers := wk_l_numbers T F_l_cell
  have F_l_names : FnD P w K mg base 1 (gAd "_law_names") 2 den_l_names := wk_l_names T
  have F_l_turn : FnD P w K mg base 1 (gAd "_law_turn") 2 den_l_turn := wk_l_turn T
  have F_l_symbols : FnD P w K mg base 2 (gAd "_law_symbols") 1 den_l_symbols := wk_l_symbols T F_l_names F_l_turn
  have F_l_entries : FnD P w K mg base 1 (gAd "_law_entries") 3 den_l_entries := wk_l_entries T
  have F_l_lows : FnD P w K mg base 2 (gAd "_law_lows") 2 den_l_lows := wk_l_lows T F_l_turn
  have F_l_count : FnD P w K mg base 121 (gAd "_law_count") 1 (den_l_count 120) := wk_l_count T 120
  have F_l_rule : FnD P w K mg base 122 (gAd "_law_rule") 4 den_l_rule := wk_l_rule T F_l_count
  have F_l_rules : FnD P w K mg base 123 (gAd "_law_rules") 3 den_l_rules := wk_l_rules T F_l_numbers F_l_names F_l_rule
  have F_l_random : FnD P w K mg base 124 (gAd "_law_random") 3 den_l_random := wk_l_random T F_l_numbers F_l_symbols F_l_names F_l_entries F_l_rules F_l_lows
  have F_l_entry_for : FnD P w K mg base 1 (gAd "_law_entry_for") 2 den_l_entry_for := wk_l_entry_for T
  have F_l_faulty : FnD P w K mg base 1 (gAd "_law_faulty") 2 den_l_faulty := wk_l_faulty T
  have F_is_name : FnD P w K mg base 1 (gAd "is_name") 1 den_is_name := wk_is_name T
  have F_check_kinds : FnD P w K mg base 2 (gAd "check_kinds") 1 den_check_kinds := wk_check_kinds T F_is_name
  have F_kinds_above : FnD P w K mg base 1 (gAd "kinds_above") 2 den_kinds_above := wk_kinds_above T
  have F_signature_symbols : FnD P w K mg base 1 (pAd "Signature" "symbols") 1 den_signature_symbols := wk_signature_symbols T
  have F_signature_number : FnD P w K mg base 1 (mAd "Signature" "number") 2 den_signature_number := wk_signature_number T
  have F_signature_places : FnD P w K mg base 2 (mAd "Signature" "places") 2 den_signature_places := wk_signature_places T F_signature_number
  have F_choices : FnD P w K mg base 1 (gAd "choices") 1 den_choices := wk_choices T
  have F_possible_entries : FnD P w K mg base 3 (gAd "possible_entries") 3 den_possible_entries := wk_possible_entries T F_signature_places F_choices
  have F_in_canonical_order : FnD P w K mg base 4 (gAd "in_canonical_order") 3 (den_in_canonical_order w) := wk_in_canonical_order T F_signature_symbols F_possible_entries
  have F_book_has_place : FnD P w K mg base 3 (mAd "Book" "has_place") 3 den_book_has_place := wk_book_has_place T F_signature_places
  have F_book_init : MkK P w K mg base 5 "Book" 2 2 ["under", "entries"] (den_book_init w) := wk_book_init T F_check_kinds F_kinds_above F_book_has_place F_in_canonical_order
  have F_check_symbol : FnD P w K mg base 2 (gAd "check_symbol") 2 den_check_symbol := wk_check_symbol T F_is_name
  have F_sig : SigF P w K mg base 3 den_check_symbol := ok_sig T F_check_symbol
  have F_book_entries : FnD P w K mg base 1 (pAd "Book" "entries") 1 den_book_entries := wk_book_entries T
  have F_book_init_x : MkK P w K mg base 5 "Book" 2 2 ["under", "entries"] (den_book_init_x w) := wk_book_init_x T F_check_kinds F_kinds_above F_book_has_place F_in_canonical_order X_badentry
  have F_l_made : FnD P w K mg base 7 (gAd "_law_made") 3 (den_l_made w) := wk_l_made T F_book_entries F_book_init F_book_init_x F_l_only_badentry F_sig
  exact wk_law T F_l_random F_l_numbers F_l_entry_for F_l_faulty F_l_made F
end KL
open PySem PySem.W PySem.Calls PyProof.Rows
theorem PySem.Challenge.cw_keptkinds_k09_invalid_entries_holds : PySem.Challenge.rw_keptkinds_k09_invalid_entries.Holds := by
  w_on; o_law
  refine HandSHeadRun.head_any (r := OpenLaw.row PySem.Challenge.rw_keptkinds_k09_invalid_entries) (q := view (OpenLaw.row PySem.Challenge.rw_keptkinds_k09_invalid_entries).prog [44]) (H := KL.hk) (ob := KL.ob) (M := 20000) (loose := KL.loose) (d := HandSHeadRun.topDef (OpenLaw.row PySem.Challenge.rw_keptkinds_k09_invalid_entries).prog 44) (kwd := []) KL.ob_eq
    (by kernel_rfl) (fun s => by kernel_rfl) KL.run (by kernel_rfl) (by kernel_rfl) (by kernel_rfl) (by rfl) (by first | assumption | decide +kernel) (by decide +kernel) ⟨rfl, rfl, rfl, rfl, rfl, by decide +kernel⟩ ?hw ?hc
  case hw => w_witness2
  case hc =>
    refine KD.law_end (l := PySem.Challenge.rw_keptkinds_k09_invalid_entries) (n := 63) (k := 125) (x := "_law_script") rfl (by decide) (by kernel_rfl) ⟨rfl, by decide, by decide⟩ ?F
    intro w mg fa h Y G hmg0
    obtain ⟨K, KX, c⟩ := Y
    have hmg : mg ("law" : PySem.Str) = some (.ref fa) := by
      have e : (HandSHeadRun.topDef (OpenLaw.row PySem.Challenge.rw_keptkinds_k09_invalid_entries).prog 44).name = ("law" : PySem.Str) := by kernel_rfl
      rw [← e]
      exact hmg0
    obtain ⟨fd, hb, hF⟩ := KL.facts (P := (PySem.Challenge.rw_keptkinds_k09_invalid_entries).prog) (w := w) KX G hmg c ⟨by kernel_rfl, by kernel_rfl⟩
    exact ⟨K, fd, KL.den_law_k09 w, KX, hb, KL.law_true w, hF⟩

