import PyProof.Rows.All
import Wide.All
import OpenK.AllK
import Wide.FinOn
import HandS.ForMost
import HandS.ForExc
import HandS.CallSlots
import HandS.TupAny
import HandS.SortKw
import HandS.SortInts
import HandS.IsInst
import HandS.Wide
import HandS.Deep
import HandS.SetFor
import HandS.Zip
import HandS.Conv
import HandS.TupMul
import KE.KTupSum
import PyProof.EqLayable
import HandS.Defaults
import HandS.Head0
import HandS.Head1
import HandS.Head2
import HandS.HeadEnd
import HandS.HeadHook1
import HandS.HeadHook2
import HandS.ForDict
import HandS.DictTup
import KE.DataMinMax
import HandS.Style
import KE.SortData
import PySem.Challenge.RW_keenlot_k60_covered_lots_listed
set_option Elab.async false
set_option linter.all false
set_option maxRecDepth 100000
set_option maxHeartbeats 2000000
/-! DLa: data, owned objects, the state, the judgements over data. -/
namespace DL
open PySem PySem.Spec PyProof.Rows L2

mutual
/-- data, laid in G -/
inductive Dd (G : Hp) : V → PyData → Prop
  | non : Dd G .non .none
  | bl (b : Bool) : Dd G (.bl b) (.bool b)
  | int (i : Int) : Dd G (.int i) (.int i)
  | str (x : Str) : Dd G (.str x) (.str x)
  | lst {a : Addr} {xs : List V} {ds : List PyData} : G a = some (.lst xs) → DdAll G xs ds → Dd G (.ref a) (.list ds)
  | tup {a : Addr} {xs : List V} {ds : List PyData} : G a = some (.tup xs) → DdAll G xs ds → Dd G (.ref a) (.tuple ds)
inductive DdAll (G : Hp) : List V → List PyData → Prop
  | nil : DdAll G [] []
  | cons {v : V} {vs : List V} {d : PyData} {ds : List PyData} : Dd G v d → DdAll G vs ds → DdAll G (v :: vs) (d :: ds)
end
mutual
theorem Dd.dp {K : PySem.W.Frag} {G : Hp} : ∀ (d : PyData) (v : V), Dd G v d → Dp K G v d
  | .none, _, h => by cases h; exact .non
  | .bool b, _, h => by cases h; exact .bl b
  | .int i, _, h => by cases h; exact .int i
  | .str x, _, h => by cases h; exact .str x
  | .list ds, _, h => by
    cases h with
    | lst hs ha => exact .lst (.inl (.inl hs)) (Dd.dpAll ds _ ha)
  | .tuple ds, _, h => by
    cases h with
    | tup hs ha => exact .tup (.inl (.inl hs)) (Dd.dpAll ds _ ha)
  | .dict _, _, h => by cases h
theorem Dd.dpAll {K : PySem.W.Frag} {G : Hp} : ∀ (ds : List PyData) (vs : List V), DdAll G vs ds → DpAll K G vs ds
  | [], _, h => by cases h; exact .nil
  | d :: ds, _, h => by
    cases h with
    | cons h1 h2 => exact .cons (Dd.dp d _ h1) (Dd.dpAll ds _ h2)
end
/-- a value: data of any depth, or exactly this value, or the script -/
inductive It where
  | d (x : PyData) | v (x : V) | s (ns : List Int)
def Rep (K : PySem.W.Frag) (G : Hp) (v : V) : It → Prop
  | .d x => Dd G v x
  | .v x => v = x
  | .s ns => ∃ a, v = .ref a ∧ SqL K G a (ns.map V.int)
abbrev Reps (K : PySem.W.Frag) (G : Hp) : List V → List It → Prop := Paired (Rep K G)
/-- an object that is ours to change -/
inductive OO where
  | lst (xs : List It)
  | dK (kvs : List (Key × It))
  | dT (kvs : List (List Key × It))
  | ins (C dx : Addr) (fs : List (Str × It))
def RepO (K : PySem.W.Frag) (G H : Hp) (a : Addr) : OO → Prop
  | .lst xs => ∃ vs, H a = some (.lst vs) ∧ Reps K G vs xs
  | .dK kvs => ∃ ws, H a = some (.dK ws) ∧ Paired (fun (p : Key × V) (q : Key × It) => p.1 = q.1 ∧ Rep K G p.2 q.2) ws kvs
  | .dT kvs => ∃ ws, H a = some (.dT ws) ∧ Paired (fun (p : List Key × V) (q : List Key × It) => p.1 = q.1 ∧ Rep K G p.2 q.2) ws kvs
  | .ins C dx fs => ∃ ws, H a = some (.ins C dx ws) ∧ Paired (fun (p : Str × V) (q : Str × It) => p.1 = q.1 ∧ Rep K G p.2 q.2) ws fs
abbrev Om := List (Addr × OO)
abbrev Ro := List (Option It)

/-! ### growing -/
theorem sqL_same {K : PySem.W.Frag} {H H' : Hp} {a : Addr} {xs : List V} (e : Same H H') (h : SqL K H a xs) : SqL K H' a xs := e.seq h
theorem sqT_same {K : PySem.W.Frag} {H H' : Hp} {a : Addr} {xs : List V} (e : Same H H') (h : SqT K H a xs) : SqT K H' a xs := by
  rcases h with (h | ⟨o, h⟩) | h
  · exact .inl (.inl (e _ _ h))
  · exact .inl (.inr ⟨o, e _ _ h⟩)
  · exact .inr h
mutual
theorem Dd.same {H H' : Hp} (e : Same H H') : ∀ (d : PyData) (v : V), Dd H v d → Dd H' v d
  | .none, _, h => by cases h; exact .non
  | .bool b, _, h => by cases h; exact .bl b
  | .int i, _, h => by cases h; exact .int i
  | .str x, _, h => by cases h; exact .str x
  | .list ds, _, h => by
    cases h with
    | lst hs ha => exact .lst (e _ _ hs) (Dd.sameAll e ds _ ha)
  | .tuple ds, _, h => by
    cases h with
    | tup hs ha => exact .tup (e _ _ hs) (Dd.sameAll e ds _ ha)
  | .dict _, _, h => by cases h
theorem Dd.sameAll {H H' : Hp} (e : Same H H') : ∀ (ds : List PyData) (vs : List V), DdAll H vs ds → DdAll H' vs ds
  | [], _, h => by cases h; exact .nil
  | d :: ds, _, h => by
    cases h with
    | cons h1 h2 => exact .cons (Dd.same e d _ h1) (Dd.sameAll e ds _ h2)
end
theorem Rep.same {K : PySem.W.Frag} {G G' : Hp} (e : Same G G') {v : V} : ∀ {it : It}, Rep K G v it → Rep K G' v it
  | .d x, h => Dd.same e x v h
  | .v _, h => h
  | .s _, ⟨a, h1, h2⟩ => ⟨a, h1, sqL_same e h2⟩
theorem Reps.same {K : PySem.W.Frag} {G G' : Hp} (e : Same G G') {vs : List V} {its : List It} (h : Reps K G vs its) : Reps K G' vs its := h.mono fun _ _ q => Rep.same e q
theorem ddAll_paired {K : PySem.W.Frag} {G : Hp} : ∀ {vs : List V} {ds : List PyData}, DdAll G vs ds → Reps K G vs (ds.map .d)
  | _, _, .nil => .nil
  | _, _, .cons h t => .cons h (ddAll_paired t)
theorem ddAll_of : ∀ {K : PySem.W.Frag} {G : Hp} {vs : List V} {ds : List PyData}, Reps K G vs (ds.map .d) → DdAll G vs ds
  | _, _, [], [], _ => .nil
  | _, _, _ :: _, [], h => by cases h
  | _, _, [], _ :: _, h => by cases h
  | _, _, _ :: _, _ :: _, h => by cases h with | cons h t => exact .cons h (ddAll_of t)
theorem RepO.same {K : PySem.W.Frag} {G G' H : Hp} {a : Addr} (e : Same G G') : ∀ {o : OO}, RepO K G H a o → RepO K G' H a o
  | .lst xs, ⟨vs, h, r⟩ => ⟨vs, h, Reps.same e r⟩
  | .dK kvs, ⟨vs, h, r⟩ => ⟨vs, h, r.mono fun _ _ q => ⟨q.1, Rep.same e q.2⟩⟩
  | .dT kvs, ⟨vs, h, r⟩ => ⟨vs, h, r.mono fun _ _ q => ⟨q.1, Rep.same e q.2⟩⟩
  | .ins C dx fs, ⟨vs, h, r⟩ => ⟨vs, h, r.mono fun _ _ q => ⟨q.1, Rep.same e q.2⟩⟩
theorem RepO.heap {K : PySem.W.Frag} {G H H' : Hp} {a : Addr} (e : ∀ o, H a = some o → H' a = some o) : ∀ {o : OO}, RepO K G H a o → RepO K G H' a o
  | .lst xs, ⟨vs, h, r⟩ => ⟨vs, e _ h, r⟩
  | .dK kvs, ⟨vs, h, r⟩ => ⟨vs, e _ h, r⟩
  | .dT kvs, ⟨vs, h, r⟩ => ⟨vs, e _ h, r⟩
  | .ins C dx fs, ⟨vs, h, r⟩ => ⟨vs, e _ h, r⟩
theorem RepO.some {K : PySem.W.Frag} {G H : Hp} {a : Addr} : ∀ {o : OO}, RepO K G H a o → H a ≠ none
  | .lst xs, ⟨vs, h, r⟩ => by rw [h]; simp
  | .dK kvs, ⟨vs, h, r⟩ => by rw [h]; simp
  | .dT kvs, ⟨vs, h, r⟩ => by rw [h]; simp
  | .ins C dx fs, ⟨vs, h, r⟩ => by rw [h]; simp

/-! ### the state -/
structure ST (K : PySem.W.Frag) (σ : L2.St) (ρ : Ro) (G : Hp) (Ω : Om) (H : Hp) : Prop where
  sub : Same G H
  len : σ.length = ρ.length
  slot : ∀ (i : Nat) (it : It), ρ[i]? = some (some it) → ∃ v, σ[i]? = some (some v) ∧ Rep K G v it
  own : ∀ p ∈ Ω, RepO K G H p.1 p.2 ∧ G p.1 = none
  nd : (Ω.map (·.1)).Nodup

section
variable {K : PySem.W.Frag} {σ : L2.St} {ρ : Ro} {G H : Hp} {Ω : Om}
/-- the slots are forgotten; those of another frame taken -/
theorem ST.bare (s : ST K σ ρ G Ω H) : ST K [] [] G Ω H := ⟨s.sub, rfl, fun i it h => by simp at h, s.own, s.nd⟩
theorem ST.with {G' H' : Hp} {Ω' : Om} (s : ST K σ ρ G Ω H) (e : Same G G') (t : ST K [] [] G' Ω' H') : ST K σ ρ G' Ω' H' :=
  ⟨t.sub, s.len, fun i it h => let ⟨v, h1, h2⟩ := s.slot i it h; ⟨v, h1, Rep.same e h2⟩, t.own, t.nd⟩
/-- new data are laid -/
theorem ST.lay {p : Addr} {o : HO} (s : ST K σ ρ G Ω H) (hp : H p = none) : ST K σ ρ (upd G p o) Ω (upd H p o) ∧ Same G (upd G p o) := by
  have gp : G p = none := s.sub.free hp
  have e : Same G (upd G p o) := fun b x q => by
    rw [upd_ne (ne_of_none q gp)]; exact q
  refine ⟨⟨fun b x q => ?_, s.len, fun i it h => let ⟨v, h1, h2⟩ := s.slot i it h; ⟨v, h1, Rep.same e h2⟩, fun q hq => ?_, s.nd⟩, e⟩
  · by_cases hb : b = p
    · subst hb
      rw [upd_same] at q ⊢
      exact q
    · rw [upd_ne hb] at q ⊢
      exact s.sub _ _ q
  · obtain ⟨r, n⟩ := s.own q hq
    have ne : q.1 ≠ p := fun z => r.some (by rw [z]; exact hp)
    refine ⟨(r.same e).heap fun o' h => by rw [upd_ne ne]; exact h, ?_⟩
    rw [upd_ne ne]; exact n
/-- a new object of ours -/
theorem ST.newO {p : Addr} {o : HO} {oo : OO} (s : ST K σ ρ G Ω H) (hp : H p = none) (r : RepO K G (upd H p o) p oo) : ST K σ ρ G ((p, oo) :: Ω) (upd H p o) := by
  have gp : G p = none := s.sub.free hp
  refine ⟨fun b x q => ?_, s.len, s.slot, fun q hq => ?_, ?_⟩
  · rw [upd_ne (ne_of_none q gp)]; exact s.sub _ _ q
  · rcases List.mem_cons.mp hq with e | hq
    · subst e; exact ⟨r, gp⟩
    · obtain ⟨r', n⟩ := s.own q hq
      have ne : q.1 ≠ p := fun z => r'.some (by rw [z]; exact hp)
      exact ⟨r'.heap fun o' h => by rw [upd_ne ne]; exact h, n⟩
  · rw [List.map_cons]
    refine List.nodup_cons.mpr ⟨fun hm => ?_, s.nd⟩
    obtain ⟨q, hq, e⟩ := List.mem_map.mp hm
    exact (s.own q hq).1.some (by rw [e]; exact hp)
theorem ST.fresh {p : Addr} (s : ST K σ ρ G Ω H) (hp : H p = none) : ∀ q ∈ Ω, q.1 ≠ p := fun q hq e => (s.own q hq).1.some (by rw [e]; exact hp)
theorem ST.drop (s : ST K σ ρ G Ω H) (n : Nat) : ST K σ ρ G (Ω.drop n) H :=
  ⟨s.sub, s.len, s.slot, fun p hp => s.own p (List.mem_of_mem_drop hp), by rw [List.map_drop]; exact s.nd.sublist (List.drop_sublist _ _)⟩
theorem ST.set {i : Nat} {v : V} {it : It} (s : ST K σ ρ G Ω H) (r : Rep K G v it) : ST K (σ.set i (some v)) (ρ.set i (some it)) G Ω H := by
  refine ⟨s.sub, by rw [List.length_set, List.length_set]; exact s.len, fun j it' h => ?_, s.own, s.nd⟩
  by_cases e : i = j
  · subst e
    by_cases hl : i < ρ.length
    · rw [List.getElem?_set_self hl] at h
      have h' : it = it' := by simpa using h
      subst h'
      exact ⟨v, List.getElem?_set_self (by rw [s.len]; exact hl), r⟩
    · rw [List.getElem?_eq_none (by rw [List.length_set]; omega)] at h; cases h
  · rw [List.getElem?_set_ne e] at h
    obtain ⟨w, h1, h2⟩ := s.slot j it' h
    exact ⟨w, by rw [List.getElem?_set_ne e]; exact h1, h2⟩
theorem ST.setNone {i : Nat} (s : ST K σ ρ G Ω H) : ST K (σ.set i none) (ρ.set i none) G Ω H := by
  refine ⟨s.sub, by rw [List.length_set, List.length_set]; exact s.len, fun j it' h => ?_, s.own, s.nd⟩
  by_cases e : i = j
  · subst e
    by_cases hl : i < ρ.length
    · rw [List.getElem?_set_self hl] at h; cases h
    · rw [List.getElem?_eq_none (by rw [List.length_set]; omega)] at h; cases h
  · rw [List.getElem?_set_ne e] at h
    obtain ⟨w, h1, h2⟩ := s.slot j it' h
    exact ⟨w, by rw [List.getElem?_set_ne e]; exact h1, h2⟩
end

/-- Ω has o at a; up puts another in its place -/
inductive At : Om → Addr → OO → (OO → Om) → Prop where
  | here {a : Addr} {o : OO} {Ω : Om} : At ((a, o) :: Ω) a o (fun o' => (a, o') :: Ω)
  | there {p : Addr × OO} {Ω : Om} {a : Addr} {o : OO} {up : OO → Om} : At Ω a o up → At (p :: Ω) a o (fun o' => p :: up o')
theorem At.mem : ∀ {Ω : Om} {a : Addr} {o : OO} {up : OO → Om}, At Ω a o up → (a, o) ∈ Ω
  | _, _, _, _, .here => List.mem_cons_self
  | _, _, _, _, .there h => List.mem_cons_of_mem _ h.mem
theorem At.keys : ∀ {Ω : Om} {a : Addr} {o : OO} {up : OO → Om}, At Ω a o up → ∀ o', (up o').map (·.1) = Ω.map (·.1)
  | _, _, _, _, .here, _ => rfl
  | _, _, _, _, .there h, o' => by
    rw [List.map_cons, List.map_cons, h.keys o']
theorem At.upd : ∀ {Ω : Om} {a : Addr} {o : OO} {up : OO → Om}, At Ω a o up → ∀ o', At (up o') a o' up
  | _, _, _, _, .here, _ => .here
  | _, _, _, _, .there h, o' => .there (h.upd o')
theorem At.other : ∀ {Ω : Om} {a : Addr} {o : OO} {up : OO → Om}, At Ω a o up → ∀ o' p, p ∈ up o' → p = (a, o') ∨ (p ∈ Ω ∧ ((Ω.map (·.1)).Nodup → p.1 ≠ a))
  | (_, _) :: Ω, _, _, _, .here, o', p, h => by
    rcases List.mem_cons.mp h with e | h
    · exact .inl e
    · refine .inr ⟨List.mem_cons_of_mem _ h, fun nd e => ?_⟩
      rw [List.map_cons] at nd
      exact (List.nodup_cons.mp nd).1 (List.mem_map.mpr ⟨p, h, e⟩)
  | q :: Ω, a, _, _, .there hh, o', p, h => by
    rcases List.mem_cons.mp h with e | h
    · subst e
      refine .inr ⟨List.mem_cons_self, fun nd e => ?_⟩
      rw [List.map_cons] at nd
      exact (List.nodup_cons.mp nd).1 (List.mem_map.mpr ⟨_, hh.mem, e.symm⟩)
    · rcases hh.other o' p h with e | ⟨h1, h2⟩
      · exact .inl e
      · refine .inr ⟨List.mem_cons_of_mem _ h1, fun nd => h2 ?_⟩
        rw [List.map_cons] at nd
        exact (List.nodup_cons.mp nd).2
section
variable {K : PySem.W.Frag} {σ : L2.St} {ρ : Ro} {G H : Hp} {Ω : Om}
theorem ST.at (s : ST K σ ρ G Ω H) {a : Addr} {o : OO} {up : OO → Om} (h : At Ω a o up) : RepO K G H a o ∧ G a = none := s.own _ h.mem
/-- an object of ours is changed -/
theorem ST.put (s : ST K σ ρ G Ω H) {a : Addr} {o o' : OO} {up : OO → Om} {u : HO} (h : At Ω a o up) (r : RepO K G (upd H a u) a o') : ST K σ ρ G (up o') (upd H a u) := by
  have ga : G a = none := (s.at h).2
  refine ⟨fun b x q => ?_, s.len, s.slot, fun p hp => ?_, by rw [h.keys]; exact s.nd⟩
  · rw [upd_ne (ne_of_none q ga)]; exact s.sub _ _ q
  · rcases h.other o' p hp with e | ⟨h1, h2⟩
    · subst e; exact ⟨r, ga⟩
    · obtain ⟨r1, r2⟩ := s.own p h1
      exact ⟨r1.heap fun o q => by rw [upd_ne (h2 s.nd)]; exact q, r2⟩
/-- a list of ours becomes data -/
theorem ST.freeze {a : Addr} {ds : List PyData} (s : ST K σ ρ G ((a, .lst (ds.map .d)) :: Ω) H) : ∃ G', Same G G' ∧ ST K σ ρ G' Ω H ∧ Rep K G' (.ref a) (.d (.list ds)) := by
  obtain ⟨⟨vs, ha, r⟩, ga⟩ := s.own _ List.mem_cons_self
  have e : Same G (upd G a (.lst vs)) := fun b x q => by
    rw [upd_ne (ne_of_none q ga)]; exact q
  have nd := s.nd
  rw [List.map_cons] at nd
  obtain ⟨n1, n2⟩ := List.nodup_cons.mp nd
  refine ⟨upd G a (.lst vs), e, ⟨fun b x q => ?_, s.len, fun i it h => let ⟨v, h1, h2⟩ := s.slot i it h; ⟨v, h1, Rep.same e h2⟩, fun p hp => ?_, n2⟩, ?_⟩
  · by_cases hb : b = a
    · subst hb
      rw [upd_same] at q
      cases q
      exact ha
    · rw [upd_ne hb] at q
      exact s.sub _ _ q
  · obtain ⟨r1, r2⟩ := s.own p (List.mem_cons_of_mem _ hp)
    have ne : p.1 ≠ a := fun z => n1 (List.mem_map.mpr ⟨p, hp, z⟩)
    exact ⟨r1.same e, by rw [upd_ne ne]; exact r2⟩
  · exact .lst upd_same (ddAll_of (Reps.same e r))
/-- the slots that hold it are told so -/
inductive Relab (a : Addr) (x : It) : Ro → Ro → Prop where
  | nil : Relab a x [] []
  | chg {ρ ρ' : Ro} : Relab a x ρ ρ' → Relab a x (some (.v (.ref a)) :: ρ) (some x :: ρ')
  | same {o : Option It} {ρ ρ' : Ro} : Relab a x ρ ρ' → Relab a x (o :: ρ) (o :: ρ')
theorem Relab.len {a : Addr} {x : It} : ∀ {ρ ρ' : Ro}, Relab a x ρ ρ' → ρ.length = ρ'.length
  | _, _, .nil => rfl
  | _, _, .chg h => by rw [List.length_cons, List.length_cons, h.len]
  | _, _, .same h => by rw [List.length_cons, List.length_cons, h.len]
theorem Relab.get {a : Addr} {x : It} : ∀ {ρ ρ' : Ro}, Relab a x ρ ρ' → ∀ (i : Nat) (it : It), ρ'[i]? = some (some it) → ρ[i]? = some (some it) ∨ (ρ[i]? = some (some (.v (.ref a))) ∧ it = x)
  | _, _, .nil, i, it, h => by simp at h
  | _, _, .chg q, 0, it, h => by
    have h' : x = it := by simpa using h
    exact .inr ⟨rfl, h'.symm⟩
  | _, _, .chg q, i + 1, it, h => by simpa using q.get i it (by simpa using h)
  | _, _, .same q, 0, it, h => .inl (by simpa using h)
  | _, _, .same q, i + 1, it, h => by simpa using q.get i it (by simpa using h)
theorem ST.relab {a : Addr} {x : It} {ρ' : Ro} (s : ST K σ ρ G Ω H) (r : Rep K G (.ref a) x) (h : Relab a x ρ ρ') : ST K σ ρ' G Ω H :=
  ⟨s.sub, s.len.trans h.len, fun i it e => by
    rcases h.get i it e with e | ⟨e, rfl⟩
    · exact s.slot i it e
    · obtain ⟨v, h1, h2⟩ := s.slot i _ e
      have h2' : v = .ref a := h2
      subst h2'
      exact ⟨_, h1, r⟩, s.own, s.nd⟩
end

/-! ### the weakest readings -/
def cE (X : Cx) (e : Expr) : TE := fun σ H Q => ∀ pins s, Inv X pins σ H s → wpAny (model X.prog X.w) X.A (eval e X.env) (EP X pins σ Q) X.xe s
def cT (X : Cx) (e : Expr) : TT := fun σ H Q => ∀ pins s, Inv X pins σ H s → wpAny (model X.prog X.w) X.A (isTrue e X.env (eval e X.env)) (TP X pins σ Q) X.xe s
def cW (X : Cx) (e : Expr) : TT := fun σ H Q => ∀ whole pins s, Inv X pins σ H s → wpAny (model X.prog X.w) X.A (isTrue e X.env whole) (TP X pins σ Q) X.xe s
def cA (X : Cx) (es : List Expr) : TA := fun σ H Q => ∀ pos pins s, Inv X pins σ H s → wpAny (model X.prog X.w) X.A (spliced (backTo pos (starEach es X.env))) (AP X pins σ Q) X.xe s
def cS (X : Cx) (st : Stmt) : TS := fun D σ H => ∀ pins s, Inv X pins σ H s → wpAny (model X.prog X.w) X.A (exec st X.env) (SP X pins D) X.xe s
def cSs (X : Cx) (st : List Stmt) : TS := fun D σ H => ∀ pins s, Inv X pins σ H s → wpAny (model X.prog X.w) X.A (execs st X.env) (SP X pins D) X.xe s
section
variable {X : Cx}
theorem pcE {e : Expr} : PE X e (cE X e) := ⟨fun pins s _ _ _ I h => h pins s I⟩
theorem pcT {e : Expr} : PT X e (cT X e) := ⟨fun pins s _ _ _ I h => h pins s I⟩
theorem pcW {e : Expr} : PW X e (cW X e) := ⟨fun wh pins s _ _ _ I h => h wh pins s I⟩
theorem pcA {es : List Expr} : PA X es (cA X es) := ⟨fun pos pins s _ _ _ I h => h pos pins s I⟩
theorem pcS {st : Stmt} : PS X st (cS X st) := ⟨fun pins s _ _ _ I h => h pins s I⟩
theorem pcSs {st : List Stmt} : PSs X st (cSs X st) := ⟨fun pins s _ _ _ I h => h pins s I⟩
theorem ofE {e : Expr} {t : TE} {σ : L2.St} {H : Hp} {Q : VK} (p : PE X e t) (h : t σ H Q) : cE X e σ H Q := fun pins s I => p.run pins s σ H Q I h
theorem ofT {e : Expr} {t : TT} {σ : L2.St} {H : Hp} {Q : Bool → Hp → Prop} (p : PT X e t) (h : t σ H Q) : cT X e σ H Q := fun pins s I => p.run pins s σ H Q I h
theorem ofW {e : Expr} {t : TT} {σ : L2.St} {H : Hp} {Q : Bool → Hp → Prop} (p : PW X e t) (h : t σ H Q) : cW X e σ H Q := fun wh pins s I => p.run wh pins s σ H Q I h
theorem ofA {es : List Expr} {t : TA} {σ : L2.St} {H : Hp} {Q : List V → Hp → Prop} (p : PA X es t) (h : t σ H Q) : cA X es σ H Q := fun pos pins s I => p.run pos pins s σ H Q I h
theorem ofS {st : Stmt} {t : TS} {D : Ends} {σ : L2.St} {H : Hp} (p : PS X st t) (h : t D σ H) : cS X st D σ H := fun pins s I => p.run pins s σ H D I h
theorem ofSs {st : List Stmt} {t : TS} {D : Ends} {σ : L2.St} {H : Hp} (p : PSs X st t) (h : t D σ H) : cSs X st D σ H := fun pins s I => p.run pins s σ H D I h
end

/-! ### exceptions -/
structure Xn where
  cls : Value
  fs : Option (List (Str × It))
def RepX (K : PySem.W.Frag) (G : Hp) (cls : Value) (d : Option Addr) (x : Xn) : Prop :=
  cls = x.cls ∧ match x.fs with
    | none => d = none
    | some fs => ∃ dd ws, d = some dd ∧ G dd = some (.xd ws) ∧ Paired (fun (p : Str × V) (q : Str × It) => p.1 = q.1 ∧ Rep K G p.2 q.2) ws fs
abbrev RX := Xn → Ro → Om → Prop
def KX (X : Cx) (W : WX) (R : RX) (G : Hp) : Prop := ∀ cls d σ H x ρ Ω G', Same G G' → R x ρ Ω → RepX X.K G' cls d x → ST X.K σ ρ G' Ω H → W cls d σ H
theorem KX.mono {X : Cx} {W : WX} {R : RX} {G G' : Hp} (k : KX X W R G) (e : Same G G') : KX X W R G' := fun cls d σ H x ρ Ω G2 e2 => k cls d σ H x ρ Ω G2 (e.trans e2)

/-! ### the judgements -/
structure DE where
  nx : Ro → Om → Prop
  rt : It → Om → Prop
  bk : Ro → Om → Prop := fun _ _ => False
  ct : Ro → Om → Prop := fun _ _ => False
def EX (X : Cx) (W : WX) (R : RX) (e : Expr) (ρ : Ro) (Ω : Om) (Q : It → Om → Prop) : Prop :=
  ∀ σ G H, ST X.K σ ρ G Ω H → KX X W R G → ∀ Q' : VK, (∀ v G' H' it Ω', Q it Ω' → Same G G' → ST X.K σ ρ G' Ω' H' → Rep X.K G' v it → Q' v H') → cE X e σ H Q'
def TX (X : Cx) (W : WX) (R : RX) (e : Expr) (ρ : Ro) (Ω : Om) (Q : Bool → Om → Prop) : Prop :=
  ∀ σ G H, ST X.K σ ρ G Ω H → KX X W R G → ∀ Q' : Bool → Hp → Prop, (∀ b G' H' Ω', Q b Ω' → Same G G' → ST X.K σ ρ G' Ω' H' → Q' b H') → cT X e σ H Q'
def WT (X : Cx) (W : WX) (R : RX) (e : Expr) (ρ : Ro) (Ω : Om) (Q : Bool → Om → Prop) : Prop :=
  ∀ σ G H, ST X.K σ ρ G Ω H → KX X W R G → ∀ Q' : Bool → Hp → Prop, (∀ b G' H' Ω', Q b Ω' → Same G G' → ST X.K σ ρ G' Ω' H' → Q' b H') → cW X e σ H Q'
def AX (X : Cx) (W : WX) (R : RX) (es : List Expr) (ρ : Ro) (Ω : Om) (Q : List It → Om → Prop) : Prop :=
  ∀ σ G H, ST X.K σ ρ G Ω H → KX X W R G → ∀ Q' : List V → Hp → Prop, (∀ vs G' H' its Ω', Q its Ω' → Same G G' → ST X.K σ ρ G' Ω' H' → Reps X.K G' vs its → Q' vs H') → cA X es σ H Q'
structure EndsOk (K : PySem.W.Frag) (G : Hp) (D : DE) (E : Ends) : Prop where
  nx : ∀ σ ρ G' Ω H, D.nx ρ Ω → Same G G' → ST K σ ρ G' Ω H → E.nx σ H
  rt : ∀ v it σ ρ G' Ω H, D.rt it Ω → Same G G' → ST K σ ρ G' Ω H → Rep K G' v it → E.rt v H
  bk : ∀ σ ρ G' Ω H, D.bk ρ Ω → Same G G' → ST K σ ρ G' Ω H → E.bk σ H
  ct : ∀ σ ρ G' Ω H, D.ct ρ Ω → Same G G' → ST K σ ρ G' Ω H → E.ct σ H
theorem EndsOk.mono {K : PySem.W.Frag} {G G1 : Hp} {D : DE} {E : Ends} (k : EndsOk K G D E) (e : Same G G1) : EndsOk K G1 D E :=
  ⟨fun σ ρ G' Ω H h e2 => k.nx σ ρ G' Ω H h (e.trans e2), fun v it σ ρ G' Ω H h e2 => k.rt v it σ ρ G' Ω H h (e.trans e2), fun σ ρ G' Ω H h e2 => k.bk σ ρ G' Ω H h (e.trans e2), fun σ ρ G' Ω H h e2 => k.ct σ ρ G' Ω H h (e.trans e2)⟩
def SX (X : Cx) (W : WX) (R : RX) (st : Stmt) (ρ : Ro) (Ω : Om) (D : DE) : Prop :=
  ∀ σ G H, ST X.K σ ρ G Ω H → KX X W R G → ∀ E : Ends, EndsOk X.K G D E → cS X st E σ H
def BX (X : Cx) (W : WX) (R : RX) (st : List Stmt) (ρ : Ro) (Ω : Om) (D : DE) : Prop :=
  ∀ σ G H, ST X.K σ ρ G Ω H → KX X W R G → ∀ E : Ends, EndsOk X.K G D E → cSs X st E σ H
end DL

set_option Elab.async false
set_option linter.all false
set_option maxRecDepth 100000
set_option maxHeartbeats 2000000
/-! DLb: expressions. -/
namespace DL
open PySem PySem.Spec PyProof.Rows L2

/-! ### the weakest operations on values -/
def cO (X : Cx) (f : Value → Value → Sem Value) : R2 := fun x y H Q => ∀ pins s σ v u, Inv X pins σ H s → RelV x v → RelV y u → wpAny (model X.prog X.w) X.A (f v u) (EP X pins σ Q) X.xe s
def cU (X : Cx) (f : Value → Sem Value) : V → Hp → VK → Prop := fun x H Q => ∀ pins s σ v, Inv X pins σ H s → RelV x v → wpAny (model X.prog X.w) X.A (f v) (EP X pins σ Q) X.xe s
def cC (X : Cx) (f : Value) : List V → Hp → VK → Prop := fun xs H Q => ∀ pins s σ us, Inv X pins σ H s → Vals xs us → wpAny (model X.prog X.w) X.A (call f us) (EP X pins σ Q) X.xe s
def cM (X : Cx) (id : String) : V → List V → Hp → VK → Prop := fun x xs H Q => ∀ pins s σ v us, Inv X pins σ H s → RelV x v → Vals xs us → wpAny (model X.prog X.w) X.A (call (.builtin id) (v :: us)) (EP X pins σ Q) X.xe s
def cI (X : Cx) : R2 := fun x y H Q => ∀ (value slice : Expr) pins s σ v u, Inv X pins σ H s → RelV x v → RelV y u → subscripted slice false v u = operate [v, u] (getItem v u) → wpAny (model X.prog X.w) X.A (subscriptTail value slice v u) (EP X pins σ Q) X.xe s
theorem hcO {X : Cx} {f : Value → Value → Sem Value} : OpR X f (cO X f) := fun pins s σ H x y v u Q I rx ry h => h pins s σ v u I rx ry
theorem hcU {X : Cx} {f : Value → Sem Value} : UnR X f (cU X f) := fun pins s σ H x v Q I rx h => h pins s σ v I rx
theorem hcC {X : Cx} {f : Value} : CallR X f (cC X f) := fun pins s σ H xs us Q I r h => h pins s σ us I r
theorem hcM {X : Cx} {id : String} : MtR X id (cM X id) := fun pins s σ H x xs v us Q I rx r h => h pins s σ v us I rx r
theorem hcI {X : Cx} : IxR X (cI X) := fun a b pins s σ H x y v u Q I rx ry h hs => h a b pins s σ v u I rx ry hs
theorem toO {X : Cx} {f : Value → Value → Sem Value} {r : R2} {x y : V} {H : Hp} {Q : VK} (o : OpR X f r) (h : r x y H Q) : cO X f x y H Q := fun pins s σ v u I rx ry => o pins s σ H x y v u Q I rx ry h
theorem toU {X : Cx} {f : Value → Sem Value} {r : V → Hp → VK → Prop} {x : V} {H : Hp} {Q : VK} (o : UnR X f r) (h : r x H Q) : cU X f x H Q := fun pins s σ v I rx => o pins s σ H x v Q I rx h
theorem toC {X : Cx} {f : Value} {r : List V → Hp → VK → Prop} {xs : List V} {H : Hp} {Q : VK} (o : CallR X f r) (h : r xs H Q) : cC X f xs H Q := fun pins s σ us I r => o pins s σ H xs us Q I r h
theorem toM {X : Cx} {id : String} {r : V → List V → Hp → VK → Prop} {x : V} {xs : List V} {H : Hp} {Q : VK} (o : MtR X id r) (h : r x xs H Q) : cM X id x xs H Q := fun pins s σ v us I rx r => o pins s σ H x xs v us Q I rx r h
theorem toI {X : Cx} {r : R2} {x y : V} {H : Hp} {Q : VK} (o : IxR X r) (h : r x y H Q) : cI X x y H Q := fun a b pins s σ v u I rx ry hs => o a b pins s σ H x y v u Q I rx ry h hs

/-- what is wanted of a result, told over values -/
def Kont (K : PySem.W.Frag) (G : Hp) (Q : It → Om → Prop) (Q' : VK) : Prop := ∀ v G' H' it Ω', Q it Ω' → Same G G' → ST K [] [] G' Ω' H' → Rep K G' v it → Q' v H'
def OpX (X : Cx) (f : Value → Value → Sem Value) (x y : It) (Ω : Om) (Q : It → Om → Prop) : Prop :=
  ∀ G H, ST X.K [] [] G Ω H → ∀ vx vy, Rep X.K G vx x → Rep X.K G vy y → ∀ Q' : VK, Kont X.K G Q Q' → cO X f vx vy H Q'
def UnX (X : Cx) (f : Value → Sem Value) (x : It) (Ω : Om) (Q : It → Om → Prop) : Prop :=
  ∀ G H, ST X.K [] [] G Ω H → ∀ vx, Rep X.K G vx x → ∀ Q' : VK, Kont X.K G Q Q' → cU X f vx H Q'
def CallX (X : Cx) (f : Value) (xs : List It) (Ω : Om) (Q : It → Om → Prop) : Prop :=
  ∀ G H, ST X.K [] [] G Ω H → ∀ vs, Reps X.K G vs xs → ∀ Q' : VK, Kont X.K G Q Q' → cC X f vs H Q'
def MetX (X : Cx) (id : String) (x : It) (xs : List It) (Ω : Om) (Q : It → Om → Prop) : Prop :=
  ∀ G H, ST X.K [] [] G Ω H → ∀ vx vs, Rep X.K G vx x → Reps X.K G vs xs → ∀ Q' : VK, Kont X.K G Q Q' → cM X id vx vs H Q'
def IxX (X : Cx) (x y : It) (Ω : Om) (Q : It → Om → Prop) : Prop :=
  ∀ G H, ST X.K [] [] G Ω H → ∀ vx vy, Rep X.K G vx x → Rep X.K G vy y → ∀ Q' : VK, Kont X.K G Q Q' → cI X vx vy H Q'

/-- the value reads as these data now -/
inductive Vw (Ω : Om) : It → PyData → Prop where
  | dat {x : PyData} : Vw Ω (.d x) x
  | own {a : Addr} {ds : List PyData} {up : OO → Om} : At Ω a (.lst (ds.map .d)) up → Vw Ω (.v (.ref a)) (.list ds)
theorem Vw.dp {K : PySem.W.Frag} {σ : L2.St} {ρ : Ro} {G H : Hp} {Ω : Om} {it : It} {x : PyData} {v : V} (w : Vw Ω it x) (s : ST K σ ρ G Ω H) (r : Rep K G v it) : Dp K H v x := by
  cases w with
  | dat => exact Dd.dp _ _ (Dd.same s.sub _ _ r)
  | own h =>
    obtain ⟨vs, e, rs⟩ := (s.at h).1
    have r' : v = .ref _ := r
    subst r'
    exact Dd.dp _ _ (.lst e (ddAll_of (Reps.same s.sub rs)))

section
variable {X : Cx} {W : WX} {R : RX} {ρ : Ro} {Ω : Om} {Q : It → Om → Prop} {pos : Pos} {a b c e : Expr}

/-! ### names, constants -/
theorem ex_var (i : Nat) {x : Str} {it : It} (h : ρ[i]? = some (some it)) (q : Q it Ω) (hN : X.N[i]? = some x := by rfl) (hv : Vis X.env.scope x := by first | exact Or.inl rfl | exact Or.inr (Or.inl rfl) | exact Or.inr (Or.inr rfl))
    (hd : (x == ("__debug__" : Str)) = false := by decide) (hcd : (x == ("__classdict__" : Str)) = false := by decide) : EX X W R (.Name x pos) ρ Ω Q := fun σ G H s k Q' q' => by
  obtain ⟨v, h1, h2⟩ := s.slot i it h
  exact ofE (pe_var hN hv hd hcd) ⟨v, h1, q' v G H it Ω q (Same.refl _) s h2⟩
theorem ex_int {i : Int} {j} (q : Q (.d (.int i)) Ω) : EX X W R (.Constant (.int i) j pos) ρ Ω Q := fun σ G H s k Q' q' => ofE pe_int (q' _ G H _ Ω q (Same.refl _) s (.int i))
theorem ex_bool {i : Bool} {j} (q : Q (.d (.bool i)) Ω) : EX X W R (.Constant (.bool i) j pos) ρ Ω Q := fun σ G H s k Q' q' => ofE pe_bl (q' _ G H _ Ω q (Same.refl _) s (.bl i))
theorem ex_none {j} (q : Q (.d .none) Ω) : EX X W R (.Constant .none j pos) ρ Ω Q := fun σ G H s k Q' q' => ofE pe_non (q' _ G H _ Ω q (Same.refl _) s .non)
theorem ex_str {i : Str} {j} (q : Q (.d (.str i)) Ω) : EX X W R (.Constant (.str i) j pos) ρ Ω Q := fun σ G H s k Q' q' => ofE pe_str (q' _ G H _ Ω q (Same.refl _) s (.str i))
theorem ex_globI {x : Str} {i : Int} {t : Tok} (hm : X.mg x = some (.int i t)) (q : Q (.d (.int i)) Ω) (hg : Gl X x := by rfl) (hd : (x == ("__debug__" : Str)) = false := by decide) : EX X W R (.Name x pos) ρ Ω Q := fun σ G H s k Q' q' =>
  ofE (pe_glob (v := .int i) hg hm ⟨t, rfl⟩ hd) (q' _ G H _ Ω q (Same.refl _) s (.int i))
theorem ex_globS {x : Str} {i : Str} {t : Tok} (hm : X.mg x = some (.str i t)) (q : Q (.d (.str i)) Ω) (hg : Gl X x := by rfl) (hd : (x == ("__debug__" : Str)) = false := by decide) : EX X W R (.Name x pos) ρ Ω Q := fun σ G H s k Q' q' =>
  ofE (pe_glob (v := .str i) hg hm ⟨t, rfl⟩ hd) (q' _ G H _ Ω q (Same.refl _) s (.str i))
theorem ex_globR {x : Str} {C : Addr} (hm : X.mg x = some (.ref C)) (q : Q (.v (.ref C)) Ω) (hg : Gl X x := by rfl) (hd : (x == ("__debug__" : Str)) = false := by decide) : EX X W R (.Name x pos) ρ Ω Q := fun σ G H s k Q' q' =>
  ofE (pe_glob (v := .ref C) hg hm rfl hd) (q' _ G H _ Ω q (Same.refl _) s rfl)
theorem ex_ty (T : String) {x : Str} (hm : X.mg x = none) (q : Q (.v (.ty T)) Ω) (hg : Gl X x := by rfl) (hv : bootBuiltins x = some (.type T) := by decide +kernel) (hn : x ≠ "__name__" := by decide) (hd : (x == ("__debug__" : Str)) = false := by decide) :
    EX X W R (.Name x pos) ρ Ω Q := fun σ G H s k Q' q' => ofE (pe_bltn (v := .ty T) hg hm hv rfl hn hd) (q' _ G H _ Ω q (Same.refl _) s rfl)

/-- weaker wishes -/
theorem EX.imp {Q2 : It → Om → Prop} (h : EX X W R e ρ Ω Q) (i : ∀ it Ω', Q it Ω' → Q2 it Ω') : EX X W R e ρ Ω Q2 := fun σ G H s k Q' q' => h σ G H s k Q' fun v G' H' it Ω' q => q' v G' H' it Ω' (i _ _ q)
theorem AX.imp {es : List Expr} {Q Q2 : List It → Om → Prop} (h : AX X W R es ρ Ω Q) (i : ∀ it Ω', Q it Ω' → Q2 it Ω') : AX X W R es ρ Ω Q2 := fun σ G H s k Q' q' => h σ G H s k Q' fun v G' H' it Ω' q => q' v G' H' it Ω' (i _ _ q)
theorem TX.imp {Q Q2 : Bool → Om → Prop} (h : TX X W R e ρ Ω Q) (i : ∀ it Ω', Q it Ω' → Q2 it Ω') : TX X W R e ρ Ω Q2 := fun σ G H s k Q' q' => h σ G H s k Q' fun v G' H' Ω' q => q' v G' H' Ω' (i _ _ q)
theorem ex_drop (n : Nat) (h : EX X W R e ρ Ω fun it Ω' => Q it (Ω'.drop n)) : EX X W R e ρ Ω Q := fun σ G H s k Q' q' => h σ G H s k Q' fun v G' H' it Ω' q e1 s1 r => q' v G' H' it _ q e1 (s1.drop n) r
/-- a new list becomes data at once -/
def Frz (it : It) (Ω' : Om) (Q : It → Om → Prop) : Prop := ∃ l ds Ω2, it = .v (.ref l) ∧ Ω' = (l, .lst (ds.map .d)) :: Ω2 ∧ Q (.d (.list ds)) Ω2
theorem ex_frz (h : EX X W R e ρ Ω fun it Ω' => Frz it Ω' Q) : EX X W R e ρ Ω Q := fun σ G H s k Q' q' => h σ G H s k Q' fun v G' H' it Ω' q e1 s1 r => by
  obtain ⟨l, ds, Ω2, rfl, rfl, q⟩ := q
  obtain ⟨G2, e2, s2, r2⟩ := s1.freeze
  have r' : v = .ref l := r
  subst r'
  exact q' _ G2 H' _ Ω2 q (e1.trans e2) s2 r2

/-! ### operators -/
theorem ex_bin {op : Operator} (h : EX X W R a ρ Ω fun x Ω1 => EX X W R b ρ Ω1 fun y Ω2 => OpX X (binaryOp op) x y Ω2 Q) : EX X W R (.BinOp a op b pos) ρ Ω Q := fun σ G H s k Q' q' =>
  ofE (pe_op hcO pcE pcE) (h σ G H s k _ fun v G1 H1 it Ω1 h1 e1 s1 r1 => h1 σ G1 H1 s1 (k.mono e1) _ fun v2 G2 H2 it2 Ω2 h2 e2 s2 r2 =>
    h2 G2 H2 s2.bare v v2 (Rep.same e2 r1) r2 _ fun v3 G3 H3 it3 Ω3 q3 e3 s3 r3 => q' v3 G3 H3 it3 Ω3 q3 (e1.trans (e2.trans e3)) (s2.with e3 s3) r3)
theorem ex_un {op : UnaryOp} (h : EX X W R a ρ Ω fun x Ω1 => UnX X (unaryOp op) x Ω1 Q) : EX X W R (.UnaryOp op a pos) ρ Ω Q := fun σ G H s k Q' q' =>
  ofE (pe_un hcU pcE) (h σ G H s k _ fun v G1 H1 it Ω1 h1 e1 s1 r1 => h1 G1 H1 s1.bare v r1 _ fun v3 G3 H3 it3 Ω3 q3 e3 s3 r3 => q' v3 G3 H3 it3 Ω3 q3 (e1.trans e3) (s1.with e3 s3) r3)
theorem ex_cmp {op : CmpOp} (h : EX X W R a ρ Ω fun x Ω1 => EX X W R b ρ Ω1 fun y Ω2 => OpX X (compareOp op) x y Ω2 Q) (hm : behindInMarks op b = false := by first | exact nomark _ | with_unfolding_all rfl) : EX X W R (.Compare a [op] [b] pos) ρ Ω Q := fun σ G H s k Q' q' =>
  ofE (pe_cmpR hcO pcE pcE hm) (h σ G H s k _ fun v G1 H1 it Ω1 h1 e1 s1 r1 => h1 σ G1 H1 s1 (k.mono e1) _ fun v2 G2 H2 it2 Ω2 h2 e2 s2 r2 =>
    h2 G2 H2 s2.bare v v2 (Rep.same e2 r1) r2 _ fun v3 G3 H3 it3 Ω3 q3 e3 s3 r3 => q' v3 G3 H3 it3 Ω3 q3 (e1.trans (e2.trans e3)) (s2.with e3 s3) r3)
/-- a bool, as the model has it -/
theorem rep_bool {K : PySem.W.Frag} {G : Hp} {v : V} {b : Bool} (r : Rep K G v (.d (.bool b))) : v = .bl b := by
  have r' : Dd G v (.bool b) := r
  cases r'; rfl
theorem rep_int {K : PySem.W.Frag} {G : Hp} {v : V} {b : Int} (r : Rep K G v (.d (.int b))) : v = .int b := by
  have r' : Dd G v (.int b) := r
  cases r'; rfl
theorem rep_str {K : PySem.W.Frag} {G : Hp} {v : V} {b : Str} (r : Rep K G v (.d (.str b))) : v = .str b := by
  have r' : Dd G v (.str b) := r
  cases r'; rfl
theorem rep_none {K : PySem.W.Frag} {G : Hp} {v : V} (r : Rep K G v (.d .none)) : v = .non := by
  have r' : Dd G v .none := r
  cases r'; rfl
/-- what follows a truth value -/
def OnB (it : It) (Ω : Om) (P : Bool → Om → Prop) : Prop := ∃ b, it = .d (.bool b) ∧ P b Ω
theorem onB {b : Bool} {P : Bool → Om → Prop} (h : P b Ω) : OnB (.d (.bool b)) Ω P := ⟨b, rfl, h⟩
theorem ex_chain {op op' : CmpOp} (h : EX X W R a ρ Ω fun x Ω1 => EX X W R b ρ Ω1 fun y Ω2 => OpX X (compareOp op) x y Ω2 fun z Ω3 => OnB z Ω3 fun t Ω3 => if t = true then EX X W R c ρ Ω3 (fun w Ω4 => OpX X (compareOp op') y w Ω4 Q) else Q (.d (.bool false)) Ω3)
    (hm : lastMarks [op, op'] [b, c] = false := by with_unfolding_all rfl) : EX X W R (.Compare a [op, op'] [b, c] pos) ρ Ω Q := fun σ G H s k Q' q' => by
  refine ofE (pe_chain (tb := cE X b) (tc := cE X c) hcO hcO pcE pcE pcE hm) (h σ G H s k _ fun v G1 H1 it Ω1 h1 e1 s1 r1 => h1 σ G1 H1 s1 (k.mono e1) _ fun v2 G2 H2 it2 Ω2 h2 e2 s2 r2 =>
    h2 G2 H2 s2.bare v v2 (Rep.same e2 r1) r2 _ fun v3 G3 H3 it3 Ω3 q3 e3 s3 r3 => ?_)
  obtain ⟨t, rfl, q3⟩ := q3
  refine ⟨t, rep_bool r3, ?_⟩
  cases t with
  | true =>
    rw [if_pos rfl] at q3 ⊢
    exact q3 σ G3 H3 (s2.with e3 s3) (k.mono (e1.trans (e2.trans e3))) _ fun v4 G4 H4 it4 Ω4 h4 e4 s4 r4 =>
      h4 G4 H4 s4.bare v2 v4 (Rep.same (e3.trans e4) r2) r4 _ fun v5 G5 H5 it5 Ω5 q5 e5 s5 r5 => q' v5 G5 H5 it5 Ω5 q5 (e1.trans (e2.trans (e3.trans (e4.trans e5)))) (s4.with e5 s5) r5
  | false =>
    rw [if_neg Bool.false_ne_true] at q3 ⊢
    exact q' _ G3 H3 _ Ω3 q3 (e1.trans (e2.trans e3)) (s2.with e3 s3) (.bl false)
/-! ### and, or, not, if as values -/
theorem ex_one {op} (h : EX X W R a ρ Ω Q) : EX X W R (.BoolOp op [a] pos) ρ Ω Q := fun σ G H s k Q' q' => ofE (pe_one pcE) (h σ G H s k Q' q')
theorem ex_and {rest : List Expr} (h : EX X W R a ρ Ω fun x Ω1 => OnB x Ω1 fun t Ω1 => if t = true then EX X W R (.BoolOp .And (b :: rest) pos) ρ Ω1 Q else Q (.d (.bool false)) Ω1) : EX X W R (.BoolOp .And (a :: b :: rest) pos) ρ Ω Q := fun σ G H s k Q' q' => by
  refine ofE (pe_and (ta := cE X a) (tb := cE X (.BoolOp .And (b :: rest) pos)) pcE pcE) (h σ G H s k _ fun v G1 H1 it Ω1 h1 e1 s1 r1 => ?_)
  obtain ⟨t, rfl, h1⟩ := h1
  refine ⟨t, rep_bool r1, ?_⟩
  cases t with
  | true =>
    rw [if_pos rfl] at h1 ⊢
    exact h1 σ G1 H1 s1 (k.mono e1) _ fun v2 G2 H2 it2 Ω2 q2 e2 s2 r2 => q' v2 G2 H2 it2 Ω2 q2 (e1.trans e2) s2 r2
  | false =>
    rw [if_neg Bool.false_ne_true] at h1 ⊢
    exact q' _ G1 H1 _ Ω1 h1 e1 s1 (.bl false)
theorem ex_or {rest : List Expr} (h : EX X W R a ρ Ω fun x Ω1 => OnB x Ω1 fun t Ω1 => if t = true then Q (.d (.bool true)) Ω1 else EX X W R (.BoolOp .Or (b :: rest) pos) ρ Ω1 Q) : EX X W R (.BoolOp .Or (a :: b :: rest) pos) ρ Ω Q := fun σ G H s k Q' q' => by
  refine ofE (pe_or (ta := cE X a) (tb := cE X (.BoolOp .Or (b :: rest) pos)) pcE pcE) (h σ G H s k _ fun v G1 H1 it Ω1 h1 e1 s1 r1 => ?_)
  obtain ⟨t, rfl, h1⟩ := h1
  refine ⟨t, rep_bool r1, ?_⟩
  cases t with
  | false =>
    rw [if_neg Bool.false_ne_true] at h1 ⊢
    exact h1 σ G1 H1 s1 (k.mono e1) _ fun v2 G2 H2 it2 Ω2 q2 e2 s2 r2 => q' v2 G2 H2 it2 Ω2 q2 (e1.trans e2) s2 r2
  | true =>
    rw [if_pos rfl] at h1 ⊢
    exact q' _ G1 H1 _ Ω1 h1 e1 s1 (.bl true)
theorem ex_not (h : EX X W R a ρ Ω fun x Ω1 => OnB x Ω1 fun t Ω1 => Q (.d (.bool !t)) Ω1) : EX X W R (.UnaryOp .Not a pos) ρ Ω Q := fun σ G H s k Q' q' => by
  refine ofE (pe_not (ta := cE X a) pcE) (h σ G H s k _ fun v G1 H1 it Ω1 h1 e1 s1 r1 => ?_)
  obtain ⟨t, rfl, h1⟩ := h1
  exact ⟨t, rep_bool r1, q' _ G1 H1 _ Ω1 h1 e1 s1 (.bl _)⟩
theorem ex_ifE (h : TX X W R c ρ Ω fun t Ω1 => if t = true then EX X W R a ρ Ω1 Q else EX X W R b ρ Ω1 Q) : EX X W R (.IfExp c a b pos) ρ Ω Q := fun σ G H s k Q' q' => by
  refine ofE (pe_ifExp (tA := cT X c) (ta := cE X a) (tb := cE X b) pcT pcE pcE) (h σ G H s k _ fun t G1 H1 Ω1 h1 e1 s1 => ?_)
  cases t with
  | true =>
    rw [if_pos rfl] at h1 ⊢
    exact h1 σ G1 H1 s1 (k.mono e1) _ fun v2 G2 H2 it2 Ω2 q2 e2 s2 r2 => q' v2 G2 H2 it2 Ω2 q2 (e1.trans e2) s2 r2
  | false =>
    rw [if_neg Bool.false_ne_true] at h1 ⊢
    exact h1 σ G1 H1 s1 (k.mono e1) _ fun v2 G2 H2 it2 Ω2 q2 e2 s2 r2 => q' v2 G2 H2 it2 Ω2 q2 (e1.trans e2) s2 r2
/-! ### tests -/
variable {P : Bool → Om → Prop}
theorem tx_val (h : EX X W R e ρ Ω fun x Ω1 => OnB x Ω1 P) (he : ∀ whole, isTrue e X.env whole = (do let v ← whole; standAt e.pos; holding [v] (truthy v)) := by intro _; rfl) : TX X W R e ρ Ω P := fun σ G H s k Q' q' => by
  refine ofT (pt_val (t := cE X e) pcE he) (h σ G H s k _ fun v G1 H1 it Ω1 h1 e1 s1 r1 => ?_)
  obtain ⟨t, rfl, h1⟩ := h1
  exact ⟨t, rep_bool r1, q' t G1 H1 Ω1 h1 e1 s1⟩
theorem tx_cmp {op : CmpOp} (h : EX X W R a ρ Ω fun x Ω1 => EX X W R b ρ Ω1 fun y Ω2 => OpX X (compareOp op) x y Ω2 fun z Ω3 => OnB z Ω3 P) (hm : behindInMarks op b = false := by first | exact nomark _ | with_unfolding_all rfl) : TX X W R (.Compare a [op] [b] pos) ρ Ω P := fun σ G H s k Q' q' =>
  ofT (pt_cmpR hcO pcE pcE hm) (h σ G H s k _ fun v G1 H1 it Ω1 h1 e1 s1 r1 => h1 σ G1 H1 s1 (k.mono e1) _ fun v2 G2 H2 it2 Ω2 h2 e2 s2 r2 =>
    h2 G2 H2 s2.bare v v2 (Rep.same e2 r1) r2 _ fun v3 G3 H3 it3 Ω3 q3 e3 s3 r3 => by
      obtain ⟨t, rfl, q3⟩ := q3
      exact ⟨t, rep_bool r3, q' t G3 H3 Ω3 q3 (e1.trans (e2.trans e3)) (s2.with e3 s3)⟩)
theorem tx_chain {op op' : CmpOp} (h : EX X W R a ρ Ω fun x Ω1 => EX X W R b ρ Ω1 fun y Ω2 => OpX X (compareOp op) x y Ω2 fun z Ω3 => OnB z Ω3 fun t Ω3 => if t = true then EX X W R c ρ Ω3 (fun w Ω4 => OpX X (compareOp op') y w Ω4 fun z Ω5 => OnB z Ω5 P) else P false Ω3)
    (hm : lastMarks [op, op'] [b, c] = false := by with_unfolding_all rfl) : TX X W R (.Compare a [op, op'] [b, c] pos) ρ Ω P := fun σ G H s k Q' q' => by
  refine ofT (pt_chain (tb := cE X b) (tc := cE X c) hcO hcO pcE pcE pcE hm) (h σ G H s k _ fun v G1 H1 it Ω1 h1 e1 s1 r1 => h1 σ G1 H1 s1 (k.mono e1) _ fun v2 G2 H2 it2 Ω2 h2 e2 s2 r2 =>
    h2 G2 H2 s2.bare v v2 (Rep.same e2 r1) r2 _ fun v3 G3 H3 it3 Ω3 q3 e3 s3 r3 => ?_)
  obtain ⟨t, rfl, q3⟩ := q3
  refine ⟨t, rep_bool r3, ?_⟩
  cases t with
  | true =>
    rw [if_pos rfl] at q3 ⊢
    exact q3 σ G3 H3 (s2.with e3 s3) (k.mono (e1.trans (e2.trans e3))) _ fun v4 G4 H4 it4 Ω4 h4 e4 s4 r4 =>
      h4 G4 H4 s4.bare v2 v4 (Rep.same (e3.trans e4) r2) r4 _ fun v5 G5 H5 it5 Ω5 q5 e5 s5 r5 => by
        obtain ⟨t, rfl, q5⟩ := q5
        exact ⟨t, rep_bool r5, q' t G5 H5 Ω5 q5 (e1.trans (e2.trans (e3.trans (e4.trans e5)))) (s4.with e5 s5)⟩
  | false =>
    rw [if_neg Bool.false_ne_true] at q3 ⊢
    exact ⟨false, rfl, q' false G3 H3 Ω3 q3 (e1.trans (e2.trans e3)) (s2.with e3 s3)⟩
theorem tx_not (h : TX X W R a ρ Ω fun t Ω1 => P (!t) Ω1) : TX X W R (.UnaryOp .Not a pos) ρ Ω P := fun σ G H s k Q' q' => ofT (pt_not (tA := cT X a) pcT) (h σ G H s k _ fun t G1 H1 Ω1 h1 e1 s1 => q' (!t) G1 H1 Ω1 h1 e1 s1)
theorem tx_W (h : WT X W R e ρ Ω P) : TX X W R e ρ Ω P := fun σ G H s k Q' q' => ofT (PW.pt pcW) (h σ G H s k _ q')
theorem wt_and1 (h : TX X W R a ρ Ω P) : WT X W R (.BoolOp .And [a] pos) ρ Ω P := fun σ G H s k Q' q' => ofW (pw_and1 pcT) (h σ G H s k _ q')
theorem wt_or1 (h : TX X W R a ρ Ω P) : WT X W R (.BoolOp .Or [a] pos) ρ Ω P := fun σ G H s k Q' q' => ofW (pw_or1 pcT) (h σ G H s k _ q')
theorem wt_and {rest : List Expr} (h : TX X W R a ρ Ω fun t Ω1 => if t = true then WT X W R (.BoolOp .And (b :: rest) pos) ρ Ω1 P else P false Ω1) : WT X W R (.BoolOp .And (a :: b :: rest) pos) ρ Ω P := fun σ G H s k Q' q' => by
  refine ofW (pw_and (tA := cT X a) (tB' := cW X (.BoolOp .And (b :: rest) pos)) pcT pcW) (h σ G H s k _ fun t G1 H1 Ω1 h1 e1 s1 => ?_)
  cases t with
  | true =>
    rw [if_pos rfl] at h1 ⊢
    exact h1 σ G1 H1 s1 (k.mono e1) _ fun b2 G2 H2 Ω2 q2 e2 s2 => q' b2 G2 H2 Ω2 q2 (e1.trans e2) s2
  | false =>
    rw [if_neg Bool.false_ne_true] at h1 ⊢
    exact q' _ G1 H1 Ω1 h1 e1 s1
theorem wt_or {rest : List Expr} (h : TX X W R a ρ Ω fun t Ω1 => if t = true then P true Ω1 else WT X W R (.BoolOp .Or (b :: rest) pos) ρ Ω1 P) : WT X W R (.BoolOp .Or (a :: b :: rest) pos) ρ Ω P := fun σ G H s k Q' q' => by
  refine ofW (pw_or (tA := cT X a) (tB' := cW X (.BoolOp .Or (b :: rest) pos)) pcT pcW) (h σ G H s k _ fun t G1 H1 Ω1 h1 e1 s1 => ?_)
  cases t with
  | false =>
    rw [if_neg Bool.false_ne_true] at h1 ⊢
    exact h1 σ G1 H1 s1 (k.mono e1) _ fun b2 G2 H2 Ω2 q2 e2 s2 => q' b2 G2 H2 Ω2 q2 (e1.trans e2) s2
  | true =>
    rw [if_pos rfl] at h1 ⊢
    exact q' _ G1 H1 Ω1 h1 e1 s1

/-! ### lists of expressions -/
variable {es : List Expr} {QA : List It → Om → Prop}
theorem ax_nil (q : QA [] Ω) : AX X W R [] ρ Ω QA := fun σ G H s k Q' q' => ofA pa_nil (q' [] G H [] Ω q (Same.refl _) s .nil)
theorem ax_cons (h : EX X W R e ρ Ω fun x Ω1 => AX X W R es ρ Ω1 fun xs Ω2 => QA (x :: xs) Ω2) (hs : starEach (e :: es) X.env = (false, eval e X.env) :: starEach es X.env := by rfl) : AX X W R (e :: es) ρ Ω QA := fun σ G H s k Q' q' =>
  ofA (pa_cons (te := cE X e) (t := cA X es) pcE pcA hs) (h σ G H s k _ fun v G1 H1 it Ω1 h1 e1 s1 r1 => h1 σ G1 H1 s1 (k.mono e1) _ fun vs G2 H2 its Ω2 h2 e2 s2 r2 =>
    q' (v :: vs) G2 H2 (it :: its) Ω2 h2 (e1.trans e2) s2 (.cons (Rep.same e2 r1) r2))
/-- all of them data -/
def dsOf : List It → Option (List PyData)
  | [] => some []
  | .d x :: r => (dsOf r).map (x :: ·)
  | .v _ :: _ => none
  | .s _ :: _ => none
theorem dsOf_eq : ∀ {its : List It} {ds : List PyData}, dsOf its = some ds → its = ds.map .d
  | [], ds, h => by cases h; rfl
  | .d x :: r, ds, h => by
    unfold dsOf at h
    cases e : dsOf r with
    | none => rw [e] at h; cases h
    | some ds' =>
      rw [e] at h
      cases h
      rw [dsOf_eq e]
      rfl
  | .v _ :: _, ds, h => by cases h
  | .s _ :: _, ds, h => by cases h
/-- [a, b, ..], ours | data; (a, b, ..) data -/
theorem ex_lst (h : AX X W R es ρ Ω fun xs Ω1 => xs.length ≤ sizeLine ∧ ∀ l, (∀ p ∈ Ω1, p.1 ≠ l) → Q (.v (.ref l)) ((l, .lst xs) :: Ω1)) : EX X W R (.List es pos) ρ Ω Q := fun σ G H s k Q' q' => by
  refine ofE (pe_lst (t := cA X es) pcA) (h σ G H s k _ fun vs G1 H1 its Ω1 h1 e1 s1 r1 => ?_)
  refine ⟨by rw [r1.length]; exact h1.1, fun p hp => ?_⟩
  exact q' _ G1 _ _ _ (h1.2 p (s1.fresh hp)) e1 (s1.newO hp ⟨vs, upd_same, r1⟩) rfl
theorem ex_lstD (h : AX X W R es ρ Ω fun xs Ω1 => xs.length ≤ sizeLine ∧ ∃ ds, dsOf xs = some ds ∧ Q (.d (.list ds)) Ω1) : EX X W R (.List es pos) ρ Ω Q := fun σ G H s k Q' q' => by
  refine ofE (pe_lst (t := cA X es) pcA) (h σ G H s k _ fun vs G1 H1 its Ω1 h1 e1 s1 r1 => ?_)
  obtain ⟨hl, ds, hd, q⟩ := h1
  refine ⟨by rw [r1.length]; exact hl, fun p hp => ?_⟩
  obtain ⟨s2, e2⟩ := s1.lay (o := .lst vs) hp
  rw [dsOf_eq hd] at r1
  exact q' _ _ _ _ _ q (e1.trans e2) s2 (.lst upd_same (ddAll_of (Reps.same e2 r1)))
theorem ex_tup {x1} (h : AX X W R es ρ Ω fun xs Ω1 => xs.length ≤ sizeLine ∧ ∃ ds, dsOf xs = some ds ∧ Q (.d (.tuple ds)) Ω1) : EX X W R (.Tuple es x1 pos) ρ Ω Q := fun σ G H s k Q' q' => by
  refine ofE (pe_tup (t := cA X es) pcA) (h σ G H s k _ fun vs G1 H1 its Ω1 h1 e1 s1 r1 => ?_)
  obtain ⟨hl, ds, hd, q⟩ := h1
  refine ⟨by rw [r1.length]; exact hl, fun p hp => ?_⟩
  obtain ⟨s2, e2⟩ := s1.lay (o := .tup vs) hp
  rw [dsOf_eq hd] at r1
  exact q' _ _ _ _ _ q (e1.trans e2) s2 (.tup upd_same (ddAll_of (Reps.same e2 r1)))

/-! ### calls of built-ins -/
theorem ex_blt (id : String) {x : Str} {p : Pos} (hm : X.mg x = none) (h : AX X W R (e :: es) ρ Ω fun xs Ω1 => CallX X (.builtin id) xs Ω1 Q) (hg : Gl X x := by rfl) (hv : bootBuiltins x = some (.builtin id) := by decide +kernel) (hn : x ≠ "__name__" := by decide) (hdb : (x == ("__debug__" : Str)) = false := by decide)
    (he : starEach (e :: es) X.env = (false, eval e X.env) :: starEach es X.env := by rfl) (hpl : (backTo pos (starEach es X.env)).any (·.1) = false := by rfl) : EX X W R (.Call (.Name x p) (e :: es) [] pos) ρ Ω Q := fun σ G H s k Q' q' =>
  ofE (pe_callB (t := cA X (e :: es)) hcC hg hm hv pcA hn hdb he hpl) (h σ G H s k _ fun vs G1 H1 its Ω1 h1 e1 s1 r1 => h1 G1 H1 s1.bare vs r1 _ fun v3 G3 H3 it3 Ω3 q3 e3 s3 r3 => q' v3 G3 H3 it3 Ω3 q3 (e1.trans e3) (s1.with e3 s3) r3)
theorem ex_bty (T : String) {x : Str} {p : Pos} (hm : X.mg x = none) (h : AX X W R (e :: es) ρ Ω fun xs Ω1 => CallX X (.type T) xs Ω1 Q) (hg : Gl X x := by rfl) (hv : bootBuiltins x = some (.type T) := by decide +kernel) (hn : x ≠ "__name__" := by decide) (hdb : (x == ("__debug__" : Str)) = false := by decide)
    (he : starEach (e :: es) X.env = (false, eval e X.env) :: starEach es X.env := by rfl) (hpl : (backTo pos (starEach es X.env)).any (·.1) = false := by rfl) : EX X W R (.Call (.Name x p) (e :: es) [] pos) ρ Ω Q := fun σ G H s k Q' q' =>
  ofE (pe_callTy (t := cA X (e :: es)) hcC hg hm hv pcA hn hdb he hpl) (h σ G H s k _ fun vs G1 H1 its Ω1 h1 e1 s1 r1 => h1 G1 H1 s1.bare vs r1 _ fun v3 G3 H3 it3 Ω3 q3 e3 s3 r3 => q' v3 G3 H3 it3 Ω3 q3 (e1.trans e3) (s1.with e3 s3) r3)
/-- subscripts, slices -/
theorem ex_ix (h : EX X W R a ρ Ω fun x Ω1 => EX X W R b ρ Ω1 fun y Ω2 => IxX X x y Ω2 Q) (hs : PlainIx b := by exact fun _ _ => rfl) : EX X W R (.Subscript a b pos) ρ Ω Q := fun σ G H s k Q' q' =>
  ofE (pe_ix hcI pcE pcE hs) (h σ G H s k _ fun v G1 H1 it Ω1 h1 e1 s1 r1 => h1 σ G1 H1 s1 (k.mono e1) _ fun v2 G2 H2 it2 Ω2 h2 e2 s2 r2 =>
    h2 G2 H2 s2.bare v v2 (Rep.same e2 r1) r2 _ fun v3 G3 H3 it3 Ω3 q3 e3 s3 r3 => q' v3 G3 H3 it3 Ω3 q3 (e1.trans (e2.trans e3)) (s2.with e3 s3) r3)
/-- methods of built-in types; Ty: how the receiver is known to be one -/
def RcvX (K : PySem.W.Frag) (T : String) (x : It) (Ω : Om) : Prop := ∀ G H, ST K [] [] G Ω H → ∀ v, Rep K G v x → tyV K T v H
theorem ex_met {o : Expr} {name : Str} {apos : Pos} {T id : String} (pa : PlainAttrs T) (slot : Slot T name id) (hty : typeOf (.builtin id) = pure (.type "method_descriptor"))
    (h : EX X W R o ρ Ω fun x Ω1 => RcvX X.K T x Ω1 ∧ AX X W R (e :: es) ρ Ω1 fun xs Ω2 => MetX X id x xs Ω2 Q)
    (hbase : attributeBase o name X.env (eval o X.env) = eval o X.env := by rfl)
    (hfew : ((backTo pos (starEach (e :: es) X.env)).all (fun x => !x.1) && (backToKw pos (keywordEach [] X.env)).all (fun x => x.1.isSome)
      && decide ((e :: es).length + ([] : List Keyword).length + (if ([] : List Keyword).isEmpty then 0 else 1) < 30)) = true := by rfl)
    (hline : (apos.endLine == pos.line) = true := by rfl) (hs : starEach (e :: es) X.env = (false, eval e X.env) :: starEach es X.env := by rfl) (hplain : (backTo pos (starEach es X.env)).any (·.1) = false := by rfl) :
    EX X W R (.Call (.Attribute o name apos) (e :: es) [] pos) ρ Ω Q := fun σ G H s k Q' q' =>
  ofE (pe_bm (t := cA X (e :: es)) pa slot hty hcM pcE pcA hbase hfew hline hs hplain) (h σ G H s k _ fun v G1 H1 it Ω1 h1 e1 s1 r1 => ⟨h1.1 G1 H1 s1.bare v r1, h1.2 σ G1 H1 s1 (k.mono e1) _ fun vs G2 H2 its Ω2 h2 e2 s2 r2 =>
    h2 G2 H2 s2.bare v vs (Rep.same e2 r1) r2 _ fun v3 G3 H3 it3 Ω3 q3 e3 s3 r3 => q' v3 G3 H3 it3 Ω3 q3 (e1.trans (e2.trans e3)) (s2.with e3 s3) r3⟩)
theorem ex_met0 {o : Expr} {name : Str} {apos : Pos} {T id : String} (pa : PlainAttrs T) (slot : Slot T name id) (hty : typeOf (.builtin id) = pure (.type "method_descriptor"))
    (h : EX X W R o ρ Ω fun x Ω1 => RcvX X.K T x Ω1 ∧ MetX X id x [] Ω1 Q) (hbase : attributeBase o name X.env (eval o X.env) = eval o X.env := by rfl) (hline : (apos.endLine == pos.line) = true := by rfl) :
    EX X W R (.Call (.Attribute o name apos) [] [] pos) ρ Ω Q := fun σ G H s k Q' q' =>
  ofE (pe_bm0 pa slot hty hcM pcE hbase hline) (h σ G H s k _ fun v G1 H1 it Ω1 h1 e1 s1 r1 => ⟨h1.1 G1 H1 s1.bare v r1,
    h1.2 G1 H1 s1.bare v [] r1 .nil _ fun v3 G3 H3 it3 Ω3 q3 e3 s3 r3 => q' v3 G3 H3 it3 Ω3 q3 (e1.trans e3) (s1.with e3 s3) r3⟩)
theorem tyx_list {K : PySem.W.Frag} {a : Addr} {xs : List It} {up : OO → Om} (h : At Ω a (.lst xs) up) : RcvX K "list" (.v (.ref a)) Ω := fun G H s v r => by
  have r' : v = .ref a := r
  subst r'
  obtain ⟨vs, e, _⟩ := (s.at h).1
  exact .inl ⟨rfl, vs, .inl (.inl e)⟩
theorem tyx_listD {K : PySem.W.Frag} {ds : List PyData} : RcvX K "list" (.d (.list ds)) Ω := fun G H s v r => by
  have r' : Dd G v (.list ds) := r
  cases r' with
  | lst hs ha => exact .inl ⟨rfl, _, .inl (.inl (s.sub _ _ hs))⟩
end
end DL

set_option Elab.async false
set_option linter.all false
set_option maxRecDepth 100000
set_option maxHeartbeats 2000000
/-! DLc: operations over data. -/
namespace DL
open PySem PySem.Spec PyProof.Rows L2

/-! ### data back to values -/
theorem ddAll_ints {G : Hp} : ∀ {ns : List Int} {vs : List V}, DdAll G vs (ns.map PyData.int) → vs = ns.map V.int
  | [], vs, h => by cases h; rfl
  | n :: ns, vs, h => by
    rw [List.map_cons] at h
    cases h with
    | cons h1 h2 => cases h1; rw [ddAll_ints h2]; rfl
theorem ddAll_bools {G : Hp} : ∀ {ns : List Bool} {vs : List V}, DdAll G vs (ns.map PyData.bool) → vs = ns.map V.bl
  | [], vs, h => by cases h; rfl
  | n :: ns, vs, h => by
    rw [List.map_cons] at h
    cases h with
    | cons h1 h2 => cases h1; rw [ddAll_bools h2]; rfl
theorem ints_ddAll {G : Hp} : ∀ {ns : List Int}, DdAll G (ns.map V.int) (ns.map PyData.int)
  | [] => .nil
  | n :: ns => .cons (.int n) ints_ddAll
theorem DdAll.len {G : Hp} : ∀ {vs : List V} {ds : List PyData}, DdAll G vs ds → vs.length = ds.length
  | _, _, .nil => rfl
  | _, _, .cons _ t => by rw [List.length_cons, List.length_cons, t.len]
theorem DdAll.get {G : Hp} : ∀ {vs : List V} {ds : List PyData} {i : Nat} {d : PyData}, DdAll G vs ds → ds[i]? = some d → ∃ v, vs[i]? = some v ∧ Dd G v d
  | _, _, _, _, .nil, h => by simp at h
  | _, _, 0, _, .cons h _, e => by simp at e; subst e; exact ⟨_, rfl, h⟩
  | _, _, i + 1, _, .cons _ t, e => by simpa using t.get (i := i) (by simpa using e)
theorem DdAll.app {G : Hp} : ∀ {vs ws : List V} {ds es : List PyData}, DdAll G vs ds → DdAll G ws es → DdAll G (vs ++ ws) (ds ++ es)
  | _, _, _, _, .nil, h => h
  | _, _, _, _, .cons a t, h => .cons a (t.app h)
theorem DdAll.take {G : Hp} : ∀ {vs : List V} {ds : List PyData} (n : Nat), DdAll G vs ds → DdAll G (vs.take n) (ds.take n)
  | _, _, 0, _ => .nil
  | _, _, n + 1, .nil => .nil
  | _, _, n + 1, .cons a t => .cons a (t.take n)
theorem DdAll.drop {G : Hp} : ∀ {vs : List V} {ds : List PyData} (n : Nat), DdAll G vs ds → DdAll G (vs.drop n) (ds.drop n)
  | _, _, 0, h => h
  | _, _, n + 1, .nil => .nil
  | _, _, n + 1, .cons a t => t.drop n
theorem DdAll.nil_iff {G : Hp} {vs : List V} {ds : List PyData} (h : DdAll G vs ds) : vs = [] ↔ ds = [] := by
  cases h <;> simp
theorem dd_seqL {K : PySem.W.Frag} {σ : L2.St} {ρ : Ro} {G H : Hp} {Ω : Om} {it : It} {ds : List PyData} {v : V} (w : Vw Ω it (.list ds)) (s : ST K σ ρ G Ω H) (r : Rep K G v it) : ∃ a vs, v = .ref a ∧ H a = some (.lst vs) ∧ DdAll G vs ds := by
  cases w with
  | dat =>
    have r' : Dd G v (.list ds) := r
    cases r' with
    | lst h1 h2 => exact ⟨_, _, rfl, s.sub _ _ h1, h2⟩
  | own h =>
    obtain ⟨vs, e, rs⟩ := (s.at h).1
    exact ⟨_, vs, r, e, ddAll_of rs⟩
theorem dd_seqT {K : PySem.W.Frag} {σ : L2.St} {ρ : Ro} {G H : Hp} {Ω : Om} {ds : List PyData} {v : V} (s : ST K σ ρ G Ω H) (r : Rep K G v (.d (.tuple ds))) : ∃ a vs, v = .ref a ∧ H a = some (.tup vs) ∧ DdAll G vs ds := by
  have r' : Dd G v (.tuple ds) := r
  cases r' with
  | tup h1 h2 => exact ⟨_, _, rfl, s.sub _ _ h1, h2⟩

section
variable {X : Cx} {Ω : Om} {Q : It → Om → Prop} {x y : It}

/-! ### ints -/
theorem opx_I {f : Value → Value → Sem Value} {C : Int → Int → Prop} {g : Int → Int → V} {z : PyData} {i j : Int} (o : OpR X f (rI C g)) (hz : ∀ G, Dd G (g i j) z) (hc : C i j) (q : Q (.d z) Ω) : OpX X f (.d (.int i)) (.d (.int j)) Ω Q := fun G H s vx vy rx ry Q' q' => by
  rw [rep_int rx, rep_int ry]
  exact toO o ⟨i, j, rfl, rfl, hc, q' _ G H _ Ω q (Same.refl _) s (hz G)⟩
theorem opx_I0 {f : Value → Value → Sem Value} {g : Int → Int → V} {z : PyData} {i j : Int} (o : OpR X f (rI0 g)) (hz : ∀ G, Dd G (g i j) z) (q : Q (.d z) Ω) : OpX X f (.d (.int i)) (.d (.int j)) Ω Q := fun G H s vx vy rx ry Q' q' => by
  rw [rep_int rx, rep_int ry]
  exact toO o ⟨i, j, rfl, rfl, q' _ G H _ Ω q (Same.refl _) s (hz G)⟩
variable {i j : Int}
theorem opx_add (q : Q (.d (.int (i + j))) Ω) : OpX X (binaryOp .Add) (.d (.int i)) (.d (.int j)) Ω Q := opx_I0 op_add (fun _ => .int _) q
theorem opx_sub (q : Q (.d (.int (i - j))) Ω) : OpX X (binaryOp .Sub) (.d (.int i)) (.d (.int j)) Ω Q := opx_I0 op_sub (fun _ => .int _) q
theorem opx_mul (hc : i.natAbs.log2 + j.natAbs.log2 < 1000000) (q : Q (.d (.int (i * j))) Ω) : OpX X (binaryOp .Mult) (.d (.int i)) (.d (.int j)) Ω Q := opx_I op_mulW (fun _ => .int _) hc q
theorem opx_div (h0 : 0 < j) (hc : j.natAbs.log2 < 9000) (q : Q (.d (.int (i / j))) Ω) : OpX X (binaryOp .FloorDiv) (.d (.int i)) (.d (.int j)) Ω Q := opx_I op_fdivW (fun _ => .int _) ⟨h0, hc⟩ q
theorem opx_mod (h0 : 0 < j) (q : Q (.d (.int (i % j))) Ω) : OpX X (binaryOp .Mod) (.d (.int i)) (.d (.int j)) Ω Q := opx_I op_mod (fun _ => .int _) h0 q
theorem opx_pow (h0 : 0 ≤ j ∧ j ≤ 1000000 ∧ i.natAbs < 2 ^ 64) (q : Q (.d (.int (i ^ j.toNat))) Ω) : OpX X (binaryOp .Pow) (.d (.int i)) (.d (.int j)) Ω Q := opx_I op_pow (fun _ => .int _) h0 q
theorem opx_lt (q : Q (.d (.bool (decide (i < j)))) Ω) : OpX X (compareOp .Lt) (.d (.int i)) (.d (.int j)) Ω Q := opx_I0 op_lt (fun _ => .bl _) q
theorem opx_le (q : Q (.d (.bool (decide (i ≤ j)))) Ω) : OpX X (compareOp .LtE) (.d (.int i)) (.d (.int j)) Ω Q := opx_I0 op_le (fun _ => .bl _) q
theorem opx_gt (q : Q (.d (.bool (decide (j < i)))) Ω) : OpX X (compareOp .Gt) (.d (.int i)) (.d (.int j)) Ω Q := opx_I0 op_gt (fun _ => .bl _) q
theorem opx_ge (q : Q (.d (.bool (decide (j ≤ i)))) Ω) : OpX X (compareOp .GtE) (.d (.int i)) (.d (.int j)) Ω Q := opx_I0 op_ge (fun _ => .bl _) q
theorem dec_vint (i j : Int) : decide (V.int i = V.int j) = decide (i = j) := by
  by_cases h : i = j
  · subst h; simp
  · rw [decide_eq_false h, decide_eq_false (fun z => h (V.int.inj z))]
theorem dec_vstr (i j : Str) : decide (V.str i = V.str j) = decide (i = j) := by
  by_cases h : i = j
  · subst h; simp
  · rw [decide_eq_false h, decide_eq_false (fun z => h (V.str.inj z))]
theorem opx_eq (q : Q (.d (.bool (decide (i = j)))) Ω) : OpX X (compareOp .Eq) (.d (.int i)) (.d (.int j)) Ω Q := fun G H s vx vy rx ry Q' q' => by
  rw [rep_int rx, rep_int ry]
  exact toO op_eq ⟨rfl, q' _ G H _ Ω q (Same.refl _) s (by rw [dec_vint]; exact .bl _)⟩
theorem opx_ne (q : Q (.d (.bool (!decide (i = j)))) Ω) : OpX X (compareOp .NotEq) (.d (.int i)) (.d (.int j)) Ω Q := fun G H s vx vy rx ry Q' q' => by
  rw [rep_int rx, rep_int ry]
  exact toO op_ne ⟨rfl, q' _ G H _ Ω q (Same.refl _) s (by rw [dec_vint]; exact .bl _)⟩
theorem opx_eqS {i j : Str} (q : Q (.d (.bool (decide (i = j)))) Ω) : OpX X (compareOp .Eq) (.d (.str i)) (.d (.str j)) Ω Q := fun G H s vx vy rx ry Q' q' => by
  rw [rep_str rx, rep_str ry]
  exact toO op_eq ⟨rfl, q' _ G H _ Ω q (Same.refl _) s (by rw [dec_vstr]; exact .bl _)⟩
theorem opx_neS {i j : Str} (q : Q (.d (.bool (!decide (i = j)))) Ω) : OpX X (compareOp .NotEq) (.d (.str i)) (.d (.str j)) Ω Q := fun G H s vx vy rx ry Q' q' => by
  rw [rep_str rx, rep_str ry]
  exact toO op_ne ⟨rfl, q' _ G H _ Ω q (Same.refl _) s (by rw [dec_vstr]; exact .bl _)⟩
/-- is None -/
def isNoneD : It → Bool
  | .d .none => true
  | .d _ => false
  | .v .non => true
  | .v _ => false
  | .s _ => false
theorem isNone_ok {K : PySem.W.Frag} {G : Hp} {v : V} {x : It} (r : Rep K G v x) : decide (v = .non) = isNoneD x := by
  cases x with
  | d x =>
    have r' : Dd G v x := r
    cases r' <;> rfl
  | v x =>
    have r' : v = x := r
    subst r'
    cases v <;> rfl
  | s ns =>
    obtain ⟨a, rfl, _⟩ := r
    rfl
theorem opx_isN (q : Q (.d (.bool (isNoneD x))) Ω) : OpX X (compareOp .Is) x (.d .none) Ω Q := fun G H s vx vy rx ry Q' q' => by
  rw [rep_none ry]
  exact toO op_isN ⟨rfl, q' _ G H _ Ω q (Same.refl _) s (by rw [isNone_ok rx]; exact .bl _)⟩
theorem opx_notN (q : Q (.d (.bool (!isNoneD x))) Ω) : OpX X (compareOp .IsNot) x (.d .none) Ω Q := fun G H s vx vy rx ry Q' q' => by
  rw [rep_none ry]
  exact toO op_notN ⟨rfl, q' _ G H _ Ω q (Same.refl _) s (by rw [isNone_ok rx]; exact .bl _)⟩
theorem unx_neg (q : Q (.d (.int (-i))) Ω) : UnX X (unaryOp .USub) (.d (.int i)) Ω Q := fun G H s vx rx Q' q' => by
  rw [rep_int rx]
  exact toU un_neg ⟨i, rfl, q' _ G H _ Ω q (Same.refl _) s (.int _)⟩

/-! ### == of data -/
theorem opx_eqD {d e : PyData} (hu : X.A.units + 64 < cLine) (w1 : Vw Ω x d) (w2 : Vw Ω y e) (h1 : SeqAt.shaped d = true) (h2 : SeqAt.shaped e = true) (q : Q (.d (.bool (PyData.eqv d e))) Ω) : OpX X (compareOp .Eq) x y Ω Q := fun G H s vx vy rx ry Q' q' =>
  toO (op_eqD hu) ⟨d, e, w1.dp s rx, w2.dp s ry, h1, h2, q' _ G H _ Ω q (Same.refl _) s (.bl _)⟩
theorem opx_neD {d e : PyData} (hu : X.A.units + 64 < cLine) (w1 : Vw Ω x d) (w2 : Vw Ω y e) (h1 : SeqAt.shaped d = true) (h2 : SeqAt.shaped e = true) (q : Q (.d (.bool (!PyData.eqv d e))) Ω) : OpX X (compareOp .NotEq) x y Ω Q := fun G H s vx vy rx ry Q' q' =>
  toO (op_neD hu) ⟨d, e, w1.dp s rx, w2.dp s ry, h1, h2, q' _ G H _ Ω q (Same.refl _) s (.bl _)⟩
theorem opx_inD {d : PyData} {ds : List PyData} (hu : X.A.units + 65 < cLine) (w1 : Vw Ω x d) (w2 : Vw Ω y (.list ds)) (h1 : SeqAt.shaped d = true) (h2 : SeqAt.shaped (.list ds) = true) (q : Q (.d (.bool (ds.any fun z => PyData.eqv z d))) Ω) : OpX X (compareOp .In) x y Ω Q := fun G H s vx vy rx ry Q' q' =>
  toO (op_inD hu) ⟨d, ds, w1.dp s rx, w2.dp s ry, h1, h2, q' _ G H _ Ω q (Same.refl _) s (.bl _)⟩
theorem opx_notInD {d : PyData} {ds : List PyData} (hu : X.A.units + 65 < cLine) (w1 : Vw Ω x d) (w2 : Vw Ω y (.list ds)) (h1 : SeqAt.shaped d = true) (h2 : SeqAt.shaped (.list ds) = true) (q : Q (.d (.bool (!ds.any fun z => PyData.eqv z d))) Ω) : OpX X (compareOp .NotIn) x y Ω Q := fun G H s vx vy rx ry Q' q' =>
  toO (op_notInD hu) ⟨d, ds, w1.dp s rx, w2.dp s ry, h1, h2, q' _ G H _ Ω q (Same.refl _) s (.bl _)⟩
/-- an int in a list or tuple of ints -/
inductive SeqI (Ω : Om) (y : It) (ns : List Int) : Prop where
  | lst (h : Vw Ω y (.list (ns.map .int)))
  | tup (h : y = .d (.tuple (ns.map .int)))
theorem inV_ints (i : Int) : ∀ ns : List Int, inV (V.int i) (ns.map V.int) = decide (i ∈ ns)
  | [] => rfl
  | n :: ns => by
    have ih := inV_ints i ns
    show (eqV (V.int n) (V.int i) || inV (V.int i) (ns.map V.int)) = decide (i ∈ n :: ns)
    rw [ih]
    by_cases h : n = i
    · subst h
      simp [eqV]
    · have h' : ¬ i = n := fun z => h z.symm
      simp [eqV, h, h']
theorem flat_ints : ∀ ns : List Int, (ns.map V.int).all flatV = true
  | [] => rfl
  | n :: ns => by
    rw [List.map_cons, List.all_cons, flat_ints ns]
    rfl
theorem SeqI.sq {K : PySem.W.Frag} {σ : L2.St} {ρ : Ro} {G H : Hp} {ns : List Int} {v : V} (w : SeqI Ω y ns) (s : ST K σ ρ G Ω H) (r : Rep K G v y) : ∃ a, v = .ref a ∧ (SqL K H a (ns.map V.int) ∨ SqT K H a (ns.map V.int)) := by
  cases w with
  | lst h =>
    obtain ⟨a, vs, e, h1, h2⟩ := dd_seqL h s r
    rw [ddAll_ints h2] at h1
    exact ⟨a, e, .inl (.inl (.inl h1))⟩
  | tup h =>
    subst h
    obtain ⟨a, vs, e, h1, h2⟩ := dd_seqT s r
    rw [ddAll_ints h2] at h1
    exact ⟨a, e, .inr (.inl (.inl h1))⟩
theorem opx_in {ns : List Int} (w : SeqI Ω y ns) (q : Q (.d (.bool (decide (i ∈ ns)))) Ω) : OpX X (compareOp .In) (.d (.int i)) y Ω Q := fun G H s vx vy rx ry Q' q' => by
  rw [rep_int rx]
  obtain ⟨a, rfl, h⟩ := w.sq s ry
  refine toO op_in_seq ⟨a, _, rfl, h, rfl, flat_ints ns, ?_⟩
  refine q' _ G H _ Ω q (Same.refl _) s ?_
  rw [if_neg Bool.false_ne_true, inV_ints]
  exact .bl _
theorem opx_notIn {ns : List Int} (w : SeqI Ω y ns) (q : Q (.d (.bool (!decide (i ∈ ns)))) Ω) : OpX X (compareOp .NotIn) (.d (.int i)) y Ω Q := fun G H s vx vy rx ry Q' q' => by
  rw [rep_int rx]
  obtain ⟨a, rfl, h⟩ := w.sq s ry
  refine toO op_notIn_seq ⟨a, _, rfl, h, rfl, flat_ints ns, ?_⟩
  refine q' _ G H _ Ω q (Same.refl _) s ?_
  rw [if_pos rfl, inV_ints]
  exact .bl _

/-! ### list + list, tuple + tuple, [..] * n -/
theorem opx_catL {ds es : List PyData} (w1 : Vw Ω x (.list ds)) (w2 : Vw Ω y (.list es)) (hz : ds.length + es.length ≤ sizeLine) (q : ∀ l, (∀ p ∈ Ω, p.1 ≠ l) → Q (.v (.ref l)) ((l, .lst ((ds ++ es).map .d)) :: Ω)) : OpX X (binaryOp .Add) x y Ω Q := fun G H s vx vy rx ry Q' q' => by
  obtain ⟨a, vs, rfl, h1, h2⟩ := dd_seqL w1 s rx
  obtain ⟨b, ws, rfl, h3, h4⟩ := dd_seqL w2 s ry
  refine toO op_cat ⟨a, b, vs, ws, rfl, rfl, h1, h3, by rw [h2.len, h4.len]; exact hz, fun p hp => ?_⟩
  exact q' _ G _ _ _ (q p (s.fresh hp)) (Same.refl _) (s.newO hp ⟨_, upd_same, ddAll_paired (h2.app h4)⟩) rfl
theorem opx_catLD {ds es : List PyData} (w1 : Vw Ω x (.list ds)) (w2 : Vw Ω y (.list es)) (hz : ds.length + es.length ≤ sizeLine) (q : Q (.d (.list (ds ++ es))) Ω) : OpX X (binaryOp .Add) x y Ω Q := fun G H s vx vy rx ry Q' q' => by
  obtain ⟨a, vs, rfl, h1, h2⟩ := dd_seqL w1 s rx
  obtain ⟨b, ws, rfl, h3, h4⟩ := dd_seqL w2 s ry
  refine toO op_cat ⟨a, b, vs, ws, rfl, rfl, h1, h3, by rw [h2.len, h4.len]; exact hz, fun p hp => ?_⟩
  obtain ⟨s2, e2⟩ := s.lay (o := .lst (vs ++ ws)) hp
  exact q' _ _ _ _ _ q e2 s2 (.lst upd_same (Dd.sameAll e2 _ _ (h2.app h4)))
theorem opx_catT {ds es : List PyData} (hz : ds.length + es.length ≤ sizeLine) (q : Q (.d (.tuple (ds ++ es))) Ω) : OpX X (binaryOp .Add) (.d (.tuple ds)) (.d (.tuple es)) Ω Q := fun G H s vx vy rx ry Q' q' => by
  obtain ⟨a, vs, rfl, h1, h2⟩ := dd_seqT s rx
  obtain ⟨b, ws, rfl, h3, h4⟩ := dd_seqT s ry
  refine toO op_catA ⟨a, b, vs, ws, rfl, rfl, .inl (.inl h1), .inl (.inl h3), by rw [h2.len, h4.len]; exact hz, fun e => ?_, fun e1 e2 => ?_, fun e1 e2 p hp => ?_⟩
  · rw [h2.nil_iff.mp e, List.nil_append] at q
    exact q' _ G H _ Ω q (Same.refl _) s ry
  · rw [h4.nil_iff.mp e2, List.append_nil] at q
    exact q' _ G H _ Ω q (Same.refl _) s rx
  · obtain ⟨s2, e2⟩ := s.lay (o := .tup (vs ++ ws)) hp
    exact q' _ _ _ _ _ q e2 s2 (.tup upd_same (Dd.sameAll e2 _ _ (h2.app h4)))
theorem opx_repL {ds : List PyData} (w1 : Vw Ω x (.list ds)) (h1 : -(2 ^ 63) ≤ i) (h2 : i < 2 ^ 63) (hz : ds.length * i.toNat ≤ sizeLine) (q : ∀ l, (∀ p ∈ Ω, p.1 ≠ l) → Q (.v (.ref l)) ((l, .lst ((List.replicate i.toNat ds).flatten.map .d)) :: Ω)) : OpX X (binaryOp .Mult) x (.d (.int i)) Ω Q := fun G H s vx vy rx ry Q' q' => by
  obtain ⟨a, vs, rfl, e1, e2⟩ := dd_seqL w1 s rx
  rw [rep_int ry]
  refine toO op_rep ⟨a, i, vs, rfl, rfl, e1, h1, h2, by rw [e2.len]; exact hz, fun p hp => ?_⟩
  have hf : ∀ n : Nat, DdAll G (List.replicate n vs).flatten (List.replicate n ds).flatten := fun n => by
    induction n with
    | zero => exact .nil
    | succ n ih =>
      rw [List.replicate_succ, List.replicate_succ, List.flatten_cons, List.flatten_cons]
      exact e2.app ih
  exact q' _ G _ _ _ (q p (s.fresh hp)) (Same.refl _) (s.newO hp ⟨_, upd_same, ddAll_paired (hf _)⟩) rfl
theorem opx_addS {i j : Str} (hz : i.length + j.length ≤ sizeLine) (q : Q (.d (.str (i ++ j))) Ω) : OpX X (binaryOp .Add) (.d (.str i)) (.d (.str j)) Ω Q := fun G H s vx vy rx ry Q' q' => by
  rw [rep_str rx, rep_str ry]
  exact toO op_add_str ⟨i, j, rfl, rfl, hz, q' _ G H _ Ω q (Same.refl _) s (.str _)⟩

/-! ### calls of built-ins -/
theorem reps1 {K : PySem.W.Frag} {G : Hp} {vs : List V} {x : It} (r : Reps K G vs [x]) : ∃ v, vs = [v] ∧ Rep K G v x := by
  cases r with
  | cons h t => cases t; exact ⟨_, rfl, h⟩
theorem reps2 {K : PySem.W.Frag} {G : Hp} {vs : List V} {x y : It} (r : Reps K G vs [x, y]) : ∃ v w, vs = [v, w] ∧ Rep K G v x ∧ Rep K G w y := by
  cases r with
  | cons h t =>
    obtain ⟨w, rfl, h2⟩ := reps1 t
    exact ⟨_, _, rfl, h, h2⟩
theorem callx_lenL {ds : List PyData} (w : Vw Ω x (.list ds)) (q : Q (.d (.int ds.length)) Ω) : CallX X (.builtin "len") [x] Ω Q := fun G H s vs rs Q' q' => by
  obtain ⟨v, rfl, r⟩ := reps1 rs
  obtain ⟨a, ws, rfl, h1, h2⟩ := dd_seqL w s r
  exact toC call_len_seq ⟨a, ws, rfl, .inl (.inl (.inl h1)), q' _ G H _ Ω q (Same.refl _) s (by rw [h2.len]; exact .int _)⟩
theorem callx_lenT {ds : List PyData} (q : Q (.d (.int ds.length)) Ω) : CallX X (.builtin "len") [.d (.tuple ds)] Ω Q := fun G H s vs rs Q' q' => by
  obtain ⟨v, rfl, r⟩ := reps1 rs
  obtain ⟨a, ws, rfl, h1, h2⟩ := dd_seqT s r
  exact toC call_len_seq ⟨a, ws, rfl, .inr (.inl (.inl h1)), q' _ G H _ Ω q (Same.refl _) s (by rw [h2.len]; exact .int _)⟩
theorem callx_lenS {ns : List Int} (q : Q (.d (.int ns.length)) Ω) : CallX X (.builtin "len") [.s ns] Ω Q := fun G H s vs rs Q' q' => by
  obtain ⟨v, rfl, a, rfl, h⟩ := reps1 rs
  exact toC call_len_seq ⟨a, _, rfl, .inl (sqL_same s.sub h), q' _ G H _ Ω q (Same.refl _) s (by rw [List.length_map]; exact .int _)⟩
theorem callx_lenStr {z : Str} (hz : z.length ≤ sizeLine) (q : Q (.d (.int z.length)) Ω) : CallX X (.builtin "len") [.d (.str z)] Ω Q := fun G H s vs rs Q' q' => by
  obtain ⟨v, rfl, r⟩ := reps1 rs
  rw [rep_str r]
  exact toC call_len_str ⟨z, rfl, hz, q' _ G H _ Ω q (Same.refl _) s (.int _)⟩
/-- len of a list whose items are of any kind -/
theorem callx_lenO {a : Addr} {xs : List It} {up : OO → Om} (w : At Ω a (.lst xs) up) (q : Q (.d (.int xs.length)) Ω) : CallX X (.builtin "len") [.v (.ref a)] Ω Q := fun G H s vs rs Q' q' => by
  obtain ⟨v, rfl, r⟩ := reps1 rs
  obtain rfl : v = .ref a := r
  obtain ⟨ws, h1, h2⟩ := (s.at w).1
  exact toC call_len_seq ⟨a, ws, rfl, .inl (.inl (.inl h1)), q' _ G H _ Ω q (Same.refl _) s (by rw [h2.length]; exact .int _)⟩
theorem callx_sumL {ns : List Int} (hc : X.calm = true) (w : Vw Ω x (.list (ns.map .int))) (q : Q (.d (.int ns.sum)) Ω) : CallX X (.builtin "sum") [x] Ω Q := fun G H s vs rs Q' q' => by
  obtain ⟨v, rfl, r⟩ := reps1 rs
  obtain ⟨a, ws, rfl, h1, h2⟩ := dd_seqL w s r
  rw [ddAll_ints h2] at h1
  exact toC (cr_sum hc) ⟨a, ns, rfl, .inl (.inl h1), q' _ G H _ Ω q (Same.refl _) s (.int _)⟩
def rSumT (K : PySem.W.Frag) : List V → Hp → VK → Prop := fun vs H Q => ∃ (a : Addr) (ns : List Int), vs = [V.ref a] ∧ SqT K H a (ns.map V.int) ∧ Q (.int ns.sum) H
theorem cr_sumT (hc : X.calm = true) : CallR X (.builtin "sum") (rSumT X.K) := by
  intro pins s σ H vs us Q I r h
  obtain ⟨a, ns, rfl, hs, q⟩ := h
  obtain ⟨its, rv, hl, _⟩ := I.tuple hs
  rw [Vals.ref1 r]
  have hi := rv.ints
  obtain ⟨xs, hx⟩ := hi.allInts.items
  have hn : numsOf its.toArray.toList = ns := by rw [show its.toArray.toList = its from rfl, hi.numsOf]
  rw [hx] at hl hn
  rw [nums_intItems] at hn
  refine PySem.W.ktm_sumG (I.ok.hd hc) hl fun h' tk t' hk => ?_
  rw [preSum_eq, List.take_of_length_le (by simp), hn]
  exact ⟨.int _, H, I.kept hk, ⟨_, rfl⟩, q⟩
theorem callx_sumT {ns : List Int} (hc : X.calm = true) (q : Q (.d (.int ns.sum)) Ω) : CallX X (.builtin "sum") [.d (.tuple (ns.map .int))] Ω Q := fun G H s vs rs Q' q' => by
  obtain ⟨v, rfl, r⟩ := reps1 rs
  obtain ⟨a, ws, rfl, h1, h2⟩ := dd_seqT s r
  rw [ddAll_ints h2] at h1
  exact toC (cr_sumT hc) ⟨a, ns, rfl, .inl (.inl h1), q' _ G H _ Ω q (Same.refl _) s (.int _)⟩
theorem callx_all {bs : List Bool} (hc : X.calm = true) (w : Vw Ω x (.list (bs.map .bool))) (q : Q (.d (.bool (bs.all id))) Ω) : CallX X (.builtin "all") [x] Ω Q := fun G H s vs rs Q' q' => by
  obtain ⟨v, rfl, r⟩ := reps1 rs
  obtain ⟨a, ws, rfl, h1, h2⟩ := dd_seqL w s r
  rw [ddAll_bools h2] at h1
  exact toC (cr_all hc) ⟨a, bs, rfl, .inl (.inl h1), q' _ G H _ Ω q (Same.refl _) s (.bl _)⟩
theorem callx_any {bs : List Bool} (hc : X.calm = true) (w : Vw Ω x (.list (bs.map .bool))) (q : Q (.d (.bool (bs.any id))) Ω) : CallX X (.builtin "any") [x] Ω Q := fun G H s vs rs Q' q' => by
  obtain ⟨v, rfl, r⟩ := reps1 rs
  obtain ⟨a, ws, rfl, h1, h2⟩ := dd_seqL w s r
  rw [ddAll_bools h2] at h1
  exact toC (cr_any hc) ⟨a, bs, rfl, .inl (.inl h1), q' _ G H _ Ω q (Same.refl _) s (.bl _)⟩
theorem callx_max2 (hc : X.calm = true) (q : Q (.d (.int (max i j))) Ω) : CallX X (.builtin "max") [.d (.int i), .d (.int j)] Ω Q := fun G H s vs rs Q' q' => by
  obtain ⟨v, w, rfl, r1, r2⟩ := reps2 rs
  rw [rep_int r1, rep_int r2]
  have e : (if j > i then j else i) = max i j := by split <;> omega
  exact toC (call_max2 hc) ⟨i, j, rfl, by rw [e]; exact q' _ G H _ Ω q (Same.refl _) s (.int _)⟩
theorem callx_min2 (hc : X.calm = true) (q : Q (.d (.int (min i j))) Ω) : CallX X (.builtin "min") [.d (.int i), .d (.int j)] Ω Q := fun G H s vs rs Q' q' => by
  obtain ⟨v, w, rfl, r1, r2⟩ := reps2 rs
  rw [rep_int r1, rep_int r2]
  have e : (if j < i then j else i) = min i j := by split <;> omega
  exact toC (call_min2 hc) ⟨i, j, rfl, by rw [e]; exact q' _ G H _ Ω q (Same.refl _) s (.int _)⟩
/-- max, min of a list of ints -/
theorem callx_maxL {ns : List Int} (hc : X.calm = true) (w : Vw Ω x (.list (ns.map .int))) (h0 : ns ≠ []) (q : ∀ m, m ∈ ns → (∀ y ∈ ns, y ≤ m) → Q (.d (.int m)) Ω) : CallX X (.builtin "max") [x] Ω Q := fun G H s vs rs Q' q' => by
  obtain ⟨v, rfl, r⟩ := reps1 rs
  obtain ⟨a, ws, rfl, h1, h2⟩ := dd_seqL w s r
  rw [ddAll_ints h2] at h1
  exact toC (cr_max hc) ⟨a, ns, rfl, .inl (.inl h1), List.length_pos_iff.mpr h0, fun m hm hle => q' _ G H _ Ω (q m hm hle) (Same.refl _) s (.int _)⟩
theorem callx_minL {ns : List Int} (hc : X.calm = true) (w : Vw Ω x (.list (ns.map .int))) (h0 : ns ≠ []) (q : ∀ m, m ∈ ns → (∀ y ∈ ns, m ≤ y) → Q (.d (.int m)) Ω) : CallX X (.builtin "min") [x] Ω Q := fun G H s vs rs Q' q' => by
  obtain ⟨v, rfl, r⟩ := reps1 rs
  obtain ⟨a, ws, rfl, h1, h2⟩ := dd_seqL w s r
  rw [ddAll_ints h2] at h1
  exact toC (cr_min hc) ⟨a, ns, rfl, .inl (.inl h1), List.length_pos_iff.mpr h0, fun m hm hle => q' _ G H _ Ω (q m hm hle) (Same.refl _) s (.int _)⟩
/-- list(..), tuple(..) -/
inductive SeqD (Ω : Om) (y : It) (ds : List PyData) : Prop where
  | lst (h : Vw Ω y (.list ds))
  | tup (h : y = .d (.tuple ds))
theorem SeqD.sq {K : PySem.W.Frag} {σ : L2.St} {ρ : Ro} {G H : Hp} {ds : List PyData} {v : V} (w : SeqD Ω y ds) (s : ST K σ ρ G Ω H) (r : Rep K G v y) : ∃ a vs, v = .ref a ∧ (SqL K H a vs ∨ SqT K H a vs) ∧ DdAll G vs ds := by
  cases w with
  | lst h =>
    obtain ⟨a, vs, e, h1, h2⟩ := dd_seqL h s r
    exact ⟨a, vs, e, .inl (.inl (.inl h1)), h2⟩
  | tup h =>
    subst h
    obtain ⟨a, vs, e, h1, h2⟩ := dd_seqT s r
    exact ⟨a, vs, e, .inr (.inl (.inl h1)), h2⟩
theorem callx_list {ds : List PyData} (w : SeqD Ω x ds) (q : ∀ l, (∀ p ∈ Ω, p.1 ≠ l) → Q (.v (.ref l)) ((l, .lst (ds.map .d)) :: Ω)) : CallX X (.type "list") [x] Ω Q := fun G H s vs rs Q' q' => by
  obtain ⟨v, rfl, r⟩ := reps1 rs
  obtain ⟨a, ws, rfl, h1, h2⟩ := w.sq s r
  exact toC call_list_of ⟨a, ws, rfl, h1, fun p hp => q' _ G _ _ _ (q p (s.fresh hp)) (Same.refl _) (s.newO hp ⟨_, upd_same, ddAll_paired h2⟩) rfl⟩
theorem callx_listD {ds : List PyData} (w : SeqD Ω x ds) (q : Q (.d (.list ds)) Ω) : CallX X (.type "list") [x] Ω Q := fun G H s vs rs Q' q' => by
  obtain ⟨v, rfl, r⟩ := reps1 rs
  obtain ⟨a, ws, rfl, h1, h2⟩ := w.sq s r
  refine toC call_list_of ⟨a, ws, rfl, h1, fun p hp => ?_⟩
  obtain ⟨s2, e2⟩ := s.lay (o := .lst ws) hp
  exact q' _ _ _ _ _ q e2 s2 (.lst upd_same (Dd.sameAll e2 _ _ h2))
theorem callx_tuple {ds : List PyData} (w : SeqD Ω x ds) (q : Q (.d (.tuple ds)) Ω) : CallX X (.type "tuple") [x] Ω Q := fun G H s vs rs Q' q' => by
  obtain ⟨v, rfl, r⟩ := reps1 rs
  cases w with
  | lst w =>
    obtain ⟨a, ws, rfl, h1, h2⟩ := dd_seqL w s r
    refine toC call_tuple_of ⟨a, ws, rfl, .inl ⟨.inl (.inl h1), fun p hp => ?_⟩⟩
    obtain ⟨s2, e2⟩ := s.lay (o := .tup ws) hp
    exact q' _ _ _ _ _ q e2 s2 (.tup upd_same (Dd.sameAll e2 _ _ h2))
  | tup w =>
    subst w
    obtain ⟨a, ws, rfl, h1, h2⟩ := dd_seqT s r
    exact toC call_tuple_of ⟨a, ws, rfl, .inr ⟨.inl (.inl h1), q' _ G H _ Ω q (Same.refl _) s r⟩⟩
/-- isinstance(x, T) of data -/
def dTy : PyData → String
  | .none => "NoneType" | .bool _ => "bool" | .int _ => "int" | .str _ => "str" | .list _ => "list" | .tuple _ => "tuple" | .dict _ => "dict"
def isa (T : String) (d : PyData) : Bool := (kitB (dTy d) T).getD false
theorem dd_ty {K : PySem.W.Frag} {G : Hp} {v : V} {d : PyData} (r : Dd G v d) : TyX K G v (.type (dTy d)) := by
  cases r with
  | non => exact .base .non
  | bl b => exact .base (.bl b)
  | int b => exact .base (.int b)
  | str b => exact .base (.str b)
  | lst h _ => exact .base (.lst h)
  | tup h _ => exact .base (.tup h)
theorem callx_isa {d : PyData} {T : String} (w : Vw Ω x d) (hk : (kitB "NoneType" T).isSome ∧ (kitB "bool" T).isSome ∧ (kitB "int" T).isSome ∧ (kitB "str" T).isSome ∧ (kitB "list" T).isSome ∧ (kitB "tuple" T).isSome) (q : Q (.d (.bool (isa T d))) Ω) : CallX X (.builtin "isinstance") [x, .v (.ty T)] Ω Q := fun G H s vs rs Q' q' => by
  obtain ⟨v, w', rfl, r1, r2⟩ := reps2 rs
  obtain rfl : w' = .ty T := r2
  have ty : TyX X.K H v (.type (dTy d)) := by
    cases w with
    | dat => exact dd_ty (Dd.same s.sub _ _ r1)
    | own h =>
      obtain ⟨ws, e, _⟩ := (s.at h).1
      obtain rfl : v = .ref _ := r1
      exact .base (.lst e)
  have hs : kitB (dTy d) T = some (isa T d) := by
    unfold isa
    have : (kitB (dTy d) T).isSome = true := by
      cases w with
      | dat =>
        have r' : Dd G v d := r1
        obtain ⟨h1, h2, h3, h4, h5, h6⟩ := hk
        cases r' with
        | non => exact h1
        | bl b => exact h2
        | int b => exact h3
        | str b => exact h4
        | lst _ _ => exact h5
        | tup _ _ => exact h6
      | own h => exact hk.2.2.2.2.1
    cases e : kitB (dTy d) T with
    | none => rw [e] at this; cases this
    | some b => rfl
  exact toC call_isi ⟨v, .ty T, _, .type T, _, rfl, .ty T, ty, kit_ty hs, q' _ G H _ Ω q (Same.refl _) s (.bl _)⟩

/-! ### subscripts -/
theorem ixx_L {ds : List PyData} {d : PyData} (w : Vw Ω x (.list ds)) (h : atI ds i = some d) (q : Q (.d d) Ω) : IxX X x (.d (.int i)) Ω Q := fun G H s vx vy rx ry Q' q' => by
  obtain ⟨a, ws, rfl, h1, h2⟩ := dd_seqL w s rx
  rw [rep_int ry]
  unfold atI at h
  rw [← h2.len] at h
  cases e : ixN ws.length i with
  | none => rw [e] at h; cases h
  | some j =>
    rw [e] at h
    obtain ⟨v, hv, hd⟩ := h2.get (i := j) h
    exact toI ix_list ⟨a, ws, i, v, rfl, rfl, .inl (.inl h1), by unfold atI; rw [e]; exact hv, q' v G H _ Ω q (Same.refl _) s hd⟩
theorem ixx_T {ds : List PyData} {d : PyData} (h : atI ds i = some d) (q : Q (.d d) Ω) : IxX X (.d (.tuple ds)) (.d (.int i)) Ω Q := fun G H s vx vy rx ry Q' q' => by
  obtain ⟨a, ws, rfl, h1, h2⟩ := dd_seqT s rx
  rw [rep_int ry]
  unfold atI at h
  rw [← h2.len] at h
  cases e : ixN ws.length i with
  | none => rw [e] at h; cases h
  | some j =>
    rw [e] at h
    obtain ⟨v, hv, hd⟩ := h2.get (i := j) h
    exact toI ix_tup ⟨a, ws, i, v, rfl, rfl, .inl (.inl h1), by unfold atI; rw [e]; exact hv, q' v G H _ Ω q (Same.refl _) s hd⟩
theorem ixx_S {ns : List Int} {n : Int} (h : atI ns i = some n) (q : Q (.d (.int n)) Ω) : IxX X (.s ns) (.d (.int i)) Ω Q := fun G H s vx vy rx ry Q' q' => by
  obtain ⟨a, rfl, h1⟩ := rx
  rw [rep_int ry]
  refine toI ix_list ⟨a, _, i, .int n, rfl, rfl, sqL_same s.sub h1, ?_, q' _ G H _ Ω q (Same.refl _) s (.int n)⟩
  unfold atI at h ⊢
  rw [List.length_map]
  cases e : ixN ns.length i with
  | none => rw [e] at h; cases h
  | some j =>
    rw [e] at h
    show (ns.map V.int)[j]? = some (V.int n)
    have h' : ns[j]? = some n := h
    rw [List.getElem?_map, h']
    rfl
/-- an item of a list of ours, whatever it is -/
theorem Reps.get {K : PySem.W.Frag} {G : Hp} : ∀ {vs : List V} {its : List It} {i : Nat} {it : It}, Reps K G vs its → its[i]? = some it → ∃ v, vs[i]? = some v ∧ Rep K G v it
  | _, _, _, _, .nil, h => by simp at h
  | _, _, 0, _, .cons h _, e => by simp at e; subst e; exact ⟨_, rfl, h⟩
  | _, _, i + 1, _, .cons _ t, e => by simpa using Reps.get t (i := i) (by simpa using e)
theorem ixx_O {a : Addr} {xs : List It} {it : It} {up : OO → Om} (w : At Ω a (.lst xs) up) (h : atI xs i = some it) (q : Q it Ω) : IxX X (.v (.ref a)) (.d (.int i)) Ω Q := fun G H s vx vy rx ry Q' q' => by
  obtain rfl : vx = .ref a := rx
  rw [rep_int ry]
  obtain ⟨ws, h1, h2⟩ := (s.at w).1
  unfold atI at h
  rw [← h2.length] at h
  cases e : ixN ws.length i with
  | none => rw [e] at h; cases h
  | some j =>
    rw [e] at h
    obtain ⟨v, hv, hd⟩ := Reps.get h2 (i := j) h
    exact toI ix_list ⟨a, ws, i, v, rfl, rfl, .inl (.inl h1), by unfold atI; rw [e]; exact hv, q' v G H _ Ω q (Same.refl _) s hd⟩
end

/-! ### slices -/
/-- the items of xs[lo:hi] -/
def cutL {α : Type} (xs : List α) (lo hi : Option Int) : List α := (xs.drop (HT.sIx xs.length 0 lo)).take (HT.sIx xs.length xs.length hi - HT.sIx xs.length 0 lo)
section
variable {X : Cx} {W : WX} {R : RX} {ρ : Ro} {Ω : Om} {Q : It → Om → Prop} {pos p2 : Pos} {e a : Expr} {lo hi : Option Expr}
def cP (X : Cx) (e : Option Expr) : TO := fun σ H Q => ∀ pins s, Inv X pins σ H s → wpAny (model X.prog X.w) X.A (evalPart e X.env) (fun u s' => ∃ o H', Inv X pins σ H' s' ∧ IsPart u o ∧ Q o H') X.xe s
theorem pcP {e : Option Expr} : PO X e (cP X e) := ⟨fun pins s _ _ _ I h => h pins s I⟩
def PX (X : Cx) (W : WX) (R : RX) (e : Option Expr) (ρ : Ro) (Ω : Om) (P : Option Int → Om → Prop) : Prop :=
  ∀ σ G H, ST X.K σ ρ G Ω H → KX X W R G → ∀ Q' : Option Int → Hp → Prop, (∀ b G' H' Ω', P b Ω' → Same G G' → ST X.K σ ρ G' Ω' H' → Q' b H') → cP X e σ H Q'
def OnI (it : It) (Ω : Om) (P : Int → Om → Prop) : Prop := ∃ b, it = .d (.int b) ∧ P b Ω
theorem onI {b : Int} {P : Int → Om → Prop} (h : P b Ω) : OnI (.d (.int b)) Ω P := ⟨b, rfl, h⟩
theorem px_none {P : Option Int → Om → Prop} (h : P none Ω) : PX X W R none ρ Ω P := fun σ G H s k Q' q' pins s' I => (po_none (X := X)).run pins s' σ H Q' I (q' none G H Ω h (Same.refl _) s)
theorem px_some {P : Option Int → Om → Prop} (h : EX X W R e ρ Ω fun x Ω1 => OnI x Ω1 fun i Ω1 => P (some i) Ω1) : PX X W R (some e) ρ Ω P := fun σ G H s k Q' q' pins s' I => by
  refine (po_some (X := X) (te := cE X e) pcE).run pins s' σ H Q' I ?_
  refine h σ G H s k _ fun v G1 H1 it Ω1 h1 e1 s1 r1 => ?_
  obtain ⟨i, rfl, h1⟩ := h1
  exact ⟨i, rep_int r1, q' _ G1 H1 Ω1 h1 e1 s1⟩
def SlX (X : Cx) (x : It) (lo hi : Option Int) (Ω : Om) (Q : It → Om → Prop) : Prop :=
  ∀ G H, ST X.K [] [] G Ω H → ∀ vx, Rep X.K G vx x → ∀ Q' : VK, Kont X.K G Q Q' → ∃ r, SlR X r ∧ r vx lo hi H Q'
/-- which rule serves: a list or a tuple; told by whoever reads -/
def rSlLT (K : PySem.W.Frag) : V → Option Int → Option Int → Hp → VK → Prop := fun x lo hi H Q => rSlL K x lo hi H Q ∨ rSlA K x lo hi H Q
theorem sl_LT : SlR X (rSlLT X.K) := sl_list.or sl_tupA
theorem ex_slice (h : EX X W R a ρ Ω fun x Ω1 => PX X W R lo ρ Ω1 fun l Ω2 => PX X W R hi ρ Ω2 fun u Ω3 => ∀ G H, ST X.K [] [] G Ω3 H → ∀ vx, Rep X.K G vx x → ∀ Q' : VK, Kont X.K G Q Q' → rSlLT X.K vx l u H Q') : EX X W R (.Subscript a (.Slice lo hi none p2) pos) ρ Ω Q := fun σ G H s k Q' q' => by
  refine ofE (pe_slice (te := cE X a) sl_LT pcE (tl := cP X lo) (th := cP X hi) pcP pcP) ?_
  refine h σ G H s k _ fun v G1 H1 it Ω1 h1 e1 s1 r1 => h1 σ G1 H1 s1 (k.mono e1) _ fun l G2 H2 Ω2 h2 e2 s2 => h2 σ G2 H2 s2 (k.mono (e1.trans e2)) _ fun u G3 H3 Ω3 h3 e3 s3 => ?_
  exact h3 G3 H3 s3.bare v (Rep.same (e2.trans e3) r1) Q' fun v4 G4 H4 it4 Ω4 q4 e4 s4 r4 => q' v4 G4 H4 it4 Ω4 q4 (e1.trans (e2.trans (e3.trans e4))) (s3.with e4 s4) r4
theorem DdAll.cut {G : Hp} {vs : List V} {ds : List PyData} {l u : Option Int} (h : DdAll G vs ds) : DdAll G (cutV vs l u) (cutL ds l u) := by
  unfold cutV cutL
  rw [h.len]
  exact (h.drop _).take _
theorem slx_L {x : It} {ds : List PyData} {l u : Option Int} (w : Vw Ω x (.list ds)) (q : ∀ p, (∀ b ∈ Ω, b.1 ≠ p) → Q (.v (.ref p)) ((p, .lst ((cutL ds l u).map .d)) :: Ω)) : ∀ G H, ST X.K [] [] G Ω H → ∀ vx, Rep X.K G vx x → ∀ Q' : VK, Kont X.K G Q Q' → rSlLT X.K vx l u H Q' := fun G H s vx rx Q' q' => by
  obtain ⟨a, ws, rfl, h1, h2⟩ := dd_seqL w s rx
  exact .inl ⟨a, ws, rfl, .inl (.inl h1), fun p hp => q' _ G _ _ _ (q p (s.fresh hp)) (Same.refl _) (s.newO hp ⟨_, upd_same, ddAll_paired h2.cut⟩) rfl⟩
theorem slx_LD {x : It} {ds : List PyData} {l u : Option Int} (w : Vw Ω x (.list ds)) (q : Q (.d (.list (cutL ds l u))) Ω) : ∀ G H, ST X.K [] [] G Ω H → ∀ vx, Rep X.K G vx x → ∀ Q' : VK, Kont X.K G Q Q' → rSlLT X.K vx l u H Q' := fun G H s vx rx Q' q' => by
  obtain ⟨a, ws, rfl, h1, h2⟩ := dd_seqL w s rx
  refine .inl ⟨a, ws, rfl, .inl (.inl h1), fun p hp => ?_⟩
  obtain ⟨s2, e2⟩ := s.lay (o := .lst (cutV ws l u)) hp
  exact q' _ _ _ _ _ q e2 s2 (.lst upd_same (Dd.sameAll e2 _ _ h2.cut))
theorem slx_T {ds : List PyData} {l u : Option Int} (q : Q (.d (.tuple (cutL ds l u))) Ω) : ∀ G H, ST X.K [] [] G Ω H → ∀ vx, Rep X.K G vx (.d (.tuple ds)) → ∀ Q' : VK, Kont X.K G Q Q' → rSlLT X.K vx l u H Q' := fun G H s vx rx Q' q' => by
  obtain ⟨a, ws, rfl, h1, h2⟩ := dd_seqT s rx
  refine .inr ⟨a, ws, rfl, .inl (.inl h1), fun ⟨e1, e2⟩ => ?_, fun _ p hp => ?_⟩
  · have e : cutL ds l u = ds := by
      unfold cutL
      rw [← h2.len, e1, e2, Nat.sub_zero, List.drop_zero, h2.len, List.take_length]
    rw [e] at q
    exact q' _ G H _ Ω q (Same.refl _) s rx
  · obtain ⟨s2, e2⟩ := s.lay (o := .tup (cutV ws l u)) hp
    exact q' _ _ _ _ _ q e2 s2 (.tup upd_same (Dd.sameAll e2 _ _ h2.cut))

/-! ### methods of lists -/
variable {x y : It} {i : Int}
theorem Reps.snoc {K : PySem.W.Frag} {G : Hp} {vs : List V} {its : List It} {v : V} {it : It} (h : Reps K G vs its) (r : Rep K G v it) : Reps K G (vs ++ [v]) (its ++ [it]) := Paired.snoc h r
theorem metx_append {l : Addr} {xs : List It} {up : OO → Om} (w : At Ω l (.lst xs) up) (hz : xs.length < sizeLine) (q : Q (.d .none) (up (.lst (xs ++ [y])))) : MetX X "list.append" (.v (.ref l)) [y] Ω Q := fun G H s vx vs rx rs Q' q' => by
  obtain rfl : vx = .ref l := rx
  obtain ⟨v, rfl, r⟩ := reps1 rs
  obtain ⟨ws, h1, h2⟩ := (s.at w).1
  exact toM mt_append ⟨l, ws, v, rfl, rfl, h1, by rw [h2.length]; exact hz, q' _ G _ _ _ q (Same.refl _) (s.put w ⟨_, upd_same, h2.snoc r⟩) .non⟩
theorem Reps.take {K : PySem.W.Frag} {G : Hp} : ∀ {vs : List V} {ds : List It} (n : Nat), Reps K G vs ds → Reps K G (vs.take n) (ds.take n)
  | _, _, 0, _ => .nil
  | _, _, n + 1, .nil => .nil
  | _, _, n + 1, .cons a t => .cons a (Reps.take n t)
theorem Reps.eraseIdx {K : PySem.W.Frag} {G : Hp} : ∀ {vs : List V} {ds : List It} (n : Nat), Reps K G vs ds → Reps K G (vs.eraseIdx n) (ds.eraseIdx n)
  | _, _, 0, .nil => .nil
  | _, _, 0, .cons a t => t
  | _, _, n + 1, .nil => .nil
  | _, _, n + 1, .cons a t => .cons a (Reps.eraseIdx n t)
theorem Reps.set {K : PySem.W.Frag} {G : Hp} {v : V} {it : It} (r : Rep K G v it) : ∀ {vs : List V} {ds : List It} (n : Nat), Reps K G vs ds → Reps K G (vs.set n v) (ds.set n it)
  | _, _, 0, .nil => .nil
  | _, _, 0, .cons a t => .cons r t
  | _, _, n + 1, .nil => .nil
  | _, _, n + 1, .cons a t => .cons a (Reps.set r n t)
theorem Reps.dropLast {K : PySem.W.Frag} {G : Hp} : ∀ {vs : List V} {ds : List It}, Reps K G vs ds → Reps K G vs.dropLast ds.dropLast
  | _, _, .nil => .nil
  | [_], [_], .cons a .nil => .nil
  | _ :: _ :: _, _ :: _ :: _, .cons a (.cons b t) => .cons a (Reps.dropLast (.cons b t))
theorem metx_pop {l : Addr} {xs : List It} {it : It} {up : OO → Om} (w : At Ω l (.lst xs) up) (h : xs[xs.length - 1]? = some it) (q : Q it (up (.lst xs.dropLast))) : MetX X "list.pop" (.v (.ref l)) [] Ω Q := fun G H s vx vs rx rs Q' q' => by
  obtain rfl : vx = .ref l := rx
  cases rs
  obtain ⟨ws, h1, h2⟩ := (s.at w).1
  rw [← h2.length] at h
  obtain ⟨v, hv, hd⟩ := Reps.get h2 h
  exact toM mt_pop ⟨l, ws, v, rfl, rfl, h1, hv, q' _ G _ _ _ q (Same.refl _) (s.put w ⟨_, upd_same, Reps.dropLast h2⟩) hd⟩
theorem metx_popAt {l : Addr} {xs : List It} {it : It} {k : Nat} {up : OO → Om} (w : At Ω l (.lst xs) up) (h1 : -(2 ^ 63) ≤ i) (h2 : i < 2 ^ 63) (hk : seqIndex? i xs.length = some k) (h : xs[k]? = some it) (q : Q it (up (.lst (xs.eraseIdx k)))) : MetX X "list.pop" (.v (.ref l)) [.d (.int i)] Ω Q := fun G H s vx vs rx rs Q' q' => by
  obtain rfl : vx = .ref l := rx
  obtain ⟨v, rfl, r⟩ := reps1 rs
  rw [rep_int r]
  obtain ⟨ws, e1, e2⟩ := (s.at w).1
  obtain ⟨u, hv, hd⟩ := Reps.get e2 h
  exact toM mt_popAt ⟨l, ws, i, k, u, rfl, rfl, e1, h1, h2, by rw [e2.length]; exact hk, hv, q' _ G _ _ _ q (Same.refl _) (s.put w ⟨_, upd_same, Reps.eraseIdx k e2⟩) hd⟩
theorem metx_remove {l : Addr} {ns : List Int} {up : OO → Om} (w : At Ω l (.lst (ns.map fun n => .d (.int n))) up) (h : i ∈ ns) (q : Q (.d .none) (up (.lst ((ns.erase i).map fun n => .d (.int n))))) : MetX X "list.remove" (.v (.ref l)) [.d (.int i)] Ω Q := fun G H s vx vs rx rs Q' q' => by
  obtain rfl : vx = .ref l := rx
  obtain ⟨v, rfl, r⟩ := reps1 rs
  rw [rep_int r]
  obtain ⟨ws, e1, e2⟩ := (s.at w).1
  have e3 : DdAll G ws (ns.map PyData.int) := ddAll_of (by rw [List.map_map]; exact e2)
  have e4 := ddAll_ints e3
  subst e4
  have hj : ∀ ns : List Int, i ∈ ns → ∃ j : Nat, ns[j]? = some i ∧ (∀ m : Nat, m < j → ns[m]? ≠ some i) ∧ ns.eraseIdx j = ns.erase i := fun ns => by
    induction ns with
    | nil => intro h; cases h
    | cons n ns ih =>
      intro h
      by_cases e : n = i
      · subst e
        exact ⟨0, rfl, fun m hm => absurd hm (Nat.not_lt_zero _), by simp⟩
      · have h' : i ∈ ns := by
          rcases List.mem_cons.mp h with z | z
          · exact absurd z.symm e
          · exact z
        obtain ⟨j, j1, j2, j3⟩ := ih h'
        refine ⟨j + 1, by simpa using j1, fun m hm => ?_, ?_⟩
        · cases m with
          | zero => intro z; exact e (by simpa using z)
          | succ m => simpa using j2 m (Nat.lt_of_succ_lt_succ hm)
        · rw [List.eraseIdx_cons_succ, j3, List.erase_cons_tail (by simpa using e)]
  obtain ⟨j, j1, j2, j3⟩ := hj ns h
  refine toM mt_remove ⟨l, ns, i, j, rfl, rfl, e1, j1, j2, ?_⟩
  rw [j3]
  refine q' _ G _ _ _ q (Same.refl _) (s.put w ⟨_, upd_same, ?_⟩) .non
  have z : Reps X.K G ((ns.erase i).map V.int) (((ns.erase i).map PyData.int).map It.d) := ddAll_paired ints_ddAll
  rw [List.map_map] at z
  exact z
theorem metx_count {ns : List Int} (w : Vw Ω x (.list (ns.map .int))) (q : Q (.d (.int (ns.count i : Nat))) Ω) : MetX X "list.count" x [.d (.int i)] Ω Q := fun G H s vx vs rx rs Q' q' => by
  obtain ⟨v, rfl, r⟩ := reps1 rs
  rw [rep_int r]
  obtain ⟨a, ws, rfl, h1, h2⟩ := dd_seqL w s rx
  rw [ddAll_ints h2] at h1
  exact toM mt_lcount ⟨a, ns, i, rfl, rfl, .inl (.inl h1), q' _ G H _ Ω q (Same.refl _) s (.int _)⟩

/-! ### sorted -/
theorem callx_sorted {ns : List Int} (w : Vw Ω x (.list (ns.map .int))) (q : ∀ ns' : List Int, ns'.Perm ns → ns'.Pairwise (· ≤ ·) → Q (.d (.list (ns'.map .int))) Ω) : CallX X (.builtin "sorted") [x] Ω Q := fun G H s vs rs Q' q' => by
  obtain ⟨v, rfl, r⟩ := reps1 rs
  obtain ⟨a, ws, rfl, h1, h2⟩ := dd_seqL w s r
  rw [ddAll_ints h2] at h1
  refine toC cr_sortedI ⟨a, ns, rfl, .inl (.inl h1), fun ns' p p1 p2 hp => ?_⟩
  obtain ⟨s2, e2⟩ := s.lay (o := .lst (ns'.map V.int)) hp
  exact q' _ _ _ _ _ (q ns' p1 p2) e2 s2 (.lst upd_same ints_ddAll)
end
end DL

set_option Elab.async false
set_option linter.all false
set_option maxRecDepth 100000
set_option maxHeartbeats 2000000
/-! DLd: statements, loops, comprehensions, calls, defs. -/
namespace DL
open PySem PySem.Spec PyProof.Rows L2

section
variable {X : Cx} {W : WX} {R : RX} {ρ : Ro} {Ω : Om} {D : DE} {pos pos' : Pos} {e a b c : Expr} {st : Stmt} {sts : List Stmt}

/-! ### small statements -/
theorem bx_nil (h : D.nx ρ Ω) : BX X W R [] ρ Ω D := fun σ G H s k E ok => ofSs pss_nil (ok.nx σ ρ G Ω H h (Same.refl _) s)
theorem bx_cons (h : SX X W R st ρ Ω { D with nx := fun ρ1 Ω1 => BX X W R sts ρ1 Ω1 D }) : BX X W R (st :: sts) ρ Ω D := fun σ G H s k E ok =>
  ofSs (pss_cons (t := cS X st) (u := cSs X sts) pcS pcSs) (h σ G H s k _ ⟨fun σ1 ρ1 G1 Ω1 H1 h1 e1 s1 => h1 σ1 G1 H1 s1 (k.mono e1) E (ok.mono e1), ok.rt, ok.bk, ok.ct⟩)
theorem bx_one (h : SX X W R st ρ Ω D) : BX X W R [st] ρ Ω D := fun σ G H s k E ok => ofSs (pss_one pcS) (h σ G H s k E ok)
theorem BX.imp {D2 : DE} (h : BX X W R sts ρ Ω D) (h1 : ∀ r o, D.nx r o → D2.nx r o) (h2 : ∀ r o, D.rt r o → D2.rt r o) (h3 : ∀ r o, D.bk r o → D2.bk r o) (h4 : ∀ r o, D.ct r o → D2.ct r o) : BX X W R sts ρ Ω D2 := fun σ G H s k E ok =>
  h σ G H s k E ⟨fun σ1 ρ1 G1 Ω1 H1 q => ok.nx σ1 ρ1 G1 Ω1 H1 (h1 _ _ q), fun v it σ1 ρ1 G1 Ω1 H1 q => ok.rt v it σ1 ρ1 G1 Ω1 H1 (h2 _ _ q), fun σ1 ρ1 G1 Ω1 H1 q => ok.bk σ1 ρ1 G1 Ω1 H1 (h3 _ _ q), fun σ1 ρ1 G1 Ω1 H1 q => ok.ct σ1 ρ1 G1 Ω1 H1 (h4 _ _ q)⟩
/-- the state told otherwise ahead of a block -/
theorem bx_drop (n : Nat) (h : BX X W R sts ρ (Ω.drop n) D) : BX X W R sts ρ Ω D := fun σ G H s k E ok => h σ G H (s.drop n) k E ok
theorem bx_freeze {l : Addr} {ds : List PyData} {ρ' : Ro} (r : Relab l (.d (.list ds)) ρ ρ') (h : BX X W R sts ρ' Ω D) : BX X W R sts ρ ((l, .lst (ds.map .d)) :: Ω) D := fun σ G H s k E ok => by
  obtain ⟨G', e, s', rp⟩ := s.freeze
  exact h σ G' H (s'.relab rp r) (k.mono e) E (ok.mono e)
theorem sx_freeze {l : Addr} {ds : List PyData} {ρ' : Ro} (r : Relab l (.d (.list ds)) ρ ρ') (h : SX X W R st ρ' Ω D) : SX X W R st ρ ((l, .lst (ds.map .d)) :: Ω) D := fun σ G H s k E ok => by
  obtain ⟨G', e, s', rp⟩ := s.freeze
  exact h σ G' H (s'.relab rp r) (k.mono e) E (ok.mono e)
theorem sx_pass (h : D.nx ρ Ω) : SX X W R (.Pass pos) ρ Ω D := fun σ G H s k E ok => ofS ps_pass (ok.nx σ ρ G Ω H h (Same.refl _) s)
theorem sx_break (h : D.bk ρ Ω) : SX X W R (.Break pos) ρ Ω D := fun σ G H s k E ok => ofS ps_break (ok.bk σ ρ G Ω H h (Same.refl _) s)
theorem sx_continue (h : D.ct ρ Ω) : SX X W R (.Continue pos) ρ Ω D := fun σ G H s k E ok => ofS ps_continue (ok.ct σ ρ G Ω H h (Same.refl _) s)
theorem sx_expr (h : EX X W R e ρ Ω fun _ Ω1 => D.nx ρ Ω1) (hs : swapsWith e none pos.line X.env = pure false := by rfl) : SX X W R (.Expr e pos) ρ Ω D := fun σ G H s k E ok =>
  ofS (ps_expr (te := cE X e) pcE hs) (h σ G H s k _ fun v G1 H1 it Ω1 h1 e1 s1 r1 => ok.nx σ ρ G1 Ω1 H1 h1 e1 s1)
theorem sx_ret (h : EX X W R e ρ Ω D.rt) : SX X W R (.Return (some e) pos) ρ Ω D := fun σ G H s k E ok =>
  ofS (ps_ret (te := cE X e) pcE) (h σ G H s k _ fun v G1 H1 it Ω1 h1 e1 s1 r1 => ok.rt v it σ ρ G1 Ω1 H1 h1 e1 s1 r1)
theorem sx_retN (h : D.rt (.d .none) Ω) : SX X W R (.Return none pos) ρ Ω D := fun σ G H s k E ok => ofS ps_retN (ok.rt _ _ σ ρ G Ω H h (Same.refl _) s .non)
theorem sx_if {A B : List Stmt} (h : TX X W R c ρ Ω fun t Ω1 => if t = true then BX X W R A ρ Ω1 D else BX X W R B ρ Ω1 D) : SX X W R (.If c A B pos) ρ Ω D := fun σ G H s k E ok => by
  refine ofS (ps_if (tc := cT X c) (t := cSs X A) (u := cSs X B) pcT pcSs pcSs) (h σ G H s k _ fun t G1 H1 Ω1 h1 e1 s1 => ?_)
  cases t with
  | true =>
    rw [if_pos rfl] at h1 ⊢
    exact h1 σ G1 H1 s1 (k.mono e1) E (ok.mono e1)
  | false =>
    rw [if_neg Bool.false_ne_true] at h1 ⊢
    exact h1 σ G1 H1 s1 (k.mono e1) E (ok.mono e1)

/-! ### targets -/
def cG (X : Cx) (tg : Expr) : TG := fun v σ H Q => ∀ pins s u, Inv X pins σ H s → RelV v u → wpAny (model X.prog X.w) X.A (assign tg X.env u) (fun _ s' => ∃ σ' H', Inv X pins σ' H' s' ∧ Q σ' H') X.xe s
theorem pcG {tg : Expr} : PG X tg (cG X tg) := ⟨fun pins s _ _ _ u _ I r h => h pins s u I r⟩
theorem ofG {tg : Expr} {g : TG} {v : V} {σ : L2.St} {H : Hp} {Q : L2.St → Hp → Prop} (p : PG X tg g) (h : g v σ H Q) : cG X tg v σ H Q := fun pins s u I r => p.run pins s σ H v u Q I r h
def GX (X : Cx) (W : WX) (R : RX) (tg : Expr) (it : It) (ρ : Ro) (Ω : Om) (P : Ro → Om → Prop) : Prop :=
  ∀ σ G H, ST X.K σ ρ G Ω H → KX X W R G → ∀ v, Rep X.K G v it → ∀ Q' : L2.St → Hp → Prop, (∀ σ' ρ' G' Ω' H', P ρ' Ω' → Same G G' → ST X.K σ' ρ' G' Ω' H' → Q' σ' H') → cG X tg v σ H Q'
theorem gx_name (i : Nat) {x : Str} {it : It} {P : Ro → Om → Prop} (hN : X.N.Nodup) (h : P (ρ.set i (some it)) Ω) (hi : X.N[i]? = some x := by rfl) (hx : Loc X.env.scope x := by first | exact .inl rfl | exact .inr rfl) (hf : X.fn x = true ∨ X.env.scope.names.lookup x = some .local := by first | exact .inl rfl | exact .inr rfl) : GX X W R (.Name x pos) it ρ Ω P := fun σ G H s k v r Q' q' =>
  ofG (pg_name hN hi hx hf) (q' _ _ G Ω H h (Same.refl _) (s.set r))
theorem gx_pair (i j : Nat) {x y : Str} {p1 p2 : Pos} {n} {d1 d2 : PyData} {P : Ro → Om → Prop} (hc : X.calm = true) (hN : X.N.Nodup) (h : P ((ρ.set i (some (.d d1))).set j (some (.d d2))) Ω) (hi : X.N[i]? = some x := by rfl) (hj : X.N[j]? = some y := by rfl) (hx : Loc X.env.scope x := by first | exact .inl rfl | exact .inr rfl) (hy : Loc X.env.scope y := by first | exact .inl rfl | exact .inr rfl)
    (hf : X.fn x = true ∨ X.env.scope.names.lookup x = some .local := by first | exact .inl rfl | exact .inr rfl) (hf2 : X.fn y = true ∨ X.env.scope.names.lookup y = some .local := by first | exact .inl rfl | exact .inr rfl) :
    GX X W R (.Tuple [.Name x p1, .Name y p2] n pos) (.d (.tuple [d1, d2])) ρ Ω P := fun σ G H s k v r Q' q' => by
  refine ofG (pg_tup hc (pgs_cons (pg_name hN hi hx hf) (pgs_cons (pg_name hN hj hy hf2) pgs_nil))) ?_
  obtain ⟨a, vs, rfl, h1, h2⟩ := dd_seqT s r
  cases h2 with
  | cons r1 h2 =>
    cases h2 with
    | cons r2 h2 =>
      cases h2
      exact ⟨a, _, rfl, .inl (.inl h1), rfl, _, _, rfl, _, _, rfl, rfl, q' _ _ G Ω H h (Same.refl _) ((s.set (it := .d d1) r1).set (it := .d d2) r2)⟩
/-- target = e -/
theorem sx_asg {tg : Expr} (h : EX X W R e ρ Ω fun it Ω1 => GX X W R tg it ρ Ω1 D.nx) (hs : swapsWithSole [tg] e pos.line X.env = pure false := by rfl) (hw : swappedStores [tg] e X.env = pure none := by rfl)
    (h1 : (assignEach [tg] X.env).map (·.2) = [assign tg X.env] := by rfl) : SX X W R (.Assign [tg] e pos) ρ Ω D := fun σ G H s k E ok =>
  ofS (ps_asg (te := cE X e) (g := cG X tg) pcE pcG hs hw h1) (h σ G H s k _ fun v G1 H1 it Ω1 h1 e1 s1 r1 => h1 σ G1 H1 s1 (k.mono e1) v r1 _ fun σ2 ρ2 G2 Ω2 H2 h2 e2 s2 => ok.nx σ2 ρ2 G2 Ω2 H2 h2 (e1.trans e2) s2)
/-- name = e -/
theorem sx_set (i : Nat) {x : Str} (hN : X.N.Nodup) (h : EX X W R e ρ Ω fun it Ω1 => D.nx (ρ.set i (some it)) Ω1) (hi : X.N[i]? = some x := by rfl) (hx : Loc X.env.scope x := by first | exact .inl rfl | exact .inr rfl) (hs : swapsWith e (some (.Name x pos')) pos.line X.env = pure false := by rfl)
    (hf : X.fn x = true ∨ X.env.scope.names.lookup x = some .local := by first | exact .inl rfl | exact .inr rfl) : SX X W R (.Assign [.Name x pos'] e pos) ρ Ω D := fun σ G H s k E ok =>
  ofS (ps_set (te := cE X e) hN hi hx pcE hs hf) (h σ G H s k _ fun v G1 H1 it Ω1 h1 e1 s1 r1 => ok.nx _ _ G1 Ω1 H1 h1 e1 (s1.set r1))
/-- a, b = x, y -/
theorem sx_par (i j : Nat) {x y : Str} {px py pt : Pos} {kt k2 pt2} (hc : X.calm = true) (hN : X.N.Nodup) (h : AX X W R [a, b] ρ Ω fun its Ω1 => ∃ v w, its = [v, w] ∧ D.nx ((ρ.set i (some v)).set j (some w)) Ω1) (hi : X.N[i]? = some x := by rfl) (hj : X.N[j]? = some y := by rfl) (hij : i ≠ j := by decide)
    (hx : X.env.scope.names.lookup x = some .local := by rfl) (hy : X.env.scope.names.lookup y = some .local := by rfl)
    (hw : swappedStores [.Tuple [.Name x px, .Name y py] kt pt] (.Tuple [a, b] k2 pt2) X.env = pure (some [x, y]) := by rfl)
    (hs : swapsWithSole [.Tuple [.Name x px, .Name y py] kt pt] (.Tuple [a, b] k2 pt2) pos.line X.env = pure false := by rfl) :
    SX X W R (.Assign [.Tuple [.Name x px, .Name y py] kt pt] (.Tuple [a, b] k2 pt2) pos) ρ Ω D := fun σ G H s k E ok => by
  refine ofS (ps_par (ta := cA X [a, b]) hc hN hi hj hij hx hy pcA hw hs) (h σ G H s k _ fun vs G1 H1 its Ω1 h1 e1 s1 r1 => ?_)
  obtain ⟨v, w, rfl, h1⟩ := h1
  obtain ⟨v', w', rfl, r1, r2⟩ := reps2 r1
  exact ⟨v', w', rfl, ok.nx _ _ G1 Ω1 H1 h1 e1 ((s1.set r1).set r2)⟩
/-- xs[k] = e of a list of ours -/
theorem sx_setAt {o i : Expr} {p2 : Pos} (h : EX X W R e ρ Ω fun it Ω1 => EX X W R o ρ Ω1 fun x Ω2 => EX X W R i ρ Ω2 fun y Ω3 => ∃ l xs k j up, x = .v (.ref l) ∧ y = .d (.int k) ∧ At Ω3 l (.lst xs) up ∧ ixN xs.length k = some j ∧ D.nx ρ (up (.lst (xs.set j it))))
    (ha : ∀ v, assign (.Subscript o i p2) X.env v = (do
      let ov ← holding [v] (eval o X.env)
      let iv ← holding [v, ov] (eval i X.env)
      standAt p2
      holding [v, ov, iv] (setItem ov iv v)
      release [v, ov, iv] []) := by intro _; rfl)
    (hs : swapsWithSole [.Subscript o i p2] e pos.line X.env = pure false := by rfl) (hw : swappedStores [.Subscript o i p2] e X.env = pure none := by rfl)
    (h1 : (assignEach [.Subscript o i p2] X.env).map (·.2) = [assign (.Subscript o i p2) X.env] := by rfl) : SX X W R (.Assign [.Subscript o i p2] e pos) ρ Ω D := fun σ G H s k E ok => by
  refine ofS (ps_asg (te := cE X e) pcE (pg_sub (to := cE X o) (ti := cE X i) pcE pcE set_list ha) hs hw h1) (h σ G H s k _ fun v G1 H1 it Ω1 h1 e1 s1 r1 => h1 σ G1 H1 s1 (k.mono e1) _ fun v2 G2 H2 x Ω2 h2 e2 s2 r2 => h2 σ G2 H2 s2 (k.mono (e1.trans e2)) _ fun v3 G3 H3 y Ω3 h3 e3 s3 r3 => ?_)
  obtain ⟨l, xs, kk, j, up, rfl, rfl, w, hj, q⟩ := h3
  obtain rfl : v2 = .ref l := r2
  obtain ⟨vs, g1, g2⟩ := (s3.at w).1
  refine ⟨l, vs, kk, j, rfl, rep_int r3, g1, by rw [g2.length]; exact hj, ?_⟩
  exact ok.nx σ ρ G3 _ _ q (e1.trans (e2.trans e3)) (s3.put w ⟨_, upd_same, Reps.set (Rep.same (e2.trans e3) r1) j g2⟩)
/-- name op= e -/
theorem sx_augI (i : Nat) {x : Str} {m : Int} (op : Operator) {f : Int → Int → Int} (ho : PIp X op (ipI f)) (hN : X.N.Nodup) (hv : ρ[i]? = some (some (.d (.int m)))) (h : EX X W R e ρ Ω fun it Ω1 => OnI it Ω1 fun n Ω1 => D.nx (ρ.set i (some (.d (.int (f m n))))) Ω1) (hi : X.N[i]? = some x := by rfl) (hx : Loc X.env.scope x := by first | exact .inl rfl | exact .inr rfl)
    (hf : X.fn x = true ∨ X.env.scope.names.lookup x = some .local := by first | exact .inl rfl | exact .inr rfl) : SX X W R (.AugAssign (.Name x pos') op e pos) ρ Ω D := fun σ G H s k E ok => by
  refine ofS (ps_aug (te := cE X e) hN hi hx pcE ho hf) ?_
  obtain ⟨v, g1, g2⟩ := s.slot i _ hv
  refine ⟨v, g1, h σ G H s k _ fun v2 G1 H1 it Ω1 h1 e1 s1 r1 => ?_⟩
  obtain ⟨n, rfl, h1⟩ := h1
  exact ⟨m, n, rep_int g2, rep_int r1, ok.nx _ _ G1 Ω1 H1 h1 e1 (s1.set (it := .d (.int (f m n))) (.int _))⟩

/-! ### what is walked -/
def cPI (X : Cx) (tg iter : Expr) : TI := fun σ H R => ∀ pins s, Inv X pins σ H s → wpAny (model X.prog X.w) X.A (eval iter X.env) (fun v s1 => wpAny (model X.prog X.w) X.A (pyIter v) (PIE X pins σ tg R) X.xe s1) X.xe s
theorem pcPI {tg iter : Expr} : PI X tg iter (cPI X tg iter) := ⟨fun pins s _ _ _ I h => h pins s I⟩
theorem ofPI {tg iter : Expr} {wi : TI} {σ : L2.St} {H : Hp} {R : L2.It → Hp → Prop} (p : PI X tg iter wi) (h : wi σ H R) : cPI X tg iter σ H R := fun pins s I => p.run pins s σ H R I h
/-- J gives the data ds, one a turn -/
def Yields (K : PySem.W.Frag) (J : L2.It) (G : Hp) (ds : List PyData) : Prop := ∀ i σ ρ G1 Ω1 H1, Same G G1 → ST K σ ρ G1 Ω1 H1 →
  (i < ds.length → J.go i H1 ∧ ∀ x H2, J.yld i H1 x H2 → ∃ G2 d, Same G1 G2 ∧ ST K σ ρ G2 Ω1 H2 ∧ ds[i]? = some d ∧ Dd G2 x d) ∧ (ds.length ≤ i → J.stop i H1)
def IX (X : Cx) (W : WX) (R : RX) (tg iter : Expr) (ρ : Ro) (Ω : Om) (P : List PyData → Om → Prop) : Prop :=
  ∀ σ G H, ST X.K σ ρ G Ω H → KX X W R G → ∀ Q' : L2.It → Hp → Prop, (∀ J G' H' ds Ω', P ds Ω' → Same G G' → ST X.K σ ρ G' Ω' H' → Yields X.K J G' ds → Q' J H') → cPI X tg iter σ H Q'
theorem ix_lst {tg : Expr} {P : List PyData → Om → Prop} (h : EX X W R e ρ Ω fun it Ω1 => ∃ ds, it = .d (.list ds) ∧ P ds Ω1) : IX X W R tg e ρ Ω P := fun σ G H s k Q' q' => by
  refine ofPI (pi_list (tl := cE X e) pcE) (h σ G H s k _ fun v G1 H1 it Ω1 h1 e1 s1 r1 => ?_)
  obtain ⟨ds, rfl, h1⟩ := h1
  have r' : Dd G1 v (.list ds) := r1
  cases r' with
  | @lst a vs _ g1 g2 =>
    refine ⟨a, rfl, ⟨vs, .inl (.inl (s1.sub _ _ g1))⟩, q' _ G1 H1 ds Ω1 h1 e1 s1 fun i σ2 ρ2 G2 Ω2 H2 e2 s2 => ⟨fun hi => ?_, fun hi => ?_⟩⟩
    · have hs : SqL X.K H2 a vs := .inl (.inl (s2.sub _ _ (e2 _ _ g1)))
      obtain ⟨d, hd⟩ : ∃ d, ds[i]? = some d := ⟨ds[i], List.getElem?_eq_getElem hi⟩
      obtain ⟨v, hv, hdd⟩ := g2.get hd
      refine ⟨⟨vs, v, hs, hv⟩, fun x H3 hy => ?_⟩
      obtain ⟨rfl, hx⟩ := hy
      have hx' := hx vs hs
      rw [hv] at hx'
      cases hx'
      exact ⟨G2, d, Same.refl _, s2, hd, Dd.same e2 _ _ hdd⟩
    · exact ⟨vs, .inl (.inl (s2.sub _ _ (e2 _ _ g1))), by rw [g2.len]; exact hi⟩
theorem ix_tupl {tg : Expr} {P : List PyData → Om → Prop} (h : EX X W R e ρ Ω fun it Ω1 => ∃ ds, it = .d (.tuple ds) ∧ P ds Ω1) : IX X W R tg e ρ Ω P := fun σ G H s k Q' q' => by
  refine ofPI (pi_tup (tl := cE X e) pcE) (h σ G H s k _ fun v G1 H1 it Ω1 h1 e1 s1 r1 => ?_)
  obtain ⟨ds, rfl, h1⟩ := h1
  have r' : Dd G1 v (.tuple ds) := r1
  cases r' with
  | @tup a vs _ g1 g2 =>
    refine ⟨a, rfl, ⟨vs, .inl (.inl (s1.sub _ _ g1))⟩, q' _ G1 H1 ds Ω1 h1 e1 s1 fun i σ2 ρ2 G2 Ω2 H2 e2 s2 => ⟨fun hi => ?_, fun hi => ?_⟩⟩
    · have hs : SqT X.K H2 a vs := .inl (.inl (s2.sub _ _ (e2 _ _ g1)))
      obtain ⟨d, hd⟩ : ∃ d, ds[i]? = some d := ⟨ds[i], List.getElem?_eq_getElem hi⟩
      obtain ⟨v, hv, hdd⟩ := g2.get hd
      refine ⟨⟨vs, v, hs, hv⟩, fun x H3 hy => ?_⟩
      obtain ⟨rfl, hx⟩ := hy
      have hx' := hx vs hs
      rw [hv] at hx'
      cases hx'
      exact ⟨G2, d, Same.refl _, s2, hd, Dd.same e2 _ _ hdd⟩
    · exact ⟨vs, .inl (.inl (s2.sub _ _ (e2 _ _ g1))), by rw [g2.len]; exact hi⟩
/-- lo, lo + 1, .. -/
def rangeD (lo : Int) (n : Nat) : List PyData := (List.range n).map fun i => .int (lo + (i : Nat))
theorem yields_range {K : PySem.W.Frag} {G : Hp} (lo : Int) (n : Nat) : Yields K (Itr lo n) G (rangeD lo n) := fun i σ ρ G1 Ω1 H1 e s => by
  have hl : (rangeD lo n).length = n := by unfold rangeD; rw [List.length_map, List.length_range]
  rw [hl]
  refine ⟨fun hi => ⟨hi, fun x H2 hy => ?_⟩, fun hi => hi⟩
  obtain ⟨rfl, rfl⟩ := hy
  refine ⟨G1, .int (lo + i), Same.refl _, s, ?_, .int _⟩
  unfold rangeD
  rw [List.getElem?_map, List.getElem?_range hi]
  rfl
theorem ix_range1 {tg : Expr} {p : Pos} {P : List PyData → Om → Prop} (hm : X.mg "range" = none) (h : EX X W R a ρ Ω fun it Ω1 => OnI it Ω1 fun n Ω1 => (-(2 ^ 62) ≤ n ∧ n < 2 ^ 62) ∧ P (rangeD 0 n.toNat) Ω1) (hg : Gl X "range" := by rfl) (hs : starEach [a] X.env = [(false, eval a X.env)] := by rfl) : IX X W R tg (.Call (.Name "range" p) [a] [] pos) ρ Ω P := fun σ G H s k Q' q' => by
  refine ofPI (pi_range1 (ta := cA X [a]) hg hm pcA hs) ?_
  refine ofA (pa_cons (te := cE X a) pcE pa_nil (by rw [hs]; rfl)) (h σ G H s k _ fun v G1 H1 it Ω1 h1 e1 s1 r1 => ?_)
  obtain ⟨n, rfl, ⟨b1, b2⟩, h1⟩ := h1
  refine ⟨n, by rw [rep_int r1], b1, b2, ?_⟩
  exact q' _ G1 H1 _ Ω1 h1 e1 s1 (by
    have z := yields_range (K := X.K) (G := G1) 0 n.toNat
    first | exact z | (rw [Int.sub_zero]; exact z))
theorem ix_range2 {tg : Expr} {p : Pos} {P : List PyData → Om → Prop} (hm : X.mg "range" = none) (h : EX X W R a ρ Ω fun it Ω1 => OnI it Ω1 fun m Ω1 => EX X W R b ρ Ω1 fun it Ω2 => OnI it Ω2 fun n Ω2 => ((-(2 ^ 62) ≤ m ∧ m < 2 ^ 62) ∧ -(2 ^ 62) ≤ n ∧ n < 2 ^ 62) ∧ P (rangeD m (n - m).toNat) Ω2) (hg : Gl X "range" := by rfl)
    (hs : starEach [a, b] X.env = [(false, eval a X.env), (false, eval b X.env)] := by rfl) (hs2 : starEach [b] X.env = [(false, eval b X.env)] := by rfl) : IX X W R tg (.Call (.Name "range" p) [a, b] [] pos) ρ Ω P := fun σ G H s k Q' q' => by
  refine ofPI (pi_range2 (ta := cA X [a, b]) hg hm pcA hs hs2) ?_
  refine ofA (pa_cons (te := cE X a) (t := cA X [b]) pcE pcA (by rw [hs, hs2])) (h σ G H s k _ fun v G1 H1 it Ω1 h1 e1 s1 r1 => ?_)
  obtain ⟨m, rfl, h1⟩ := h1
  refine ofA (pa_cons (te := cE X b) pcE pa_nil (by rw [hs2]; rfl)) (h1 σ G1 H1 s1 (k.mono e1) _ fun v2 G2 H2 it2 Ω2 h2 e2 s2 r2 => ?_)
  obtain ⟨n, rfl, ⟨⟨b1, b2⟩, b3, b4⟩, h2⟩ := h2
  exact ⟨m, n, by rw [rep_int r1, rep_int r2], ⟨b1, b2, b3, b4⟩, q' _ G2 H2 _ Ω2 h2 (e1.trans e2) s2 (yields_range _ _)⟩

/-- zip of two tuples, of two lists -/
def zipD (xs ys : List PyData) : List PyData := List.zipWith (fun a b => .tuple [a, b]) xs ys
theorem zipD_get {xs ys : List PyData} {i : Nat} {a b : PyData} (h1 : xs[i]? = some a) (h2 : ys[i]? = some b) : (zipD xs ys)[i]? = some (.tuple [a, b]) := by
  unfold zipD
  rw [List.getElem?_zipWith, h1, h2]
theorem ix_zip {e2 : Expr} {p tpos : Pos} {elts : List Expr} {kk : Nat} {P : List PyData → Om → Prop} (hm : X.mg "zip" = none) (h : AX X W R [e, e2] ρ Ω fun its Ω1 => ∃ xs ys, ((its = [.d (.tuple xs), .d (.tuple ys)]) ∨ (its = [.d (.list xs), .d (.list ys)])) ∧ P (zipD xs ys) Ω1) (hg : Gl X "zip" := by rfl)
    (hs : starEach [e, e2] X.env = (false, eval e X.env) :: starEach [e2] X.env := by rfl) (hpl : (backTo pos (starEach [e2] X.env)).any (·.1) = false := by rfl) : IX X W R (.Tuple elts kk tpos) (.Call (.Name "zip" p) [e, e2] [] pos) ρ Ω P := fun σ G H s k Q' q' => by
  refine ofPI (RZ.pi_zipA (ta := cA X [e, e2]) hg hm pcA hs hpl) (h σ G H s k _ fun vs G1 H1 its Ω1 h1 e1 s1 r1 => ?_)
  obtain ⟨xs, ys, hc, h1⟩ := h1
  have hl : (zipD xs ys).length = min xs.length ys.length := by unfold zipD; rw [List.length_zipWith]
  rcases hc with rfl | rfl
  · obtain ⟨v, w, rfl, ra, rb⟩ := reps2 r1
    have ra' : Dd G1 v (.tuple xs) := ra
    have rb' : Dd G1 w (.tuple ys) := rb
    cases ra' with
    | @tup a us _ g1 g2 =>
      cases rb' with
      | @tup b ws _ g3 g4 =>
        refine ⟨a, b, us, ws, rfl, .inr ⟨.inl (.inl (s1.sub _ _ g1)), .inl (.inl (s1.sub _ _ g3)), q' _ G1 H1 _ Ω1 h1 e1 s1 fun i σ2 ρ2 G2 Ω2 H2 e2 s2 => ?_⟩⟩
        have t1 : SqT X.K H2 a us := .inl (.inl (s2.sub _ _ (e2 _ _ g1)))
        have t2 : SqT X.K H2 b ws := .inl (.inl (s2.sub _ _ (e2 _ _ g3)))
        refine ⟨fun hi => ?_, fun hi => ⟨us, ws, t1, t2, by rw [g2.len, g4.len]; rw [hl] at hi; omega⟩⟩
        rw [hl] at hi
        have i1 : i < xs.length := by omega
        have i2 : i < ys.length := by omega
        obtain ⟨x, hx, dx⟩ := g2.get (List.getElem?_eq_getElem i1)
        obtain ⟨y, hy, dy⟩ := g4.get (List.getElem?_eq_getElem i2)
        refine ⟨⟨us, ws, x, y, t1, t2, hx, hy⟩, fun z H3 hz => ?_⟩
        obtain ⟨T, x', y', rfl, hT, rfl, f1, f2⟩ := hz
        have ex := f1 us t1
        rw [hx] at ex
        cases ex
        have ey := f2 ws t2
        rw [hy] at ey
        cases ey
        obtain ⟨s3, e3⟩ := s2.lay (o := .tup [x, y]) hT
        exact ⟨_, _, e3, s3, zipD_get (List.getElem?_eq_getElem i1) (List.getElem?_eq_getElem i2), .tup upd_same (.cons (Dd.same (e2.trans e3) _ _ dx) (.cons (Dd.same (e2.trans e3) _ _ dy) .nil))⟩
  · obtain ⟨v, w, rfl, ra, rb⟩ := reps2 r1
    have ra' : Dd G1 v (.list xs) := ra
    have rb' : Dd G1 w (.list ys) := rb
    cases ra' with
    | @lst a us _ g1 g2 =>
      cases rb' with
      | @lst b ws _ g3 g4 =>
        refine ⟨a, b, us, ws, rfl, .inl ⟨.inl (.inl (s1.sub _ _ g1)), .inl (.inl (s1.sub _ _ g3)), q' _ G1 H1 _ Ω1 h1 e1 s1 fun i σ2 ρ2 G2 Ω2 H2 e2 s2 => ?_⟩⟩
        have t1 : SqL X.K H2 a us := .inl (.inl (s2.sub _ _ (e2 _ _ g1)))
        have t2 : SqL X.K H2 b ws := .inl (.inl (s2.sub _ _ (e2 _ _ g3)))
        refine ⟨fun hi => ?_, fun hi => ⟨us, ws, t1, t2, by rw [g2.len, g4.len]; rw [hl] at hi; omega⟩⟩
        rw [hl] at hi
        have i1 : i < xs.length := by omega
        have i2 : i < ys.length := by omega
        obtain ⟨x, hx, dx⟩ := g2.get (List.getElem?_eq_getElem i1)
        obtain ⟨y, hy, dy⟩ := g4.get (List.getElem?_eq_getElem i2)
        refine ⟨⟨us, ws, x, y, t1, t2, hx, hy⟩, fun z H3 hz => ?_⟩
        obtain ⟨T, x', y', rfl, hT, rfl, f1, f2⟩ := hz
        have ex := f1 us t1
        rw [hx] at ex
        cases ex
        have ey := f2 ws t2
        rw [hy] at ey
        cases ey
        obtain ⟨s3, e3⟩ := s2.lay (o := .tup [x, y]) hT
        exact ⟨_, _, e3, s3, zipD_get (List.getElem?_eq_getElem i1) (List.getElem?_eq_getElem i2), .tup upd_same (.cons (Dd.same (e2.trans e3) _ _ dx) (.cons (Dd.same (e2.trans e3) _ _ dy) .nil))⟩

/-- lengths are bounded -/
theorem bx_lenT (i : Nat) {ds : List PyData} (h : ρ[i]? = some (some (.d (.tuple ds)))) (q : ds.length ≤ sizeLine → BX X W R sts ρ Ω D) : BX X W R sts ρ Ω D := fun σ G H s k E ok pins s' I => by
  obtain ⟨v, _, r⟩ := s.slot i _ h
  obtain ⟨a, vs, rfl, h1, h2⟩ := dd_seqT s r
  have z : vs.length ≤ sizeLine := by
    have hx : ObjOk X.prog X.w H s'.heap a (.tup vs) := I.hok a _ h1
    exact hx.1
  exact q (by rw [← h2.len]; exact z) σ G H s k E ok pins s' I
theorem bx_lenL (i : Nat) {ds : List PyData} (h : ρ[i]? = some (some (.d (.list ds)))) (q : ds.length ≤ sizeLine → BX X W R sts ρ Ω D) : BX X W R sts ρ Ω D := fun σ G H s k E ok pins s' I => by
  obtain ⟨v, _, r⟩ := s.slot i _ h
  obtain ⟨a, vs, rfl, h1, h2⟩ := dd_seqL .dat s r
  have z : vs.length ≤ sizeLine := by
    have hx : ObjOk X.prog X.w H s'.heap a (.lst vs) := I.hok a _ h1
    exact hx.1
  exact q (by rw [← h2.len]; exact z) σ G H s k E ok pins s' I
/-! ### for -/
theorem sx_for {tg iter : Expr} {body : List Stmt} (hp : PassesOwn (model X.prog X.w) X.A X.env X.xe) (hc : X.calm = true)
    (h : IX X W R tg iter ρ Ω fun ds Ω1 => ∃ I : Nat → Ro → Om → Prop, I 0 ρ Ω1 ∧ (∀ i d ρ2 Ω2, ds[i]? = some d → I i ρ2 Ω2 → GX X W R tg (.d d) ρ2 Ω2 fun ρ3 Ω3 => BX X W R body ρ3 Ω3 { D with nx := I (i + 1), ct := I (i + 1), bk := D.nx }) ∧ ∀ ρ2 Ω2, I ds.length ρ2 Ω2 → D.nx ρ2 Ω2)
    (hs : ∀ x, foldedSetIterable iter X.env x = pure x := by intro _; rfl) : SX X W R (.For tg iter body [] pos) ρ Ω D := fun σ G H s k E ok => by
  refine ofS (ps_for (wi := cPI X tg iter) (g := cG X tg) (tb := cSs X body) hp hc pcPI pcG pcSs hs) (h σ G H s k _ fun J G1 H1 ds Ω1 h1 e1 s1 y => ?_)
  obtain ⟨I, i0, it, id⟩ := h1
  refine ⟨fun i m σ2 H2 => m = ds.length - i ∧ i ≤ ds.length ∧ ∃ ρ2 G2 Ω2, I i ρ2 Ω2 ∧ Same G1 G2 ∧ ST X.K σ2 ρ2 G2 Ω2 H2, ⟨_, rfl, Nat.zero_le _, ρ, G1, Ω1, i0, Same.refl _, s1⟩, ?_⟩
  rintro i m σ2 H2 ⟨rfl, hi, ρ2, G2, Ω2, p, e2, s2⟩
  by_cases hlt : i < ds.length
  · obtain ⟨g1, g2⟩ := (y i σ2 ρ2 G2 Ω2 H2 e2 s2).1 hlt
    refine .inr ⟨g1, fun σ' H' => ∃ ρ2 G2 Ω2, I (i + 1) ρ2 Ω2 ∧ Same G1 G2 ∧ ST X.K σ' ρ2 G2 Ω2 H', fun σ' H' q => ⟨_, by omega, rfl, hlt, q⟩, fun x H3 hy => ?_⟩
    obtain ⟨G3, d, e3, s3, hd, r3⟩ := g2 x H3 hy
    refine it i d ρ2 Ω2 hd p σ2 G3 H3 s3 (k.mono (e1.trans (e2.trans e3))) x r3 _ fun σ4 ρ4 G4 Ω4 H4 h4 e4 s4 => ?_
    refine h4 σ4 G4 H4 s4 (k.mono (e1.trans (e2.trans (e3.trans e4)))) _ ⟨fun σ5 ρ5 G5 Ω5 H5 h5 e5 s5 => ?_, fun v it σ5 ρ5 G5 Ω5 H5 h5 e5 s5 r5 => ?_, fun σ5 ρ5 G5 Ω5 H5 h5 e5 s5 => ?_, fun σ5 ρ5 G5 Ω5 H5 h5 e5 s5 => ?_⟩
    · exact ⟨ρ5, G5, Ω5, h5, e2.trans (e3.trans (e4.trans e5)), s5⟩
    · exact ok.rt v it σ5 ρ5 G5 Ω5 H5 h5 (e1.trans (e2.trans (e3.trans (e4.trans e5)))) s5 r5
    · exact ok.nx σ5 ρ5 G5 Ω5 H5 h5 (e1.trans (e2.trans (e3.trans (e4.trans e5)))) s5
    · exact ⟨ρ5, G5, Ω5, h5, e2.trans (e3.trans (e4.trans e5)), s5⟩
  · have e : i = ds.length := by omega
    subst e
    exact .inl ⟨(y _ σ2 ρ2 G2 Ω2 H2 e2 s2).2 (Nat.le_refl _), ok.nx σ2 ρ2 G2 Ω2 H2 (id _ _ p) (e1.trans e2) s2⟩
/-! ### while -/
theorem sx_while {body : List Stmt} (hp : PassesOwn (model X.prog X.w) X.A X.env X.xe) (I : Nat → Ro → Om → Prop) (h0 : ∃ m, I m ρ Ω)
    (h : ∀ m ρ2 Ω2, I m ρ2 Ω2 → TX X W R c ρ2 Ω2 fun t Ω3 => if t = true then BX X W R body ρ2 Ω3 { D with nx := fun ρ4 Ω4 => ∃ m', m' < m ∧ I m' ρ4 Ω4, ct := fun ρ4 Ω4 => ∃ m', m' < m ∧ I m' ρ4 Ω4, bk := D.nx } else D.nx ρ2 Ω3) : SX X W R (.While c body [] pos) ρ Ω D := fun σ G H s k E ok => by
  refine ofS (ps_while (tc := cT X c) (tb := cSs X body) hp pcT pcSs) ?_
  obtain ⟨m0, h0⟩ := h0
  refine ⟨fun m σ2 H2 => ∃ ρ2 G2 Ω2, I m ρ2 Ω2 ∧ Same G G2 ∧ ST X.K σ2 ρ2 G2 Ω2 H2, ⟨m0, ρ, G, Ω, h0, Same.refl _, s⟩, ?_⟩
  rintro m σ2 H2 ⟨ρ2, G2, Ω2, p, e2, s2⟩
  refine h m ρ2 Ω2 p σ2 G2 H2 s2 (k.mono e2) _ fun t G3 H3 Ω3 h3 e3 s3 => ?_
  cases t with
  | true =>
    rw [if_pos rfl] at h3 ⊢
    refine ⟨fun σ' H' => ∃ m', m' < m ∧ ∃ ρ2 G2 Ω2, I m' ρ2 Ω2 ∧ Same G G2 ∧ ST X.K σ' ρ2 G2 Ω2 H', fun σ' H' q => q, ?_⟩
    refine h3 σ2 G3 H3 s3 (k.mono (e2.trans e3)) _ ⟨fun σ5 ρ5 G5 Ω5 H5 h5 e5 s5 => ?_, fun v it σ5 ρ5 G5 Ω5 H5 h5 e5 s5 r5 => ?_, fun σ5 ρ5 G5 Ω5 H5 h5 e5 s5 => ?_, fun σ5 ρ5 G5 Ω5 H5 h5 e5 s5 => ?_⟩
    · obtain ⟨m', hm, h5⟩ := h5
      exact ⟨m', hm, ρ5, G5, Ω5, h5, e2.trans (e3.trans e5), s5⟩
    · exact ok.rt v it σ5 ρ5 G5 Ω5 H5 h5 (e2.trans (e3.trans e5)) s5 r5
    · exact ok.nx σ5 ρ5 G5 Ω5 H5 h5 (e2.trans (e3.trans e5)) s5
    · obtain ⟨m', hm, h5⟩ := h5
      exact ⟨m', hm, ρ5, G5, Ω5, h5, e2.trans (e3.trans e5), s5⟩
  | false =>
    rw [if_neg Bool.false_ne_true] at h3 ⊢
    exact ok.nx σ2 ρ2 G3 Ω3 H3 h3 (e2.trans e3) s3
end

/-! ### a def's promise, over data -/
abbrev SpD := List It → Om → (It → Om → Prop) → (Xn → Om → Prop) → Prop
def spD (K : PySem.W.Frag) (n : Nat) (S : SpD) : Sp := fun vs H Q E => vs.length = n ∧ ∃ its G Ω Qd Rd, Reps K G vs its ∧ ST K [] [] G Ω H ∧ S its Ω Qd Rd ∧ Kont K G Qd Q ∧
  ∀ cls d H' x Ω' G', Rd x Ω' → Same G G' → RepX K G' cls d x → ST K [] [] G' Ω' H' → E cls d H'
/-- what is left at a return: the locals go -/
def Ret (Q : It → Om → Prop) (it : It) (Ω : Om) : Prop := ∃ n, Q it (Ω.drop n)
theorem ret0 {Q : It → Om → Prop} {it : It} {Ω : Om} (h : Q it Ω) : Ret Q it Ω := ⟨0, h⟩
theorem ST.start {K : PySem.W.Frag} {G H : Hp} {Ω : Om} {N : List Str} {vs : List V} {its : List It} (s : ST K [] [] G Ω H) (r : Reps K G vs its) (hl : vs.length ≤ N.length) : ST K (L2.start N vs) (its.map some ++ List.replicate (N.length - its.length) none) G Ω H := by
  refine ⟨s.sub, ?_, fun i it h => ?_, s.own, s.nd⟩
  · unfold L2.start
    rw [List.length_append, List.length_append, List.length_map, List.length_map, List.length_replicate, List.length_replicate, r.length]
  · by_cases hi : i < its.length
    · rw [List.getElem?_append_left (by rw [List.length_map]; exact hi), List.getElem?_map] at h
      cases e : its[i]? with
      | none => rw [e] at h; cases h
      | some x =>
        rw [e] at h
        cases h
        obtain ⟨v, h1, h2⟩ := Reps.get r e
        refine ⟨v, ?_, h2⟩
        unfold L2.start
        rw [List.getElem?_append_left (by rw [List.length_map, r.length]; exact hi), List.getElem?_map, h1]
        rfl
    · rw [List.getElem?_append_right (by rw [List.length_map]; omega), List.getElem?_replicate] at h
      split at h <;> cases h
section
variable {P : Program} {w : World} {K : PySem.W.Frag} {mg : Str → Option Value} {base : Heap}
theorem fnD {x qual : Str} {params : Arguments} {body : List Stmt} {scope : Scope} {dvs : List V} {kws : List (Str × V)} {f : Addr} {fd : FuncData} {N ps : List Str} {k : Nat} {S : SpD} (F : FunD K x qual params body scope dvs kws f fd) (Sc : FnScope N ps scope)
    (hbody : ∀ (cdv : Value) (A : Around) (outer : List Env) (s : Shared) (H : Hp) (E : XK) (its : List It) (Ω : Om) (Qd : It → Om → Prop) (Rd : Xn → Om → Prop), Room k (A.deeper (envOfC qual scope s.heap.objs.size f cdv)) → its.length = ps.length → S its Ω Qd Rd →
      BX (cxOf (L2.CX P w) P w K mg base N qual scope f cdv A outer s H E) (fun cls d _ H => E cls d H) (fun x _ Ω' => ∃ n, Rd x (Ω'.drop n)) body (its.map some ++ List.replicate (N.length - its.length) none) Ω { nx := fun _ Ω' => Ret Qd (.d .none) Ω', rt := Ret Qd }) :
    FnOk P w K mg base (L2.CX P w) (k + 1) f fd ps (spD K ps.length S) := by
  refine F.ok Sc (fun vs H Q E h => h.1) (fun cdv A outer s H vs Q E hr h => ?_)
  obtain ⟨hl, its, G, Ω, Qd, Rd, rp, s0, hS, kq, kx⟩ := h
  have hpl : ps.length ≤ N.length := by have := congrArg List.length Sc.pre; rw [List.length_take] at this; omega
  refine ⟨cSs (cxOf (L2.CX P w) P w K mg base N qual scope f cdv A outer s H E) body, pcSs, ?_⟩
  refine hbody cdv A outer s H E its Ω Qd Rd hr (by rw [← rp.length]; exact hl) hS _ G H (s0.start rp (by rw [hl]; exact hpl)) (fun cls d σ' H' x ρ' Ω' G' e1 hx rx s1 => ?_) _ ⟨fun σ1 ρ1 G1 Ω1 H1 h1 e1 s1 => ?_, fun v it σ1 ρ1 G1 Ω1 H1 h1 e1 s1 r1 => ?_, fun _ _ _ _ _ z => z.elim, fun _ _ _ _ _ z => z.elim⟩
  · obtain ⟨n, hx⟩ := hx
    exact kx cls d H' x _ G' hx e1 rx (s1.bare.drop n)
  · obtain ⟨n, h1⟩ := h1
    exact kq _ G1 H1 _ _ h1 e1 (s1.bare.drop n) .non
  · obtain ⟨n, h1⟩ := h1
    exact kq _ G1 H1 _ _ h1 e1 (s1.bare.drop n) r1
end

/-! ### calls of defs -/
section
variable {X : Cx} {W : WX} {R : RX} {ρ : Ro} {Ω : Om} {Q : It → Om → Prop} {pos p : Pos} {e : Expr} {es : List Expr} {x : Str} {f : Addr} {fd : FuncData} {ps : List Str} {k : Nat} {S : SpD}
/-- f(e, ..): dis the defaults that fill up -/
theorem ex_call {dis : List It} {dvs : List V} {ds : List Value} (tk : Takes X W) (F : FnOk X.prog X.w X.K X.mg X.base (L2.CX X.prog X.w) k f fd ps (spD X.K ps.length S)) (hr : Room k X.A) (hm : X.mg x = some (.ref f)) (hk : PySem.W.keepIn X.K (.ref f) = true) (hb : Binds X.K fd ps ds) (hd : Vals dvs ds) (hdi : ∀ G, Reps X.K G dvs dis)
    (h : AX X W R (e :: es) ρ Ω fun its Ω1 => (its ++ dis).length = ps.length ∧ S (its ++ dis) Ω1 Q fun x Ω2 => R x ρ Ω2) (hg : Gl X x := by rfl)
    (hdb : (x == ("__debug__" : Str)) = false := by decide) (he : starEach (e :: es) X.env = (false, eval e X.env) :: starEach es X.env := by rfl) (hpl : (backTo pos (starEach es X.env)).any (·.1) = false := by rfl) :
    EX X W R (.Call (.Name x p) (e :: es) [] pos) ρ Ω Q := fun σ G H s kx Q' q' => by
  refine ofE (pe_callSD (E := L2.WE W) (t := cA X (e :: es)) F hr hg hm hk hb hd (fun σ => passAt tk σ) pcA hdb he hpl) (h σ G H s kx _ fun vs G1 H1 its Ω1 h1 e1 s1 r1 => ?_)
  have rr : Reps X.K G1 (vs ++ dvs) (its ++ dis) := by
    have app : ∀ {a : List V} {b : List It} {c : List V} {d : List It}, Reps X.K G1 a b → Reps X.K G1 c d → Reps X.K G1 (a ++ c) (b ++ d) := fun {a b c d} h1 h2 => by
      induction h1 with
      | nil => exact h2
      | cons r t ih => exact .cons r ih
    exact app r1 (hdi G1)
  refine ⟨by rw [rr.length]; exact h1.1, its ++ dis, G1, Ω1, Q, _, rr, s1.bare, h1.2, fun v3 G3 H3 it3 Ω3 q3 e3 s3 r3 => q' v3 G3 H3 it3 Ω3 q3 (e1.trans e3) (s1.with e3 s3) r3, fun cls d H' x Ω' G' hx e2 rx s2 => ?_⟩
  exact kx cls d σ H' x ρ Ω' G' (e1.trans e2) hx rx (s1.with e2 s2)
/-- the same without defaults -/
theorem ex_call1 (tk : Takes X W) (F : FnOk X.prog X.w X.K X.mg X.base (L2.CX X.prog X.w) k f fd ps (spD X.K ps.length S)) (hr : Room k X.A) (hm : X.mg x = some (.ref f)) (hk : PySem.W.keepIn X.K (.ref f) = true) (hb : Binds X.K fd ps [])
    (h : AX X W R (e :: es) ρ Ω fun its Ω1 => its.length = ps.length ∧ S its Ω1 Q fun x Ω2 => R x ρ Ω2) (hg : Gl X x := by rfl)
    (hdb : (x == ("__debug__" : Str)) = false := by decide) (he : starEach (e :: es) X.env = (false, eval e X.env) :: starEach es X.env := by rfl) (hpl : (backTo pos (starEach es X.env)).any (·.1) = false := by rfl) :
    EX X W R (.Call (.Name x p) (e :: es) [] pos) ρ Ω Q :=
  ex_call (dis := []) (dvs := []) tk F hr hm hk hb .nil (fun _ => .nil) (h.imp fun its Ω1 q => by rw [List.append_nil]; exact q) hg hdb he hpl
end

/-! ### comprehensions -/
def wipeR (ρ : Ro) : List Nat → Ro
  | [] => ρ
  | v :: vs => (wipeR ρ vs).set v none
section
variable {X : Cx} {W : WX} {R : RX} {ρ : Ro} {Ω : Om} {Q : It → Om → Prop} {pos : Pos}
theorem ST.wipe {K : PySem.W.Frag} {σ : L2.St} {G H : Hp} (s : ST K σ ρ G Ω H) : ∀ vs : List Nat, ST K (L2.wipe σ vs) (wipeR ρ vs) G Ω H
  | [] => s
  | v :: vs => (ST.wipe s vs).setNone
def cTs (X : Cx) (ifs : List Expr) : TT := fun σ H Q => ∀ pins s, Inv X pins σ H s →
    wpAny (model X.prog X.w) X.A (forIn ifs true fun c r => if r = true then do let ok ← isTrue c X.env (eval c X.env); pure (ForInStep.yield ok) else pure (ForInStep.yield r)) (TP X pins σ Q) X.xe s
def W0 : WX := fun _ _ _ _ => False
def R0 : RX := fun _ _ _ => False
theorem kx0 {X : Cx} {G : Hp} : KX X W0 R0 G := fun _ _ _ _ _ _ _ _ _ z => z.elim
/-- the tests of a clause -/
def TsX (X : Cx) (ifs : List Expr) (ρ : Ro) (Ω : Om) (P : Bool → Om → Prop) : Prop := match ifs with
  | [] => P true Ω
  | [c] => TX X W0 R0 c ρ Ω P
  | _ => False
/-- the same reading in every block of this comprehension -/
def blkE (X : Cx) (scope : Scope) (e : Expr) : TE := fun σ H Q => ∀ (s : Shared) (H0 : Hp) (C : Addr) (cl : List (Str × Addr)) (fp : List Addr), cE (X.blk s H0 scope (compEnvC scope cl C X.env) fp) e σ H Q
def blkT (X : Cx) (scope : Scope) (ifs : List Expr) : TT := fun σ H Q => ∀ (s : Shared) (H0 : Hp) (C : Addr) (cl : List (Str × Addr)) (fp : List Addr), cTs (X.blk s H0 scope (compEnvC scope cl C X.env) fp) ifs σ H Q
theorem blkT_ok {scope : Scope} {ifs : List Expr} {σ : L2.St} {G H : Hp} {P : Bool → Om → Prop} {Q' : Bool → Hp → Prop} (s : ST X.K σ ρ G Ω H)
    (h : ∀ (s : Shared) (H0 : Hp) (C : Addr) (cl : List (Str × Addr)) (fp : List Addr), TsX (X.blk s H0 scope (compEnvC scope cl C X.env) fp) ifs ρ Ω P) (q' : ∀ b G' H' Ω', P b Ω' → Same G G' → ST X.K σ ρ G' Ω' H' → Q' b H') : blkT X scope ifs σ H Q' := fun s1 H0 C cl fp pins s2 I => by
  have h' := h s1 H0 C cl fp
  match ifs, h' with
  | [], h' => exact (pts_nil (X := X.blk s1 H0 scope (compEnvC scope cl C X.env) fp)).run pins s2 σ H Q' I (q' true G H Ω h' (Same.refl _) s)
  | [c], h' => exact (pts_one (X := X.blk s1 H0 scope (compEnvC scope cl C X.env) fp) (t := cT (X.blk s1 H0 scope (compEnvC scope cl C X.env) fp) c) pcT).run pins s2 σ H Q' I (h' σ G H s kx0 Q' q')
  | _ :: _ :: _, h' => exact h'.elim
theorem wipe_set1 (σ : L2.St) (i : Nat) (v : V) : L2.wipe ((L2.wipe σ [i]).set i (some v)) [i] = L2.wipe σ [i] := by
  simp only [L2.wipe, List.set_set]
theorem wipe_set2 (σ : L2.St) {i j : Nat} (hij : i ≠ j) (v w : V) : L2.wipe (((L2.wipe σ [i, j]).set i (some v)).set j (some w)) [i, j] = L2.wipe σ [i, j] := by
  apply List.ext_getElem?
  intro n
  simp only [L2.wipe, List.getElem?_set, List.length_set]
  by_cases h1 : i = n <;> by_cases h2 : j = n <;> simp [h1, h2]
/-- what a comprehension asks: one name as its target -/
def LcX (X : Cx) (scope : Scope) (elt : Expr) (ifs : List Expr) (ρt : PyData → Ro) (ds : List PyData) (Ω : Om) (Q : It → Om → Prop) : Prop :=
  ∀ l, (∀ p ∈ Ω, p.1 ≠ l) → ∃ I : Nat → List It → Om → Prop, I 0 [] Ω ∧
    (∀ i d acc Ω2, ds[i]? = some d → I i acc Ω2 → ∀ (s : Shared) (H0 : Hp) (C : Addr) (cl : List (Str × Addr)) (fp : List Addr),
      TsX (X.blk s H0 scope (compEnvC scope cl C X.env) fp) ifs (ρt d) ((l, .lst acc) :: Ω2) fun b Ω3 => ∃ Ω4, Ω3 = (l, .lst acc) :: Ω4 ∧ if b = true then
        (∀ (s : Shared) (H0 : Hp) (C : Addr) (cl : List (Str × Addr)) (fp : List Addr), EX (X.blk s H0 scope (compEnvC scope cl C X.env) fp) W0 R0 elt (ρt d) ((l, .lst acc) :: Ω4) fun it Ω5 => acc.length < sizeLine ∧ ∃ Ω6, Ω5 = (l, .lst acc) :: Ω6 ∧ I (i + 1) (acc ++ [it]) Ω6)
      else I (i + 1) acc Ω4) ∧ ∀ acc Ω2, I ds.length acc Ω2 → Q (.v (.ref l)) ((l, .lst acc) :: Ω2)
theorem lc_run {scope : Scope} {elt : Expr} {ifs : List Expr} {vs : List Nat} {g : TG} {ρt : PyData → Ro} {σ : L2.St} {G H1 : Hp} {J : L2.It} {ds : List PyData} {Q' : VK}
    (hgt : ∀ σ2 G2 Ω2 H2 x d (Q2 : L2.St → Hp → Prop), ST X.K σ2 (wipeR ρ vs) G2 Ω2 H2 → σ2 = L2.wipe σ vs → Dd G2 x d → (∀ σ3, ST X.K σ3 (ρt d) G2 Ω2 H2 → L2.wipe σ3 vs = L2.wipe σ vs → Q2 σ3 H2) → (∃ (i : Nat), ds[i]? = some d) → g x σ2 H2 Q2)
    (s : ST X.K σ ρ G Ω H1) (y : Yields X.K J G ds) (h : LcX X scope elt ifs ρt ds Ω Q) (q' : Kont X.K G Q Q') :
    ∀ D, H1 D = none → ∃ Wc : Nat → Nat → Hp → Prop, (∃ m, Wc 0 m (upd H1 D (.lst []))) ∧ ∀ i m H, Wc i m H →
  (J.stop i H ∧ Q' (.ref D) H) ∨ (J.go i H ∧ ∃ Nx : Hp → Prop, (∀ H', Nx H' → ∃ m', m' < m ∧ Wc (i + 1) m' H') ∧ ∀ x H', J.yld i H x H' → g x (L2.wipe σ vs) H' fun σ2 H2 => L2.wipe σ2 vs = L2.wipe σ vs ∧ blkT X scope ifs σ2 H2 fun b H3 =>
    if b = true then blkE X scope elt σ2 H3 fun y H4 => ∃ acc, H4 D = some (.lst acc) ∧ acc.length < sizeLine ∧ Nx (upd H4 D (.lst (acc ++ [y]))) else Nx H3) := fun l hl => by
  obtain ⟨I, i0, it, id⟩ := h l (s.fresh hl)
  refine ⟨fun i m H => m = ds.length - i ∧ i ≤ ds.length ∧ ∃ acc G2 Ω2, I i acc Ω2 ∧ Same G G2 ∧ ST X.K [] [] G2 ((l, .lst acc) :: Ω2) H, ⟨_, rfl, Nat.zero_le _, [], G, Ω, i0, Same.refl _, (s.newO (o := .lst []) (oo := .lst []) hl ⟨[], upd_same, .nil⟩).bare⟩, ?_⟩
  rintro i m H ⟨rfl, hi, acc, G2, Ω2, p, e2, s2⟩
  have s2' := (s.with e2 s2).wipe vs
  by_cases hlt : i < ds.length
  · obtain ⟨g1, g2⟩ := (y i _ _ G2 _ H e2 s2').1 hlt
    refine .inr ⟨g1, fun H' => ∃ acc G2 Ω2, I (i + 1) acc Ω2 ∧ Same G G2 ∧ ST X.K [] [] G2 ((l, .lst acc) :: Ω2) H', fun H' q => ⟨_, by omega, rfl, hlt, q⟩, fun x H3 hy => ?_⟩
    obtain ⟨G3, d, e3, s3, hd, r3⟩ := g2 x H3 hy
    refine hgt _ G3 _ H3 x d _ s3 rfl r3 (fun σ3 s4 hw => ⟨hw, ?_⟩) ⟨i, hd⟩
    refine blkT_ok s4 (it i d acc Ω2 hd p) fun b G5 H5 Ω5 h5 e5 s5 => ?_
    obtain ⟨Ω6, rfl, h5⟩ := h5
    cases b with
    | false =>
      rw [if_neg Bool.false_ne_true] at h5 ⊢
      exact ⟨acc, G5, Ω6, h5, e2.trans (e3.trans e5), s5.bare⟩
    | true =>
      rw [if_pos rfl] at h5 ⊢
      intro sb H0 C cl fp
      refine h5 sb H0 C cl fp σ3 G5 H5 s5 kx0 _ fun v G7 H7 it7 Ω7 h7 e7 s7 r7 => ?_
      obtain ⟨hz, Ω8, rfl, h7⟩ := h7
      obtain ⟨⟨ws, w1, w2⟩, w3⟩ := s7.own _ List.mem_cons_self
      refine ⟨ws, w1, by rw [w2.length]; exact hz, acc ++ [it7], G7, Ω8, h7, e2.trans (e3.trans (e5.trans e7)), ?_⟩
      exact (s7.bare.put .here ⟨_, upd_same, Reps.snoc w2 r7⟩)
  · have e : i = ds.length := by omega
    subst e
    exact .inl ⟨(y _ _ _ G2 _ H e2 s2').2 (Nat.le_refl _), q' _ G2 H _ _ (id _ _ p) e2 s2 rfl⟩
theorem ex_lc1 (i : Nat) {N ps : List Str} {sc : Scope} {x : Str} {elt iter : Expr} {ifs : List Expr} {scope : Scope} {px : Pos} (hc : X.calm = true) (Sc : FnScope N ps sc) (h : IX X W R (.Name x px) iter ρ Ω fun ds Ω1 => LcX X scope elt ifs (fun d => (wipeR ρ [i]).set i (some (.d d))) ds Ω1 Q)
    (hXN : X.N = N := by rfl) (hXs : X.env.scope = sc := by rfl) (hi : X.N[i]? = some x := by rfl) (ok : blkC N sc scope [(x, i)] = true := by decide +kernel) (hx : ∀ (s : Shared) (H : Hp) (C : Addr) (cl : List (Str × Addr)) (fp : List Addr), Loc (X.blk s H scope (compEnvC scope cl C X.env) fp).env.scope x := by first | exact fun _ _ _ _ _ => .inl rfl | exact fun _ _ _ _ _ => .inr rfl)
    (hf : ∀ (s : Shared) (H : Hp) (C : Addr) (cl : List (Str × Addr)) (fp : List Addr), (X.blk s H scope (compEnvC scope cl C X.env) fp).fn x = true ∨ (X.blk s H scope (compEnvC scope cl C X.env) fp).env.scope.names.lookup x = some .local := by first | exact fun _ _ _ _ _ => .inr rfl | exact fun _ _ _ _ _ => .inl rfl)
    (hs : ∀ x, foldedSetIterable iter X.env x = pure x := by intro _; rfl) : EX X W R (.ListComp elt [⟨.Name x px, iter, ifs, 0⟩] scope pos) ρ Ω Q := fun σ G H s k Q' q' => by
  have hN : X.N.Nodup := by rw [hXN]; exact Sc.nd
  rw [← hXN, ← hXs] at ok
  refine ofE (pe_lc (own := [(x, i)]) (wi := cPI X (.Name x px) iter) (g := gName i) (tt := blkT X scope ifs) (te := blkE X scope elt) hc hN pcPI (blkOk_by ok) (fun s H C cl fp => pg_name hN hi (hx s H C cl fp) (hf s H C cl fp))
    (fun s H C cl fp => ⟨fun pins s' σ H Q I h => h s _ C cl fp pins s' I⟩) (fun s H C cl fp => ⟨fun pins s' σ H Q I h => h s _ C cl fp pins s' I⟩) hs) ?_
  refine h σ G H s k _ fun J G1 H1 ds Ω1 h1 e1 s1 y => ?_
  refine lc_run (vs := [i]) (ρ := ρ) (fun σ2 G2 Ω2 H2 x d Q2 t2 e2 r2 q2 _ => ?_) s1 y h1 (fun v G' H' it Ω' q e2 s2 r2 => q' v G' H' it Ω' q (e1.trans e2) (s1.with e2 s2) r2)
  subst e2
  exact q2 _ (t2.set r2) (wipe_set1 σ i x)
theorem ex_lc2 (i j : Nat) {N ps : List Str} {sc : Scope} {x y : Str} {elt iter : Expr} {ifs : List Expr} {scope : Scope} {px py pt : Pos} {n : Nat} (hc : X.calm = true) (Sc : FnScope N ps sc)
    (h : IX X W R (.Tuple [.Name x px, .Name y py] n pt) iter ρ Ω fun ds Ω1 => (∀ d ∈ ds, ∃ a b, d = .tuple [a, b]) ∧ LcX X scope elt ifs (fun d => match d with | .tuple [a, b] => ((wipeR ρ [i, j]).set i (some (.d a))).set j (some (.d b)) | _ => []) ds Ω1 Q)
    (hXN : X.N = N := by rfl) (hXs : X.env.scope = sc := by rfl) (hi : X.N[i]? = some x := by rfl) (hj : X.N[j]? = some y := by rfl) (hij : i ≠ j := by decide) (ok : blkC N sc scope [(x, i), (y, j)] = true := by decide +kernel)
    (hx : ∀ (s : Shared) (H : Hp) (C : Addr) (cl : List (Str × Addr)) (fp : List Addr), Loc (X.blk s H scope (compEnvC scope cl C X.env) fp).env.scope x := by first | exact fun _ _ _ _ _ => .inl rfl | exact fun _ _ _ _ _ => .inr rfl)
    (hf : ∀ (s : Shared) (H : Hp) (C : Addr) (cl : List (Str × Addr)) (fp : List Addr), (X.blk s H scope (compEnvC scope cl C X.env) fp).fn x = true ∨ (X.blk s H scope (compEnvC scope cl C X.env) fp).env.scope.names.lookup x = some .local := by first | exact fun _ _ _ _ _ => .inr rfl | exact fun _ _ _ _ _ => .inl rfl)
    (hx2 : ∀ (s : Shared) (H : Hp) (C : Addr) (cl : List (Str × Addr)) (fp : List Addr), Loc (X.blk s H scope (compEnvC scope cl C X.env) fp).env.scope y := by first | exact fun _ _ _ _ _ => .inl rfl | exact fun _ _ _ _ _ => .inr rfl)
    (hf2 : ∀ (s : Shared) (H : Hp) (C : Addr) (cl : List (Str × Addr)) (fp : List Addr), (X.blk s H scope (compEnvC scope cl C X.env) fp).fn y = true ∨ (X.blk s H scope (compEnvC scope cl C X.env) fp).env.scope.names.lookup y = some .local := by first | exact fun _ _ _ _ _ => .inr rfl | exact fun _ _ _ _ _ => .inl rfl)
    (hs : ∀ x, foldedSetIterable iter X.env x = pure x := by intro _; rfl) : EX X W R (.ListComp elt [⟨.Tuple [.Name x px, .Name y py] n pt, iter, ifs, 0⟩] scope pos) ρ Ω Q := fun σ G H s k Q' q' => by
  have hN : X.N.Nodup := by rw [hXN]; exact Sc.nd
  rw [← hXN, ← hXs] at ok
  refine ofE (pe_lc (own := [(x, i), (y, j)]) (wi := cPI X (.Tuple [.Name x px, .Name y py] n pt) iter) (g := gTup X.K 2 (gCons (gName i) (gCons (gName j) gNil))) (tt := blkT X scope ifs) (te := blkE X scope elt) hc hN pcPI (blkOk_by ok)
    (fun s H C cl fp => pg_tup hc (pgs_cons (pg_name hN hi (hx s H C cl fp) (hf s H C cl fp)) (pgs_cons (pg_name hN hj (hx2 s H C cl fp) (hf2 s H C cl fp)) pgs_nil)))
    (fun s H C cl fp => ⟨fun pins s' σ H Q I h => h s _ C cl fp pins s' I⟩) (fun s H C cl fp => ⟨fun pins s' σ H Q I h => h s _ C cl fp pins s' I⟩) hs) ?_
  refine h σ G H s k _ fun J G1 H1 ds Ω1 h1 e1 s1 yy => ?_
  obtain ⟨hd, h1⟩ := h1
  refine lc_run (vs := [i, j]) (ρ := ρ) (fun σ2 G2 Ω2 H2 x d Q2 t2 e2 r2 q2 hm => ?_) s1 yy h1 (fun v G' H' it Ω' q e2 s2 r2 => q' v G' H' it Ω' q (e1.trans e2) (s1.with e2 s2) r2)
  subst e2
  obtain ⟨m, hm⟩ := hm
  obtain ⟨a, b, rfl⟩ := hd d (List.mem_of_getElem? hm)
  obtain ⟨p, vs, rfl, g1, g2⟩ := dd_seqT (K := X.K) t2 r2
  cases g2 with
  | cons ra g2 =>
    cases g2 with
    | cons rb g2 =>
      cases g2
      exact ⟨p, _, rfl, .inl (.inl g1), rfl, _, _, rfl, _, _, rfl, rfl, q2 _ ((t2.set (it := .d a) ra).set (it := .d b) rb) (wipe_set2 σ hij _ _)⟩
/-- a comprehension of what each item is by itself -/
theorem lcx_pure {scope : Scope} {elt : Expr} {ifs : List Expr} {ρt : PyData → Ro} {α : Type} (xs : List α) (inj : α → PyData) (t : α → Bool) (f : α → PyData) {ds : List PyData} (hds : ds = xs.map inj) (hz : xs.length ≤ sizeLine)
    (ht : ∀ a ∈ xs, ∀ p (s : Shared) (H0 : Hp) (C : Addr) (cl : List (Str × Addr)) (fp : List Addr), TsX (X.blk s H0 scope (compEnvC scope cl C X.env) fp) ifs (ρt (inj a)) (p :: Ω) fun b Ω3 => Ω3 = p :: Ω ∧ b = t a)
    (he : ∀ a ∈ xs, t a = true → ∀ p (s : Shared) (H0 : Hp) (C : Addr) (cl : List (Str × Addr)) (fp : List Addr), EX (X.blk s H0 scope (compEnvC scope cl C X.env) fp) W0 R0 elt (ρt (inj a)) (p :: Ω) fun it Ω5 => Ω5 = p :: Ω ∧ it = .d (f a))
    (q : ∀ l, (∀ p ∈ Ω, p.1 ≠ l) → Q (.v (.ref l)) ((l, .lst (((xs.filter t).map f).map .d)) :: Ω)) : LcX X scope elt ifs ρt ds Ω Q := fun l hl => by
  subst hds
  refine ⟨fun i acc Ω2 => Ω2 = Ω ∧ acc = (((xs.take i).filter t).map f).map .d, ⟨rfl, rfl⟩, ?_, ?_⟩
  · rintro i d acc Ω2 hd ⟨rfl, rfl⟩ s H0 C cl fp
    rw [List.getElem?_map] at hd
    cases e : xs[i]? with
    | none => rw [e] at hd; cases hd
    | some a =>
      rw [e] at hd
      cases hd
      have ha : a ∈ xs := List.mem_of_getElem? e
      have et : xs.take (i + 1) = xs.take i ++ [a] := by rw [List.take_add_one, e]; rfl
      have len : ((((xs.take i).filter t).map f).map It.d).length < sizeLine := by
        rw [List.length_map, List.length_map]
        have h1 : ((xs.take i).filter t).length ≤ (xs.take i).length := List.length_filter_le _ _
        have h2 : (xs.take i).length ≤ i := by rw [List.length_take]; exact Nat.min_le_left _ _
        have h3 : i < xs.length := (List.getElem?_eq_some_iff.mp e).1
        omega
      have key : ∀ b Ω3, (Ω3 = (l, OO.lst ((((xs.take i).filter t).map f).map .d)) :: Ω2 ∧ b = t a) → ∃ Ω4, Ω3 = (l, .lst ((((xs.take i).filter t).map f).map .d)) :: Ω4 ∧ if b = true then
        (∀ (s : Shared) (H0 : Hp) (C : Addr) (cl : List (Str × Addr)) (fp : List Addr), EX (X.blk s H0 scope (compEnvC scope cl C X.env) fp) W0 R0 elt (ρt (inj a)) ((l, .lst ((((xs.take i).filter t).map f).map .d)) :: Ω4) fun it Ω5 => ((((xs.take i).filter t).map f).map It.d).length < sizeLine ∧ ∃ Ω6, Ω5 = (l, .lst ((((xs.take i).filter t).map f).map .d)) :: Ω6 ∧ Ω6 = Ω2 ∧ (((xs.take i).filter t).map f).map It.d ++ [it] = (((xs.take (i + 1)).filter t).map f).map It.d)
        else Ω4 = Ω2 ∧ (((xs.take i).filter t).map f).map It.d = (((xs.take (i + 1)).filter t).map f).map It.d := fun b Ω3 ⟨e1, e2⟩ => by
        refine ⟨Ω2, e1, ?_⟩
        rw [et, List.filter_append, List.map_append, List.map_append]
        cases b with
        | true =>
          rw [if_pos rfl]
          intro s H0 C cl fp
          refine (he a ha e2.symm _ s H0 C cl fp).imp fun it Ω5 ⟨g1, g2⟩ => ⟨len, Ω2, g1, rfl, ?_⟩
          rw [g2, List.filter_cons_of_pos (by rw [← e2])]
          rfl
        | false =>
          rw [if_neg Bool.false_ne_true]
          refine ⟨rfl, ?_⟩
          rw [List.filter_cons_of_neg (by rw [← e2]; exact Bool.false_ne_true)]
          simp
      have h := ht a ha (l, .lst ((((xs.take i).filter t).map f).map .d)) s H0 C cl fp
      match ifs, h with
      | [], h => exact key _ _ h
      | [c], h => exact TX.imp h key
      | _ :: _ :: _, h => exact h.elim
  · rintro acc Ω2 ⟨rfl, rfl⟩
    rw [List.length_map, List.take_length]
    exact q l hl
/-- the list becomes data -/
theorem LcX.frz {scope : Scope} {elt : Expr} {ifs : List Expr} {ρt : PyData → Ro} {ds : List PyData} (h : LcX X scope elt ifs ρt ds Ω fun it Ω' => Frz it Ω' Q) : LcX X scope elt ifs ρt ds Ω fun it Ω' => Frz it Ω' Q := h
end
end DL

set_option Elab.async false
set_option linter.all false
set_option maxRecDepth 100000
set_option maxHeartbeats 2000000
/-! DLe: what the top has written, a def that may be called, the end of a law. -/
namespace DL
open PySem PySem.Spec PyProof.Rows L2

structure Txt (fa : List He.Fa) (fn : List He.DefD) (K : PySem.W.Frag) (mg : Str → Option Value) : Prop where
  says : He.SaysD fa fn K
  here : ∃ h : Heap, K.In h ∧ h.Ns mainGlobals mg
section
variable {fa : List He.Fa} {fn : List He.DefD} {K : PySem.W.Frag} {mg : Str → Option Value}
theorem Txt.free (T : Txt fa fn K mg) (i : Nat) {x : Str} (h : fa[i]? = some (.free x) := by rfl) : mg x = none := by
  obtain ⟨_, X, G⟩ := T.here
  exact He.free_ok X G (T.says.fact i h)
theorem Txt.glo (T : Txt fa fn K mg) (i : Nat) {x : Str} (h : fa[i]? = some (.glo x) := by rfl) : mg x = some (.ref (He.ga K x)) := by
  obtain ⟨_, X, G⟩ := T.here
  exact He.glo_ok X G (T.says.fact i h)
theorem Txt.int (T : Txt fa fn K mg) (i : Nat) {x : Str} {n : Int} (h : fa[i]? = some (.int x n) := by rfl) : ∃ t, mg x = some (.int n t) := by
  obtain ⟨_, X, G⟩ := T.here
  exact He.int_ok X G (T.says.fact i h)
theorem Txt.str (T : Txt fa fn K mg) (i : Nat) {x z : Str} (h : fa[i]? = some (.str x z) := by rfl) : ∃ t, mg x = some (.str z t) := by
  obtain ⟨_, X, G⟩ := T.here
  exact He.str_ok X G (T.says.fact i h)
end
/-- the module's def x may be called: all parameters written -/
structure Cal (P : Program) (w : World) (K : PySem.W.Frag) (mg : Str → Option Value) (base : Heap) (k : Nat) (x : Str) (ps : List Str) (S : SpD) : Prop where
  ok : ∃ fd, FnOk P w K mg base (L2.CX P w) k (He.ga K x) fd ps (spD K ps.length S) ∧ Binds K fd ps []
  at_ : mg x = some (.ref (He.ga K x))
  kp : PySem.W.keepIn K (.ref (He.ga K x)) = true
theorem Cal.mono {P : Program} {w : World} {K : PySem.W.Frag} {mg : Str → Option Value} {base : Heap} {j k : Nat} {x : Str} {ps : List Str} {S : SpD} (c : Cal P w K mg base j x ps S) (h : j ≤ k) : Cal P w K mg base k x ps S :=
  ⟨let ⟨fd, F, b⟩ := c.ok; ⟨fd, F.mono h, b⟩, c.at_, c.kp⟩
section
variable {X : Cx} {W : WX} {R : RX} {ρ : Ro} {Ω : Om} {Q : It → Om → Prop} {pos p : Pos} {e : Expr} {es : List Expr} {x : Str} {ps : List Str} {k : Nat} {S : SpD}
theorem ex_callC (c : Cal X.prog X.w X.K X.mg X.base k x ps S) (tk : Takes X W) (hr : Room k X.A)
    (h : AX X W R (e :: es) ρ Ω fun its Ω1 => its.length = ps.length ∧ S its Ω1 Q fun x Ω2 => R x ρ Ω2) (hg : Gl X x := by rfl)
    (hdb : (x == ("__debug__" : Str)) = false := by decide) (he : starEach (e :: es) X.env = (false, eval e X.env) :: starEach es X.env := by rfl) (hpl : (backTo pos (starEach es X.env)).any (·.1) = false := by rfl) :
    EX X W R (.Call (.Name x p) (e :: es) [] pos) ρ Ω Q := by
  obtain ⟨fd, F, b⟩ := c.ok
  exact ex_call1 tk F hr c.at_ c.kp b h hg hdb he hpl
end
/-- a def's body does what S says -/
def Body (P : Program) (w : World) (K : PySem.W.Frag) (mg : Str → Option Value) (base : Heap) (k : Nat) (d : He.DefD) (N ps : List Str) (S : SpD) : Prop :=
  ∀ (f : Addr) (cdv : Value) (A : Around) (outer : List Env) (s : Shared) (H : Hp) (E : XK) (its : List It) (Ω : Om) (Qd : It → Om → Prop) (Rd : Xn → Om → Prop), Room k (A.deeper (envOfC d.qual d.scope s.heap.objs.size f cdv)) → its.length = ps.length → S its Ω Qd Rd →
      BX (cxOf (L2.CX P w) P w K mg base N d.qual d.scope f cdv A outer s H E) (fun cls d _ H => E cls d H) (fun x _ Ω' => ∃ n, Rd x (Ω'.drop n)) d.body (its.map some ++ List.replicate (N.length - its.length) none) Ω { nx := fun _ Ω' => Ret Qd (.d .none) Ω', rt := Ret Qd }
/-- a def of the text, all of whose parameters are written at each call -/
theorem mkCal {fa : List He.Fa} {fn : List He.DefD} {P : Program} {w : World} {K : PySem.W.Frag} {mg : Str → Option Value} {base : Heap} {k : Nat} {x : Str} {N ps : List Str} {S : SpD} {d : He.DefD} (T : Txt fa fn K mg) (ig i : Nat)
    (Sc : FnScope N ps d.scope) (hbody : Body P w K mg base k d N ps S)
    (hb : ∀ (kV doc pm : Value) (an : Option Addr) (cdv ct : Value) (us : List Value), us.length = ps.length → bindArgs (PySem.W.fnOf d.name d.qual d.params d.body d.scope .none kV doc pm an cdv ct) ⟨us, []⟩ = pure (ps.zip us))
    (hg : fa[ig]? = some (.glo x) := by rfl) (hd : fn[i]? = some d := by rfl) (ha : d.at_ = (x, none) := by rfl) (h1 : d.dfl = [] := by rfl) (h2 : d.kwd = [] := by rfl) :
    Cal P w K mg base (k + 1) x ps S := by
  obtain ⟨fd, F⟩ := T.says.def_ i hd
  have ef : He.fAd K d.at_ = He.ga K x := by rw [ha]; rfl
  have e1 : d.dvs K = [] := by unfold He.DefD.dvs; rw [h1]; rfl
  have e2 : d.kws K = [] := by unfold He.DefD.kws; rw [h2]; rfl
  rw [ef, e1, e2] at F
  exact ⟨⟨fd, fnD F Sc (hbody _), FunD.bindsN F hb⟩, T.glo ig hg, F.kp⟩
/-- the law's own def -/
theorem mkLaw {fa : List He.Fa} {fn : List He.DefD} {P : Program} {w : World} {K : PySem.W.Frag} {h : Heap} {mg : Str → Option Value} {f : Addr} {k : Nat} {x : Str} {N : List Str} {S : SpD} {d : He.DefD} (X : K.In h) (G : h.Ns mainGlobals mg) (hfa : mg x = some (.ref f)) (c : He.SaysD fa fn K) (ig i : Nat)
    (Sc : FnScope N ["script"] d.scope) (hbody : ∀ base : Heap, K.In base → base.Ns mainGlobals mg → Body P w K mg base k d N ["script"] S)
    (hb : ∀ (kV doc pm : Value) (an : Option Addr) (cdv ct : Value) (us : List Value), us.length = (["script"] : List Str).length → bindArgs (PySem.W.fnOf d.name d.qual d.params d.body d.scope .none kV doc pm an cdv ct) ⟨us, []⟩ = pure ((["script"] : List Str).zip us))
    (hg : fa[ig]? = some (.glo x) := by rfl) (hd : fn[i]? = some d := by rfl) (ha : d.at_ = (x, none) := by rfl) (h1 : d.dfl = [] := by rfl) (h2 : d.kwd = [] := by rfl) :
    ∃ fd : FuncData, (∀ (s : Shared) (v : Value), BindsTo s fd ⟨[v], []⟩ [("script", v)]) ∧ ∀ base : Heap, K.In base → base.Ns mainGlobals mg → FnOk P w K mg base (L2.CX P w) (k + 1) f fd ["script"] (spD K 1 S) := by
  obtain ⟨fd, F⟩ := c.def_ i hd
  have ef : He.fAd K d.at_ = He.ga K x := by rw [ha]; rfl
  have e1 : d.dvs K = [] := by unfold He.DefD.dvs; rw [h1]; rfl
  have e2 : d.kws K = [] := by unfold He.DefD.kws; rw [h2]; rfl
  rw [ef, e1, e2] at F
  have e := hfa.symm.trans (He.glo_ok X G (c.fact ig hg))
  cases e
  exact ⟨fd, fun s v => FunD.bindsA F hb s [v] rfl, fun base kb gb => fnD F Sc (hbody base kb gb _)⟩
/-- the law's promise: its answer is True -/
def spTrue : SpD := fun its Ω Q _ => ∃ ns, its = [.s ns] ∧ ns.length ≤ 63 ∧ Ω = [] ∧ ∀ Ω', Q (.d (.bool true)) Ω'
theorem law_sp {K : PySem.W.Frag} {H : Hp} {a : Addr} {ns : List Int} (hl : ns.length ≤ 63) (hS : SqL K H a (ns.map V.int)) : spD K 1 spTrue [.ref a] H (fun v _ => v = .bl true) fun _ _ _ => False := by
  refine ⟨rfl, [.s ns], H, [], fun it _ => it = .d (.bool true), fun _ _ => False, .cons ⟨a, rfl, hS⟩ .nil, ⟨Same.refl _, rfl, fun i it h => by simp at h, fun p hp => (by cases hp), List.nodup_nil⟩, ⟨ns, rfl, hl, rfl, fun _ => rfl⟩, fun v G' H' it Ω' q _ _ r => ?_, fun _ _ _ _ _ _ z => z.elim⟩
  subst q
  exact rep_bool r
theorem lawCX {P : Program} {w : World} (H : Hp) (s : Shared) (e : Value) (s' : Shared) (h : L2.CX P w [] H s (fun _ _ _ => False) e s') : False := by
  obtain ⟨_, _, _, _, _, _, _, _, _, _, _, _, z⟩ := h
  exact z
end DL
namespace DL
open PySem PySem.Spec PyProof.Rows L2
section
variable {P : Program} {w : World} {K : PySem.W.Frag} {mg : Str → Option Value} {base : Heap} {N : List Str} {qual : Str} {scope : Scope} {f : Addr} {cdv : Value} {A : Around} {outer : List Env} {s : Shared} {H : Hp} {E : XK}
/-- a def's body: what it lets out is wished; a loop in it notes what flies -/
theorem tkB : Takes (cxOf (L2.CX P w) P w K mg base N qual scope f cdv A outer s H E) (fun cls d _ H => E cls d H) := takes_of rfl rfl rfl rfl
theorem hpB : PassesOwn (model P w) (cxOf (L2.CX P w) P w K mg base N qual scope f cdv A outer s H E).A (cxOf (L2.CX P w) P w K mg base N qual scope f cdv A outer s H E).env (cxOf (L2.CX P w) P w K mg base N qual scope f cdv A outer s H E).xe :=
  passes_of rfl
end
end DL
namespace DL
open PySem PySem.Spec PyProof.Rows L2
section
variable {X : Cx} {W : WX} {R : RX} {ρ : Ro} {Ω : Om} {D : DE} {pos : Pos} {c : Expr} {A : List Stmt} {st : Stmt} {sts : List Stmt}
/-- if c: A, nothing else -/
theorem sx_if1 (h : TX X W R c ρ Ω fun t Ω1 => if t = true then BX X W R A ρ Ω1 D else D.nx ρ Ω1) : SX X W R (.If c A [] pos) ρ Ω D :=
  sx_if (h.imp fun t Ω1 q => by
    cases t with
    | true => rw [if_pos rfl] at q ⊢; exact q
    | false => rw [if_neg Bool.false_ne_true] at q ⊢; exact bx_nil q)
/-- an if whose answer is known -/
theorem ifT {b : Bool} {A B : Prop} (hb : b = true) (h : A) : if b = true then A else B := by rw [if_pos hb]; exact h
theorem ifF {b : Bool} {A B : Prop} (hb : b = false) (h : B) : if b = true then A else B := by rw [hb, if_neg Bool.false_ne_true]; exact h
theorem ifB {b : Bool} {A B : Prop} (h1 : b = true → A) (h2 : b = false → B) : if b = true then A else B := by
  cases b with
  | true => rw [if_pos rfl]; exact h1 rfl
  | false => rw [if_neg Bool.false_ne_true]; exact h2 rfl
end
end DL
namespace DL
open PySem PySem.Spec PyProof.Rows L2
section
variable {X : Cx} {W : WX} {R : RX} {ρ : Ro} {Ω : Om} {D : DE} {sts : List Stmt}
theorem bx_len (i : Nat) {d : PyData} (h : ρ[i]? = some (some (.d d))) (q : (∀ ds, d = .tuple ds ∨ d = .list ds → ds.length ≤ sizeLine) → BX X W R sts ρ Ω D) : BX X W R sts ρ Ω D := by
  by_cases h1 : ∃ ds, d = .tuple ds
  · obtain ⟨ds, rfl⟩ := h1
    refine bx_lenT i h fun z => q ?_
    intro ds' e
    obtain e | e := e
    · cases e; exact z
    · cases e
  · by_cases h2 : ∃ ds, d = .list ds
    · obtain ⟨ds, rfl⟩ := h2
      refine bx_lenL i h fun z => q ?_
      intro ds' e
      obtain e | e := e
      · cases e
      · cases e; exact z
    · refine q ?_
      intro ds' e
      obtain e | e := e
      · exact (h1 ⟨_, e⟩).elim
      · exact (h2 ⟨_, e⟩).elim
end
end DL

set_option Elab.async false
set_option linter.all false
set_option maxRecDepth 100000
set_option maxHeartbeats 2000000
/-! DLf: the lots' checks, told plainly. -/
namespace DL
open PySem PySem.Spec PyProof.Rows L2
theorem kk_int : (kitB "NoneType" "int").isSome ∧ (kitB "bool" "int").isSome ∧ (kitB "int" "int").isSome ∧ (kitB "str" "int").isSome ∧ (kitB "list" "int").isSome ∧ (kitB "tuple" "int").isSome := by decide +kernel
theorem kk_bool : (kitB "NoneType" "bool").isSome ∧ (kitB "bool" "bool").isSome ∧ (kitB "int" "bool").isSome ∧ (kitB "str" "bool").isSome ∧ (kitB "list" "bool").isSome ∧ (kitB "tuple" "bool").isSome := by decide +kernel
theorem kk_tuple : (kitB "NoneType" "tuple").isSome ∧ (kitB "bool" "tuple").isSome ∧ (kitB "int" "tuple").isSome ∧ (kitB "str" "tuple").isSome ∧ (kitB "list" "tuple").isSome ∧ (kitB "tuple" "tuple").isSome := by decide +kernel
theorem kk_list : (kitB "NoneType" "list").isSome ∧ (kitB "bool" "list").isSome ∧ (kitB "int" "list").isSome ∧ (kitB "str" "list").isSome ∧ (kitB "list" "list").isSome ∧ (kitB "tuple" "list").isSome := by decide +kernel
theorem kk_str : (kitB "NoneType" "str").isSome ∧ (kitB "bool" "str").isSome ∧ (kitB "int" "str").isSome ∧ (kitB "str" "str").isSome ∧ (kitB "list" "str").isSome ∧ (kitB "tuple" "str").isSome := by decide +kernel
def isIntD : PyData → Bool | .int _ => true | .bool _ => true | _ => false
def isBoolD : PyData → Bool | .bool _ => true | _ => false
def isTupleD : PyData → Bool | .tuple _ => true | _ => false
def isListD : PyData → Bool | .list _ => true | _ => false
def isStrD : PyData → Bool | .str _ => true | _ => false
theorem isa_int (d : PyData) : isa "int" d = isIntD d := by
  cases d with
  | none  => exact (by decide +kernel : (kitB "NoneType" "int").getD false = false)
  | bool b => exact (by decide +kernel : (kitB "bool" "int").getD false = true)
  | int b => exact (by decide +kernel : (kitB "int" "int").getD false = true)
  | str b => exact (by decide +kernel : (kitB "str" "int").getD false = false)
  | list b => exact (by decide +kernel : (kitB "list" "int").getD false = false)
  | tuple b => exact (by decide +kernel : (kitB "tuple" "int").getD false = false)
  | dict b => exact (by decide +kernel : (kitB "dict" "int").getD false = false)
theorem isa_bool (d : PyData) : isa "bool" d = isBoolD d := by
  cases d with
  | none  => exact (by decide +kernel : (kitB "NoneType" "bool").getD false = false)
  | bool b => exact (by decide +kernel : (kitB "bool" "bool").getD false = true)
  | int b => exact (by decide +kernel : (kitB "int" "bool").getD false = false)
  | str b => exact (by decide +kernel : (kitB "str" "bool").getD false = false)
  | list b => exact (by decide +kernel : (kitB "list" "bool").getD false = false)
  | tuple b => exact (by decide +kernel : (kitB "tuple" "bool").getD false = false)
  | dict b => exact (by decide +kernel : (kitB "dict" "bool").getD false = false)
theorem isa_tuple (d : PyData) : isa "tuple" d = isTupleD d := by
  cases d with
  | none  => exact (by decide +kernel : (kitB "NoneType" "tuple").getD false = false)
  | bool b => exact (by decide +kernel : (kitB "bool" "tuple").getD false = false)
  | int b => exact (by decide +kernel : (kitB "int" "tuple").getD false = false)
  | str b => exact (by decide +kernel : (kitB "str" "tuple").getD false = false)
  | list b => exact (by decide +kernel : (kitB "list" "tuple").getD false = false)
  | tuple b => exact (by decide +kernel : (kitB "tuple" "tuple").getD false = true)
  | dict b => exact (by decide +kernel : (kitB "dict" "tuple").getD false = false)
theorem isa_list (d : PyData) : isa "list" d = isListD d := by
  cases d with
  | none  => exact (by decide +kernel : (kitB "NoneType" "list").getD false = false)
  | bool b => exact (by decide +kernel : (kitB "bool" "list").getD false = false)
  | int b => exact (by decide +kernel : (kitB "int" "list").getD false = false)
  | str b => exact (by decide +kernel : (kitB "str" "list").getD false = false)
  | list b => exact (by decide +kernel : (kitB "list" "list").getD false = true)
  | tuple b => exact (by decide +kernel : (kitB "tuple" "list").getD false = false)
  | dict b => exact (by decide +kernel : (kitB "dict" "list").getD false = false)
theorem isa_str (d : PyData) : isa "str" d = isStrD d := by
  cases d with
  | none  => exact (by decide +kernel : (kitB "NoneType" "str").getD false = false)
  | bool b => exact (by decide +kernel : (kitB "bool" "str").getD false = false)
  | int b => exact (by decide +kernel : (kitB "int" "str").getD false = false)
  | str b => exact (by decide +kernel : (kitB "str" "str").getD false = true)
  | list b => exact (by decide +kernel : (kitB "list" "str").getD false = false)
  | tuple b => exact (by decide +kernel : (kitB "tuple" "str").getD false = false)
  | dict b => exact (by decide +kernel : (kitB "dict" "str").getD false = false)
section
variable {X : Cx} {Ω : Om} {Q : It → Om → Prop} {x : It}
theorem isaInt {d : PyData} (w : Vw Ω x d) (q : Q (.d (.bool (isIntD d))) Ω) : CallX X (.builtin "isinstance") [x, .v (.ty "int")] Ω Q := callx_isa w kk_int (by rw [isa_int]; exact q)
theorem isaBool {d : PyData} (w : Vw Ω x d) (q : Q (.d (.bool (isBoolD d))) Ω) : CallX X (.builtin "isinstance") [x, .v (.ty "bool")] Ω Q := callx_isa w kk_bool (by rw [isa_bool]; exact q)
theorem isaTuple {d : PyData} (w : Vw Ω x d) (q : Q (.d (.bool (isTupleD d))) Ω) : CallX X (.builtin "isinstance") [x, .v (.ty "tuple")] Ω Q := callx_isa w kk_tuple (by rw [isa_tuple]; exact q)
theorem isaList {d : PyData} (w : Vw Ω x d) (q : Q (.d (.bool (isListD d))) Ω) : CallX X (.builtin "isinstance") [x, .v (.ty "list")] Ω Q := callx_isa w kk_list (by rw [isa_list]; exact q)
theorem isaStr {d : PyData} (w : Vw Ω x d) (q : Q (.d (.bool (isStrD d))) Ω) : CallX X (.builtin "isinstance") [x, .v (.ty "str")] Ω Q := callx_isa w kk_str (by rw [isa_str]; exact q)
end
/-! ### pure expressions: a value, nothing changed -/
section
variable {X : Cx} {W : WX} {R : RX} {ρ : Ro} {Ω : Om} {Q : It → Om → Prop} {pos : Pos} {a b c e : Expr}
abbrev EV (X : Cx) (W : WX) (R : RX) (e : Expr) (ρ : Ro) (Ω : Om) (z : It) : Prop := EX X W R e ρ Ω fun it Ω' => it = z ∧ Ω' = Ω
theorem EV.to {z : It} (h : EV X W R e ρ Ω z) (q : Q z Ω) : EX X W R e ρ Ω Q := h.imp fun it Ω' ⟨e1, e2⟩ => by rw [e1, e2]; exact q
theorem ev_and {rest : List Expr} {p r : Bool} (h1 : EV X W R a ρ Ω (.d (.bool p))) (h2 : p = true → EV X W R (.BoolOp .And (b :: rest) pos) ρ Ω (.d (.bool r))) : EV X W R (.BoolOp .And (a :: b :: rest) pos) ρ Ω (.d (.bool (p && r))) :=
  ex_and (h1.imp fun it Ω' ⟨e1, e2⟩ => by
    subst e1; subst e2
    refine onB ?_
    cases p with
    | true => rw [if_pos rfl]; exact h2 rfl
    | false => rw [if_neg Bool.false_ne_true]; exact ⟨rfl, rfl⟩)
theorem ev_or {rest : List Expr} {p r : Bool} (h1 : EV X W R a ρ Ω (.d (.bool p))) (h2 : p = false → EV X W R (.BoolOp .Or (b :: rest) pos) ρ Ω (.d (.bool r))) : EV X W R (.BoolOp .Or (a :: b :: rest) pos) ρ Ω (.d (.bool (p || r))) :=
  ex_or (h1.imp fun it Ω' ⟨e1, e2⟩ => by
    subst e1; subst e2
    refine onB ?_
    cases p with
    | false => rw [if_neg Bool.false_ne_true]; exact h2 rfl
    | true => rw [if_pos rfl]; exact ⟨rfl, rfl⟩)
theorem ev_chain {op op' : CmpOp} {p r : Bool} {y : It} (h : EX X W R a ρ Ω fun x Ω1 => EX X W R b ρ Ω1 fun y' Ω2 => y' = y ∧ OpX X (compareOp op) x y Ω2 fun z Ω3 => z = .d (.bool p) ∧ Ω3 = Ω) (h2 : p = true → EX X W R c ρ Ω fun w Ω4 => OpX X (compareOp op') y w Ω4 fun z Ω5 => z = .d (.bool r) ∧ Ω5 = Ω)
    (hm : lastMarks [op, op'] [b, c] = false := by with_unfolding_all rfl) : EV X W R (.Compare a [op, op'] [b, c] pos) ρ Ω (.d (.bool (p && r))) := by
  refine ex_chain (h.imp fun x Ω1 h1 => h1.imp fun y' Ω2 ⟨e1, h3⟩ => ?_) hm
  subst e1
  intro G H s vx vy rx ry Q' q'
  refine h3 G H s vx vy rx ry Q' fun v G' H' it Ω' ⟨g1, g2⟩ e' s' r' => q' v G' H' it Ω' ?_ e' s' r'
  subst g1; subst g2
  refine onB ?_
  cases p with
  | true => rw [if_pos rfl]; exact h2 rfl
  | false => rw [if_neg Bool.false_ne_true]; exact ⟨rfl, rfl⟩
end
end DL
namespace DL
open PySem PySem.Spec PyProof.Rows L2
/-! ### slices -/
theorem cutL_from {α : Type} (xs : List α) (k : Nat) : cutL xs (some (k : Int)) none = xs.drop k := by
  unfold cutL
  rw [HT.sIx_nat, HT.sIx_none]
  by_cases h : k ≤ xs.length
  · rw [Nat.min_eq_left h]
    exact List.take_of_length_le (by rw [List.length_drop]; exact Nat.le_refl _)
  · rw [Nat.min_eq_right (by omega), Nat.sub_self, List.take_zero, List.drop_eq_nil_of_le (by omega)]
theorem cutL_to {α : Type} (xs : List α) (k : Nat) : cutL xs none (some (k : Int)) = xs.take k := by
  unfold cutL
  rw [HT.sIx_nat, HT.sIx_none, List.drop_zero, Nat.sub_zero]
  by_cases h : k ≤ xs.length
  · rw [Nat.min_eq_left h]
  · rw [Nat.min_eq_right (by omega), List.take_length, List.take_of_length_le (by omega)]
theorem cutL_fromI {α : Type} (xs : List α) {i : Int} (h : 0 ≤ i) : cutL xs (some i) none = xs.drop i.toNat := by
  have e : i = (i.toNat : Int) := by omega
  rw [e]; exact cutL_from xs _
theorem cutL_toI {α : Type} (xs : List α) {i : Int} (h : 0 ≤ i) : cutL xs none (some i) = xs.take i.toNat := by
  have e : i = (i.toNat : Int) := by omega
  rw [e]; exact cutL_to xs _
/-! ### items -/
theorem atI_nat' {α : Type} {xs : List α} {i : Int} {x : α} (h0 : 0 ≤ i) (h : xs[i.toNat]? = some x) : atI xs i = some x := by
  unfold atI ixN
  have hl : i.toNat < xs.length := (List.getElem?_eq_some_iff.mp h).1
  rw [if_pos h0, if_pos (by omega)]
  exact h
theorem atI_last' {α : Type} {xs : List α} {x : α} (h : xs[xs.length - 1]? = some x) : atI xs (-1) = some x := by
  unfold atI ixN
  have hl : xs.length - 1 < xs.length := (List.getElem?_eq_some_iff.mp h).1
  rw [if_neg (by omega), if_pos (by omega)]
  have e : ((-1 : Int) + (xs.length : Int)).toNat = xs.length - 1 := by omega
  show xs[((-1 : Int) + (xs.length : Int)).toNat]? = some x
  rw [e]; exact h
end DL
namespace DL
open PySem PySem.Spec PyProof.Rows L2
section
variable {X : Cx} {W : WX} {R : RX} {ρ : Ro} {Ω : Om} {Q : It → Om → Prop} {scope : Scope} {elt c : Expr} {ρt : PyData → Ro} {α β : Type}
/-- [e for x in xs]: data -/
theorem lcx_map (xs : List α) (inj : α → PyData) (g : α → β) (emb : β → PyData) {ds : List PyData} (hds : ds = xs.map inj) (hz : xs.length ≤ sizeLine)
    (he : ∀ a ∈ xs, ∀ p (s : Shared) (H0 : Hp) (C : Addr) (cl : List (Str × Addr)) (fp : List Addr), EX (X.blk s H0 scope (compEnvC scope cl C X.env) fp) W0 R0 elt (ρt (inj a)) (p :: Ω) fun it Ω5 => Ω5 = p :: Ω ∧ it = .d (emb (g a)))
    (q : Q (.d (.list ((xs.map g).map emb))) Ω) : LcX X scope elt [] ρt ds Ω fun it Ω' => Frz it Ω' Q :=
  lcx_pure xs inj (fun _ => true) (fun a => emb (g a)) hds hz (fun _ _ _ _ _ _ _ _ => ⟨rfl, rfl⟩) (fun a ha _ => he a ha) fun l hl => ⟨l, (xs.map g).map emb, Ω, rfl, by
    rw [List.filter_eq_self.mpr (fun _ _ => rfl), List.map_map, List.map_map, List.map_map]; rfl, q⟩
/-- [e for x in xs if c] -/
theorem lcx_filt (xs : List α) (inj : α → PyData) (t : α → Bool) (g : α → β) (emb : β → PyData) {ds : List PyData} (hds : ds = xs.map inj) (hz : xs.length ≤ sizeLine)
    (ht : ∀ a ∈ xs, ∀ p (s : Shared) (H0 : Hp) (C : Addr) (cl : List (Str × Addr)) (fp : List Addr), TX (X.blk s H0 scope (compEnvC scope cl C X.env) fp) W0 R0 c (ρt (inj a)) (p :: Ω) fun b Ω3 => Ω3 = p :: Ω ∧ b = t a)
    (he : ∀ a ∈ xs, t a = true → ∀ p (s : Shared) (H0 : Hp) (C : Addr) (cl : List (Str × Addr)) (fp : List Addr), EX (X.blk s H0 scope (compEnvC scope cl C X.env) fp) W0 R0 elt (ρt (inj a)) (p :: Ω) fun it Ω5 => Ω5 = p :: Ω ∧ it = .d (emb (g a)))
    (q : Q (.d (.list (((xs.filter t).map g).map emb))) Ω) : LcX X scope elt [c] ρt ds Ω fun it Ω' => Frz it Ω' Q :=
  lcx_pure xs inj t (fun a => emb (g a)) hds hz ht he fun l hl => ⟨l, ((xs.filter t).map g).map emb, Ω, rfl, by
    rw [List.map_map, List.map_map, List.map_map]; rfl, q⟩
end
/-- block contexts let nothing out -/
theorem takes0' {X : Cx} : Takes X W0 := takes0
end DL

set_option Elab.async false
set_option linter.all false
set_option maxRecDepth 100000
set_option maxHeartbeats 2000000
/-! DLg: instances, dicts with tuples of ints as keys. -/
namespace DL
open PySem PySem.Spec PyProof.Rows L2
section
variable {K : PySem.W.Frag} {σ : L2.St} {ρ : Ro} {G H : Hp} {Ω : Om}
/-- an object that nobody of ours looks at -/
theorem ST.junk {p : Addr} {o : HO} (s : ST K σ ρ G Ω H) (hp : H p = none) : ST K σ ρ G Ω (upd H p o) := by
  have gp : G p = none := s.sub.free hp
  refine ⟨fun b x q => ?_, s.len, s.slot, fun q hq => ?_, s.nd⟩
  · rw [upd_ne (ne_of_none q gp)]; exact s.sub _ _ q
  · obtain ⟨r, n⟩ := s.own q hq
    have ne : q.1 ≠ p := fun z => r.some (by rw [z]; exact hp)
    exact ⟨r.heap fun o' h => by rw [upd_ne ne]; exact h, n⟩
end
/-! ### a method that may be called -/
structure MCal (P : Program) (w : World) (K : PySem.W.Frag) (mg : Str → Option Value) (base : Heap) (k : Nat) (C : Addr) (m : Str) (ps : List Str) (S : SpD) : Prop where
  ok : ∃ f fd, FnOk P w K mg base (L2.CX P w) k f fd ps (spD K ps.length S) ∧ Binds K fd ps [] ∧ Meth K C m f
  cls : Cls K C
theorem MCal.mono {P : Program} {w : World} {K : PySem.W.Frag} {mg : Str → Option Value} {base : Heap} {j k : Nat} {C : Addr} {m : Str} {ps : List Str} {S : SpD} (c : MCal P w K mg base j C m ps S) (h : j ≤ k) : MCal P w K mg base k C m ps S :=
  ⟨let ⟨f, fd, F, b, M⟩ := c.ok; ⟨f, fd, F.mono h, b, M⟩, c.cls⟩
/-- a class that may be called -/
structure KCal (P : Program) (w : World) (K : PySem.W.Frag) (mg : Str → Option Value) (base : Heap) (k : Nat) (x : Str) (ps : List Str) (S : SpD) : Prop where
  ok : ∃ f fd, FnOk P w K mg base (L2.CX P w) k f fd ps (spD K ps.length S) ∧ Binds K fd ps [] ∧ Mk K (He.ga K x) f
  at_ : mg x = some (.ref (He.ga K x))
section
variable {fa : List He.Fa} {fn : List He.DefD} {P : Program} {w : World} {K : PySem.W.Frag} {mg : Str → Option Value} {base : Heap} {k : Nat} {N ps : List Str} {S : SpD} {d : He.DefD}
theorem mkFn (T : Txt fa fn K mg) (i : Nat) (Sc : FnScope N ps d.scope) (hbody : Body P w K mg base k d N ps S)
    (hb : ∀ (kV doc pm : Value) (an : Option Addr) (cdv ct : Value) (us : List Value), us.length = ps.length → bindArgs (PySem.W.fnOf d.name d.qual d.params d.body d.scope .none kV doc pm an cdv ct) ⟨us, []⟩ = pure (ps.zip us))
    (hd : fn[i]? = some d) (h1 : d.dfl = []) (h2 : d.kwd = []) :
    ∃ fd, FnOk P w K mg base (L2.CX P w) (k + 1) (He.fAd K d.at_) fd ps (spD K ps.length S) ∧ Binds K fd ps [] := by
  obtain ⟨fd, F⟩ := T.says.def_ i hd
  have e1 : d.dvs K = [] := by unfold He.DefD.dvs; rw [h1]; rfl
  have e2 : d.kws K = [] := by unfold He.DefD.kws; rw [h2]; rfl
  rw [e1, e2] at F
  exact ⟨fd, fnD F Sc (hbody _), FunD.bindsN F hb⟩
theorem mkMCal {c m : Str} (T : Txt fa fn K mg) (ic im i : Nat) (Sc : FnScope N ps d.scope) (hbody : Body P w K mg base k d N ps S)
    (hb : ∀ (kV doc pm : Value) (an : Option Addr) (cdv ct : Value) (us : List Value), us.length = ps.length → bindArgs (PySem.W.fnOf d.name d.qual d.params d.body d.scope .none kV doc pm an cdv ct) ⟨us, []⟩ = pure (ps.zip us))
    (hc : fa[ic]? = some (.cls c) := by rfl) (hm : fa[im]? = some (.meth c m) := by rfl) (hd : fn[i]? = some d := by rfl) (ha : d.at_ = (c, some m) := by rfl) (h1 : d.dfl = [] := by rfl) (h2 : d.kwd = [] := by rfl) :
    MCal P w K mg base (k + 1) (He.ga K c) m ps S := by
  obtain ⟨fd, F, b⟩ := mkFn T i Sc hbody hb hd h1 h2
  have ef : He.fAd K d.at_ = He.ma K (He.ga K c) m := by rw [ha]; rfl
  rw [ef] at F
  exact ⟨⟨_, fd, F, b, He.meth_ok (T.says.fact im hm)⟩, He.cls_ok (T.says.fact ic hc)⟩
theorem mkKCal {c : Str} (T : Txt fa fn K mg) (ig im i : Nat) (Sc : FnScope N ps d.scope) (hbody : Body P w K mg base k d N ps S)
    (hb : ∀ (kV doc pm : Value) (an : Option Addr) (cdv ct : Value) (us : List Value), us.length = ps.length → bindArgs (PySem.W.fnOf d.name d.qual d.params d.body d.scope .none kV doc pm an cdv ct) ⟨us, []⟩ = pure (ps.zip us))
    (hg : fa[ig]? = some (.glo c) := by rfl) (hm : fa[im]? = some (.mkr c) := by rfl) (hd : fn[i]? = some d := by rfl) (ha : d.at_ = (c, some ("__init__" : Str)) := by rfl) (h1 : d.dfl = [] := by rfl) (h2 : d.kwd = [] := by rfl) :
    KCal P w K mg base (k + 1) c ps S := by
  obtain ⟨fd, F, b⟩ := mkFn T i Sc hbody hb hd h1 h2
  have ef : He.fAd K d.at_ = He.ma K (He.ga K c) "__init__" := by rw [ha]; rfl
  rw [ef] at F
  exact ⟨⟨_, fd, F, b, He.mkr_ok (T.says.fact im hm)⟩, T.glo ig hg⟩
theorem Txt.cls (T : Txt fa fn K mg) (i : Nat) {c : Str} (h : fa[i]? = some (.cls c) := by rfl) : Cls K (He.ga K c) := He.cls_ok (T.says.fact i h)
theorem Txt.noat (T : Txt fa fn K mg) (i : Nat) {c f : Str} (h : fa[i]? = some (.noat c f) := by rfl) : NoAttr K (He.ga K c) f := He.noat_ok (T.says.fact i h)
end
/-! ### fields -/
def getI {κ : Type} [DecidableEq κ] (kvs : List (κ × It)) (k : κ) : Option It := (kvs.find? fun kv => decide (kv.1 = k)).map (·.2)
def putI {κ : Type} [DecidableEq κ] (kvs : List (κ × It)) (k : κ) (v : It) : List (κ × It) :=
  if (kvs.any fun kv => decide (kv.1 = k)) = true then kvs.map fun kv => if kv.1 = k then (kv.1, v) else kv else kvs ++ [(k, v)]
abbrev RK (K : PySem.W.Frag) (G : Hp) (κ : Type) : κ × V → κ × It → Prop := fun p q => p.1 = q.1 ∧ Rep K G p.2 q.2
theorem pair_get {κ : Type} [DecidableEq κ] {K : PySem.W.Frag} {G : Hp} {ws : List (κ × V)} {kvs : List (κ × It)} (h : Paired (RK K G κ) ws kvs) (k : κ) :
    (valV ws k = none ∧ getI kvs k = none) ∨ ∃ v it, valV ws k = some v ∧ getI kvs k = some it ∧ Rep K G v it := by
  induction h with
  | nil => exact .inl ⟨rfl, rfl⟩
  | @cons p q _ _ r _ ih =>
    unfold valV getI
    rw [List.find?_cons, List.find?_cons, r.1]
    by_cases e : q.1 = k
    · rw [decide_eq_true e]
      exact .inr ⟨p.2, q.2, rfl, rfl, r.2⟩
    · rw [decide_eq_false e]
      exact ih
theorem pair_lookup {K : PySem.W.Frag} {G : Hp} {ws : List (Str × V)} {kvs : List (Str × It)} (h : Paired (RK K G Str) ws kvs) (k : Str) :
    (ws.lookup k = none ∧ kvs.lookup k = none) ∨ ∃ v it, ws.lookup k = some v ∧ kvs.lookup k = some it ∧ Rep K G v it := by
  induction h with
  | nil => exact .inl ⟨rfl, rfl⟩
  | @cons p q _ _ r _ ih =>
    obtain ⟨p1, p2⟩ := p
    obtain ⟨q1, q2⟩ := q
    obtain ⟨e1, r2⟩ := r
    have e1' : p1 = q1 := e1
    subst e1'
    rw [List.lookup_cons, List.lookup_cons]
    cases e : k == p1 with
    | true => exact .inr ⟨p2, q2, rfl, rfl, r2⟩
    | false => exact ih
theorem pair_any {κ : Type} {K : PySem.W.Frag} {G : Hp} {ws : List (κ × V)} {kvs : List (κ × It)} (h : Paired (RK K G κ) ws kvs) (t : κ → Bool) : (ws.any fun kv => t kv.1) = kvs.any fun kv => t kv.1 := by
  induction h with
  | nil => rfl
  | cons r _ ih => rw [List.any_cons, List.any_cons, ih, r.1]
theorem pair_app {α β : Type} {R : α → β → Prop} {a c : List α} {b d : List β} (h1 : Paired R a b) (h2 : Paired R c d) : Paired R (a ++ c) (b ++ d) := by
  induction h1 with
  | nil => exact h2
  | cons r _ ih => exact .cons r ih
theorem pair_put {κ : Type} [DecidableEq κ] {K : PySem.W.Frag} {G : Hp} {ws : List (κ × V)} {kvs : List (κ × It)} (h : Paired (RK K G κ) ws kvs) (k : κ) {v : V} {it : It} (r : Rep K G v it) :
    Paired (RK K G κ) (putK ws k v) (putI kvs k it) := by
  unfold putK putI
  rw [pair_any h (fun x => decide (x = k))]
  by_cases e : (kvs.any fun kv => decide (kv.1 = k)) = true
  · rw [if_pos e, if_pos e]
    clear e
    induction h with
    | nil => exact .nil
    | @cons p q _ _ r1 _ ih =>
      refine .cons ?_ ih
      obtain ⟨e1, e2⟩ := r1
      show RK K G κ (if p.1 = k then (p.1, v) else p) (if q.1 = k then (q.1, it) else q)
      by_cases e : q.1 = k
      · rw [if_pos (e1.trans e), if_pos e]
        exact ⟨e1, r⟩
      · rw [if_neg (fun z => e (e1.symm.trans z)), if_neg e]
        exact ⟨e1, e2⟩
  · rw [if_neg e, if_neg e]
    exact pair_app h (.cons ⟨rfl, r⟩ .nil)
def putFI (f : Str) (v : It) : List (Str × It) → List (Str × It)
  | [] => [(f, v)]
  | (g, u) :: r => if g = f then (g, v) :: r else (g, u) :: putFI f v r
theorem pair_putF {K : PySem.W.Frag} {G : Hp} {ws : List (Str × V)} {fs : List (Str × It)} (h : Paired (RK K G Str) ws fs) (f : Str) {v : V} {it : It} (r : Rep K G v it) :
    Paired (RK K G Str) (putF f v ws) (putFI f it fs) := by
  induction h with
  | nil => exact .cons ⟨rfl, r⟩ .nil
  | @cons p q _ _ r1 _ ih =>
    obtain ⟨p1, p2⟩ := p
    obtain ⟨q1, q2⟩ := q
    obtain ⟨e1, r2⟩ := r1
    have e1' : p1 = q1 := e1
    subst e1'
    by_cases e : p1 = f
    · simp only [putF, putFI, if_pos e]
      exact .cons ⟨rfl, r⟩ (by assumption)
    · simp only [putF, putFI, if_neg e]
      exact .cons ⟨rfl, r2⟩ ih
theorem passF {P : Program} {w : World} {X : Cx} : Passes (L2.CX P w) X fun _ _ _ => False := fun _ _ _ _ _ _ _ h => by
  obtain ⟨_, _, _, _, _, _, _, _, _, _, _, _, z⟩ := h
  exact z.elim
section
variable {X : Cx} {W : WX} {R : RX} {ρ : Ro} {Ω : Om} {Q : It → Om → Prop} {D : DE} {pos p : Pos} {o e i : Expr} {es : List Expr} {x m : Str} {ps : List Str} {k : Nat} {S : SpD} {C : Addr}
/-- o.f -/
theorem ex_fld {f : Str} (h : EX X W R o ρ Ω fun it Ω1 => ∃ a C dx fs up v, it = .v (.ref a) ∧ At Ω1 a (.ins C dx fs) up ∧ Cls X.K C ∧ NoAttr X.K C f ∧ fs.lookup f = some v ∧ Q v Ω1) (hb : attributeBase o f X.env (eval o X.env) = eval o X.env := by rfl) :
    EX X W R (.Attribute o f pos) ρ Ω Q := fun σ G H s kx Q' q' => by
  refine ofE (pe_fld (ta := cE X o) pcE hb) (h σ G H s kx _ fun v G1 H1 it Ω1 h1 e1 s1 r1 => ?_)
  obtain ⟨a, C, dx, fs, up, y, rfl, w, hc, hn, hf, q⟩ := h1
  obtain rfl : v = .ref a := r1
  obtain ⟨ws, g1, g2⟩ := (s1.at w).1
  rcases pair_lookup g2 f with ⟨_, z⟩ | ⟨u, it, l1, l2, r⟩
  · rw [hf] at z; cases z
  · rw [hf] at l2; cases l2
    exact ⟨a, C, dx, ws, u, rfl, g1, hc, hn, l1, q' u G1 H1 _ Ω1 q e1 s1 r⟩
/-- o.f = e -/
theorem sx_fld {f : Str} {pos' : Pos} (h : EX X W R e ρ Ω fun y Ω1 => EX X W R o ρ Ω1 fun it Ω2 => ∃ a C dx fs up, it = .v (.ref a) ∧ At Ω2 a (.ins C dx fs) up ∧ Cls X.K C ∧ NoAttr X.K C f ∧ fs.length < 1000 ∧ D.nx ρ (up (.ins C dx (putFI f y fs))))
    (hw : swapsWith e (some (o.Attribute f pos')) pos.line X.env = pure false := by rfl) : SX X W R (.Assign [o.Attribute f pos'] e pos) ρ Ω D := fun σ G H s kx E ok => by
  refine ofS (ps_fld (ta := cE X o) (tv := cE X e) pcE pcE hw) (h σ G H s kx _ fun v G1 H1 y Ω1 h1 e1 s1 r1 => h1 σ G1 H1 s1 (kx.mono e1) _ fun v2 G2 H2 it Ω2 h2 e2 s2 r2 => ?_)
  obtain ⟨a, C, dx, fs, up, rfl, w, hc, hn, hl, q⟩ := h2
  obtain rfl : v2 = .ref a := r2
  obtain ⟨ws, g1, g2⟩ := (s2.at w).1
  exact ⟨a, C, dx, ws, rfl, g1, hc, hn, by rw [g2.length]; exact hl, ok.nx σ ρ G2 _ _ q (e1.trans e2) (s2.put w ⟨_, upd_same, pair_putF g2 f (Rep.same e2 r1)⟩)⟩
/-- o.m(e ..) -/
theorem ex_meth {apos : Pos} (c : MCal X.prog X.w X.K X.mg X.base k C m ps S) (hr : Room k X.A)
    (h : EX X W R o ρ Ω fun it Ω1 => ∃ a dx fs up, it = .v (.ref a) ∧ At Ω1 a (.ins C dx fs) up ∧ fs.lookup m = none ∧ AX X W R (e :: es) ρ Ω1 fun its Ω2 => (it :: its).length = ps.length ∧ S (it :: its) Ω2 Q fun _ _ => False)
    (h1 : starEach (e :: es) X.env = (false, eval e X.env) :: starEach es X.env := by rfl) (h2 : ((backTo pos (starEach es X.env)).any (·.1)) = false := by rfl)
    (hl : ∀ pl, eval (.Call (.Attribute o m apos) (e :: es) [] pos) X.env = (do
      let ov ← eval o X.env
      standAt apos.atName
      let (f, first) ← holding [ov] (getMethod ov m pl)
      callWith pos f first (backTo pos (starEach (e :: es) X.env)) (backToKw pos (keywordEach [] X.env))) → True := by intros; trivial)
    {pl : Sem Bool} (hq : eval (.Call (.Attribute o m apos) (e :: es) [] pos) X.env = (do
      let ov ← eval o X.env
      standAt apos.atName
      let (f, first) ← holding [ov] (getMethod ov m pl)
      callWith pos f first (backTo pos (starEach (e :: es) X.env)) (backToKw pos (keywordEach [] X.env))) := by rfl) :
    EX X W R (.Call (.Attribute o m apos) (e :: es) [] pos) ρ Ω Q := fun σ G H s kx Q' q' => by
  obtain ⟨f, fd, F, b, M⟩ := c.ok
  refine ofE (pe_meth (ta := cE X o) (t := cA X (e :: es)) (dvs := []) pcE c.cls M F hr b .nil (passF (P := X.prog) (w := X.w)) pcA h1 h2 hq) (h σ G H s kx _ fun v G1 H1 it Ω1 h1 e1 s1 r1 => ?_)
  obtain ⟨a, dx, fs, up, rfl, w, hn, hA⟩ := h1
  obtain rfl : v = .ref a := r1
  obtain ⟨ws, g1, g2⟩ := (s1.at w).1
  refine ⟨a, dx, ws, rfl, g1, ?_, hA σ G1 H1 s1 (kx.mono e1) _ fun vs G2 H2 its Ω2 h2 e2 s2 r2 => ?_⟩
  · rcases pair_lookup g2 m with ⟨z, _⟩ | ⟨u, it, l1, l2, r⟩
    · exact z
    · rw [hn] at l2; cases l2
  rw [List.append_nil]
  have rr : Reps X.K G2 (.ref a :: vs) (.v (.ref a) :: its) := .cons rfl r2
  refine ⟨by rw [rr.length]; exact h2.1, _, G2, Ω2, Q, _, rr, s2.bare, h2.2, fun v3 G3 H3 it3 Ω3 q3 e3 s3 r3 => q' v3 G3 H3 it3 Ω3 q3 (e1.trans (e2.trans e3)) (s2.with e3 s3) r3, fun _ _ _ _ _ _ z _ _ _ => z.elim⟩
/-- o.m() -/
theorem ex_meth0 {apos : Pos} (c : MCal X.prog X.w X.K X.mg X.base k C m ps S) (hr : Room k X.A)
    (h : EX X W R o ρ Ω fun it Ω1 => ∃ a dx fs up, it = .v (.ref a) ∧ At Ω1 a (.ins C dx fs) up ∧ fs.lookup m = none ∧ 1 = ps.length ∧ S [it] Ω1 Q fun _ _ => False)
    {pl : Sem Bool} (hq : eval (.Call (.Attribute o m apos) [] [] pos) X.env = (do
      let ov ← eval o X.env
      standAt apos.atName
      let (f, first) ← holding [ov] (getMethod ov m pl)
      callWith pos f first (backTo pos (starEach [] X.env)) (backToKw pos (keywordEach [] X.env))) := by rfl) :
    EX X W R (.Call (.Attribute o m apos) [] [] pos) ρ Ω Q := fun σ G H s kx Q' q' => by
  obtain ⟨f, fd, F, b, M⟩ := c.ok
  refine ofE (pe_meth0 (ta := cE X o) (dvs := []) pcE c.cls M F hr b .nil (passF (P := X.prog) (w := X.w)) hq) (h σ G H s kx _ fun v G1 H1 it Ω1 h1 e1 s1 r1 => ?_)
  obtain ⟨a, dx, fs, up, rfl, w, hn, hl, hS⟩ := h1
  obtain rfl : v = .ref a := r1
  obtain ⟨ws, g1, g2⟩ := (s1.at w).1
  refine ⟨a, dx, ws, rfl, g1, ?_, ?_⟩
  · rcases pair_lookup g2 m with ⟨z, _⟩ | ⟨u, it, l1, l2, r⟩
    · exact z
    · rw [hn] at l2; cases l2
  have rr : Reps X.K G1 [.ref a] [.v (.ref a)] := .cons rfl .nil
  exact ⟨hl, _, G1, Ω1, Q, _, rr, s1.bare, hS, fun v3 G3 H3 it3 Ω3 q3 e3 s3 r3 => q' v3 G3 H3 it3 Ω3 q3 (e1.trans e3) (s1.with e3 s3) r3, fun _ _ _ _ _ _ z _ _ _ => z.elim⟩
/-- C(e ..) -/
theorem ex_make (c : KCal X.prog X.w X.K X.mg X.base k x ps S) (hr : Room (k + 1) X.A)
    (h : AX X W R (e :: es) ρ Ω fun its Ω1 => its.length + 1 = ps.length ∧ ∀ a dx, (∀ p ∈ Ω1, p.1 ≠ a) → S (.v (.ref a) :: its) ((a, .ins (He.ga X.K x) dx []) :: Ω1) (fun it Ω2 => it = .d .none ∧ Q (.v (.ref a)) Ω2) fun _ _ => False) (hg : Gl X x := by rfl)
    (hdb : (x == ("__debug__" : Str)) = false := by decide) (he : starEach (e :: es) X.env = (false, eval e X.env) :: starEach es X.env := by rfl) (hpl : (backTo pos (starEach es X.env)).any (·.1) = false := by rfl) :
    EX X W R (.Call (.Name x p) (e :: es) [] pos) ρ Ω Q := fun σ G H s kx Q' q' => by
  obtain ⟨f, fd, F, b, M⟩ := c.ok
  refine ofE (pe_make (t := cA X (e :: es)) (dvs := []) M F hr hg c.at_ b .nil (passF (P := X.prog) (w := X.w)) pcA hdb he hpl) (h σ G H s kx _ fun vs G1 H1 its Ω1 h1 e1 s1 r1 => fun a dx ha hdx ne => ?_)
  rw [List.append_nil]
  have s2 := s1.junk (o := .own a) hdx
  have ha2 : upd H1 dx (.own a) a = none := by rw [upd_ne (Ne.symm ne)]; exact ha
  have s3 : ST X.K σ ρ G1 ((a, .ins (He.ga X.K x) dx []) :: Ω1) _ := s2.newO (o := .ins (He.ga X.K x) dx []) ha2 ⟨[], upd_same, .nil⟩
  have rr : Reps X.K G1 (.ref a :: vs) (.v (.ref a) :: its) := .cons rfl r1
  refine ⟨by rw [rr.length]; exact h1.1, _, G1, _, _, _, rr, s3.bare, h1.2 a dx (s1.fresh ha), fun v3 G3 H3 it3 Ω3 q3 e3 s4 r3 => ?_, fun _ _ _ _ _ _ z _ _ _ => z.elim⟩
  obtain ⟨rfl, q⟩ := q3
  refine ⟨?_, q' _ G3 H3 _ Ω3 q (e1.trans e3) (s1.with e3 s4) rfl⟩
  have r3' : Dd G3 v3 .none := r3
  cases r3'; rfl
/-- C() -/
theorem ex_make0 (c : KCal X.prog X.w X.K X.mg X.base k x ps S) (hr : Room (k + 1) X.A)
    (h : 1 = ps.length ∧ ∀ a dx, (∀ p ∈ Ω, p.1 ≠ a) → S [.v (.ref a)] ((a, .ins (He.ga X.K x) dx []) :: Ω) (fun it Ω2 => it = .d .none ∧ Q (.v (.ref a)) Ω2) fun _ _ => False) (hg : Gl X x := by rfl)
    (hdb : (x == ("__debug__" : Str)) = false := by decide) :
    EX X W R (.Call (.Name x p) [] [] pos) ρ Ω Q := fun σ G H s kx Q' q' => by
  obtain ⟨f, fd, F, b, M⟩ := c.ok
  refine ofE (pe_make0 (dvs := []) M F hr hg c.at_ b .nil (passF (P := X.prog) (w := X.w)) hdb) (fun a dx ha hdx ne => ?_)
  have s2 := s.junk (o := .own a) hdx
  have ha2 : upd H dx (.own a) a = none := by rw [upd_ne (Ne.symm ne)]; exact ha
  have s3 : ST X.K σ ρ G ((a, .ins (He.ga X.K x) dx []) :: Ω) _ := s2.newO (o := .ins (He.ga X.K x) dx []) ha2 ⟨[], upd_same, .nil⟩
  have rr : Reps X.K G [.ref a] [.v (.ref a)] := .cons rfl .nil
  refine ⟨h.1, _, G, _, _, _, rr, s3.bare, h.2 a dx (s.fresh ha), fun v3 G3 H3 it3 Ω3 q3 e3 s4 r3 => ?_, fun _ _ _ _ _ _ z _ _ _ => z.elim⟩
  obtain ⟨rfl, q⟩ := q3
  refine ⟨?_, q' _ G3 H3 _ Ω3 q e3 (s.with e3 s4) rfl⟩
  have r3' : Dd G3 v3 .none := r3
  cases r3'; rfl
end
/-! ### dicts with tuples of ints as keys -/
abbrev kI (ns : List Int) : List Key := ns.map Sum.inl
theorem ddI {G : Hp} : ∀ {xs : List V} {ns : List Int}, DdAll G xs (ns.map .int) → xs = (kI ns).map kV
  | _, [], h => by cases h; rfl
  | _, n :: ns, h => by
    cases h with
    | cons h1 h2 => cases h1; rw [ddI h2]; rfl
section
variable {X : Cx} {W : WX} {R : RX} {ρ : Ro} {Ω : Om} {Q : It → Om → Prop} {D : DE} {P : Bool → Om → Prop} {pos p : Pos} {o e i : Expr}
/-- {} with tuples as its keys -/
theorem ex_dnewT (h : ∀ a, (∀ p ∈ Ω, p.1 ≠ a) → Q (.v (.ref a)) ((a, .dT []) :: Ω)) : EX X W R (.Dict [] [] pos) ρ Ω Q := fun σ G H s kx Q' q' =>
  ofE pe_dnewT fun p hp => q' _ G _ _ _ (h p (s.fresh hp)) (Same.refl _) (s.newO hp ⟨[], upd_same, .nil⟩) rfl
/-- x is a dict of ours, y a tuple of ints -/
def DKey (Ω : Om) (x y : It) (kvs : List (List Key × It)) (ns : List Int) (up : OO → Om) : Prop := ∃ a, x = .v (.ref a) ∧ At Ω a (.dT kvs) up ∧ y = .d (.tuple (ns.map .int))
theorem DKey.get {K : PySem.W.Frag} {σ : L2.St} {G G1 H : Hp} {x y : It} {kvs : List (List Key × It)} {ns : List Int} {up : OO → Om} {vx vy : V} (d : DKey Ω x y kvs ns up) (s : ST K σ ρ G Ω H) (rx : Rep K G vx x) (ry : Rep K G vy y) :
    ∃ a ws b, vx = .ref a ∧ vy = .ref b ∧ H a = some (.dT ws) ∧ Paired (RK K G (List Key)) ws kvs ∧ H b = some (.tup ((kI ns).map kV)) ∧ At Ω a (.dT kvs) up := by
  obtain ⟨a, rfl, w, rfl⟩ := d
  obtain rfl : vx = .ref a := rx
  obtain ⟨ws, g1, g2⟩ := (s.at w).1
  have ry' : Dd G vy _ := ry
  cases ry' with
  | tup h1 h2 =>
    rw [ddI h2] at h1
    exact ⟨a, ws, _, rfl, rfl, g1, g2, s.sub _ _ h1, w⟩
theorem tx_din (hu : X.A.units + 1 < cLine) (h : EX X W R i ρ Ω fun y Ω1 => EX X W R o ρ Ω1 fun x Ω2 => ∃ kvs ns up, DKey Ω2 x y kvs ns up ∧ P (getI kvs (kI ns)).isSome Ω2) (hm : behindInMarks .In o = false := by first | exact nomark _ | with_unfolding_all rfl) : TX X W R (.Compare i [.In] [o] pos) ρ Ω P := fun σ G H s kx Q' q' => by
  refine ofT (pt_cmp (pc_din (ty := cE X i) (td := cE X o) hu pcE pcE) hm) (h σ G H s kx _ fun v G1 H1 y Ω1 h1 e1 s1 r1 => h1 σ G1 H1 s1 (kx.mono e1) _ fun v2 G2 H2 x Ω2 h2 e2 s2 r2 => ?_)
  obtain ⟨kvs, ns, up, d, q⟩ := h2
  obtain ⟨a, ws, b, rfl, rfl, g1, g2, g3, w⟩ := d.get (G1 := G2) s2 r2 (Rep.same e2 r1)
  refine ⟨a, _, rfl, DGet.t g1 g3, ?_⟩
  have e : (valV ws (kI ns)).isSome = (getI kvs (kI ns)).isSome := by
    rcases pair_get g2 (kI ns) with ⟨z1, z2⟩ | ⟨u, it, l1, l2, _⟩
    · rw [z1, z2]; rfl
    · rw [l1, l2]; rfl
  rw [e]
  exact ⟨_, rfl, q' _ G2 H2 Ω2 q (e1.trans e2) s2⟩
theorem tx_dnotin (hu : X.A.units + 1 < cLine) (h : EX X W R i ρ Ω fun y Ω1 => EX X W R o ρ Ω1 fun x Ω2 => ∃ kvs ns up, DKey Ω2 x y kvs ns up ∧ P (!(getI kvs (kI ns)).isSome) Ω2) (hm : behindInMarks .NotIn o = false := by first | exact nomark _ | with_unfolding_all rfl) : TX X W R (.Compare i [.NotIn] [o] pos) ρ Ω P := fun σ G H s kx Q' q' => by
  refine ofT (pt_cmp (pc_dnotin (ty := cE X i) (td := cE X o) hu pcE pcE) hm) (h σ G H s kx _ fun v G1 H1 y Ω1 h1 e1 s1 r1 => h1 σ G1 H1 s1 (kx.mono e1) _ fun v2 G2 H2 x Ω2 h2 e2 s2 r2 => ?_)
  obtain ⟨kvs, ns, up, d, q⟩ := h2
  obtain ⟨a, ws, b, rfl, rfl, g1, g2, g3, w⟩ := d.get (G1 := G2) s2 r2 (Rep.same e2 r1)
  refine ⟨a, _, rfl, DGet.t g1 g3, ?_⟩
  have e : (valV ws (kI ns)).isSome = (getI kvs (kI ns)).isSome := by
    rcases pair_get g2 (kI ns) with ⟨z1, z2⟩ | ⟨u, it, l1, l2, _⟩
    · rw [z1, z2]; rfl
    · rw [l1, l2]; rfl
  rw [e]
  exact ⟨_, rfl, q' _ G2 H2 Ω2 q (e1.trans e2) s2⟩
theorem ex_dget (hu : X.A.units + 1 < cLine) (h : EX X W R o ρ Ω fun x Ω1 => EX X W R i ρ Ω1 fun y Ω2 => ∃ kvs ns up it, DKey Ω2 x y kvs ns up ∧ getI kvs (kI ns) = some it ∧ Q it Ω2) (hn : NoSl i := by exact fun _ _ => rfl) : EX X W R (.Subscript o i pos) ρ Ω Q := fun σ G H s kx Q' q' => by
  refine ofE (pe_dget (ty := cE X i) (td := cE X o) hu pcE pcE hn) (h σ G H s kx _ fun v G1 H1 x Ω1 h1 e1 s1 r1 => h1 σ G1 H1 s1 (kx.mono e1) _ fun v2 G2 H2 y Ω2 h2 e2 s2 r2 => ?_)
  obtain ⟨kvs, ns, up, it, d, hi, q⟩ := h2
  obtain ⟨a, ws, b, rfl, rfl, g1, g2, g3, w⟩ := d.get (G1 := G2) s2 (Rep.same e2 r1) r2
  rcases pair_get g2 (kI ns) with ⟨z1, z2⟩ | ⟨u, it2, l1, l2, r⟩
  · rw [hi] at z2; cases z2
  · rw [hi] at l2; cases l2
    exact ⟨a, u, rfl, by rw [← l1]; exact DGet.t g1 g3, q' u G2 H2 _ Ω2 q (e1.trans e2) s2 r⟩
theorem sx_dput {pos' : Pos} (hu : X.A.units + 1 < cLine) (h : EX X W R e ρ Ω fun it Ω1 => EX X W R o ρ Ω1 fun x Ω2 => EX X W R i ρ Ω2 fun y Ω3 => ∃ kvs ns up, DKey Ω3 x y kvs ns up ∧ kvs.length < sizeLine ∧ D.nx ρ (up (.dT (putI kvs (kI ns) it))))
    (hw : swapsWith e (some (.Subscript o i pos')) pos.line X.env = pure false := by rfl) : SX X W R (.Assign [.Subscript o i pos'] e pos) ρ Ω D := fun σ G H s kx E ok => by
  refine ofS (ps_dput (tv := cE X e) (ty := cE X i) (td := cE X o) hu pcE pcE pcE hw) (h σ G H s kx _ fun v0 G0 H0 it Ω0 h0 e0 s0 r0 => h0 σ G0 H0 s0 (kx.mono e0) _ fun v G1 H1 x Ω1 h1 e1 s1 r1 => h1 σ G1 H1 s1 (kx.mono (e0.trans e1)) _ fun v2 G2 H2 y Ω2 h2 e2 s2 r2 => ?_)
  obtain ⟨kvs, ns, up, d, hl, q⟩ := h2
  obtain ⟨a, ws, b, rfl, rfl, g1, g2, g3, w⟩ := d.get (G1 := G2) s2 (Rep.same e2 r1) r2
  refine ⟨a, _, rfl, DPut.t g1 g3 (by rw [g2.length]; exact hl), ?_⟩
  exact ok.nx σ ρ G2 _ _ q (e0.trans (e1.trans e2)) (s2.put w ⟨_, upd_same, pair_put g2 _ (Rep.same (e1.trans e2) r0)⟩)
end
/-! ### list(range(..)) -/
theorem dd_range {G : Hp} (lo hi : Int) : DdAll G (rgV lo hi) (rangeD lo (hi - lo).toNat) := by
  unfold rgV rangeD
  generalize List.range (hi - lo).toNat = l
  induction l with
  | nil => exact .nil
  | cons n l ih => exact .cons (.int _) ih
section
variable {X : Cx} {W : WX} {R : RX} {ρ : Ro} {Ω : Om} {Q : It → Om → Prop} {pos p p2 p3 : Pos} {a b : Expr}
theorem ex_listRg2 (hc : X.calm = true) (hl : X.mg "list" = none) (hm : X.mg "range" = none) (h : EX X W R a ρ Ω fun it Ω1 => OnI it Ω1 fun m Ω1 => EX X W R b ρ Ω1 fun it Ω2 => OnI it Ω2 fun n Ω2 => RgOk m n ∧ Q (.d (.list (rangeD m (n - m).toNat))) Ω2)
    (hg : Gl X "list" := by rfl) (hg2 : Gl X "range" := by rfl)
    (hs : starEach [.Call (.Name "range" p2) [a, b] [] p3] X.env = (false, eval (.Call (.Name "range" p2) [a, b] [] p3) X.env) :: starEach [] X.env := by rfl)
    (hs1 : starEach [a, b] X.env = (false, eval a X.env) :: starEach [b] X.env := by rfl) (hs2 : starEach [b] X.env = (false, eval b X.env) :: starEach [] X.env := by rfl)
    (hs3 : ((backTo p3 (starEach [b] X.env)).any fun (x : Bool × Sem Value) => x.fst) = false := by rfl) :
    EX X W R (.Call (.Name "list" p) [.Call (.Name "range" p2) [a, b] [] p3] [] pos) ρ Ω Q := fun σ G H s kx Q' q' => by
  refine ofE (pe_listRg hc hg hl (prg_2 (ta := cE X a) (tb := cE X b) hg2 hm pcE pcE hs1 hs2 hs3) hs) (h σ G H s kx _ fun v G1 H1 it Ω1 h1 e1 s1 r1 => ?_)
  obtain ⟨m, rfl, h1⟩ := h1
  refine h1 σ G1 H1 s1 (kx.mono e1) _ fun v2 G2 H2 it2 Ω2 h2 e2 s2 r2 => ?_
  obtain ⟨n, rfl, hk, q⟩ := h2
  refine ⟨m, n, rep_int r1, rep_int r2, hk, fun l hl => ?_⟩
  obtain ⟨s3, e3⟩ := s2.lay (o := .lst (rgV m n)) hl
  exact q' _ _ _ _ _ q (e1.trans (e2.trans e3)) s3 (.lst upd_same (dd_range m n))
theorem ex_listRg1 (hc : X.calm = true) (hl : X.mg "list" = none) (hm : X.mg "range" = none) (h : EX X W R a ρ Ω fun it Ω1 => OnI it Ω1 fun n Ω1 => RgOk 0 n ∧ Q (.d (.list (rangeD 0 n.toNat))) Ω1)
    (hg : Gl X "list" := by rfl) (hg2 : Gl X "range" := by rfl)
    (hs : starEach [.Call (.Name "range" p2) [a] [] p3] X.env = (false, eval (.Call (.Name "range" p2) [a] [] p3) X.env) :: starEach [] X.env := by rfl)
    (hs1 : starEach [a] X.env = (false, eval a X.env) :: starEach [] X.env := by rfl) :
    EX X W R (.Call (.Name "list" p) [.Call (.Name "range" p2) [a] [] p3] [] pos) ρ Ω Q := fun σ G H s kx Q' q' => by
  refine ofE (pe_listRg hc hg hl (prg_1 (ta := cE X a) hg2 hm pcE hs1) hs) (h σ G H s kx _ fun v G1 H1 it Ω1 h1 e1 s1 r1 => ?_)
  obtain ⟨n, rfl, hk, q⟩ := h1
  refine ⟨n, rep_int r1, hk, fun l hl => ?_⟩
  obtain ⟨s3, e3⟩ := s1.lay (o := .lst (rgV 0 n)) hl
  refine q' _ _ _ _ _ q (e1.trans e3) s3 (.lst upd_same ?_)
  have z := dd_range (G := upd G1 l (.lst (rgV 0 n))) 0 n
  rw [Int.sub_zero] at z
  exact z
/-- at another place nothing changes -/
theorem At.keep {Ω : Om} {a m : Addr} {o o2 : OO} {up up2 : OO → Om} (h : At Ω a o up) (h2 : At Ω m o2 up2) (ne : a ≠ m) (o' : OO) : ∃ up', At (up2 o') a o up' := by
  induction h2 generalizing o up with
  | here =>
    cases h with
    | here => exact (ne rfl).elim
    | there h => exact ⟨_, .there h⟩
  | there h2 ih =>
    cases h with
    | here => exact ⟨_, .here⟩
    | there h =>
      obtain ⟨up', z⟩ := ih h ne
      exact ⟨_, .there z⟩
theorem At.same : ∀ {Ω : Om} {a : Addr} {o : OO} {up : OO → Om}, At Ω a o up → up o = Ω
  | _, _, _, _, .here => rfl
  | _, _, _, _, .there h => by
    show _ :: _ = _ :: _
    rw [h.same]
end
theorem rangeD_len (lo : Int) (n : Nat) : (rangeD lo n).length = n := by unfold rangeD; rw [List.length_map, List.length_range]
theorem rangeD_get {lo : Int} {n i : Nat} {d : PyData} (h : (rangeD lo n)[i]? = some d) : i < n ∧ d = .int (lo + i) := by
  have hi : i < (rangeD lo n).length := by
    by_cases hi : i < (rangeD lo n).length
    · exact hi
    · rw [List.getElem?_eq_none (by omega)] at h; cases h
  rw [rangeD_len] at hi
  unfold rangeD at h
  rw [List.getElem?_map, List.getElem?_range hi] at h
  exact ⟨hi, (Option.some.inj h).symm⟩
end DL

set_option Elab.async false
set_option linter.all false
set_option maxRecDepth 100000
set_option maxHeartbeats 2000000
/-! DLh: max, min with default=, sorted(.., reverse=True), [::-1], tuple * int -/
namespace DL
open PySem PySem.Spec PyProof.Rows L2
def cCK (X : Cx) (f : Value) (ks : List Str) (xs zs : List V) (H : Hp) (Q : VK) : Prop := ∀ pins s σ us ws, Inv X pins σ H s → Vals xs us → Vals zs ws → wpAny (model X.prog X.w) X.A (call f us (ks.zip ws)) (EP X pins σ Q) X.xe s
theorem hcCK {X : Cx} {f : Value} {ks : List Str} : CallRK X f ks (cCK X f ks) := fun pins s σ H xs zs us ws Q I r1 r2 h => h pins s σ us ws I r1 r2
theorem toCK {X : Cx} {f : Value} {ks : List Str} {r} {xs zs : List V} {H : Hp} {Q : VK} (h : CallRK X f ks r) (q : r xs zs H Q) : cCK X f ks xs zs H Q := fun pins s σ us ws I r1 r2 => h pins s σ H xs zs us ws Q I r1 r2 q
def CallXK (X : Cx) (f : Value) (ks : List Str) (xs zs : List It) (Ω : Om) (Q : It → Om → Prop) : Prop :=
  ∀ G H, ST X.K [] [] G Ω H → ∀ vs ws, Reps X.K G vs xs → Reps X.K G ws zs → ∀ Q' : VK, Kont X.K G Q Q' → cCK X f ks vs ws H Q'
section
variable {X : Cx} {W : WX} {R : RX} {ρ : Ro} {Ω : Om} {Q : It → Om → Prop} {pos : Pos} {e ke : Expr} {es : List Expr}
/-- f(e .., k=ke), f a built-in -/
theorem ex_bltK (id : String) {x kn : Str} {p kp : Pos} (hm : X.mg x = none) (h : AX X W R (e :: es) ρ Ω fun xs Ω1 => EX X W R ke ρ Ω1 fun z Ω2 => CallXK X (.builtin id) [kn] xs [z] Ω2 Q) (hg : Gl X x := by rfl) (hv : bootBuiltins x = some (.builtin id) := by decide +kernel) (hn : x ≠ "__name__" := by decide) (hdb : (x == ("__debug__" : Str)) = false := by decide)
    (h1 : backTo pos (starEach (e :: es) X.env) = (false, eval e X.env) :: backTo pos (starEach es X.env) := by rfl) (h2 : ((backTo pos (starEach (e :: es) X.env)).any fun x => x.1) = false := by rfl)
    (h3 : ((backToKw pos (keywordEach [⟨some kn, ke, kp⟩] X.env)).all fun x => x.1.isSome) = true := by rfl) (h4 : ((backToKw pos (keywordEach [⟨some kn, ke, kp⟩] X.env)).any fun x => x.1.isNone) = false := by rfl)
    (h5 : List.filterMap (fun (x : Option Str × Sem Value) => x.1) (backToKw pos (keywordEach [⟨some kn, ke, kp⟩] X.env)) = [kn] := by rfl) :
    EX X W R (.Call (.Name x p) (e :: es) [⟨some kn, ke, kp⟩] pos) ρ Ω Q := fun σ G H s k Q' q' =>
  ofE (pe_callBK (t := cA X (e :: es)) (tk := tCons (cE X ke) tNil) (ks := [kn]) hcCK hg hm hv pcA (pk_cons pcE pk_nil) hn hdb h1 h2 h3 h4 h5) (h σ G H s k _ fun vs G1 H1 its Ω1 h1 e1 s1 r1 => h1 σ G1 H1 s1 (k.mono e1) _ fun v2 G2 H2 it2 Ω2 h2 e2 s2 r2 =>
    h2 G2 H2 s2.bare vs [v2] (Reps.same e2 r1) (.cons r2 .nil) _ fun v3 G3 H3 it3 Ω3 q3 e3 s3 r3 => q' v3 G3 H3 it3 Ω3 q3 (e1.trans (e2.trans e3)) (s2.with e3 s3) r3)
end
/-! ### max and min of ints -/
theorem reads_ints {h : Heap} : ∀ {us : List Value} {ns : List Int}, Vals (ns.map V.int) us → ReadsAll h us (ns.map .int) []
  | _, [], r => by cases r; exact .nil
  | _, n :: ns, r => by
    cases r with
    | cons r1 r2 =>
      obtain ⟨t, rfl⟩ := r1
      exact .cons (.int n t) (reads_ints r2)
theorem alike_ints (ns : List Int) : PySem.W.AlikeAll (ns.map .int) := by
  refine ⟨fun x hx y hy => ?_, fun x hx => ?_⟩
  · obtain ⟨n, _, rfl⟩ := List.mem_map.mp hx
    obtain ⟨m, _, rfl⟩ := List.mem_map.mp hy
    rfl
  · obtain ⟨n, _, rfl⟩ := List.mem_map.mp hx
    intro z; cases z
theorem depth_ints (ns : List Int) : PyData.depthAll (ns.map .int) = 0 := by
  induction ns with
  | nil => rfl
  | cons n ns ih =>
    show max _ (PyData.depthAll (ns.map .int)) = 0
    rw [ih]
    rfl
theorem vals_getI : ∀ {us : List Value} {ns : List Int} {i : Nat} {v : Value}, Vals (ns.map V.int) us → us[i]? = some v → ∃ n t, v = .int n t
  | _, [], i, v, r, h => by cases r; simp at h
  | _, n :: ns, i, v, r, h => by
    cases r with
    | cons r1 r2 =>
      cases i with
      | zero =>
        obtain ⟨t, rfl⟩ := r1
        have h' : Value.int n t = v := by simpa using h
        exact ⟨n, t, h'.symm⟩
      | succ i => exact vals_getI r2 (by simpa using h)
/-- the greatest, the least; of nothing: d -/
def maxOr (d : Int) : List Int → Int
  | [] => d
  | n :: ns => ns.foldl max n
def minOr (d : Int) : List Int → Int
  | [] => d
  | n :: ns => ns.foldl min n
theorem foldmax_le : ∀ (ns : List Int) (n : Int), n ≤ ns.foldl max n ∧ (∀ y ∈ ns, y ≤ ns.foldl max n) ∧ (ns.foldl max n = n ∨ ns.foldl max n ∈ ns)
  | [], n => ⟨Int.le_refl _, fun y h => (by cases h), .inl rfl⟩
  | m :: ns, n => by
    obtain ⟨h1, h2, h3⟩ := foldmax_le ns (max n m)
    rw [List.foldl_cons]
    refine ⟨by omega, fun y hy => ?_, ?_⟩
    · rcases List.mem_cons.mp hy with rfl | hy
      · omega
      · exact h2 y hy
    · rcases h3 with h3 | h3
      · rw [h3]
        by_cases h : n ≤ m
        · exact .inr (by rw [show max n m = m by omega]; exact List.mem_cons_self)
        · exact .inl (by omega)
      · exact .inr (List.mem_cons_of_mem _ h3)
theorem foldmin_le : ∀ (ns : List Int) (n : Int), ns.foldl min n ≤ n ∧ (∀ y ∈ ns, ns.foldl min n ≤ y) ∧ (ns.foldl min n = n ∨ ns.foldl min n ∈ ns)
  | [], n => ⟨Int.le_refl _, fun y h => (by cases h), .inl rfl⟩
  | m :: ns, n => by
    obtain ⟨h1, h2, h3⟩ := foldmin_le ns (min n m)
    rw [List.foldl_cons]
    refine ⟨by omega, fun y hy => ?_, ?_⟩
    · rcases List.mem_cons.mp hy with rfl | hy
      · omega
      · exact h2 y hy
    · rcases h3 with h3 | h3
      · rw [h3]
        by_cases h : m ≤ n
        · exact .inr (by rw [show min n m = m by omega]; exact List.mem_cons_self)
        · exact .inl (by omega)
      · exact .inr (List.mem_cons_of_mem _ h3)
theorem maxOr_spec {d : Int} {ns : List Int} (h : ns ≠ []) : maxOr d ns ∈ ns ∧ ∀ y ∈ ns, y ≤ maxOr d ns := by
  cases ns with
  | nil => exact (h rfl).elim
  | cons n ns =>
    obtain ⟨h1, h2, h3⟩ := foldmax_le ns n
    refine ⟨?_, fun y hy => ?_⟩
    · rcases h3 with h3 | h3
      · show ns.foldl max n ∈ n :: ns
        rw [h3]; exact List.mem_cons_self
      · exact List.mem_cons_of_mem _ h3
    · rcases List.mem_cons.mp hy with rfl | hy
      · exact h1
      · exact h2 y hy
theorem minOr_spec {d : Int} {ns : List Int} (h : ns ≠ []) : minOr d ns ∈ ns ∧ ∀ y ∈ ns, minOr d ns ≤ y := by
  cases ns with
  | nil => exact (h rfl).elim
  | cons n ns =>
    obtain ⟨h1, h2, h3⟩ := foldmin_le ns n
    refine ⟨?_, fun y hy => ?_⟩
    · rcases h3 with h3 | h3
      · show ns.foldl min n ∈ n :: ns
        rw [h3]; exact List.mem_cons_self
      · exact List.mem_cons_of_mem _ h3
    · rcases List.mem_cons.mp hy with rfl | hy
      · exact h1
      · exact h2 y hy
def rMxT (K : PySem.W.Frag) (g : Int → Int → Int) : List V → Hp → VK → Prop := fun vs H Q => ∃ (a : Addr) (n : Int) (ns : List Int), vs = [.ref a] ∧ SqT K H a ((n :: ns).map V.int) ∧ Q (.int (ns.foldl g n)) H
theorem cr_maxT {X : Cx} (hc : X.calm = true) (hu : X.A.units + 1 < cLine) : CallR X (.builtin "max") (rMxT X.K max) := by
  intro pins s σ H vs us Q I r h
  obtain ⟨a, n, ns, rfl, hs, q⟩ := h
  obtain ⟨its, rv, hl, _⟩ := I.tuple hs
  rw [Vals.ref1 r]
  refine PySem.W.max_tuple_data (x := .int n) (xs := ns.map .int) (I.ok.hd hc) hl (reads_ints (ns := n :: ns) rv) (alike_ints (n :: ns)) ?_ fun i v h' tk bs hv hr hk => ?_
  · show X.A.units + 1 + PyData.depthAll ((n :: ns).map .int) < cLine
    rw [depth_ints]
    exact hu
  · obtain ⟨m, t, rfl⟩ := vals_getI rv (by simpa using hv)
    rw [PySem.W.maxD_ints] at hr
    cases hr
    exact ⟨.int _, H, I.kept hk, ⟨_, rfl⟩, q⟩
theorem cr_minT {X : Cx} (hc : X.calm = true) (hu : X.A.units + 1 < cLine) : CallR X (.builtin "min") (rMxT X.K min) := by
  intro pins s σ H vs us Q I r h
  obtain ⟨a, n, ns, rfl, hs, q⟩ := h
  obtain ⟨its, rv, hl, _⟩ := I.tuple hs
  rw [Vals.ref1 r]
  refine PySem.W.min_tuple_data (x := .int n) (xs := ns.map .int) (I.ok.hd hc) hl (reads_ints (ns := n :: ns) rv) (alike_ints (n :: ns)) ?_ fun i v h' tk bs hv hr hk => ?_
  · show X.A.units + 1 + PyData.depthAll ((n :: ns).map .int) < cLine
    rw [depth_ints]
    exact hu
  · obtain ⟨m, t, rfl⟩ := vals_getI rv (by simpa using hv)
    rw [PySem.W.minD_ints] at hr
    cases hr
    exact ⟨.int _, H, I.kept hk, ⟨_, rfl⟩, q⟩

/-- max(xs, default=d), min(xs, default=d) -/
def rMxDT (K : PySem.W.Frag) (g : Int → List Int → Int) : List V → List V → Hp → VK → Prop := fun vs zs H Q => ∃ (a : Addr) (ns : List Int) (d : Int), vs = [.ref a] ∧ zs = [.int d] ∧ SqT K H a (ns.map V.int) ∧ Q (.int (g d ns)) H
def rMxDL (K : PySem.W.Frag) (g : Int → List Int → Int) : List V → List V → Hp → VK → Prop := fun vs zs H Q => ∃ (a : Addr) (ns : List Int) (d : Int), vs = [.ref a] ∧ zs = [.int d] ∧ SqL K H a (ns.map V.int) ∧ Q (.int (g d ns)) H
theorem vals_one {v : V} {us : List Value} (r : Vals [v] us) : ∃ u, us = [u] ∧ RelV v u := by
  cases r with
  | cons r1 r2 => cases r2; exact ⟨_, rfl, r1⟩
theorem ints_cons {ns : List Int} {y : PyData} {ys : List PyData} (h : ns.map PyData.int = y :: ys) : ∃ n ms, ns = n :: ms ∧ y = .int n ∧ ys = ms.map .int := by
  cases ns with
  | nil => cases h
  | cons n ms =>
    rw [List.map_cons] at h
    cases h
    exact ⟨n, ms, rfl, rfl, rfl⟩
theorem crk_maxT {X : Cx} (hc : X.calm = true) (hu : X.A.units + 1 < cLine) : CallRK X (.builtin "max") ["default"] (rMxDT X.K maxOr) := by
  intro pins s σ H vs zs us ws Q I r r' h
  obtain ⟨a, ns, d, rfl, rfl, hs, q⟩ := h
  obtain ⟨its, rv, hl, _⟩ := I.tuple hs
  rw [Vals.ref1 r]
  obtain ⟨u, rfl, rd⟩ := vals_one r'
  refine PySem.W.max_tuple_default (xs := ns.map .int) (I.ok.hd hc) hl (reads_ints rv) (alike_ints ns) ?_ (fun e h' tk hk => ?_) fun y ys i v h' tk bs he hv hr hk => ?_
  · rw [depth_ints]; exact hu
  · have e' : ns = [] := by simpa using e
    subst e'
    exact ⟨.int d, H, I.kept hk, rd, q⟩
  · obtain ⟨n, ms, rfl, rfl, rfl⟩ := ints_cons he
    obtain ⟨m, t, rfl⟩ := vals_getI rv (by simpa using hv)
    rw [PySem.W.maxD_ints] at hr
    cases hr
    exact ⟨.int _, H, I.kept hk, ⟨_, rfl⟩, q⟩
theorem crk_minT {X : Cx} (hc : X.calm = true) (hu : X.A.units + 1 < cLine) : CallRK X (.builtin "min") ["default"] (rMxDT X.K minOr) := by
  intro pins s σ H vs zs us ws Q I r r' h
  obtain ⟨a, ns, d, rfl, rfl, hs, q⟩ := h
  obtain ⟨its, rv, hl, _⟩ := I.tuple hs
  rw [Vals.ref1 r]
  obtain ⟨u, rfl, rd⟩ := vals_one r'
  refine PySem.W.min_tuple_default (xs := ns.map .int) (I.ok.hd hc) hl (reads_ints rv) (alike_ints ns) ?_ (fun e h' tk hk => ?_) fun y ys i v h' tk bs he hv hr hk => ?_
  · rw [depth_ints]; exact hu
  · have e' : ns = [] := by simpa using e
    subst e'
    exact ⟨.int d, H, I.kept hk, rd, q⟩
  · obtain ⟨n, ms, rfl, rfl, rfl⟩ := ints_cons he
    obtain ⟨m, t, rfl⟩ := vals_getI rv (by simpa using hv)
    rw [PySem.W.minD_ints] at hr
    cases hr
    exact ⟨.int _, H, I.kept hk, ⟨_, rfl⟩, q⟩
theorem crk_maxL {X : Cx} (hc : X.calm = true) (hu : X.A.units + 1 < cLine) : CallRK X (.builtin "max") ["default"] (rMxDL X.K maxOr) := by
  intro pins s σ H vs zs us ws Q I r r' h
  obtain ⟨a, ns, d, rfl, rfl, hs, q⟩ := h
  obtain ⟨its, rv, hl, _⟩ := I.list hs
  rw [Vals.ref1 r]
  obtain ⟨u, rfl, rd⟩ := vals_one r'
  refine PySem.W.max_list_default (xs := ns.map .int) (I.ok.hd hc) hl.isList (reads_ints rv) (alike_ints ns) ?_ (fun e h' tk hk => ?_) fun y ys i v h' tk bs he hv hr hk => ?_
  · rw [depth_ints]; exact hu
  · have e' : ns = [] := by simpa using e
    subst e'
    exact ⟨.int d, H, I.kept hk, rd, q⟩
  · obtain ⟨n, ms, rfl, rfl, rfl⟩ := ints_cons he
    obtain ⟨m, t, rfl⟩ := vals_getI rv (by simpa using hv)
    rw [PySem.W.maxD_ints] at hr
    cases hr
    exact ⟨.int _, H, I.kept hk, ⟨_, rfl⟩, q⟩
theorem crk_minL {X : Cx} (hc : X.calm = true) (hu : X.A.units + 1 < cLine) : CallRK X (.builtin "min") ["default"] (rMxDL X.K minOr) := by
  intro pins s σ H vs zs us ws Q I r r' h
  obtain ⟨a, ns, d, rfl, rfl, hs, q⟩ := h
  obtain ⟨its, rv, hl, _⟩ := I.list hs
  rw [Vals.ref1 r]
  obtain ⟨u, rfl, rd⟩ := vals_one r'
  refine PySem.W.min_list_default (xs := ns.map .int) (I.ok.hd hc) hl.isList (reads_ints rv) (alike_ints ns) ?_ (fun e h' tk hk => ?_) fun y ys i v h' tk bs he hv hr hk => ?_
  · rw [depth_ints]; exact hu
  · have e' : ns = [] := by simpa using e
    subst e'
    exact ⟨.int d, H, I.kept hk, rd, q⟩
  · obtain ⟨n, ms, rfl, rfl, rfl⟩ := ints_cons he
    obtain ⟨m, t, rfl⟩ := vals_getI rv (by simpa using hv)
    rw [PySem.W.minD_ints] at hr
    cases hr
    exact ⟨.int _, H, I.kept hk, ⟨_, rfl⟩, q⟩
section
variable {X : Cx} {Ω : Om} {Q : It → Om → Prop} {x : It} {d : Int} {ns : List Int}
theorem callx_maxT (hc : X.calm = true) (hu : X.A.units + 1 < cLine) (h0 : ns ≠ []) (q : Q (.d (.int (maxOr 0 ns))) Ω) : CallX X (.builtin "max") [.d (.tuple (ns.map .int))] Ω Q := fun G H s vs rs Q' q' => by
  obtain ⟨v, rfl, r⟩ := reps1 rs
  obtain ⟨a, ws, rfl, h1, h2⟩ := dd_seqT s r
  rw [ddAll_ints h2] at h1
  cases ns with
  | nil => exact (h0 rfl).elim
  | cons n ns => exact toC (cr_maxT hc hu) ⟨a, n, ns, rfl, .inl (.inl h1), q' _ G H _ Ω q (Same.refl _) s (.int _)⟩
theorem callx_minT (hc : X.calm = true) (hu : X.A.units + 1 < cLine) (h0 : ns ≠ []) (q : Q (.d (.int (minOr 0 ns))) Ω) : CallX X (.builtin "min") [.d (.tuple (ns.map .int))] Ω Q := fun G H s vs rs Q' q' => by
  obtain ⟨v, rfl, r⟩ := reps1 rs
  obtain ⟨a, ws, rfl, h1, h2⟩ := dd_seqT s r
  rw [ddAll_ints h2] at h1
  cases ns with
  | nil => exact (h0 rfl).elim
  | cons n ns => exact toC (cr_minT hc hu) ⟨a, n, ns, rfl, .inl (.inl h1), q' _ G H _ Ω q (Same.refl _) s (.int _)⟩
theorem callx_maxDT (hc : X.calm = true) (hu : X.A.units + 1 < cLine) (q : Q (.d (.int (maxOr d ns))) Ω) : CallXK X (.builtin "max") ["default"] [.d (.tuple (ns.map .int))] [.d (.int d)] Ω Q := fun G H s vs ws rs rz Q' q' => by
  obtain ⟨v, rfl, r⟩ := reps1 rs
  obtain ⟨w, rfl, r'⟩ := reps1 rz
  obtain ⟨a, xs, rfl, h1, h2⟩ := dd_seqT s r
  rw [ddAll_ints h2] at h1
  rw [rep_int r']
  exact toCK (crk_maxT hc hu) ⟨a, ns, d, rfl, rfl, .inl (.inl h1), q' _ G H _ Ω q (Same.refl _) s (.int _)⟩
theorem callx_minDT (hc : X.calm = true) (hu : X.A.units + 1 < cLine) (q : Q (.d (.int (minOr d ns))) Ω) : CallXK X (.builtin "min") ["default"] [.d (.tuple (ns.map .int))] [.d (.int d)] Ω Q := fun G H s vs ws rs rz Q' q' => by
  obtain ⟨v, rfl, r⟩ := reps1 rs
  obtain ⟨w, rfl, r'⟩ := reps1 rz
  obtain ⟨a, xs, rfl, h1, h2⟩ := dd_seqT s r
  rw [ddAll_ints h2] at h1
  rw [rep_int r']
  exact toCK (crk_minT hc hu) ⟨a, ns, d, rfl, rfl, .inl (.inl h1), q' _ G H _ Ω q (Same.refl _) s (.int _)⟩
theorem callx_maxDL (hc : X.calm = true) (hu : X.A.units + 1 < cLine) (w : Vw Ω x (.list (ns.map .int))) (q : Q (.d (.int (maxOr d ns))) Ω) : CallXK X (.builtin "max") ["default"] [x] [.d (.int d)] Ω Q := fun G H s vs ws rs rz Q' q' => by
  obtain ⟨v, rfl, r⟩ := reps1 rs
  obtain ⟨z, rfl, r'⟩ := reps1 rz
  obtain ⟨a, xs, rfl, h1, h2⟩ := dd_seqL w s r
  rw [ddAll_ints h2] at h1
  rw [rep_int r']
  exact toCK (crk_maxL hc hu) ⟨a, ns, d, rfl, rfl, .inl (.inl h1), q' _ G H _ Ω q (Same.refl _) s (.int _)⟩
theorem callx_minDL (hc : X.calm = true) (hu : X.A.units + 1 < cLine) (w : Vw Ω x (.list (ns.map .int))) (q : Q (.d (.int (minOr d ns))) Ω) : CallXK X (.builtin "min") ["default"] [x] [.d (.int d)] Ω Q := fun G H s vs ws rs rz Q' q' => by
  obtain ⟨v, rfl, r⟩ := reps1 rs
  obtain ⟨z, rfl, r'⟩ := reps1 rz
  obtain ⟨a, xs, rfl, h1, h2⟩ := dd_seqL w s r
  rw [ddAll_ints h2] at h1
  rw [rep_int r']
  exact toCK (crk_minL hc hu) ⟨a, ns, d, rfl, rfl, .inl (.inl h1), q' _ G H _ Ω q (Same.refl _) s (.int _)⟩
/-- (a, ..) * k -/
theorem opx_repT {ds : List PyData} {k : Int} (h0 : ds ≠ []) (h2 : 2 ≤ k) (h3 : k ≤ 1000) (h4 : ds.length ≤ 1000) (q : Q (.d (.tuple (List.replicate k.toNat ds).flatten)) Ω) : OpX X (binaryOp .Mult) (.d (.tuple ds)) (.d (.int k)) Ω Q := fun G H s vx vy rx ry Q' q' => by
  obtain ⟨a, vs, rfl, e1, e2⟩ := dd_seqT s rx
  rw [rep_int ry]
  refine toO op_repT ⟨a, k, vs, rfl, rfl, .inl (.inl e1), fun z => h0 (e2.nil_iff.mp z), h2, h3, by rw [e2.len]; exact h4, fun p hp => ?_⟩
  have hf : ∀ n : Nat, DdAll G (List.replicate n vs).flatten (List.replicate n ds).flatten := fun n => by
    induction n with
    | zero => exact .nil
    | succ n ih =>
      rw [List.replicate_succ, List.replicate_succ, List.flatten_cons, List.flatten_cons]
      exact e2.app ih
  obtain ⟨s2, e3⟩ := s.lay (o := .tup (List.replicate k.toNat vs).flatten) hp
  exact q' _ _ _ _ Ω q e3 s2 (.tup upd_same (Dd.sameAll e3 _ _ (hf _)))
end
section
variable {X : Cx} {W : WX} {R : RX} {ρ : Ro} {Ω : Om} {Q : It → Om → Prop} {pos p1 p2 p3 : Pos} {e : Expr} {k : Nat}
theorem ddAll_rev {G : Hp} : ∀ {vs : List V} {ds : List PyData}, DdAll G vs ds → DdAll G vs.reverse ds.reverse
  | _, _, .nil => .nil
  | _, _, .cons h t => by
    rw [List.reverse_cons, List.reverse_cons]
    exact (ddAll_rev t).app (.cons h .nil)
/-- xs[::-1] -/
theorem ex_rev (h : EX X W R e ρ Ω fun x Ω1 => ∃ ds, Vw Ω1 x (.list ds) ∧ Q (.d (.list ds.reverse)) Ω1) : EX X W R (e.Subscript (.Slice none none (some (.UnaryOp .USub (.Constant (.int 1) k p1) p2)) p3) pos) ρ Ω Q := fun σ G H s kx Q' q' => by
  refine ofE (pe_revL (te := cE X e) pcE) (h σ G H s kx _ fun v G1 H1 it Ω1 h1 e1 s1 r1 => ?_)
  obtain ⟨ds, w, q⟩ := h1
  obtain ⟨a, ws, rfl, g1, g2⟩ := dd_seqL w s1 r1
  refine ⟨a, ws, rfl, .inl (.inl g1), fun l hl => ?_⟩
  have g3 := g2
  obtain ⟨s2, e2⟩ := s1.lay (o := .lst ws.reverse) hl
  exact q' _ _ _ _ _ q (e1.trans e2) s2 (.lst upd_same (Dd.sameAll e2 _ _ (ddAll_rev g3)))
end
end DL
namespace DL
open PySem PySem.Spec PyProof.Rows L2
/-- the way out of the law, whichever the world -/
def CXA (P : Program) : CXT := fun outer H s E u s' => ∃ w, L2.CX P w outer H s E u s'
theorem fnAny {P : Program} {w : World} {K : PySem.W.Frag} {mg : Str → Option Value} {base : Heap} {k : Nat} {f : Addr} {fd : FuncData} {ps : List Str} {sp : Sp} (F : FnOk P w K mg base (L2.CX P w) k f fd ps sp) : FnOk P w K mg base (CXA P) k f fd ps sp :=
  ⟨F.len, fun A outer s H args us vs Q E h1 h2 h3 h4 h5 => codeAny_mono (F.run A outer s H args us vs Q E h1 h2 h3 h4 h5) fun r s' h => by
    match r, h with
    | .ok (.ret u), h => exact h
    | .error e, h => exact ⟨w, h⟩⟩
theorem lawCXA {P : Program} (H : Hp) (s : Shared) (e : Value) (s' : Shared) (h : CXA P [] H s (fun _ _ _ => False) e s') : False := by
  obtain ⟨w, h⟩ := h
  exact lawCX H s e s' h
end DL

set_option Elab.async false
set_option linter.all false
set_option maxRecDepth 100000
set_option maxHeartbeats 2000000
/-! DLi: sorted over lists of tuples, the empty tuple among them. -/
namespace DL
open PySem PySem.Spec PyProof.Rows L2 PySem.W
section
variable {prog : Program} {w : World} {A : Around} {E : Value → Shared → Prop} {s : Shared}
theorem wp_mapM {α β : Type} {M : Model} {f : α → Sem β} (g : α → β) : ∀ (l : List α) {Q : List β → Shared → Prop}, (∀ v ∈ l, ∀ Q' : β → Shared → Prop, Q' (g v) s → wpAny M A (f v) Q' E s) → Q (l.map g) s → wpAny M A (l.mapM f) Q E s
  | [], Q, _, q => by
    rw [List.mapM_nil]
    exact wpAny_pure q
  | a :: l, Q, h, q => by
    rw [List.mapM_cons]
    refine wpAny_bind (h a List.mem_cons_self _ (wpAny_bind (wp_mapM g l (fun v hv => h v (List.mem_cons_of_mem _ hv)) (wpAny_pure ?_))))
    exact q
/-- two tuples of one kind, as list.sort compares them -/
theorem oneLt_tup {xs ys : List PyData} {a b : Value} {as bs : List Addr} {Q : Bool → Shared → Prop} (ra : Reads s.heap a (.tuple xs) as) (rb : Reads s.heap b (.tuple ys) bs)
    (hal : W.alikeAll xs ys = true) (hu : A.units + 1 + min (PyData.depthAll xs) (PyData.depthAll ys) < cLine) (q : Q (dataLt (.tuple xs) (.tuple ys)) s) : wpAny (model prog w) A (oneLt' true a b) Q E s := by
  cases ra with
  | @tuple x ox vs n _ _ h1 h2 h3 h4 =>
    cases rb with
    | @tuple y oy ws k _ _ g1 g2 g3 g4 =>
      rw [oneLt'_eq, if_pos rfl]
      refine wpAny_bind (wpAny_cRoomFor (by omega) (wpAny_bind ?_))
      have ty : s.TypeIs (.ref x) "tuple" := ⟨ox, h1, h2⟩
      refine wpAny_callSpecialIfBound?_slot ty PySem.F.slot_tuple_lt ?_
      obtain ⟨c1, d1, da1, s1⟩ := ox
      obtain ⟨c2, d2, da2, s2⟩ := oy
      have h2' : c1 = .type "tuple" := h2
      have h3' : da1 = .seq vs n := h3
      have g2' : c2 = .type "tuple" := g2
      have g3' : da2 = .seq ws k := g3
      subst h2' h3' g2' g3'
      have el := SeqAt.ReadsAll.length _ _ _ h4
      have el2 := SeqAt.ReadsAll.length _ _ _ g4
      have hE := eqAt_alikeAll xs ys A.in1 s _ _ _ _ h4 g4 hal hu
      have hL := rcLt_alikeAll xs ys A.in1 s _ _ _ _ h4 g4 hal hu
      refine call_meets PySem.F.slot_tuple_lt ty PySem.F.entry_tuple_lt (PySem.F.args_tuple_lt_2 _ _) (SeqAt.tuple_ltAt x y vs ws n k d1 d2 s1 s2 (SeqAt.pairEq xs ys) (fun j => dataLt (xs.getD j .none) (ys.getD j .none))) ⟨h1, g1, fun j j1 j2 => ?_, fun j j1 j2 he => ?_, ?_⟩
      · exact hE j (by simpa using j1) (by simpa using j2)
      · exact hL j (by simpa using j1) (by simpa using j2) he
      · have e1 : vs.size = xs.length := by rw [← el]; rfl
        have e2 : ws.size = ys.length := by rw [← el2]; rfl
        rw [e1, e2, firstLt_toks xs ys hal, ← dataLt_tuple]
        exact wpAny_truthy_bool q
/-- the first item of a tuple -/
def firstAt (h : Heap) : Value → Option Value
  | .ref a => match h.get? a with
    | some o => match o.data with
      | .seq vs _ => vs[0]?
      | _ => none
    | none => none
  | _ => none
theorem firstAt_tup {h : Heap} {v : Value} {xs : List PyData} {as : List Addr} (r : Reads h v (.tuple xs) as) : (firstAt h v).isSome = decide (xs ≠ []) := by
  cases r with
  | @tuple x ox vs n _ _ h1 h2 h3 h4 =>
    unfold firstAt
    simp only [h1, h3]
    have el := SeqAt.ReadsAll.length _ _ _ h4
    cases xs with
    | nil =>
      have e : vs = #[] := by
        have : vs.toList = [] := List.length_eq_zero_iff.mp el
        simpa using this
      subst e
      rfl
    | cons d ds =>
      have : 0 < vs.size := by
        have : vs.toList.length = vs.size := rfl
        rw [List.length_cons] at el
        omega
      rw [Array.getElem?_eq_getElem this]
      simp
theorem firstOf_tup {v : Value} {xs : List PyData} {as : List Addr} {Q : Option Value → Shared → Prop} (r : Reads s.heap v (.tuple xs) as) (q : Q (firstAt s.heap v) s) : wpAny (model prog w) A (firstOfTuple' v) Q E s := by
  rw [kas_first_eq]
  refine wpAny_bind ((looks_reads r).here ?_)
  cases r with
  | @tuple x ox vs n _ _ h1 h2 h3 h4 =>
    show wpAny (model prog w) A (if (Value.type "tuple" != Value.type "tuple") = true then _ else _) Q E s
    rw [if_neg (by decide)]
    refine wpAny_bind (listItems_at h1 h3 (wpAny_pure ?_))
    unfold firstAt at q
    simp only [h1, h3] at q
    exact q
theorem keyLt'_general (x y : Value) : keyLt' general' x y = oneLt' false x y := rfl
/-- tuples may be sorted -/
theorem sorts_tups {vs : List Value} {ds : List PyData} (hr : EachIs (fun (v : Value) (d : PyData) => ∃ as, Reads s.heap v d as) vs ds) (hal : AllAlike ds) (ht : ∀ d ∈ ds, ∃ xs, d = .tuple xs)
    (hd : ∀ d ∈ ds, A.units + d.depth < cLine) : SortsAt prog w A s (dataKind s.heap ds) vs := by
  by_cases hne : ∀ d ∈ ds, ∃ x r, d = PyData.tuple (x :: r)
  · exact SortsAt.data hr hal (.inl hne) hd
  have hin : ∀ v ∈ vs, ∃ xs as, PyData.tuple xs ∈ ds ∧ Reads s.heap v (.tuple xs) as := fun v hv => by
    obtain ⟨d, h1, as, h2⟩ := hr.left v hv
    obtain ⟨xs, rfl⟩ := ht d h1
    exact ⟨xs, as, h1, h2⟩
  refine ⟨fun v hv => ?_, ?_⟩
  · obtain ⟨xs, as, h1, h2⟩ := hin v hv
    exact ⟨_, dataKind_some hal h1 h2⟩
  -- how they are compared: both kinds
  have lt1 : PyProof.Rows.H.LtAt prog w A s (dataKind s.heap ds) oneType' := fun E x y a b Q ha hb q => by
    obtain ⟨d1, as1, m1, r1, e1⟩ := dataKind_inv ha
    obtain ⟨d2, as2, m2, r2, e2⟩ := dataKind_inv hb
    obtain ⟨xs, rfl⟩ := ht d1 m1
    obtain ⟨ys, rfl⟩ := ht d2 m2
    rw [keyLt'_oneType]
    have u1 := hd _ m1
    have e3 : (PyData.tuple xs).depth = PyData.depthAll xs + 1 := rfl
    rw [e3] at u1
    refine oneLt_tup r1 r2 (hal _ m1 _ m2) (by omega) ?_
    subst e1 e2
    exact q
  have lt2 : PyProof.Rows.H.LtAt prog w A s (dataKind s.heap ds) general' := fun E x y a b Q ha hb q => by
    obtain ⟨d1, as1, m1, r1, e1⟩ := dataKind_inv ha
    obtain ⟨d2, as2, m2, r2, e2⟩ := dataKind_inv hb
    rw [keyLt'_general]
    have u1 := hd _ m1
    obtain ⟨xs, e⟩ := ht d1 m1
    refine oneLt_alike (da := d1) (db := d2) (fun z => by cases z) r1 r2 (hal _ m1 _ m2) (by rw [e]; intro z; cases z) (by omega) ?_
    subst e1 e2
    exact q
  have hf : ∃ v ∈ vs, firstAt s.heap v = none := by
    obtain ⟨d, hd1⟩ := Classical.not_forall.mp hne
    obtain ⟨hm, hn⟩ := Classical.not_imp.mp hd1
    obtain ⟨xs, rfl⟩ := ht d hm
    have hx : xs = [] := by
      cases xs with
      | nil => rfl
      | cons x r => exact (hn ⟨x, r, rfl⟩).elim
    subst hx
    clear hne hd1 hn hd hal ht lt1 lt2 hin
    induction hr with
    | nil => cases hm
    | @cons v d vs ds r1 _ ih =>
      rcases List.mem_cons.mp hm with e | hm
      · subst e
        obtain ⟨as, r1⟩ := r1
        refine ⟨v, List.mem_cons_self, ?_⟩
        have := firstAt_tup r1
        cases e : firstAt s.heap v with
        | none => rfl
        | some z => rw [e] at this; cases this
      · obtain ⟨v', h1, h2⟩ := ih hm
        exact ⟨v', List.mem_cons_of_mem _ h1, h2⟩
  have run : ∀ (kd : SortKind), (if ((vs.map (firstAt s.heap))[0]?.bind id).isSome = true then kd = general' else kd = oneType') → 2 ≤ vs.length → ∀ (E : Value → Shared → Prop) {Q : SortKind → Shared → Prop}, Q kd s → wpAny (model prog w) A (keyKind' vs.toArray) Q E s := fun kd hk h2 E Q q => by
    rw [keyKind'_eq]
    have e1 : Array.mapM firstOfTuple' vs.toArray = List.toArray <$> List.mapM firstOfTuple' vs := List.mapM_toArray
    rw [e1, map_eq_pure_bind]
    refine wpAny_bind (wpAny_bind (wp_mapM (firstAt s.heap) vs (fun v hv Q' q' => ?_) (wpAny_pure ?_)))
    · obtain ⟨xs, as, _, r⟩ := hin v hv
      exact firstOf_tup r q'
    have e2 : ((vs.map (firstAt s.heap)).toArray.all fun x => x.isSome) = false := by
      rw [List.all_toArray, List.all_eq_false]
      obtain ⟨v, hv, e⟩ := hf
      exact ⟨none, List.mem_map.mpr ⟨v, hv, e⟩, by simp⟩
    rw [e2, if_neg Bool.false_ne_true]
    have e3 : (vs.map (firstAt s.heap)).toArray[0]? = (vs.map (firstAt s.heap))[0]? := by simp
    rw [e3]
    by_cases hb : ((vs.map (firstAt s.heap))[0]?.bind id).isSome = true
    · rw [if_pos hb] at hk ⊢
      subst hk
      exact wpAny_pure q
    · rw [if_neg hb] at hk ⊢
      subst hk
      rw [oneTypeOnly'_eq]
      have e4 : Array.mapM typeOf vs.toArray = List.toArray <$> List.mapM typeOf vs := List.mapM_toArray
      rw [e4, map_eq_pure_bind]
      refine wpAny_bind (wpAny_bind (wpAny_bind (wp_mapM (fun _ => Value.type "tuple") vs (fun v hv Q' q' => ?_) (wpAny_pure ?_))))
      · obtain ⟨xs, as, _, r⟩ := hin v hv
        exact (looks_reads r).here q'
      · cases vs with
        | nil => exact absurd h2 (by decide)
        | cons v vs =>
          have e5 : ((v :: vs).map fun _ => Value.type "tuple").toArray[0]? = some (Value.type "tuple") := by simp
          rw [e5]
          have e6 : (((v :: vs).map fun _ => Value.type "tuple").toArray.all fun x => x == Value.type "tuple") = true := by
            rw [List.all_toArray, List.all_eq_true]
            intro z hz
            obtain ⟨_, _, rfl⟩ := List.mem_map.mp hz
            decide
          show wpAny _ _ (pure (if (((v :: vs).map fun _ => Value.type "tuple").toArray.all fun x => x == Value.type "tuple") = true then some (Value.type "tuple") else none)) _ _ _
          rw [e6, if_pos rfl]
          refine wpAny_pure ?_
          exact wpAny_pure q
  by_cases hb : ((vs.map (firstAt s.heap))[0]?.bind id).isSome = true
  · exact ⟨general', lt2, run general' (by rw [if_pos hb])⟩
  · exact ⟨oneType', lt1, run oneType' (by rw [if_neg hb])⟩
end
end DL
namespace DL
open PySem PySem.Spec PyProof.Rows L2 PySem.W
/-- data that sorted takes -/
structure SortOk (ds : List PyData) : Prop where
  al : AllAlike ds
  dp : ∀ d ∈ ds, d.depth ≤ 20
  ty : (∀ d ∈ ds, ∃ xs, d = .tuple xs) ∨ Sortable ds
/-- what sorted makes of them -/
def sortD (ds : List PyData) : List PyData := ds.mergeSort (dataLe false id)
theorem each_vals {G : Hp} : ∀ {us : List Value} {ds : List PyData}, EachIs (fun u d => ∃ v, RelV v u ∧ Dd G v d) us ds → ∃ vs, Vals vs us ∧ DdAll G vs ds
  | _, _, .nil => ⟨[], .nil, .nil⟩
  | _, _, .cons ⟨v, h1, h2⟩ t => by
    obtain ⟨vs, t1, t2⟩ := each_vals t
    exact ⟨v :: vs, .cons h1 t1, .cons h2 t2⟩
theorem vals_each {G : Hp} : ∀ {us : List Value} {vs : List V} {ds : List PyData}, Vals vs us → DdAll G vs ds → EachIs (fun u d => ∃ v, RelV v u ∧ Dd G v d) us ds
  | _, _, _, .nil, .nil => .nil
  | _, _, _, .cons h1 t1, .cons h2 t2 => .cons ⟨_, h1, h2⟩ (vals_each t1 t2)
section
variable {X : Cx} {Ω : Om} {Q : It → Om → Prop} {x : It}
theorem callx_sortedD {ds : List PyData} (hu : X.A.units + 30 < cLine) (wv : Vw Ω x (.list ds)) (ok : SortOk ds) (q : ∀ l, (∀ p ∈ Ω, p.1 ≠ l) → Q (.v (.ref l)) ((l, .lst ((sortD ds).map .d)) :: Ω)) : CallX X (.builtin "sorted") [x] Ω Q := fun G H st vs rs Q' q' => by
  obtain ⟨v, rfl, r⟩ := reps1 rs
  obtain ⟨a, ws, rfl, h1, h2⟩ := dd_seqL wv st r
  intro pins s σ us I rv
  rw [Vals.ref1 rv]
  obtain ⟨its, iv, hl, hz⟩ := I.list (.inl (.inl h1))
  have dp : DpAll X.K H ws ds := Dd.dpAll ds ws (Dd.sameAll st.sub ds ws h2)
  obtain ⟨as, hr⟩ := Dp.readsAll I ds ws its dp iv
  have hk : ∀ (b : Addr) (o : Obj), s.heap.get? b = some o → (sortingHeap (copyHeap s.heap its) (s.heap.objs.size + 1) its).get? b = some o := fun b o h => sorting_copy_old h
  have hr1 : EachIs (fun (v : Value) (d : PyData) => ∃ as, Reads s.heap v d as) its ds := readsAll_each (enc := fun d => d) (by rw [List.map_id']; exact hr)
  have hr2 : EachIs (fun (v : Value) (d : PyData) => ∃ as, Reads (sortingHeap (copyHeap s.heap its) (s.heap.objs.size + 1) its) v d as) its ds := hr1.mono fun v d ⟨as, h⟩ => ⟨as, Reads.keeps hk h⟩
  have hlen : its.length = ds.length := SeqAt.ReadsAll.length _ _ _ hr
  have hdep : ∀ d ∈ ds, X.A.in1.in1.units + d.depth < cLine := fun d hd => by
    have := ok.dp d hd
    show X.A.units + 1 + 1 + d.depth < cLine
    omega
  refine sorted_vals (κ := dataKind (sortingHeap (copyHeap s.heap its) (s.heap.objs.size + 1) its) ds) hl.isList ?_ ?_ ?_
  · rcases ok.ty with ht | ht
    · exact sorts_tups (s := ⟨sortingHeap (copyHeap s.heap its) (s.heap.objs.size + 1) its, s.gens, s.drawn, s.toks, s.os⟩) hr2 ok.al ht hdep
    · exact SortsAt.data (s := ⟨sortingHeap (copyHeap s.heap its) (s.heap.objs.size + 1) its, s.gens, s.drawn, s.toks, s.os⟩) hr2 ok.al ht hdep
  · rw [hlen, ← h2.len]; exact hz
  have ho := sortVals_data (h' := sortingHeap (copyHeap s.heap its) (s.heap.objs.size + 1) its) (R := fun u d => ∃ v, RelV v u ∧ Dd G v d) (enc := fun d : PyData => d) (vs := its) (bs := ds) false (vals_each iv h2) hr2 (by rw [List.map_id']; exact ok.al)
  rw [List.map_id'] at ho
  obtain ⟨ys, y1, y2⟩ := each_vals ho
  generalize hout : sortVals (dataKind (sortingHeap (copyHeap s.heap its) (s.heap.objs.size + 1) its) ds) false its its = out at y1
  obtain ⟨e, he⟩ := sortedAll_at s.heap its out.toArray
  have fresh : H (s.heap.objs.size + 1) = none := I.hok.fresh (Nat.le_succ _)
  have hyl : ys.length ≤ sizeLine := by
    rw [y2.len, List.length_mergeSort, ← h2.len]; exact hz
  refine ⟨.ref (s.heap.objs.size + 1), upd H (s.heap.objs.size + 1) (.lst ys), I.laid (fun b u h => sortedAll_old h) (Nat.le_succ _) ⟨hyl, out, e, y1, he⟩, rfl, ?_⟩
  refine q' _ G _ _ _ (q _ (st.fresh fresh)) (Same.refl _) (st.newO fresh ⟨ys, upd_same, ?_⟩) rfl
  have : sortD ds = ds.mergeSort (dataLe false fun d => d) := rfl
  rw [this]
  exact ddAll_paired y2
end
end DL

set_option Elab.async false
set_option linter.all false
set_option maxRecDepth 100000
set_option maxHeartbeats 2000000
/-! DLj: xs += ys; what data are: shapes, depths, sorting. -/
namespace DL
open PySem PySem.Spec PyProof.Rows L2 PySem.W
section
variable {X : Cx} {W : WX} {R : RX} {ρ : Ro} {Ω : Om} {D : DE} {pos pos' : Pos} {e : Expr}
theorem ip_ext : PIp X .Add rExt2 := fun pins s σ H x y v u Q I r1 r2 h => iop_ext pins s σ H x y v u Q I r1 r2 h
/-- xs += e, xs a list of ours -/
theorem sx_augL (i : Nat) {x : Str} {l : Addr} (hN : X.N.Nodup) (hv : ρ[i]? = some (some (.v (.ref l)))) (h : EX X W R e ρ Ω fun it Ω1 => ∃ xs ds up, At Ω1 l (.lst xs) up ∧ Vw Ω1 it (.list ds) ∧ xs.length + ds.length ≤ sizeLine ∧ D.nx (ρ.set i (some (.v (.ref l)))) (up (.lst (xs ++ ds.map .d)))) (hi : X.N[i]? = some x := by rfl) (hx : Loc X.env.scope x := by first | exact .inl rfl | exact .inr rfl)
    (hf : X.fn x = true ∨ X.env.scope.names.lookup x = some .local := by first | exact .inl rfl | exact .inr rfl) : SX X W R (.AugAssign (.Name x pos') .Add e pos) ρ Ω D := fun σ G H s k E ok => by
  refine ofS (ps_aug (te := cE X e) hN hi hx pcE ip_ext hf) ?_
  obtain ⟨v, g1, g2⟩ := s.slot i _ hv
  obtain rfl : v = .ref l := g2
  refine ⟨_, g1, h σ G H s k _ fun v2 G1 H1 it Ω1 h1 e1 s1 r1 => ?_⟩
  obtain ⟨xs, ds, up, w1, w2, hz, q⟩ := h1
  obtain ⟨b, zs, rfl, d1, d2⟩ := dd_seqL w2 s1 r1
  obtain ⟨ws, a1, a2⟩ := (s1.at w1).1
  refine ⟨l, b, ws, zs, rfl, rfl, a1, d1, by rw [a2.length, d2.len]; exact hz, ?_⟩
  refine ok.nx _ _ G1 _ _ q e1 ((s1.put w1 (o' := .lst (xs ++ ds.map .d)) ⟨_, upd_same, pair_app a2 (ddAll_paired d2)⟩).set (it := .v (.ref l)) rfl)
end
/-! ### data of ints -/
/-- a tuple of ints, a list of ints -/
abbrev tI (ns : List Int) : PyData := .tuple (ns.map .int)
abbrev lI (ns : List Int) : PyData := .list (ns.map .int)
theorem layAll_ints (ns : List Int) : PyData.canLayAll0 (ns.map .int) = true := by
  induction ns with
  | nil => rfl
  | cons n ns ih =>
    show (PyData.canLay0 (.int n) && PyData.canLayAll0 (ns.map .int)) = true
    rw [ih]; rfl
theorem layAll_of {ds : List PyData} (h : ∀ d ∈ ds, PyData.canLay0 d = true) : PyData.canLayAll0 ds = true := by
  induction ds with
  | nil => rfl
  | cons d ds ih =>
    show (PyData.canLay0 d && PyData.canLayAll0 ds) = true
    rw [h d List.mem_cons_self, ih fun x hx => h x (List.mem_cons_of_mem _ hx)]
    rfl
theorem depthAll_le {ds : List PyData} {k : Nat} (h : ∀ d ∈ ds, d.depth ≤ k) : PyData.depthAll ds ≤ k := by
  induction ds with
  | nil => exact Nat.zero_le _
  | cons d ds ih =>
    show max d.depth (PyData.depthAll ds) ≤ k
    have := h d List.mem_cons_self
    have := ih fun x hx => h x (List.mem_cons_of_mem _ hx)
    omega
theorem shaped_of {d : PyData} (h1 : PyData.canLay0 d = true) (h2 : d.depth ≤ 64) : SeqAt.shaped d = true := by
  show (d.canLay0 && decide (d.depth ≤ 64)) = true
  rw [h1, decide_eq_true h2]; rfl
theorem shaped_tI (ns : List Int) : SeqAt.shaped (tI ns) = true := shaped_of (layAll_ints ns) (by
  show PyData.depthAll (ns.map .int) + 1 ≤ 64
  rw [depth_ints]; decide)
theorem shaped_lI (ns : List Int) : SeqAt.shaped (lI ns) = true := shaped_of (layAll_ints ns) (by
  show PyData.depthAll (ns.map .int) + 1 ≤ 64
  rw [depth_ints]; decide)
theorem shaped_list {ds : List PyData} (h : ∀ d ∈ ds, PyData.canLay0 d = true ∧ d.depth ≤ 20) : SeqAt.shaped (.list ds) = true := shaped_of (layAll_of fun d hd => (h d hd).1) (by
  show PyData.depthAll ds + 1 ≤ 64
  have := depthAll_le fun d hd => (h d hd).2
  omega)
theorem eqv_self {d : PyData} (h : SeqAt.shaped d = true) : PyData.eqv d d = true := SeqAt.eqv_refl d (SeqAt.canLay_of_shaped h)
theorem depth_tI (ns : List Int) : (tI ns).depth = 1 := by
  show PyData.depthAll (ns.map .int) + 1 = 1
  rw [depth_ints]
theorem depth_lI (ns : List Int) : (lI ns).depth = 1 := by
  show PyData.depthAll (ns.map .int) + 1 = 1
  rw [depth_ints]
theorem sortOk_tI {α : Type} (f : α → List Int) (zs : List α) : SortOk (zs.map fun z => tI (f z)) := by
  refine ⟨fun d hd d' hd' => ?_, fun d hd => ?_, .inl fun d hd => ?_⟩
  · obtain ⟨z, _, rfl⟩ := List.mem_map.mp hd
    obtain ⟨y, _, rfl⟩ := List.mem_map.mp hd'
    exact PySem.W.alike_ints (f z) (f y)
  · obtain ⟨z, _, rfl⟩ := List.mem_map.mp hd
    rw [depth_tI]; decide
  · obtain ⟨z, _, rfl⟩ := List.mem_map.mp hd
    exact ⟨_, rfl⟩
theorem lay_tI (ns : List Int) : PyData.canLay0 (tI ns) = true ∧ (tI ns).depth ≤ 20 := ⟨layAll_ints ns, by rw [depth_tI]; decide⟩
theorem lay_lI (ns : List Int) : PyData.canLay0 (lI ns) = true ∧ (lI ns).depth ≤ 20 := ⟨layAll_ints ns, by rw [depth_lI]; decide⟩
theorem sortD_perm (ds : List PyData) : (sortD ds).Perm ds := List.mergeSort_perm ds _
theorem sortD_len (ds : List PyData) : (sortD ds).length = ds.length := (sortD_perm ds).length_eq
theorem sortD_mem {ds : List PyData} {d : PyData} : d ∈ sortD ds ↔ d ∈ ds := (sortD_perm ds).mem_iff
theorem hu30 {k : Nat} {A : Around} (h : Room k A) : A.units + 30 < cLine := by have := h.un; omega
theorem hu64 {k : Nat} {A : Around} (h : Room k A) : A.units + 64 < cLine := by have := h.un; omega
theorem hu65 {k : Nat} {A : Around} (h : Room k A) : A.units + 65 < cLine := by have := h.un; omega
end DL

set_option Elab.async false
set_option linter.all false
set_option maxRecDepth 100000
set_option maxHeartbeats 4000000
namespace K60
open PySem PySem.Spec PyProof.Rows L2 DL
/-! ### the text by places -/
def topS (i : Nat) : Stmt := PySem.Challenge.pw_keenlot_k60_covered_lots_listed.main.body.getD i (.Pass ⟨0, 0, 0, 0⟩)
abbrev s_is_integer : Stmt := topS 7
abbrev s_fits : Stmt := topS 8
abbrev s_is_lot : Stmt := topS 9
abbrev s_check_lot : Stmt := topS 10
abbrev s_check_small : Stmt := topS 14
abbrev s_next_tools : Stmt := topS 15
abbrev s_covered_from : Stmt := topS 16
abbrev s_covered_lots : Stmt := topS 17
abbrev s_Counts___init__ : Stmt := inClass (topS 18) 0
abbrev s_Counts_count : Stmt := inClass (topS 18) 1
abbrev s_count_covered : Stmt := topS 19
abbrev s__law_mixed : Stmt := topS 21
abbrev s__law_cell : Stmt := topS 22
abbrev s__law_take : Stmt := topS 23
abbrev s__law_capacity : Stmt := topS 24
abbrev s__law_covers : Stmt := topS 25
abbrev s__law_all : Stmt := topS 26
abbrev s__law_small : Stmt := topS 27
abbrev s__law_good : Stmt := topS 28
abbrev s_law : Stmt := topS 29
def d_is_integer : He.DefD := ⟨("is_integer", none), "is_integer", "is_integer", defArgs s_is_integer, defBody s_is_integer, defScope s_is_integer, [], []⟩
def d_fits : He.DefD := ⟨("fits", none), "fits", "fits", defArgs s_fits, defBody s_fits, defScope s_fits, [], []⟩
def d_is_lot : He.DefD := ⟨("is_lot", none), "is_lot", "is_lot", defArgs s_is_lot, defBody s_is_lot, defScope s_is_lot, [], []⟩
def d_check_lot : He.DefD := ⟨("check_lot", none), "check_lot", "check_lot", defArgs s_check_lot, defBody s_check_lot, defScope s_check_lot, [], []⟩
def d_check_small : He.DefD := ⟨("check_small", none), "check_small", "check_small", defArgs s_check_small, defBody s_check_small, defScope s_check_small, [], []⟩
def d_next_tools : He.DefD := ⟨("next_tools", none), "next_tools", "next_tools", defArgs s_next_tools, defBody s_next_tools, defScope s_next_tools, [], []⟩
def d_covered_from : He.DefD := ⟨("covered_from", none), "covered_from", "covered_from", defArgs s_covered_from, defBody s_covered_from, defScope s_covered_from, [], []⟩
def d_covered_lots : He.DefD := ⟨("covered_lots", none), "covered_lots", "covered_lots", defArgs s_covered_lots, defBody s_covered_lots, defScope s_covered_lots, [], []⟩
def d_Counts___init__ : He.DefD := ⟨("Counts", some "__init__"), "__init__", "Counts.__init__", defArgs s_Counts___init__, defBody s_Counts___init__, defScope s_Counts___init__, [], []⟩
def d_Counts_count : He.DefD := ⟨("Counts", some "count"), "count", "Counts.count", defArgs s_Counts_count, defBody s_Counts_count, defScope s_Counts_count, [], []⟩
def d_count_covered : He.DefD := ⟨("count_covered", none), "count_covered", "count_covered", defArgs s_count_covered, defBody s_count_covered, defScope s_count_covered, [], []⟩
def d__law_mixed : He.DefD := ⟨("_law_mixed", none), "_law_mixed", "_law_mixed", defArgs s__law_mixed, defBody s__law_mixed, defScope s__law_mixed, [], []⟩
def d__law_cell : He.DefD := ⟨("_law_cell", none), "_law_cell", "_law_cell", defArgs s__law_cell, defBody s__law_cell, defScope s__law_cell, [], []⟩
def d__law_take : He.DefD := ⟨("_law_take", none), "_law_take", "_law_take", defArgs s__law_take, defBody s__law_take, defScope s__law_take, [], []⟩
def d__law_capacity : He.DefD := ⟨("_law_capacity", none), "_law_capacity", "_law_capacity", defArgs s__law_capacity, defBody s__law_capacity, defScope s__law_capacity, [], []⟩
def d__law_covers : He.DefD := ⟨("_law_covers", none), "_law_covers", "_law_covers", defArgs s__law_covers, defBody s__law_covers, defScope s__law_covers, [], []⟩
def d__law_all : He.DefD := ⟨("_law_all", none), "_law_all", "_law_all", defArgs s__law_all, defBody s__law_all, defScope s__law_all, [], []⟩
def d__law_small : He.DefD := ⟨("_law_small", none), "_law_small", "_law_small", defArgs s__law_small, defBody s__law_small, defScope s__law_small, [], []⟩
def d__law_good : He.DefD := ⟨("_law_good", none), "_law_good", "_law_good", defArgs s__law_good, defBody s__law_good, defScope s__law_good, [], []⟩
def d_law : He.DefD := ⟨("law", none), "law", "law", defArgs s_law, defBody s_law, defScope s_law, [], []⟩
def fn : List He.DefD := [d_is_integer, d_fits, d_is_lot, d_check_lot, d_check_small, d_next_tools, d_covered_from, d_covered_lots, d_Counts___init__, d_Counts_count, d_count_covered, d__law_mixed, d__law_cell, d__law_take, d__law_capacity, d__law_covers, d__law_all, d__law_small, d__law_good, d_law]
def fa : List He.Fa := [.glo "KeenError", .glo "InvalidLot", .glo "TooLarge", .glo "is_integer", .glo "fits", .glo "is_lot", .glo "check_lot", .glo "check_small", .glo "next_tools", .glo "covered_from", .glo "covered_lots", .glo "Counts", .glo "count_covered", .glo "_law_mixed", .glo "_law_cell", .glo "_law_take", .glo "_law_capacity", .glo "_law_covers", .glo "_law_all", .glo "_law_small", .glo "_law_good", .glo "law", .int "LIMIT" 200, .int "MOST_TOOLS" 60, .int "MOST_LISTED" 12, .int "MOST_COUNTED" 40, .free "isinstance", .free "int", .free "bool", .free "tuple", .free "list", .free "len", .free "sum", .free "max", .free "min", .free "all", .free "sorted", .free "range", .free "zip", .free "ValueError", .cls "Counts", .mkr "Counts", .meth "Counts" "count", .noat "Counts" "lot", .noat "Counts" "numbers"]
abbrev T (K : PySem.W.Frag) (mg : Str → Option Value) : Prop := Txt fa fn K mg
section
variable {K : PySem.W.Frag} {mg : Str → Option Value}
theorem m_KeenError (t : T K mg) : mg "KeenError" = some (.ref (He.ga K "KeenError")) := t.glo 0
theorem m_InvalidLot (t : T K mg) : mg "InvalidLot" = some (.ref (He.ga K "InvalidLot")) := t.glo 1
theorem m_TooLarge (t : T K mg) : mg "TooLarge" = some (.ref (He.ga K "TooLarge")) := t.glo 2
theorem m_is_integer (t : T K mg) : mg "is_integer" = some (.ref (He.ga K "is_integer")) := t.glo 3
theorem m_fits (t : T K mg) : mg "fits" = some (.ref (He.ga K "fits")) := t.glo 4
theorem m_is_lot (t : T K mg) : mg "is_lot" = some (.ref (He.ga K "is_lot")) := t.glo 5
theorem m_check_lot (t : T K mg) : mg "check_lot" = some (.ref (He.ga K "check_lot")) := t.glo 6
theorem m_check_small (t : T K mg) : mg "check_small" = some (.ref (He.ga K "check_small")) := t.glo 7
theorem m_next_tools (t : T K mg) : mg "next_tools" = some (.ref (He.ga K "next_tools")) := t.glo 8
theorem m_covered_from (t : T K mg) : mg "covered_from" = some (.ref (He.ga K "covered_from")) := t.glo 9
theorem m_covered_lots (t : T K mg) : mg "covered_lots" = some (.ref (He.ga K "covered_lots")) := t.glo 10
theorem m_Counts (t : T K mg) : mg "Counts" = some (.ref (He.ga K "Counts")) := t.glo 11
theorem m_count_covered (t : T K mg) : mg "count_covered" = some (.ref (He.ga K "count_covered")) := t.glo 12
theorem m__law_mixed (t : T K mg) : mg "_law_mixed" = some (.ref (He.ga K "_law_mixed")) := t.glo 13
theorem m__law_cell (t : T K mg) : mg "_law_cell" = some (.ref (He.ga K "_law_cell")) := t.glo 14
theorem m__law_take (t : T K mg) : mg "_law_take" = some (.ref (He.ga K "_law_take")) := t.glo 15
theorem m__law_capacity (t : T K mg) : mg "_law_capacity" = some (.ref (He.ga K "_law_capacity")) := t.glo 16
theorem m__law_covers (t : T K mg) : mg "_law_covers" = some (.ref (He.ga K "_law_covers")) := t.glo 17
theorem m__law_all (t : T K mg) : mg "_law_all" = some (.ref (He.ga K "_law_all")) := t.glo 18
theorem m__law_small (t : T K mg) : mg "_law_small" = some (.ref (He.ga K "_law_small")) := t.glo 19
theorem m__law_good (t : T K mg) : mg "_law_good" = some (.ref (He.ga K "_law_good")) := t.glo 20
theorem m_law (t : T K mg) : mg "law" = some (.ref (He.ga K "law")) := t.glo 21
theorem m_LIMIT (t : T K mg) : ∃ tk, mg "LIMIT" = some (.int 200 tk) := t.int 22
theorem m_MOST_TOOLS (t : T K mg) : ∃ tk, mg "MOST_TOOLS" = some (.int 60 tk) := t.int 23
theorem m_MOST_LISTED (t : T K mg) : ∃ tk, mg "MOST_LISTED" = some (.int 12 tk) := t.int 24
theorem m_MOST_COUNTED (t : T K mg) : ∃ tk, mg "MOST_COUNTED" = some (.int 40 tk) := t.int 25
theorem m_isinstance (t : T K mg) : mg "isinstance" = none := t.free 26
theorem m_int (t : T K mg) : mg "int" = none := t.free 27
theorem m_bool (t : T K mg) : mg "bool" = none := t.free 28
theorem m_tuple (t : T K mg) : mg "tuple" = none := t.free 29
theorem m_list (t : T K mg) : mg "list" = none := t.free 30
theorem m_len (t : T K mg) : mg "len" = none := t.free 31
theorem m_sum (t : T K mg) : mg "sum" = none := t.free 32
theorem m_max (t : T K mg) : mg "max" = none := t.free 33
theorem m_min (t : T K mg) : mg "min" = none := t.free 34
theorem m_all (t : T K mg) : mg "all" = none := t.free 35
theorem m_sorted (t : T K mg) : mg "sorted" = none := t.free 36
theorem m_range (t : T K mg) : mg "range" = none := t.free 37
theorem m_zip (t : T K mg) : mg "zip" = none := t.free 38
theorem m_ValueError (t : T K mg) : mg "ValueError" = none := t.free 39
theorem cls_Counts (t : T K mg) : Cls K (He.ga K "Counts") := t.cls 40
theorem noat_Counts_lot (t : T K mg) : NoAttr K (He.ga K "Counts") "lot" := t.noat 43
theorem noat_Counts_numbers (t : T K mg) : NoAttr K (He.ga K "Counts") "numbers" := t.noat 44
end
/-! ### slots -/
-- is_integer: 0 value 1 low 2 high
theorem sc_is_integer : FnScope ["value", "low", "high"] ["value", "low", "high"] d_is_integer.scope := ⟨rfl, rfl, rfl, by decide +kernel, rfl, by decide +kernel, by decide +kernel⟩
theorem b_is_integer (kV doc pm : Value) (an : Option Addr) (cdv ct : Value) (us : List Value) (hl : us.length = (["value", "low", "high"] : List Str).length) : bindArgs (PySem.W.fnOf d_is_integer.name d_is_integer.qual d_is_integer.params d_is_integer.body d_is_integer.scope .none kV doc pm an cdv ct) ⟨us, []⟩ = pure ((["value", "low", "high"] : List Str).zip us) := match us, hl with | [_, _, _], _ => rfl
-- fits: 0 lot
theorem sc_fits : FnScope ["lot"] ["lot"] d_fits.scope := ⟨rfl, rfl, rfl, by decide +kernel, rfl, by decide +kernel, by decide +kernel⟩
theorem b_fits (kV doc pm : Value) (an : Option Addr) (cdv ct : Value) (us : List Value) (hl : us.length = (["lot"] : List Str).length) : bindArgs (PySem.W.fnOf d_fits.name d_fits.qual d_fits.params d_fits.body d_fits.scope .none kV doc pm an cdv ct) ⟨us, []⟩ = pure ((["lot"] : List Str).zip us) := match us, hl with | [_], _ => rfl
-- is_lot: 0 value 1 tool 2 first 3 second
theorem sc_is_lot : FnScope ["value", "tool", "first", "second"] ["value"] d_is_lot.scope := ⟨rfl, rfl, rfl, by decide +kernel, rfl, by decide +kernel, by decide +kernel⟩
theorem b_is_lot (kV doc pm : Value) (an : Option Addr) (cdv ct : Value) (us : List Value) (hl : us.length = (["value"] : List Str).length) : bindArgs (PySem.W.fnOf d_is_lot.name d_is_lot.qual d_is_lot.params d_is_lot.body d_is_lot.scope .none kV doc pm an cdv ct) ⟨us, []⟩ = pure ((["value"] : List Str).zip us) := match us, hl with | [_], _ => rfl
-- check_lot: 0 value
theorem sc_check_lot : FnScope ["value"] ["value"] d_check_lot.scope := ⟨rfl, rfl, rfl, by decide +kernel, rfl, by decide +kernel, by decide +kernel⟩
theorem b_check_lot (kV doc pm : Value) (an : Option Addr) (cdv ct : Value) (us : List Value) (hl : us.length = (["value"] : List Str).length) : bindArgs (PySem.W.fnOf d_check_lot.name d_check_lot.qual d_check_lot.params d_check_lot.body d_check_lot.scope .none kV doc pm an cdv ct) ⟨us, []⟩ = pure ((["value"] : List Str).zip us) := match us, hl with | [_], _ => rfl
-- check_small: 0 lot 1 most
theorem sc_check_small : FnScope ["lot", "most"] ["lot", "most"] d_check_small.scope := ⟨rfl, rfl, rfl, by decide +kernel, rfl, by decide +kernel, by decide +kernel⟩
theorem b_check_small (kV doc pm : Value) (an : Option Addr) (cdv ct : Value) (us : List Value) (hl : us.length = (["lot", "most"] : List Str).length) : bindArgs (PySem.W.fnOf d_check_small.name d_check_small.qual d_check_small.params d_check_small.body d_check_small.scope .none kV doc pm an cdv ct) ⟨us, []⟩ = pure ((["lot", "most"] : List Str).zip us) := match us, hl with | [_, _], _ => rfl
-- next_tools: 0 lot 1 place 2 last 3 total
theorem sc_next_tools : FnScope ["lot", "place", "last", "total"] ["lot", "place", "last", "total"] d_next_tools.scope := ⟨rfl, rfl, rfl, by decide +kernel, rfl, by decide +kernel, by decide +kernel⟩
theorem b_next_tools (kV doc pm : Value) (an : Option Addr) (cdv ct : Value) (us : List Value) (hl : us.length = (["lot", "place", "last", "total"] : List Str).length) : bindArgs (PySem.W.fnOf d_next_tools.name d_next_tools.qual d_next_tools.params d_next_tools.body d_next_tools.scope .none kV doc pm an cdv ct) ⟨us, []⟩ = pure ((["lot", "place", "last", "total"] : List Str).zip us) := match us, hl with | [_, _, _, _], _ => rfl
-- covered_from: 0 lot 1 found 2 rows 3 last 4 tool
theorem sc_covered_from : FnScope ["lot", "found", "rows", "last", "tool"] ["lot", "found"] d_covered_from.scope := ⟨rfl, rfl, rfl, by decide +kernel, rfl, by decide +kernel, by decide +kernel⟩
theorem b_covered_from (kV doc pm : Value) (an : Option Addr) (cdv ct : Value) (us : List Value) (hl : us.length = (["lot", "found"] : List Str).length) : bindArgs (PySem.W.fnOf d_covered_from.name d_covered_from.qual d_covered_from.params d_covered_from.body d_covered_from.scope .none kV doc pm an cdv ct) ⟨us, []⟩ = pure ((["lot", "found"] : List Str).zip us) := match us, hl with | [_, _], _ => rfl
-- covered_lots: 0 lot
theorem sc_covered_lots : FnScope ["lot"] ["lot"] d_covered_lots.scope := ⟨rfl, rfl, rfl, by decide +kernel, rfl, by decide +kernel, by decide +kernel⟩
theorem b_covered_lots (kV doc pm : Value) (an : Option Addr) (cdv ct : Value) (us : List Value) (hl : us.length = (["lot"] : List Str).length) : bindArgs (PySem.W.fnOf d_covered_lots.name d_covered_lots.qual d_covered_lots.params d_covered_lots.body d_covered_lots.scope .none kV doc pm an cdv ct) ⟨us, []⟩ = pure ((["lot"] : List Str).zip us) := match us, hl with | [_], _ => rfl
-- Counts___init__: 0 self 1 lot
theorem sc_Counts___init__ : FnScope ["self", "lot"] ["self", "lot"] d_Counts___init__.scope := ⟨rfl, rfl, rfl, by decide +kernel, rfl, by decide +kernel, by decide +kernel⟩
theorem b_Counts___init__ (kV doc pm : Value) (an : Option Addr) (cdv ct : Value) (us : List Value) (hl : us.length = (["self", "lot"] : List Str).length) : bindArgs (PySem.W.fnOf d_Counts___init__.name d_Counts___init__.qual d_Counts___init__.params d_Counts___init__.body d_Counts___init__.scope .none kV doc pm an cdv ct) ⟨us, []⟩ = pure ((["self", "lot"] : List Str).zip us) := match us, hl with | [_, _], _ => rfl
-- Counts_count: 0 self 1 place 2 last 3 total 4 key 5 found 6 tool
theorem sc_Counts_count : FnScope ["self", "place", "last", "total", "key", "found", "tool"] ["self", "place", "last", "total"] d_Counts_count.scope := ⟨rfl, rfl, rfl, by decide +kernel, rfl, by decide +kernel, by decide +kernel⟩
theorem b_Counts_count (kV doc pm : Value) (an : Option Addr) (cdv ct : Value) (us : List Value) (hl : us.length = (["self", "place", "last", "total"] : List Str).length) : bindArgs (PySem.W.fnOf d_Counts_count.name d_Counts_count.qual d_Counts_count.params d_Counts_count.body d_Counts_count.scope .none kV doc pm an cdv ct) ⟨us, []⟩ = pure ((["self", "place", "last", "total"] : List Str).zip us) := match us, hl with | [_, _, _, _], _ => rfl
-- count_covered: 0 lot
theorem sc_count_covered : FnScope ["lot"] ["lot"] d_count_covered.scope := ⟨rfl, rfl, rfl, by decide +kernel, rfl, by decide +kernel, by decide +kernel⟩
theorem b_count_covered (kV doc pm : Value) (an : Option Addr) (cdv ct : Value) (us : List Value) (hl : us.length = (["lot"] : List Str).length) : bindArgs (PySem.W.fnOf d_count_covered.name d_count_covered.qual d_count_covered.params d_count_covered.body d_count_covered.scope .none kV doc pm an cdv ct) ⟨us, []⟩ = pure ((["lot"] : List Str).zip us) := match us, hl with | [_], _ => rfl
-- _law_mixed: 0 cell 1 k 2 number
theorem sc__law_mixed : FnScope ["cell", "k", "number"] ["cell", "k"] d__law_mixed.scope := ⟨rfl, rfl, rfl, by decide +kernel, rfl, by decide +kernel, by decide +kernel⟩
theorem b__law_mixed (kV doc pm : Value) (an : Option Addr) (cdv ct : Value) (us : List Value) (hl : us.length = (["cell", "k"] : List Str).length) : bindArgs (PySem.W.fnOf d__law_mixed.name d__law_mixed.qual d__law_mixed.params d__law_mixed.body d__law_mixed.scope .none kV doc pm an cdv ct) ⟨us, []⟩ = pure ((["cell", "k"] : List Str).zip us) := match us, hl with | [_, _], _ => rfl
-- _law_cell: 0 script 1 k 2 cell 3 found 4 j
theorem sc__law_cell : FnScope ["script", "k", "cell", "found", "j"] ["script", "k"] d__law_cell.scope := ⟨rfl, rfl, rfl, by decide +kernel, rfl, by decide +kernel, by decide +kernel⟩
theorem b__law_cell (kV doc pm : Value) (an : Option Addr) (cdv ct : Value) (us : List Value) (hl : us.length = (["script", "k"] : List Str).length) : bindArgs (PySem.W.fnOf d__law_cell.name d__law_cell.qual d__law_cell.params d__law_cell.body d__law_cell.scope .none kV doc pm an cdv ct) ⟨us, []⟩ = pure ((["script", "k"] : List Str).zip us) := match us, hl with | [_, _], _ => rfl
-- _law_take: 0 digits 1 size 2 digit
theorem sc__law_take : FnScope ["digits", "size", "digit"] ["digits", "size"] d__law_take.scope := ⟨rfl, rfl, rfl, by decide +kernel, rfl, by decide +kernel, by decide +kernel⟩
theorem b__law_take (kV doc pm : Value) (an : Option Addr) (cdv ct : Value) (us : List Value) (hl : us.length = (["digits", "size"] : List Str).length) : bindArgs (PySem.W.fnOf d__law_take.name d__law_take.qual d__law_take.params d__law_take.body d__law_take.scope .none kV doc pm an cdv ct) ⟨us, []⟩ = pure ((["digits", "size"] : List Str).zip us) := match us, hl with | [_, _], _ => rfl
-- _law_capacity: 0 lot 1 need 2 tool
theorem sc__law_capacity : FnScope ["lot", "need", "tool"] ["lot", "need"] d__law_capacity.scope := ⟨rfl, rfl, rfl, by decide +kernel, rfl, by decide +kernel, by decide +kernel⟩
theorem b__law_capacity (kV doc pm : Value) (an : Option Addr) (cdv ct : Value) (us : List Value) (hl : us.length = (["lot", "need"] : List Str).length) : bindArgs (PySem.W.fnOf d__law_capacity.name d__law_capacity.qual d__law_capacity.params d__law_capacity.body d__law_capacity.scope .none kV doc pm an cdv ct) ⟨us, []⟩ = pure ((["lot", "need"] : List Str).zip us) := match us, hl with | [_, _], _ => rfl
-- _law_covers: 0 first 1 second 2 needs 3 need
theorem sc__law_covers : FnScope ["first", "second", "needs", "need"] ["first", "second"] d__law_covers.scope := ⟨rfl, rfl, rfl, by decide +kernel, rfl, by decide +kernel, by decide +kernel⟩
theorem b__law_covers (kV doc pm : Value) (an : Option Addr) (cdv ct : Value) (us : List Value) (hl : us.length = (["first", "second"] : List Str).length) : bindArgs (PySem.W.fnOf d__law_covers.name d__law_covers.qual d__law_covers.params d__law_covers.body d__law_covers.scope .none kV doc pm an cdv ct) ⟨us, []⟩ = pure ((["first", "second"] : List Str).zip us) := match us, hl with | [_, _], _ => rfl
-- _law_all: 0 total 1 most 2 found 3 tool 4 rest
theorem sc__law_all : FnScope ["total", "most", "found", "tool", "rest"] ["total", "most"] d__law_all.scope := ⟨rfl, rfl, rfl, by decide +kernel, rfl, by decide +kernel, by decide +kernel⟩
theorem b__law_all (kV doc pm : Value) (an : Option Addr) (cdv ct : Value) (us : List Value) (hl : us.length = (["total", "most"] : List Str).length) : bindArgs (PySem.W.fnOf d__law_all.name d__law_all.qual d__law_all.params d__law_all.body d__law_all.scope .none kV doc pm an cdv ct) ⟨us, []⟩ = pure ((["total", "most"] : List Str).zip us) := match us, hl with | [_, _], _ => rfl
-- _law_small: 0 digits 1 left 2 tools
theorem sc__law_small : FnScope ["digits", "left", "tools"] ["digits"] d__law_small.scope := ⟨rfl, rfl, rfl, by decide +kernel, rfl, by decide +kernel, by decide +kernel⟩
theorem b__law_small (kV doc pm : Value) (an : Option Addr) (cdv ct : Value) (us : List Value) (hl : us.length = (["digits"] : List Str).length) : bindArgs (PySem.W.fnOf d__law_small.name d__law_small.qual d__law_small.params d__law_small.body d__law_small.scope .none kV doc pm an cdv ct) ⟨us, []⟩ = pure ((["digits"] : List Str).zip us) := match us, hl with | [_], _ => rfl
-- _law_good: 0 lot 1 total 2 due 3 found 4 one
theorem sc__law_good : FnScope ["lot", "total", "due", "found", "one"] ["lot"] d__law_good.scope := ⟨rfl, rfl, rfl, by decide +kernel, rfl, by decide +kernel, by decide +kernel⟩
theorem b__law_good (kV doc pm : Value) (an : Option Addr) (cdv ct : Value) (us : List Value) (hl : us.length = (["lot"] : List Str).length) : bindArgs (PySem.W.fnOf d__law_good.name d__law_good.qual d__law_good.params d__law_good.body d__law_good.scope .none kV doc pm an cdv ct) ⟨us, []⟩ = pure ((["lot"] : List Str).zip us) := match us, hl with | [_], _ => rfl
-- law: 0 script 1 turn 2 digits 3 k
theorem sc_law : FnScope ["script", "turn", "digits", "k"] ["script"] d_law.scope := ⟨rfl, rfl, rfl, by decide +kernel, rfl, by decide +kernel, by decide +kernel⟩
theorem b_law (kV doc pm : Value) (an : Option Addr) (cdv ct : Value) (us : List Value) (hl : us.length = (["script"] : List Str).length) : bindArgs (PySem.W.fnOf d_law.name d_law.qual d_law.params d_law.body d_law.scope .none kV doc pm an cdv ct) ⟨us, []⟩ = pure ((["script"] : List Str).zip us) := match us, hl with | [_], _ => rfl
section
variable {P : Program} {w : World} {K : PySem.W.Frag} {mg : Str → Option Value} {base : Heap}
theorem mk_is_integer {k : Nat} {S : SpD} (t : T K mg) (h : Body P w K mg base k d_is_integer ["value", "low", "high"] ["value", "low", "high"] S) : Cal P w K mg base (k + 1) "is_integer" ["value", "low", "high"] S := mkCal t 3 0 sc_is_integer h b_is_integer
theorem mk_fits {k : Nat} {S : SpD} (t : T K mg) (h : Body P w K mg base k d_fits ["lot"] ["lot"] S) : Cal P w K mg base (k + 1) "fits" ["lot"] S := mkCal t 4 1 sc_fits h b_fits
theorem mk_is_lot {k : Nat} {S : SpD} (t : T K mg) (h : Body P w K mg base k d_is_lot ["value", "tool", "first", "second"] ["value"] S) : Cal P w K mg base (k + 1) "is_lot" ["value"] S := mkCal t 5 2 sc_is_lot h b_is_lot
theorem mk_check_lot {k : Nat} {S : SpD} (t : T K mg) (h : Body P w K mg base k d_check_lot ["value"] ["value"] S) : Cal P w K mg base (k + 1) "check_lot" ["value"] S := mkCal t 6 3 sc_check_lot h b_check_lot
theorem mk_check_small {k : Nat} {S : SpD} (t : T K mg) (h : Body P w K mg base k d_check_small ["lot", "most"] ["lot", "most"] S) : Cal P w K mg base (k + 1) "check_small" ["lot", "most"] S := mkCal t 7 4 sc_check_small h b_check_small
theorem mk_next_tools {k : Nat} {S : SpD} (t : T K mg) (h : Body P w K mg base k d_next_tools ["lot", "place", "last", "total"] ["lot", "place", "last", "total"] S) : Cal P w K mg base (k + 1) "next_tools" ["lot", "place", "last", "total"] S := mkCal t 8 5 sc_next_tools h b_next_tools
theorem mk_covered_from {k : Nat} {S : SpD} (t : T K mg) (h : Body P w K mg base k d_covered_from ["lot", "found", "rows", "last", "tool"] ["lot", "found"] S) : Cal P w K mg base (k + 1) "covered_from" ["lot", "found"] S := mkCal t 9 6 sc_covered_from h b_covered_from
theorem mk_covered_lots {k : Nat} {S : SpD} (t : T K mg) (h : Body P w K mg base k d_covered_lots ["lot"] ["lot"] S) : Cal P w K mg base (k + 1) "covered_lots" ["lot"] S := mkCal t 10 7 sc_covered_lots h b_covered_lots
theorem mk_count_covered {k : Nat} {S : SpD} (t : T K mg) (h : Body P w K mg base k d_count_covered ["lot"] ["lot"] S) : Cal P w K mg base (k + 1) "count_covered" ["lot"] S := mkCal t 12 10 sc_count_covered h b_count_covered
theorem mk__law_mixed {k : Nat} {S : SpD} (t : T K mg) (h : Body P w K mg base k d__law_mixed ["cell", "k", "number"] ["cell", "k"] S) : Cal P w K mg base (k + 1) "_law_mixed" ["cell", "k"] S := mkCal t 13 11 sc__law_mixed h b__law_mixed
theorem mk__law_cell {k : Nat} {S : SpD} (t : T K mg) (h : Body P w K mg base k d__law_cell ["script", "k", "cell", "found", "j"] ["script", "k"] S) : Cal P w K mg base (k + 1) "_law_cell" ["script", "k"] S := mkCal t 14 12 sc__law_cell h b__law_cell
theorem mk__law_take {k : Nat} {S : SpD} (t : T K mg) (h : Body P w K mg base k d__law_take ["digits", "size", "digit"] ["digits", "size"] S) : Cal P w K mg base (k + 1) "_law_take" ["digits", "size"] S := mkCal t 15 13 sc__law_take h b__law_take
theorem mk__law_capacity {k : Nat} {S : SpD} (t : T K mg) (h : Body P w K mg base k d__law_capacity ["lot", "need", "tool"] ["lot", "need"] S) : Cal P w K mg base (k + 1) "_law_capacity" ["lot", "need"] S := mkCal t 16 14 sc__law_capacity h b__law_capacity
theorem mk__law_covers {k : Nat} {S : SpD} (t : T K mg) (h : Body P w K mg base k d__law_covers ["first", "second", "needs", "need"] ["first", "second"] S) : Cal P w K mg base (k + 1) "_law_covers" ["first", "second"] S := mkCal t 17 15 sc__law_covers h b__law_covers
theorem mk__law_all {k : Nat} {S : SpD} (t : T K mg) (h : Body P w K mg base k d__law_all ["total", "most", "found", "tool", "rest"] ["total", "most"] S) : Cal P w K mg base (k + 1) "_law_all" ["total", "most"] S := mkCal t 18 16 sc__law_all h b__law_all
theorem mk__law_small {k : Nat} {S : SpD} (t : T K mg) (h : Body P w K mg base k d__law_small ["digits", "left", "tools"] ["digits"] S) : Cal P w K mg base (k + 1) "_law_small" ["digits"] S := mkCal t 19 17 sc__law_small h b__law_small
theorem mk__law_good {k : Nat} {S : SpD} (t : T K mg) (h : Body P w K mg base k d__law_good ["lot", "total", "due", "found", "one"] ["lot"] S) : Cal P w K mg base (k + 1) "_law_good" ["lot"] S := mkCal t 20 18 sc__law_good h b__law_good
theorem mk_law {k : Nat} {S : SpD} (t : T K mg) (h : Body P w K mg base k d_law ["script", "turn", "digits", "k"] ["script"] S) : Cal P w K mg base (k + 1) "law" ["script"] S := mkCal t 21 19 sc_law h b_law
theorem mk_the_law {k : Nat} {S : SpD} {h : Heap} {f : Addr} (X : K.In h) (G : h.Ns mainGlobals mg) (hfa : mg "law" = some (.ref f)) (c : He.SaysD fa fn K) (hb : ∀ base : Heap, K.In base → base.Ns mainGlobals mg → Body P w K mg base k d_law ["script", "turn", "digits", "k"] ["script"] S) :
    ∃ fd : FuncData, (∀ (s : Shared) (v : Value), BindsTo s fd ⟨[v], []⟩ [("script", v)]) ∧ ∀ base : Heap, K.In base → base.Ns mainGlobals mg → FnOk P w K mg base (L2.CX P w) (k + 1) f fd ["script"] (spD K 1 S) := mkLaw X G hfa c 21 19 sc_law hb b_law
theorem mk_Counts___init__ {k : Nat} {S : SpD} (t : T K mg) (h : Body P w K mg base k d_Counts___init__ ["self", "lot"] ["self", "lot"] S) : KCal P w K mg base (k + 1) "Counts" ["self", "lot"] S := mkKCal t 11 41 8 sc_Counts___init__ h b_Counts___init__
theorem mk_Counts_count {k : Nat} {S : SpD} (t : T K mg) (h : Body P w K mg base k d_Counts_count ["self", "place", "last", "total", "key", "found", "tool"] ["self", "place", "last", "total"] S) : MCal P w K mg base (k + 1) (He.ga K "Counts") "count" ["self", "place", "last", "total"] S := mkMCal t 40 42 9 sc_Counts_count h b_Counts_count
end
end K60

namespace K60
open PySem PySem.Spec PyProof.Rows L2 DL
set_option maxHeartbeats 4000000
/-! ### lots.py -/
/-- an int, not a bool, from lo to hi -/
def inRange (lo hi : Int) : PyData → Bool
  | .int i => decide (lo ≤ i) && decide (i ≤ hi)
  | _ => false
def geD : List Int → Bool
  | a :: b :: r => decide (b ≤ a) && geD (b :: r)
  | _ => true
def intsOf (ds : List PyData) : List Int := ds.filterMap fun d => match d with | .int i => some i | _ => none
def isLot : PyData → Bool
  | .tuple ds => ds.all (inRange 1 200) && (geD (intsOf ds) && (decide (ds.length ≤ 60) && decide ((intsOf ds).sum ≤ 200)))
  | _ => false
theorem intsOf_all {lo hi : Int} : ∀ {ds : List PyData}, ds.all (inRange lo hi) = true → ds = (intsOf ds).map .int
  | [], _ => rfl
  | d :: ds, h => by
    rw [List.all_cons, Bool.and_eq_true] at h
    have ih := intsOf_all h.2
    cases d with
    | int i =>
      show PyData.int i :: ds = .int i :: (intsOf ds).map .int
      rw [← ih]
    | _ => exact absurd h.1 (by intro z; cases z)
theorem intsOf_map (ns : List Int) : intsOf (ns.map .int) = ns := by
  unfold intsOf
  rw [List.filterMap_map]
  induction ns with
  | nil => rfl
  | cons n ns ih =>
    rw [List.filterMap_cons]
    show n :: _ = _
    rw [ih]
theorem geD_zip : ∀ ns : List Int, ((ns.zip (ns.drop 1)).map fun p => decide (p.2 ≤ p.1)).all id = geD ns
  | [] => rfl
  | [_] => rfl
  | a :: b :: r => by
    have ih := geD_zip (b :: r)
    show (decide (b ≤ a) && (((b :: r).zip ((b :: r).drop 1)).map fun p => decide (p.2 ≤ p.1)).all id) = _
    rw [ih]
    rfl
/-- a lot, by its numbers -/
def lotI (ns : List Int) : Bool := ns.all (fun i => decide (1 ≤ i) && decide (i ≤ 200)) && (geD ns && (decide (ns.length ≤ 60) && decide (ns.sum ≤ 200)))
theorem isLot_ints (ns : List Int) : isLot (.tuple (ns.map .int)) = lotI ns := by
  show ((ns.map PyData.int).all (inRange 1 200) && (geD (intsOf (ns.map .int)) && (decide ((ns.map PyData.int).length ≤ 60) && decide ((intsOf (ns.map .int)).sum ≤ 200)))) = _
  rw [intsOf_map, List.all_map, List.length_map]
  rfl
def S_is_integer : SpD := fun its Ω Q _ => ∃ d lo hi, its = [.d d, .d (.int lo), .d (.int hi)] ∧ Q (.d (.bool (inRange lo hi d))) Ω
def S_fits : SpD := fun its Ω Q _ => ∃ ns : List Int, its = [.d (.tuple (ns.map .int))] ∧ Q (.d (.bool (decide (ns.length ≤ 60) && decide (ns.sum ≤ 200)))) Ω
def S_is_lot : SpD := fun its Ω Q _ => ∃ d, its = [.d d] ∧ Q (.d (.bool (isLot d))) Ω
section
variable {P : Program} {w : World} {K : PySem.W.Frag} {mg : Str → Option Value} {base : Heap}
theorem c_is_integer (t : T K mg) : Cal P w K mg base 1 "is_integer" ["value", "low", "high"] S_is_integer := by
  refine mk_is_integer t ?_
  intro f cdv A outer s H E its Ω Qd Rd hr hl hS
  obtain ⟨d, lo, hi, rfl, q⟩ := hS
  have e : ∀ r : Bool, ((isIntD d && (!isBoolD d && r)) = inRange lo hi d) → Ret Qd (.d (.bool (isIntD d && (!isBoolD d && r)))) Ω := fun r h => by rw [h]; exact ret0 q
  refine bx_one (sx_ret (EV.to (ev_and ?_ (fun h1 => ev_and ?_ (fun h2 => ex_one ?_))) (e ?r ?h)))
  case r => exact match d with | .int i => decide (lo ≤ i) && decide (i ≤ hi) | _ => false
  · exact ex_blt "isinstance" (m_isinstance t) <| ax_cons <| ex_var 0 rfl <| ax_cons <| ex_ty "int" (m_int t) <| ax_nil <| isaInt .dat ⟨rfl, rfl⟩
  · exact ex_not <| ex_blt "isinstance" (m_isinstance t) <| ax_cons <| ex_var 0 rfl <| ax_cons <| ex_ty "bool" (m_bool t) <| ax_nil <| isaBool .dat <| onB ⟨rfl, rfl⟩
  · cases d with
    | int i => exact ev_chain (ex_var 1 rfl <| ex_var 0 rfl ⟨rfl, opx_le ⟨rfl, rfl⟩⟩) (fun _ => ex_var 2 rfl <| opx_le ⟨rfl, rfl⟩)
    | bool b => cases h2
    | _ => cases h1
  · cases d <;> rfl
theorem c_fits (t : T K mg) : Cal P w K mg base 1 "fits" ["lot"] S_fits := by
  refine mk_fits t ?_
  intro f cdv A outer s H E its Ω Qd Rd hr hl hS
  obtain ⟨ns, rfl, q⟩ := hS
  obtain ⟨t1, e1⟩ := m_LIMIT t
  obtain ⟨t2, e2⟩ := m_MOST_TOOLS t
  refine bx_one <| sx_ret <| EV.to (ev_and ?_ (fun h1 => ex_one ?_)) (ret0 q)
  · refine ex_cmp <| ex_blt "len" (m_len t) <| ax_cons <| ex_var 0 rfl <| ax_nil <| callx_lenT <| ex_globI e2 <| opx_le ⟨?_, rfl⟩
    rw [List.length_map]
    have : decide ((ns.length : Int) ≤ 60) = decide (ns.length ≤ 60) := by
      by_cases h : ns.length ≤ 60
      · rw [decide_eq_true h, decide_eq_true (by omega)]
      · rw [decide_eq_false h, decide_eq_false (by omega)]
    rw [this]
  · exact ex_cmp <| ex_blt "sum" (m_sum t) <| ax_cons <| ex_var 0 rfl <| ax_nil <| callx_sumT rfl <| ex_globI e1 <| opx_le ⟨rfl, rfl⟩
theorem c_is_lot (t : T K mg) (c1 : Cal P w K mg base 1 "is_integer" ["value", "low", "high"] S_is_integer) (c2 : Cal P w K mg base 1 "fits" ["lot"] S_fits) : Cal P w K mg base 2 "is_lot" ["value"] S_is_lot := by
  refine mk_is_lot t ?_
  intro f cdv A outer s H E its Ω Qd Rd hr hl hS
  obtain ⟨d, rfl, q⟩ := hS
  obtain ⟨t1, e1⟩ := m_LIMIT t
  refine bx_len 0 rfl fun hzz => ?_
  refine bx_cons <| sx_if1 <| tx_W <| wt_or <| tx_not <| tx_val <| ex_blt "isinstance" (m_isinstance t) <| ax_cons <| ex_var 0 rfl <| ax_cons <| ex_ty "tuple" (m_tuple t) <| ax_nil <| isaTuple .dat <| onB ?_
  cases d with
  | tuple ds =>
    have hz := hzz ds (.inl rfl)
    refine wt_or1 <| tx_not <| tx_val <| ex_blt "all" (m_all t) <| ax_cons <| ex_frz <| ex_lc1 1 rfl sc_is_lot <| ix_tupl <| ex_var 0 rfl ⟨_, rfl, ?_⟩
    refine lcx_map ds id (inRange 1 200) .bool (by rw [List.map_id]) hz ?he ?hq
    case he =>
      intro a ha p s0 H0 C cl fp
      refine ex_callC c1 takes0' (hr.mono (by decide)) <| ax_cons <| ex_var 1 rfl <| ax_cons <| ex_int <| ax_cons <| ex_globI e1 <| ax_nil ⟨rfl, a, 1, 200, rfl, rfl, rfl⟩
    case hq =>
      refine ax_nil <| callx_all rfl .dat <| onB ?_
      have ea : ((ds.map (inRange 1 200)).all id) = ds.all (inRange 1 200) := by rw [List.all_map]; rfl
      rw [ea]
      cases h : ds.all (inRange 1 200) with
      | false =>
        refine bx_one <| sx_ret <| ex_bool <| ret0 ?_
        have : isLot (.tuple ds) = false := by
          show (ds.all (inRange 1 200) && _) = false
          rw [h]; rfl
        rw [this] at q
        exact q
      | true =>
        have hd := intsOf_all h
        have hlen : ds.length = (intsOf ds).length := by
          have := congrArg List.length hd
          rw [List.length_map] at this
          exact this
        refine bx_one <| sx_ret <| EV.to (ev_and (p := geD (intsOf ds)) (r := decide ((intsOf ds).length ≤ 60) && decide ((intsOf ds).sum ≤ 200)) ?_ (fun h1 => ex_one ?_)) ?_
        · refine ex_blt "all" (m_all t) <| ax_cons <| ex_frz <| ex_lc2 2 3 rfl sc_is_lot <| ix_zip (m_zip t) <| ax_cons <| ex_var 0 rfl <| ax_cons <| ex_slice <| ex_var 0 rfl <| px_some <| ex_int <| onI <| px_none <| slx_T <| ax_nil ⟨ds, cutL ds (some 1) none, .inl rfl, ?_⟩
          have hz2 : zipD ds (cutL ds (some 1) none) = ((intsOf ds).zip ((intsOf ds).drop 1)).map fun p => PyData.tuple [.int p.1, .int p.2] := by
            rw [show cutL ds (some 1) none = ds.drop 1 from cutL_from ds 1]
            conv => lhs; rw [hd]
            unfold zipD
            rw [← List.map_drop, List.zipWith_map]
            exact (List.map_zip_eq_zipWith (f := fun p : Int × Int => PyData.tuple [.int p.1, .int p.2])).symm
          refine ⟨?_, lcx_map ((intsOf ds).zip ((intsOf ds).drop 1)) (fun p => PyData.tuple [.int p.1, .int p.2]) (fun p => decide (p.2 ≤ p.1)) .bool hz2 ?_ ?_ ?_⟩
          · intro d hd'
            rw [hz2] at hd'
            obtain ⟨p, _, rfl⟩ := List.mem_map.mp hd'
            exact ⟨_, _, rfl⟩
          · rw [List.length_zip]
            omega
          · intro a ha p s0 H0 C cl fp
            exact ex_cmp <| ex_var 2 rfl <| ex_var 3 rfl <| opx_ge ⟨rfl, rfl⟩
          · refine ax_nil <| callx_all rfl .dat ⟨?_, rfl⟩
            rw [geD_zip]
        · exact ex_callC c2 tkB (hr.mono (by decide)) <| ax_cons <| ex_var 0 rfl <| ax_nil ⟨rfl, intsOf ds, by rw [← hd], ⟨rfl, rfl⟩⟩
        · have : isLot (.tuple ds) = (geD (intsOf ds) && (decide ((intsOf ds).length ≤ 60) && decide ((intsOf ds).sum ≤ 200))) := by
            show (ds.all (inRange 1 200) && _) = _
            rw [h, Bool.true_and, hlen]
          rw [← this]
          exact ret0 q
  | _ => exact bx_one <| sx_ret <| ex_bool <| ret0 q
end

/-- checks of valid arguments -/
def S_check_lot : SpD := fun its Ω Q _ => ∃ d, its = [.d d] ∧ isLot d = true ∧ Q (.d .none) Ω
section
variable {P : Program} {w : World} {K : PySem.W.Frag} {mg : Str → Option Value} {base : Heap}
theorem c_check_lot (t : T K mg) (c1 : Cal P w K mg base 2 "is_lot" ["value"] S_is_lot) : Cal P w K mg base 3 "check_lot" ["value"] S_check_lot := by
  refine mk_check_lot t ?_
  intro f cdv A outer s H E its Ω Qd Rd hr hl hS
  obtain ⟨d, rfl, hd, q⟩ := hS
  refine bx_one <| sx_if1 <| tx_not <| tx_val <| ex_callC c1 tkB (hr.mono (by decide)) <| ax_cons <| ex_var 0 rfl <| ax_nil ⟨rfl, d, rfl, onB ?_⟩
  rw [hd]
  exact ret0 q
end

/-! ### the law's cells -/
theorem lg_lt {n k : Nat} (h : n < 2 ^ k) (hk : 0 < k) : n.log2 < k := by
  by_cases h0 : n = 0
  · subst h0; exact hk
  · exact (Nat.log2_lt h0).mpr h
theorem lgI {i : Int} {k : Nat} (h1 : -(2 ^ k : Int) < i) (h2 : i < 2 ^ k) (hk : 0 < k) : i.natAbs.log2 < k := by
  refine lg_lt ?_ hk
  have e : ((2 : Int) ^ k) = ((2 ^ k : Nat) : Int) := by rw [Int.natCast_pow]; rfl
  rw [e] at h1 h2
  omega
theorem mulOk {i j : Int} (h1 : -(2 ^ 64 : Int) < i) (h2 : i < 2 ^ 64) (h3 : -(2 ^ 64 : Int) < j) (h4 : j < 2 ^ 64) : i.natAbs.log2 + j.natAbs.log2 < 1000000 := by
  have := lgI h1 h2 (by decide)
  have := lgI h3 h4 (by decide)
  omega
def S_mixed : SpD := fun its Ω Q _ => ∃ (c k : Int), its = [.d (.int c), .d (.int k)] ∧ 0 ≤ k ∧ k ≤ 1000000 ∧ ∀ n : Int, 0 ≤ n → n < 2147483579 → Q (.d (.int n)) Ω
def S_cell : SpD := fun its Ω Q _ => ∃ (ns : List Int) (k : Int), its = [.s ns, .d (.int k)] ∧ 0 ≤ k ∧ k ≤ 100 ∧ ∀ n : Int, Q (.d (.int n)) Ω
def S_take : SpD := fun its Ω Q _ => ∃ (a : Addr) (m s : Int) (up : OO → Om), its = [.v (.ref a), .d (.int s)] ∧ At Ω a (.lst [.d (.int m)]) up ∧ 0 < s ∧ s < 2 ^ 64 ∧ ∀ m' n : Int, 0 ≤ n → n < s → Q (.d (.int n)) (up (.lst [.d (.int m')]))
section
variable {P : Program} {w : World} {K : PySem.W.Frag} {mg : Str → Option Value} {base : Heap}
theorem c_mixed (t : T K mg) : Cal P w K mg base 1 "_law_mixed" ["cell", "k"] S_mixed := by
  refine mk__law_mixed t ?_
  intro f cdv A outer s H E its Ω Qd Rd hr hl hS
  obtain ⟨c, k, rfl, h1, h2, q⟩ := hS
  have a1 := Int.emod_nonneg c (show (2147483647 : Int) ≠ 0 by decide)
  have a2 := Int.emod_lt_of_pos c (show (0 : Int) < 2147483647 by decide)
  refine bx_cons <| sx_set 2 sc__law_mixed.nd <| ex_bin <| ex_bin <| ex_bin <| ex_bin <| ex_bin <| ex_var 0 rfl <| ex_int <| opx_mod (by decide) <| ex_int <| opx_mul (mulOk (by omega) (by omega) (by decide) (by decide)) <| ex_bin <| ex_var 1 rfl <| ex_int <| opx_mul (mulOk (by omega) (by omega) (by decide) (by decide)) <| opx_add <| ex_int <| opx_add <| ex_int <| opx_mod (by decide) ?_
  have b1 := Int.emod_nonneg (c % 2147483647 * 48271 + k * 69621 + 1048583) (show (2147483629 : Int) ≠ 0 by decide)
  have b2 := Int.emod_lt_of_pos (c % 2147483647 * 48271 + k * 69621 + 1048583) (show (0 : Int) < 2147483629 by decide)
  revert b1 b2
  generalize (c % 2147483647 * 48271 + k * 69621 + 1048583) % 2147483629 = m
  intro b1 b2
  refine bx_cons <| sx_set 2 sc__law_mixed.nd <| ex_bin <| ex_bin <| ex_var 2 rfl <| ex_var 2 rfl <| opx_mul (mulOk (by omega) (by omega) (by omega) (by omega)) <| ex_int <| opx_mod (by decide) ?_
  have c1 := Int.emod_nonneg (m * m) (show (2147483587 : Int) ≠ 0 by decide)
  have c2 := Int.emod_lt_of_pos (m * m) (show (0 : Int) < 2147483587 by decide)
  revert c1 c2
  generalize m * m % 2147483587 = r
  intro c1 c2
  refine bx_one <| sx_ret <| ex_bin <| ex_bin <| ex_var 2 rfl <| ex_bin <| ex_var 2 rfl <| ex_int <| opx_add <| opx_mul (mulOk (by omega) (by omega) (by omega) (by omega)) <| ex_int <| opx_mod (by decide) <| ret0 <| q _ (Int.emod_nonneg _ (by decide)) (Int.emod_lt_of_pos _ (by decide))
theorem c_cell (t : T K mg) (c1 : Cal P w K mg base 1 "_law_mixed" ["cell", "k"] S_mixed) : Cal P w K mg base 2 "_law_cell" ["script", "k"] S_cell := by
  refine mk__law_cell t ?_
  intro f cdv A outer s H E its Ω Qd Rd hr hl hS
  obtain ⟨ns, k, rfl, h1, h2, q⟩ := hS
  refine bx_cons <| sx_set 2 sc__law_cell.nd <| ex_int ?_
  have rest : ∀ c : Int, BX (cxOf (L2.CX P w) P w K mg base ["script", "k", "cell", "found", "j"] d__law_cell.qual d__law_cell.scope f cdv A outer s H E) (fun cls d _ H => E cls d H) (fun x _ Ω' => ∃ n, Rd x (Ω'.drop n)) ((defBody s__law_cell).drop 2) [some (.s ns), some (.d (.int k)), some (.d (.int c)), none, none] Ω { nx := fun _ Ω' => Ret Qd (.d .none) Ω', rt := Ret Qd } := by
    intro c
    refine bx_cons <| sx_if1 <| tx_cmp <| ex_var 2 rfl <| ex_bin <| ex_int <| ex_int <| opx_pow ⟨by decide, by decide, by decide⟩ <| opx_ge <| onB <| ifB (fun _ => ?_) (fun _ => ?_)
    · exact bx_one <| sx_ret <| ex_bin <| ex_bin <| ex_var 2 rfl <| ex_bin <| ex_int <| ex_int <| opx_pow ⟨by decide, by decide, by decide⟩ <| opx_sub <| ex_bin <| ex_bin <| ex_bin <| ex_bin <| ex_int <| ex_int <| opx_pow ⟨by decide, by decide, by decide⟩ <| ex_bin <| ex_int <| ex_int <| opx_pow ⟨by decide, by decide, by decide⟩ <| opx_mul (by decide +kernel) <| ex_bin <| ex_int <| ex_int <| opx_pow ⟨by decide, by decide, by decide⟩ <| opx_mul (by decide +kernel) <| ex_bin <| ex_int <| ex_int <| opx_pow ⟨by decide, by decide, by decide⟩ <| opx_mul (by decide +kernel) <| opx_mod (by decide +kernel) <| ret0 <| q _
    refine bx_cons <| sx_set 3 sc__law_cell.nd <| ex_int ?_
    refine bx_cons <| sx_for hpB rfl <| ix_range1 (m_range t) <| ex_int <| onI ⟨⟨by decide, by decide⟩, fun i ρ Ω' => ∃ n z, Ω' = Ω ∧ 0 ≤ n ∧ n < 2 ^ (31 * i) ∧ i ≤ 24 ∧ ρ = [some (.s ns), some (.d (.int k)), some (.d (.int c)), some (.d (.int n)), z], ⟨0, none, rfl, by decide, by decide, by decide, rfl⟩, ?_, ?_⟩
    · rintro i d ρ2 Ω2 hd ⟨n, z, rfl, n1, n2, hi, rfl⟩
      obtain ⟨hi2, rfl⟩ := rangeD_get hd
      have hi3 : i < 24 := hi2
      refine gx_name 4 sc__law_cell.nd ?_
      have hn : n.natAbs.log2 < 31 * 24 := by
        refine lgI ?_ ?_ (by decide)
        · have : (0 : Int) < 2 ^ (31 * 24) := by decide +kernel
          omega
        · refine Int.lt_of_lt_of_le n2 ?_
          have : (2 : Nat) ^ (31 * i) ≤ 2 ^ (31 * 24) := Nat.pow_le_pow_right (by decide) (by omega)
          have e : ∀ k : Nat, ((2 : Int) ^ k) = ((2 ^ k : Nat) : Int) := fun k => by rw [Int.natCast_pow]; rfl
          rw [e, e]
          omega
      have hm : n.natAbs.log2 + (2147483579 : Int).natAbs.log2 < 1000000 := by
        have : (2147483579 : Int).natAbs.log2 < 100 := by decide +kernel
        omega
      have hi4 : (0 : Int) + (i : Nat) < 24 := by omega
      refine bx_one <| sx_set 3 sc__law_cell.nd <| ex_bin <| ex_bin <| ex_var 3 rfl <| ex_int <| opx_mul hm <| ex_callC c1 tkB (hr.mono (by decide)) <| ax_cons <| ex_var 2 rfl <| ax_cons <| ex_bin <| ex_bin <| ex_bin <| ex_int <| ex_var 1 rfl <| opx_mul (mulOk (by decide) (by decide) (by omega) (by omega)) <| ex_bin <| ex_int <| ex_var 4 rfl <| opx_mul (mulOk (by decide) (by decide) (by omega) (by omega)) <| opx_add <| ex_bin <| ex_var 4 rfl <| ex_var 4 rfl <| opx_mul (mulOk (by omega) (by omega) (by omega) (by omega)) <| opx_add <| ax_nil ⟨rfl, c, _, rfl, ?_, ?_, fun m m1 m2 => opx_add ?_⟩
      · have : (0 : Int) ≤ (0 + (i : Nat)) * (0 + (i : Nat)) := Int.mul_nonneg (by omega) (by omega)
        omega
      · have : ((0 : Int) + (i : Nat)) * (0 + (i : Nat)) ≤ 24 * 24 := Int.mul_le_mul (by omega) (by omega) (by omega) (by decide)
        omega
      · refine ⟨n * 2147483579 + m, some (.d (.int (0 + (i : Nat)))), rfl, by omega, ?_, by omega, rfl⟩
        have e : (2 : Int) ^ (31 * (i + 1)) = 2 ^ (31 * i) * 2 ^ 31 := by rw [show 31 * (i + 1) = 31 * i + 31 by omega, Int.pow_add]
        rw [e]
        have e2 : (2 : Int) ^ 31 = 2147483648 := by decide
        rw [e2]
        omega
    · rintro ρ2 Ω2 ⟨n, z, rfl, n1, n2, hi, rfl⟩
      exact bx_one <| sx_ret <| ex_var 3 rfl <| ret0 <| q _
  refine bx_cons <| sx_if1 <| tx_cmp <| ex_var 1 rfl <| ex_blt "len" (m_len t) <| ax_cons <| ex_var 0 rfl <| ax_nil <| callx_lenS <| opx_lt <| onB <| ifB (fun hk => ?_) (fun _ => rest 0)
  have hk' := of_decide_eq_true hk
  have hg : atI ns k = some (ns[k.toNat]'(by omega)) := atI_nat' h1 (List.getElem?_eq_getElem _)
  exact bx_one <| sx_set 2 sc__law_cell.nd <| ex_ix <| ex_var 0 rfl <| ex_var 1 rfl <| ixx_S hg <| rest _
theorem c_take (t : T K mg) : Cal P w K mg base 1 "_law_take" ["digits", "size"] S_take := by
  refine mk__law_take t ?_
  intro f cdv A outer s H E its Ω Qd Rd hr hl hS
  obtain ⟨a, m, z, up, rfl, w1, h1, h2, q⟩ := hS
  refine bx_cons <| sx_set 2 sc__law_take.nd <| ex_bin <| ex_ix <| ex_var 0 rfl <| ex_int <| ixx_O w1 rfl <| ex_var 1 rfl <| opx_mod h1 ?_
  have hz := lgI (k := 64) (i := z) (by omega) h2 (by decide)
  refine bx_cons <| sx_setAt <| ex_bin <| ex_ix <| ex_var 0 rfl <| ex_int <| ixx_O w1 rfl <| ex_var 1 rfl <| opx_div h1 (by omega) <| ex_var 0 rfl <| ex_int ⟨a, _, 0, 0, up, rfl, rfl, w1, rfl, ?_⟩
  exact bx_one <| sx_ret <| ex_var 2 rfl <| ret0 <| q _ _ (Int.emod_nonneg _ (by omega)) (Int.emod_lt_of_pos _ h1)
end

/-! ### the numbers of covered lots -/
def pre (ns : List Int) (p : Int) : Int := (ns.take (p + 1).toNat).sum
def lim (ns : List Int) (p l t : Int) : Int := min l (pre ns p - t)
def cnt (ns : List Int) : Nat → Int → Int → Int → Int
  | 0, _, _, _ => 1
  | f + 1, p, l, t => 1 + ((List.range (lim ns p l t).toNat).map fun (i : Nat) => cnt ns f (p + 1) (1 + i) (t + (1 + i))).sum
def cntF (ns : List Int) (p l t : Int) : Int := cnt ns (ns.sum - t).toNat p l t
theorem pre_le {ns : List Int} (h : ∀ x ∈ ns, 0 ≤ x) (p : Int) : pre ns p ≤ ns.sum := by
  unfold pre
  generalize (p + 1).toNat = k
  induction ns generalizing k with
  | nil => rw [List.take_nil]; exact Int.le_refl _
  | cons a r ih =>
    have h1 := h a List.mem_cons_self
    have hr : ∀ x ∈ r, 0 ≤ x := fun x hx => h x (List.mem_cons_of_mem _ hx)
    cases k with
    | zero =>
      rw [List.take_zero]
      have := ih hr 0
      rw [List.take_zero] at this
      rw [List.sum_cons]
      simp only [List.sum_nil] at this ⊢
      omega
    | succ k =>
      rw [List.take_succ_cons, List.sum_cons, List.sum_cons]
      have := ih hr k
      omega
theorem cnt_le0 {ns : List Int} {p l t : Int} (hl : lim ns p l t ≤ 0) (f : Nat) : cnt ns f p l t = 1 := by
  cases f with
  | zero => rfl
  | succ f =>
    show 1 + ((List.range (lim ns p l t).toNat).map _).sum = 1
    rw [show (lim ns p l t).toNat = 0 by omega]
    rfl
theorem lim_le {ns : List Int} (h : ∀ x ∈ ns, 0 ≤ x) (p l t : Int) : lim ns p l t ≤ ns.sum - t ∧ lim ns p l t ≤ l := by
  have := pre_le h p
  unfold lim
  omega
theorem cnt_fuel {ns : List Int} (h : ∀ x ∈ ns, 0 ≤ x) : ∀ (f g : Nat) (p l t : Int), ns.sum - t ≤ f → ns.sum - t ≤ g → cnt ns f p l t = cnt ns g p l t
  | 0, g, p, l, t, h1, h2 => by
    have := (lim_le h p l t).1
    rw [cnt_le0 (by omega), cnt_le0 (by omega)]
  | f + 1, 0, p, l, t, h1, h2 => by
    have := (lim_le h p l t).1
    rw [cnt_le0 (by omega), cnt_le0 (by omega)]
  | f + 1, g + 1, p, l, t, h1, h2 => by
    show 1 + ((List.range (lim ns p l t).toNat).map _).sum = 1 + ((List.range (lim ns p l t).toNat).map _).sum
    congr 2
    apply List.map_congr_left
    intro i _
    exact cnt_fuel h f g _ _ _ (by omega) (by omega)
theorem cntF_eq {ns : List Int} (h : ∀ x ∈ ns, 0 ≤ x) (p l t : Int) : cntF ns p l t = 1 + ((List.range (lim ns p l t).toNat).map fun (i : Nat) => cntF ns (p + 1) (1 + i) (t + (1 + i))).sum := by
  have hl := (lim_le h p l t).1
  unfold cntF
  cases e : (ns.sum - t).toNat with
  | zero =>
    rw [show (lim ns p l t).toNat = 0 by omega]
    rfl
  | succ f =>
    show 1 + ((List.range (lim ns p l t).toNat).map _).sum = 1 + ((List.range (lim ns p l t).toNat).map _).sum
    congr 2
    apply List.map_congr_left
    intro i _
    exact cnt_fuel h _ _ _ _ _ (by omega) (by omega)
/-- what the turns have found -/
def foundAt (ns : List Int) (p t : Int) (n : Nat) : Int := 1 + ((List.range n).map fun (i : Nat) => cntF ns (p + 1) (1 + i) (t + (1 + i))).sum
theorem foundAt_succ (ns : List Int) (p t : Int) (n : Nat) : foundAt ns p t (n + 1) = foundAt ns p t n + cntF ns (p + 1) (1 + n) (t + (1 + n)) := by
  unfold foundAt
  rw [List.range_succ, List.map_append, List.sum_append]
  simp only [List.map_cons, List.map_nil, List.sum_cons, List.sum_nil]
  omega
/-! the memo -/
structure Memo (ns : List Int) (kvs : List (List Key × DL.It)) : Prop where
  nd : (kvs.map (·.1)).Nodup
  ok : ∀ kv ∈ kvs, ∃ p l t : Int, 0 ≤ p ∧ p ≤ 40 ∧ 0 ≤ l ∧ l ≤ 40 ∧ 0 ≤ t ∧ t ≤ 40 ∧ kv.1 = kI [p, l, t] ∧ kv.2 = .d (.int (cntF ns p l t))
theorem nodup_lt : ∀ (N : Nat) (l : List Nat), l.Nodup → (∀ x ∈ l, x < N) → l.length ≤ N
  | 0, l, _, h => by
    cases l with
    | nil => exact Nat.le_refl _
    | cons a r => exact absurd (h a List.mem_cons_self) (by omega)
  | N + 1, l, nd, h => by
    have h2 := nodup_lt N (l.erase N) (nd.erase N) (fun x hx => by
      have h3 := h x (List.mem_of_mem_erase hx)
      have h4 : x ≠ N := fun e => by
        subst e
        exact (List.Nodup.not_mem_erase nd) hx
      omega)
    have h5 : l.length - 1 ≤ (l.erase N).length := by
      rw [List.length_erase]
      split <;> omega
    omega
def keyN : List Key → Nat
  | [.inl p, .inl l, .inl t] => (p.toNat * 41 + l.toNat) * 41 + t.toNat
  | _ => 0
theorem Memo.len {ns : List Int} {kvs : List (List Key × DL.It)} (m : Memo ns kvs) : kvs.length < sizeLine := by
  have h1 : (kvs.map fun kv => keyN kv.1).Nodup := by
    have e : (kvs.map fun kv => keyN kv.1) = (kvs.map (·.1)).map keyN := by rw [List.map_map]; rfl
    rw [e]
    have nd := m.nd
    have ok : ∀ k ∈ kvs.map (·.1), ∃ p l t : Int, 0 ≤ p ∧ p ≤ 40 ∧ 0 ≤ l ∧ l ≤ 40 ∧ 0 ≤ t ∧ t ≤ 40 ∧ k = kI [p, l, t] := fun k hk => by
      obtain ⟨kv, h1, rfl⟩ := List.mem_map.mp hk
      obtain ⟨p, l, t, a, b, c, d, e, f, g, _⟩ := m.ok kv h1
      exact ⟨p, l, t, a, b, c, d, e, f, g⟩
    revert nd ok
    generalize kvs.map (·.1) = ks
    intro nd ok
    induction ks with
    | nil => exact List.nodup_nil
    | cons k ks ih =>
      obtain ⟨n1, n2⟩ := List.nodup_cons.mp nd
      rw [List.map_cons]
      refine List.nodup_cons.mpr ⟨fun hm => ?_, ih n2 fun k hk => ok k (List.mem_cons_of_mem _ hk)⟩
      obtain ⟨k2, h2, e⟩ := List.mem_map.mp hm
      obtain ⟨p, l, t, a1, a2, a3, a4, a5, a6, rfl⟩ := ok k List.mem_cons_self
      obtain ⟨p', l', t', b1, b2, b3, b4, b5, b6, rfl⟩ := ok k2 (List.mem_cons_of_mem _ h2)
      have e' : (p'.toNat * 41 + l'.toNat) * 41 + t'.toNat = (p.toNat * 41 + l.toNat) * 41 + t.toNat := e
      have e1 : p' = p := by omega
      have e2 : l' = l := by omega
      have e3 : t' = t := by omega
      subst e1 e2 e3
      exact n1 h2
  have h2 := nodup_lt 68921 _ h1 (fun x hx => by
    obtain ⟨kv, h3, rfl⟩ := List.mem_map.mp hx
    obtain ⟨p, l, t, a1, a2, a3, a4, a5, a6, e, _⟩ := m.ok kv h3
    show keyN kv.1 < _
    rw [e]
    show (p.toNat * 41 + l.toNat) * 41 + t.toNat < 68921
    omega)
  rw [List.length_map] at h2
  exact Nat.lt_of_le_of_lt h2 (by decide)
theorem kI3 {p l t p' l' t' : Int} (h : kI [p, l, t] = kI [p', l', t']) : p = p' ∧ l = l' ∧ t = t' := by
  simpa using h
theorem Memo.get {ns : List Int} {kvs : List (List Key × DL.It)} (m : Memo ns kvs) {p l t : Int} (h : (getI kvs (kI [p, l, t])).isSome = true) : getI kvs (kI [p, l, t]) = some (.d (.int (cntF ns p l t))) := by
  unfold getI at h ⊢
  cases e : kvs.find? fun kv => decide (kv.1 = kI [p, l, t]) with
  | none => rw [e] at h; cases h
  | some kv =>
    have h1 := List.find?_some e
    have h2 := List.mem_of_find?_eq_some e
    obtain ⟨p', l', t', _, _, _, _, _, _, e1, e2⟩ := m.ok kv h2
    have h1' : kv.1 = kI [p, l, t] := by simpa using h1
    obtain ⟨rfl, rfl, rfl⟩ := kI3 (e1.symm.trans h1')
    show some kv.2 = _
    rw [e2]
theorem getI_put {κ : Type} [DecidableEq κ] {kvs : List (κ × DL.It)} {k : κ} (h : (getI kvs k).isSome = false) (it : DL.It) : putI kvs k it = kvs ++ [(k, it)] ∧ (∀ kv ∈ kvs, kv.1 ≠ k) ∧ getI (kvs ++ [(k, it)]) k = some it := by
  have h1 : ∀ kv ∈ kvs, kv.1 ≠ k := fun kv hm e => by
    unfold getI at h
    cases e2 : kvs.find? fun kv => decide (kv.1 = k) with
    | none =>
      have := List.find?_eq_none.mp e2 kv hm
      exact this (decide_eq_true e)
    | some z => rw [e2] at h; cases h
  have h2 : (kvs.any fun kv => decide (kv.1 = k)) = false := by
    rw [List.any_eq_false]
    intro kv hm z
    exact h1 kv hm (of_decide_eq_true z)
  refine ⟨?_, h1, ?_⟩
  · unfold putI
    rw [h2, if_neg Bool.false_ne_true]
  · unfold getI
    rw [List.find?_append]
    have h3 : (kvs.find? fun kv => decide (kv.1 = k)) = none := List.find?_eq_none.mpr fun kv hm z => h1 kv hm (of_decide_eq_true z)
    rw [h3]
    simp
theorem Memo.put {ns : List Int} {kvs : List (List Key × DL.It)} (m : Memo ns kvs) {p l t : Int} (hp : 0 ≤ p ∧ p ≤ 40) (hl : 0 ≤ l ∧ l ≤ 40) (ht : 0 ≤ t ∧ t ≤ 40) :
    Memo ns (putI kvs (kI [p, l, t]) (.d (.int (cntF ns p l t)))) ∧ getI (putI kvs (kI [p, l, t]) (.d (.int (cntF ns p l t)))) (kI [p, l, t]) = some (.d (.int (cntF ns p l t))) := by
  cases h : (getI kvs (kI [p, l, t])).isSome with
  | false =>
    obtain ⟨e, h1, h2⟩ := getI_put h (.d (.int (cntF ns p l t)))
    rw [e]
    refine ⟨⟨?_, fun kv hm => ?_⟩, h2⟩
    · rw [List.map_append, List.map_cons, List.map_nil]
      refine List.nodup_append.mpr ⟨m.nd, by simp, ?_⟩
      intro a ha b hb
      obtain ⟨kv, hk, rfl⟩ := List.mem_map.mp ha
      have hb' : b = kI [p, l, t] := by simpa using hb
      rw [hb']
      exact h1 kv hk
    · rcases List.mem_append.mp hm with hm | hm
      · exact m.ok kv hm
      · have hm' : kv = (kI [p, l, t], .d (.int (cntF ns p l t))) := by simpa using hm
        subst hm'
        exact ⟨p, l, t, hp.1, hp.2, hl.1, hl.2, ht.1, ht.2, rfl, rfl⟩
  | true =>
    have hg := m.get h
    have e : putI kvs (kI [p, l, t]) (.d (.int (cntF ns p l t))) = kvs := by
      unfold putI
      split
      · conv => rhs; rw [← List.map_id kvs]
        apply List.map_congr_left
        intro kv hm
        split
        · next ek =>
          obtain ⟨p', l', t', _, _, _, _, _, _, e1, e2⟩ := m.ok kv hm
          obtain ⟨rfl, rfl, rfl⟩ := kI3 (e1.symm.trans ek)
          show (kv.1, _) = kv
          rw [← e2]
        · rfl
      · next hn =>
        exfalso
        apply hn
        unfold getI at h
        cases e : kvs.find? fun kv => decide (kv.1 = kI [p, l, t]) with
        | none => rw [e] at h; cases h
        | some kv =>
          have h1 := List.find?_some e
          exact List.any_eq_true.mpr ⟨kv, List.mem_of_find?_eq_some e, h1⟩
    rw [e]
    exact ⟨m, hg⟩
theorem memo0 (ns : List Int) : Memo ns [] := ⟨List.nodup_nil, fun kv h => by cases h⟩
theorem pre_nonneg {ns : List Int} (h : ∀ x ∈ ns, 0 ≤ x) (p : Int) : 0 ≤ pre ns p := by
  unfold pre
  generalize (p + 1).toNat = k
  induction ns generalizing k with
  | nil => rw [List.take_nil]; exact Int.le_refl _
  | cons a r ih =>
    have h1 := h a List.mem_cons_self
    cases k with
    | zero => exact Int.le_refl _
    | succ k =>
      rw [List.take_succ_cons, List.sum_cons]
      have := ih (fun x hx => h x (List.mem_cons_of_mem _ hx)) k
      omega
theorem cntF_at {ns : List Int} (h : ∀ x ∈ ns, 0 ≤ x) {p l t : Int} : cntF ns p l t = foundAt ns p t (lim ns p l t).toNat := cntF_eq h p l t

/-! ### counting.py -/
def S_check_small : SpD := fun its Ω Q _ => ∃ (ns : List Int) (m : Int), its = [.d (.tuple (ns.map .int)), .d (.int m)] ∧ lotI ns = true ∧ ns.sum ≤ m ∧ Q (.d .none) Ω
def S_next_tools : SpD := fun its Ω Q _ => ∃ (ns : List Int) (p l t : Int), its = [.d (.tuple (ns.map .int)), .d (.int p), .d (.int l), .d (.int t)] ∧ 0 ≤ p ∧ (lim ns p l t ≤ 1000 ∧ -1000 ≤ lim ns p l t) ∧ Q (.d (.list (rangeD 1 (lim ns p l t).toNat))) Ω
def S_init (C : Addr) : SpD := fun its Ω Q _ => ∃ (a dx : Addr) (ns : List Int) (Ω0 : Om), its = [.v (.ref a), .d (.tuple (ns.map .int))] ∧ Ω = (a, .ins C dx []) :: Ω0 ∧ (∀ p ∈ Ω0, p.1 ≠ a) ∧ ∀ m, (∀ p ∈ Ω0, p.1 ≠ m) → a ≠ m → Q (.d .none) ((m, .dT []) :: (a, .ins C dx [("lot", .d (.tuple (ns.map .int))), ("numbers", .v (.ref m))]) :: Ω0)
def S_count (C : Addr) (f : Nat) : SpD := fun its Ω Q _ => ∃ (a dx m : Addr) (ns : List Int) (p l t : Int) (kvs : List (List Key × DL.It)) (up1 up2 : OO → Om), its = [.v (.ref a), .d (.int p), .d (.int l), .d (.int t)] ∧ a ≠ m ∧
  At Ω a (.ins C dx [("lot", .d (.tuple (ns.map .int))), ("numbers", .v (.ref m))]) up1 ∧ At Ω m (.dT kvs) up2 ∧ (∀ x ∈ ns, 0 ≤ x) ∧ ns.sum ≤ 40 ∧ Memo ns kvs ∧ 0 ≤ p ∧ p ≤ t ∧ 0 ≤ l ∧ l ≤ 40 ∧ 0 ≤ t ∧ t ≤ ns.sum ∧ ns.sum - t ≤ f ∧
  ∀ kvs', Memo ns kvs' → Q (.d (.int (cntF ns p l t))) (up2 (.dT kvs'))
section
variable {P : Program} {w : World} {K : PySem.W.Frag} {mg : Str → Option Value} {base : Heap}
theorem c_check_small (t : T K mg) (c1 : Cal P w K mg base 3 "check_lot" ["value"] S_check_lot) : Cal P w K mg base 4 "check_small" ["lot", "most"] S_check_small := by
  refine mk_check_small t ?_
  intro f cdv A outer s H E its Ω Qd Rd hr hl hS
  obtain ⟨ns, m, rfl, hn, hm, q⟩ := hS
  refine bx_cons <| sx_expr <| ex_callC c1 tkB (hr.mono (by decide)) <| ax_cons <| ex_var 0 rfl <| ax_nil ⟨rfl, _, rfl, by rw [isLot_ints]; exact hn, ?_⟩
  refine bx_one <| sx_if1 <| tx_cmp <| ex_blt "sum" (m_sum t) <| ax_cons <| ex_var 0 rfl <| ax_nil <| callx_sumT rfl <| ex_var 1 rfl <| opx_gt <| onB ?_
  exact ifF (decide_eq_false (by omega)) (ret0 q)
theorem c_next_tools (t : T K mg) : Cal P w K mg base 1 "next_tools" ["lot", "place", "last", "total"] S_next_tools := by
  refine mk_next_tools t ?_
  intro f cdv A outer s H E its Ω Qd Rd hr hl hS
  obtain ⟨ns, p, l, tt, rfl, hp, hb, q⟩ := hS
  refine bx_one <| sx_ret <| ex_listRg2 rfl (m_list t) (m_range t) <| ex_int <| onI <| ex_bin <| ex_blt "min" (m_min t) <| ax_cons <| ex_var 2 rfl <| ax_cons <| ex_bin <| ex_blt "sum" (m_sum t) <| ax_cons <| ex_slice <| ex_var 0 rfl <| px_none <| px_some <| ex_bin <| ex_var 1 rfl <| ex_int <| opx_add <| onI <| slx_T <| ax_nil ?_
  rw [cutL_toI _ (by omega), ← List.map_take]
  refine callx_sumT rfl <| ex_var 3 rfl <| opx_sub <| ax_nil <| callx_min2 rfl <| ex_int <| opx_add <| onI ?_
  show RgOk 1 (lim ns p l tt + 1) ∧ Ret Qd (.d (.list (rangeD 1 (lim ns p l tt + 1 - 1).toNat))) Ω
  rw [Int.add_sub_cancel]
  exact ⟨⟨by decide, by decide, by omega, by omega, by omega⟩, ret0 q⟩
theorem c_init (t : T K mg) : KCal P w K mg base 1 "Counts" ["self", "lot"] (S_init (He.ga K "Counts")) := by
  refine mk_Counts___init__ t ?_
  intro f cdv A outer s H E its Ω Qd Rd hr hl hS
  obtain ⟨a, dx, ns, Ω0, rfl, rfl, hf, q⟩ := hS
  refine bx_cons <| sx_fld <| ex_var 1 rfl <| ex_var 0 rfl ⟨a, _, dx, _, _, rfl, .here, cls_Counts t, noat_Counts_lot t, by decide, ?_⟩
  refine bx_one <| sx_fld <| ex_dnewT fun m hm => ex_var 0 rfl ⟨a, _, dx, _, _, rfl, .there .here, cls_Counts t, noat_Counts_numbers t, by show 1 < 1000; decide, ?_⟩
  refine ret0 (q m (fun p hp => hm p (List.mem_cons_of_mem _ hp)) ?_)
  exact hm _ List.mem_cons_self
/-- the turns of the memo's walk -/
theorem c_count (t : T K mg) (c1 : Cal P w K mg base 1 "next_tools" ["lot", "place", "last", "total"] S_next_tools) : ∀ f : Nat, MCal P w K mg base (2 + f) (He.ga K "Counts") "count" ["self", "place", "last", "total"] (S_count (He.ga K "Counts") f) := by
  intro n
  induction n using Nat.strongRecOn with
  | _ n ihn =>
  rw [Nat.add_comm 2 n]
  refine mk_Counts_count t (k := n + 1) ?_
  intro f cdv A outer s H E its Ω Qd Rd hr hl hS
  obtain ⟨a, dx, m, ns, p, l, tt, kvs, up1, up2, rfl, ne, w1, w2, hns, h40, hm, hp, hpt, hl0, hl1, ht0, ht1, hf, q⟩ := hS
  have hlim := lim_le hns p l tt
  have hu := hu_of hr
  refine bx_cons <| sx_set 4 sc_Counts_count.nd <| ex_tup <| ax_cons <| ex_var 1 rfl <| ax_cons <| ex_var 2 rfl <| ax_cons <| ex_var 3 rfl <| ax_nil ⟨by show 3 ≤ sizeLine; decide, [.int p, .int l, .int tt], rfl, ?_⟩
  refine bx_cons <| sx_if1 <| tx_dnotin hu <| ex_var 4 rfl <| ex_fld <| ex_var 0 rfl ⟨a, _, dx, _, up1, _, rfl, w1, cls_Counts t, noat_Counts_numbers t, rfl, kvs, [p, l, tt], up2, ⟨m, rfl, w2, rfl⟩, ?_⟩
  have fin : ∀ (kvs' : List (List Key × DL.It)) (ρ : Ro) (Ω' : Om) (w3 : At Ω' m (.dT kvs') up2) (up3 : OO → Om) (w4 : At Ω' a (.ins (He.ga K "Counts") dx [("lot", .d (.tuple (ns.map .int))), ("numbers", .v (.ref m))]) up3), Ω' = up2 (.dT kvs') → Memo ns kvs' → getI kvs' (kI [p, l, tt]) = some (.d (.int (cntF ns p l tt))) → ρ[0]? = some (some (.v (.ref a))) → ρ[4]? = some (some (.d (.tuple [.int p, .int l, .int tt]))) →
      BX (cxOf (L2.CX P w) P w K mg base ["self", "place", "last", "total", "key", "found", "tool"] d_Counts_count.qual d_Counts_count.scope f cdv A outer s H E) (fun cls d _ H => E cls d H) (fun x _ Ω' => ∃ n, Rd x (Ω'.drop n)) [(defBody s_Counts_count).getD 2 (.Pass ⟨0, 0, 0, 0⟩)] ρ Ω' { nx := fun _ Ω' => Ret Qd (.d .none) Ω', rt := Ret Qd } := by
    intro kvs' ρ Ω' w3 up3 w4 e hm' hg r0 r4
    refine bx_one <| sx_ret <| ex_dget hu <| ex_fld <| ex_var 0 r0 ⟨a, _, dx, _, up3, _, rfl, w4, cls_Counts t, noat_Counts_numbers t, rfl, ex_var 4 r4 ⟨kvs', [p, l, tt], up2, _, ⟨m, rfl, w3, rfl⟩, hg, ?_⟩⟩
    rw [e]
    exact ret0 (q kvs' hm')
  cases hk : (getI kvs (kI [p, l, tt])).isSome with
  | true =>
    refine ifF rfl ?_
    exact fin kvs _ _ w2 up1 w1 w2.same.symm hm (hm.get hk) rfl rfl
  | false =>
    refine ifT rfl ?_
    refine bx_cons <| sx_set 5 sc_Counts_count.nd <| ex_int ?_
    refine bx_cons <| sx_for hpB rfl <| ix_lst <| ex_callC c1 tkB (hr.mono (by omega)) <| ax_cons <| ex_fld <| ex_var 0 rfl ⟨a, _, dx, _, up1, _, rfl, w1, cls_Counts t, noat_Counts_lot t, rfl, ax_cons <| ex_var 1 rfl <| ax_cons <| ex_var 2 rfl <| ax_cons <| ex_var 3 rfl <| ax_nil ⟨rfl, ns, p, l, tt, rfl, hp, ?_, _, rfl, ?_⟩⟩
    · have := pre_nonneg hns p
      unfold lim
      omega
    refine ⟨fun i ρ Ω' => ∃ kvs' z, Ω' = up2 (.dT kvs') ∧ Memo ns kvs' ∧ ρ = [some (.v (.ref a)), some (.d (.int p)), some (.d (.int l)), some (.d (.int tt)), some (.d (.tuple [.int p, .int l, .int tt])), some (.d (.int (foundAt ns p tt i))), z], ⟨kvs, none, w2.same.symm, hm, rfl⟩, ?_, ?_⟩
    · rintro i d ρ2 Ω2 hd ⟨kvs', z, rfl, hm', rfl⟩
      obtain ⟨hi, rfl⟩ := rangeD_get hd
      obtain ⟨up3, w4⟩ := w1.keep w2 ne (.dT kvs')
      have w3 := w2.upd (.dT kvs')
      refine gx_name 6 sc_Counts_count.nd ?_
      refine bx_one <| sx_augI 5 .Add ip_add sc_Counts_count.nd rfl <| ex_meth (ihn (n - 1) (by omega)) (hr.mono (by omega)) <| ex_var 0 rfl ⟨a, dx, _, up3, rfl, w4, rfl, ax_cons <| ex_bin <| ex_var 1 rfl <| ex_int <| opx_add <| ax_cons <| ex_var 6 rfl <| ax_cons <| ex_bin <| ex_var 3 rfl <| ex_var 6 rfl <| opx_add <| ax_nil
        ⟨rfl, a, dx, m, ns, p + 1, 1 + i, tt + (1 + i), kvs', up3, up2, rfl, ne, w4, w3, hns, h40, hm', by omega, by omega, by omega, by omega, by omega, by omega, by omega, fun kvs'' hm'' => onI ⟨kvs'', some (.d (.int (1 + i))), rfl, hm'', ?_⟩⟩⟩
      rw [foundAt_succ]
      rfl
    · rintro ρ2 Ω2 ⟨kvs', z, rfl, hm', rfl⟩
      rw [rangeD_len, ← cntF_at hns]
      obtain ⟨up3, w4⟩ := w1.keep w2 ne (.dT kvs')
      have w3 := w2.upd (.dT kvs')
      refine bx_one <| sx_dput hu <| ex_var 5 rfl <| ex_fld <| ex_var 0 rfl ⟨a, _, dx, _, up3, _, rfl, w4, cls_Counts t, noat_Counts_numbers t, rfl, ex_var 4 rfl ⟨kvs', [p, l, tt], up2, ⟨m, rfl, w3, rfl⟩, hm'.len, ?_⟩⟩
      obtain ⟨m1, m2⟩ := hm'.put (p := p) (l := l) (t := tt) (by omega) (by omega) (by omega)
      obtain ⟨up4, w5⟩ := w1.keep w2 ne (.dT (putI kvs' (kI [p, l, tt]) (.d (.int (cntF ns p l tt)))))
      exact fin _ _ _ (w2.upd _) up4 w5 rfl m1 m2 rfl rfl
end

/-! ### count_covered and the law's own count -/
def S_count_covered : SpD := fun its Ω Q _ => ∃ (ns : List Int), its = [.d (.tuple (ns.map .int))] ∧ lotI ns = true ∧ ns.sum ≤ 40 ∧ Q (.d (.int (cntF ns 0 ns.sum 0))) Ω
theorem lotI_pos {ns : List Int} (h : lotI ns = true) : ∀ x ∈ ns, 1 ≤ x := fun x hx => by
  unfold lotI at h
  have h1 := (Bool.and_eq_true _ _ ▸ h).1
  have h2 := List.all_eq_true.mp h1 x hx
  have h3 := (Bool.and_eq_true _ _ ▸ h2).1
  exact of_decide_eq_true h3
theorem sum_nonneg {ns : List Int} (h : ∀ x ∈ ns, 0 ≤ x) : 0 ≤ ns.sum := by
  induction ns with
  | nil => exact Int.le_refl _
  | cons a r ih =>
    rw [List.sum_cons]
    have := h a List.mem_cons_self
    have := ih fun x hx => h x (List.mem_cons_of_mem _ hx)
    omega
section
variable {P : Program} {w : World} {K : PySem.W.Frag} {mg : Str → Option Value} {base : Heap}
theorem c_count_covered (t : T K mg) (c1 : Cal P w K mg base 4 "check_small" ["lot", "most"] S_check_small) (c2 : KCal P w K mg base 1 "Counts" ["self", "lot"] (S_init (He.ga K "Counts")))
    (c3 : MCal P w K mg base (2 + 40) (He.ga K "Counts") "count" ["self", "place", "last", "total"] (S_count (He.ga K "Counts") 40)) : Cal P w K mg base 43 "count_covered" ["lot"] S_count_covered := by
  refine mk_count_covered t (k := 42) ?_
  intro f cdv A outer s H E its Ω Qd Rd hr hl hS
  obtain ⟨ns, rfl, hn, h40, q⟩ := hS
  have hpos : ∀ x ∈ ns, 0 ≤ x := fun x hx => by have := lotI_pos hn x hx; omega
  have h0 := sum_nonneg hpos
  obtain ⟨t1, e1⟩ := m_MOST_COUNTED t
  refine bx_cons <| sx_expr <| ex_callC c1 tkB (hr.mono (by decide)) <| ax_cons <| ex_var 0 rfl <| ax_cons <| ex_globI e1 <| ax_nil ⟨rfl, ns, 40, rfl, hn, h40, ?_⟩
  refine bx_one <| sx_ret <| ex_meth c3 (hr.mono (by decide)) <| ex_make c2 (hr.mono (by decide)) <| ax_cons <| ex_var 0 rfl <| ax_nil ⟨rfl, fun a dx ha => ⟨a, dx, ns, Ω, rfl, rfl, ha, fun m hm ne => ⟨rfl, a, dx, _, _, rfl, .there .here, rfl, ?_⟩⟩⟩
  refine ax_cons <| ex_int <| ax_cons <| ex_blt "sum" (m_sum t) <| ax_cons <| ex_var 0 rfl <| ax_nil <| callx_sumT rfl <| ax_cons <| ex_int <| ax_nil ⟨rfl, a, dx, m, ns, 0, ns.sum, 0, [], _, _, rfl, ne, .there .here, .here, hpos, h40, memo0 ns, by decide, by decide, by omega, by omega, by decide, by omega, by omega, fun kvs' _ => ?_⟩
  exact ⟨2, q⟩
end

/-! ### the lot and its greatest tool -/
theorem geD_of : ∀ {ns : List Int}, ns.Pairwise (fun a b => b ≤ a) → geD ns = true
  | [], _ => rfl
  | [_], _ => rfl
  | a :: b :: r, h => by
    obtain ⟨h1, h2⟩ := List.pairwise_cons.mp h
    show (decide (b ≤ a) && geD (b :: r)) = true
    rw [geD_of h2, decide_eq_true (h1 b List.mem_cons_self)]
    rfl
theorem geD_head : ∀ {a : Int} {r : List Int}, geD (a :: r) = true → ∀ x ∈ r, x ≤ a
  | a, [], _, x, h => by cases h
  | a, b :: r, h, x, hx => by
    obtain ⟨h1, h2⟩ := (Bool.and_eq_true _ _ ▸ h : decide (b ≤ a) = true ∧ geD (b :: r) = true)
    have h1' := of_decide_eq_true h1
    rcases List.mem_cons.mp hx with rfl | hx
    · exact h1'
    · have := geD_head h2 x hx
      omega
theorem lotI_ge {ns : List Int} (h : lotI ns = true) : geD ns = true := by
  unfold lotI at h
  have h1 := (Bool.and_eq_true _ _ ▸ h).2
  exact (Bool.and_eq_true _ _ ▸ h1).1
theorem cntF_start {ns : List Int} (h : lotI ns = true) (h0 : ns ≠ []) {m : Int} (hm : m ∈ ns) (hle : ∀ y ∈ ns, y ≤ m) : cntF ns 0 ns.sum 0 = cntF ns 0 m 0 := by
  have hpos : ∀ x ∈ ns, 0 ≤ x := fun x hx => by have := lotI_pos h x hx; omega
  rw [cntF_eq hpos, cntF_eq hpos]
  have e : lim ns 0 ns.sum 0 = lim ns 0 m 0 := by
    cases ns with
    | nil => exact (h0 rfl).elim
    | cons a r =>
      have e1 : pre (a :: r) 0 = a := by
        show (List.take 1 (a :: r)).sum = a
        simp
      have e2 := hle a List.mem_cons_self
      have e3 := sum_nonneg (ns := r) fun x hx => hpos x (List.mem_cons_of_mem _ hx)
      unfold lim
      rw [e1, List.sum_cons]
      omega
  rw [e]
theorem len_le_sum : ∀ {ns : List Int}, (∀ x ∈ ns, 1 ≤ x) → (ns.length : Int) ≤ ns.sum
  | [], _ => Int.le_refl _
  | a :: r, h => by
    have h1 := h a List.mem_cons_self
    have h2 := len_le_sum (ns := r) fun x hx => h x (List.mem_cons_of_mem _ hx)
    rw [List.length_cons, List.sum_cons]
    omega
theorem le_sum : ∀ {ns : List Int}, (∀ x ∈ ns, 1 ≤ x) → ∀ x ∈ ns, x ≤ ns.sum
  | a :: r, h, x, hx => by
    have h1 := h a List.mem_cons_self
    have h3 := sum_nonneg (ns := r) fun y hy => by have := h y (List.mem_cons_of_mem _ hy); omega
    rw [List.sum_cons]
    rcases List.mem_cons.mp hx with rfl | hx
    · omega
    · have h2 := le_sum (ns := r) (fun y hy => h y (List.mem_cons_of_mem _ hy)) x hx
      omega
theorem perm_sum {a b : List Int} (h : a.Perm b) : a.sum = b.sum := by
  induction h with
  | nil => rfl
  | cons x _ ih => rw [List.sum_cons, List.sum_cons, ih]
  | swap x y l => rw [List.sum_cons, List.sum_cons, List.sum_cons, List.sum_cons]; omega
  | trans _ _ h1 h2 => rw [h1, h2]
/-- sorted and turned round, it is a lot -/
theorem lot_of {ts ns : List Int} (h1 : ∀ x ∈ ts, 1 ≤ x) (h2 : ts.sum ≤ 60) (hp : ns.Perm ts) (hs : ns.Pairwise (· ≤ ·)) : lotI ns.reverse = true ∧ ns.reverse.sum = ts.sum := by
  have e : ns.reverse.sum = ts.sum := perm_sum ((List.reverse_perm ns).trans hp)
  have hm : ∀ x ∈ ns.reverse, 1 ≤ x := fun x hx => h1 x (hp.mem_iff.mp (List.mem_reverse.mp hx))
  refine ⟨?_, e⟩
  have a1 : ns.reverse.all (fun i => decide (1 ≤ i) && decide (i ≤ 200)) = true := List.all_eq_true.mpr fun x hx => by
    have b1 := hm x hx
    have b2 := le_sum hm x hx
    rw [decide_eq_true b1, decide_eq_true (show x ≤ 200 by omega)]
    rfl
  have a2 : geD ns.reverse = true := geD_of (List.pairwise_reverse.mpr hs)
  have a3 := len_le_sum hm
  unfold lotI
  rw [a1, a2, decide_eq_true (show ns.reverse.length ≤ 60 by omega), decide_eq_true (show ns.reverse.sum ≤ 200 by omega)]
  rfl
abbrev iL (ts : List Int) : OO := .lst ((ts.map PyData.int).map .d)

/-! ### covered lots, listed -/
def lastOr (d : Int) (fd : List Int) : Int := if fd = [] then d else fd.getLastD 0
def limC (ns fd : List Int) : Int := lim ns fd.length (lastOr ns.sum fd) fd.sum
def covF (ns : List Int) : Nat → List Int → List (List Int)
  | 0, fd => [fd]
  | f + 1, fd => fd :: ((List.range (limC ns fd).toNat).map fun (i : Nat) => covF ns f (fd ++ [1 + (i : Int)])).flatten
def allF : Nat → Int → Int → List (List Int)
  | 0, _, _ => [[]]
  | f + 1, t, m => [] :: ((List.range (min t m).toNat).map fun (i : Nat) => (allF f (t - (1 + i)) (1 + i)).map fun z => (1 + (i : Int)) :: z).flatten
def okP (ns z : List Int) : Prop := ∀ k : Nat, (z.take k).sum ≤ (ns.take k).sum
theorem take_mono {ns : List Int} (h : ∀ x ∈ ns, 0 ≤ x) : ∀ {j k : Nat}, j ≤ k → (ns.take j).sum ≤ (ns.take k).sum := by
  induction ns with
  | nil => intro j k _; rw [List.take_nil, List.take_nil]; exact Int.le_refl _
  | cons a r ih =>
    intro j k hjk
    have h0 := h a List.mem_cons_self
    have hr : ∀ x ∈ r, 0 ≤ x := fun x hx => h x (List.mem_cons_of_mem _ hx)
    cases k with
    | zero =>
      have : j = 0 := by omega
      subst this
      exact Int.le_refl _
    | succ k =>
      cases j with
      | zero =>
        rw [List.take_zero, List.take_succ_cons, List.sum_cons]
        have := ih hr (Nat.zero_le k)
        rw [List.take_zero] at this
        simp only [List.sum_nil] at this ⊢
        omega
      | succ j =>
        rw [List.take_succ_cons, List.take_succ_cons, List.sum_cons, List.sum_cons]
        have := ih hr (show j ≤ k by omega)
        omega
theorem ok_pre {ns fd z : List Int} (h : ∀ x ∈ ns, 0 ≤ x) (ok : okP ns (fd ++ z)) : okP ns fd := fun k => by
  by_cases hk : k ≤ fd.length
  · have := ok k
    rw [List.take_append_of_le_length hk] at this
    exact this
  · have h1 := ok fd.length
    rw [List.take_append_of_le_length (Nat.le_refl _), List.take_length] at h1
    rw [List.take_of_length_le (by omega)]
    have := take_mono h (show fd.length ≤ k by omega)
    omega
theorem ok_snoc {ns fd : List Int} {x : Int} (h : ∀ x ∈ ns, 0 ≤ x) (ok : okP ns fd) : okP ns (fd ++ [x]) ↔ fd.sum + x ≤ pre ns fd.length := by
  have e0 : ((fd.length : Int) + 1).toNat = fd.length + 1 := by omega
  unfold pre
  rw [e0]
  constructor
  · intro h1
    have h2 := h1 (fd.length + 1)
    rw [List.take_of_length_le (by rw [List.length_append]; exact Nat.le_refl _), List.sum_append] at h2
    simpa using h2
  · intro h1 k
    by_cases hk : k ≤ fd.length
    · rw [List.take_append_of_le_length hk]
      exact ok k
    · rw [List.take_of_length_le (by rw [List.length_append]; simp; omega), List.sum_append]
      have := take_mono h (show fd.length + 1 ≤ k by omega)
      simp only [List.sum_cons, List.sum_nil]
      omega
theorem flat_cut {α : Type} (g : Nat → List α) {m n : Nat} (hmn : m ≤ n) (h : ∀ i, m ≤ i → i < n → g i = []) : ((List.range n).map g).flatten = ((List.range m).map g).flatten := by
  induction n with
  | zero =>
    have : m = 0 := by omega
    rw [this]
  | succ n ih =>
    by_cases e : m = n + 1
    · rw [e]
    · rw [List.range_succ, List.map_append, List.flatten_append, ih (by omega) (fun i h1 h2 => h i h1 (by omega))]
      simp only [List.map_cons, List.map_nil, List.flatten_cons, List.flatten_nil, List.append_nil]
      rw [h n (by omega) (by omega), List.append_nil]
theorem filter_none {α : Type} {p : α → Bool} {l : List α} (h : ∀ x ∈ l, p x = false) : l.filter p = [] := by
  rw [List.filter_eq_nil_iff]
  intro x hx
  rw [h x hx]
  exact Bool.false_ne_true
open Classical in
/-- the program's walk finds what passes, in the same order -/
theorem cov_all {ns : List Int} (h : ∀ x ∈ ns, 0 ≤ x) : ∀ (f : Nat) (fd : List Int), okP ns fd → covF ns f fd = ((allF f (ns.sum - fd.sum) (lastOr ns.sum fd)).filter fun z => decide (okP ns (fd ++ z))).map (fd ++ ·)
  | 0, fd, ok => by
    show [fd] = (List.filter _ [[]]).map _
    rw [List.filter_cons, if_pos (by rw [List.append_nil]; exact decide_eq_true ok)]
    simp
  | f + 1, fd, ok => by
    show fd :: _ = (List.filter _ ([] :: _)).map _
    rw [List.filter_cons, if_pos (by rw [List.append_nil]; exact decide_eq_true ok), List.map_cons, List.append_nil]
    congr 1
    have hpl := pre_le h fd.length
    have hl : (limC ns fd).toNat ≤ (min (ns.sum - fd.sum) (lastOr ns.sum fd)).toNat := by
      unfold limC lim
      omega
    rw [List.filter_flatten, List.map_flatten, List.map_map, List.map_map]
    rw [flat_cut _ hl]
    · congr 1
      apply List.map_congr_left
      intro i hi
      have hi' := List.mem_range.mp hi
      have hx : fd.sum + (1 + (i : Int)) ≤ pre ns fd.length := by
        have : (i : Int) < lim ns fd.length (lastOr ns.sum fd) fd.sum := by unfold limC at hi'; omega
        unfold lim at this
        omega
      have ok2 : okP ns (fd ++ [1 + (i : Int)]) := (ok_snoc h ok).mpr hx
      have ih := cov_all h f (fd ++ [1 + (i : Int)]) ok2
      have e1 : ns.sum - (fd ++ [1 + (i : Int)]).sum = ns.sum - fd.sum - (1 + i) := by
        rw [List.sum_append]
        simp only [List.sum_cons, List.sum_nil]
        omega
      have e2 : lastOr ns.sum (fd ++ [1 + (i : Int)]) = 1 + i := by
        unfold lastOr
        rw [if_neg (by simp)]
        simp
      rw [ih, e1, e2]
      show _ = List.map _ (List.filter _ (List.map _ _))
      rw [List.filter_map, List.map_map]
      congr 1
      · funext z
        show fd ++ [1 + (i : Int)] ++ z = fd ++ ((1 + (i : Int)) :: z)
        simp
      · congr 1
        funext z
        show decide (okP ns (fd ++ [1 + (i : Int)] ++ z)) = decide (okP ns (fd ++ ((1 + (i : Int)) :: z)))
        rw [List.append_assoc]
        rfl
    · intro i h1 h2
      show List.map _ (List.filter _ (List.map _ _)) = []
      rw [filter_none, List.map_nil]
      intro z hz
      obtain ⟨y, _, rfl⟩ := List.mem_map.mp hz
      refine decide_eq_false fun hok => ?_
      have e : fd ++ ((1 + (i : Int)) :: y) = (fd ++ [1 + (i : Int)]) ++ y := by simp
      rw [e] at hok
      have h3 := (ok_snoc h ok).mp (ok_pre h hok)
      have h4 : limC ns fd ≤ i := by omega
      unfold limC lim at h4
      omega
/-- so many are they -/
theorem cov_len {ns : List Int} : ∀ (f : Nat) (fd : List Int), ((covF ns f fd).length : Int) = cnt ns f fd.length (lastOr ns.sum fd) fd.sum
  | 0, fd => rfl
  | f + 1, fd => by
    show ((fd :: _).length : Int) = 1 + _
    rw [List.length_cons, List.length_flatten, List.map_map]
    have e : ∀ l : List Nat, ((l.map (List.length ∘ fun (i : Nat) => covF ns f (fd ++ [1 + (i : Int)]))).sum : Int) = (l.map fun (i : Nat) => cnt ns f (fd.length + 1) (1 + i) (fd.sum + (1 + i))).sum := fun l => by
      induction l with
      | nil => rfl
      | cons i l ih =>
        rw [List.map_cons, List.map_cons, List.sum_cons, List.sum_cons, Int.natCast_add, ih]
        have h1 := cov_len (ns := ns) f (fd ++ [1 + (i : Int)])
        have e2 : lastOr ns.sum (fd ++ [1 + (i : Int)]) = 1 + i := by
          unfold lastOr
          rw [if_neg (by simp)]
          simp
        rw [e2, List.length_append, List.sum_append] at h1
        simp only [List.length_cons, List.length_nil, List.sum_cons, List.sum_nil, Int.natCast_add] at h1
        show ((covF ns f (fd ++ [1 + (i : Int)])).length : Int) + _ = _
        rw [h1]
        congr 2
    rw [Int.natCast_add, e]
    show _ + 1 = 1 + ((List.range (limC ns fd).toNat).map _).sum
    rw [Int.add_comm]
/-! ### capacities -/
def capT (z : List Int) (t : Int) : Int := (z.map fun x => max (x - t) 0).sum
theorem capT_nonneg (z : List Int) (t : Int) : 0 ≤ capT z t := by
  unfold capT
  refine sum_nonneg fun x hx => ?_
  obtain ⟨y, _, rfl⟩ := List.mem_map.mp hx
  omega
theorem capT_cons (a : Int) (r : List Int) (t : Int) : capT (a :: r) t = max (a - t) 0 + capT r t := by
  unfold capT
  rw [List.map_cons, List.sum_cons]
theorem capT_top {z : List Int} {t : Int} (h : ∀ x ∈ z, x ≤ t) : capT z t = 0 := by
  induction z with
  | nil => rfl
  | cons a r ih =>
    rw [capT_cons, ih fun x hx => h x (List.mem_cons_of_mem _ hx)]
    have := h a List.mem_cons_self
    omega
theorem take_cap : ∀ (ns : List Int) (k : Nat) (t : Int), 0 ≤ t → (ns.take k).sum - k * t ≤ capT ns t
  | ns, 0, t, ht => by
    have := capT_nonneg ns t
    rw [List.take_zero]
    simp only [List.sum_nil]
    omega
  | [], k + 1, t, ht => by
    rw [List.take_nil]
    have : 0 ≤ ((k + 1 : Nat) : Int) * t := Int.mul_nonneg (by omega) ht
    show (0 : Int) - _ ≤ 0
    omega
  | a :: r, k + 1, t, ht => by
    have := take_cap r k t ht
    rw [List.take_succ_cons, List.sum_cons, capT_cons]
    have e : ((k + 1 : Nat) : Int) * t = k * t + t := by rw [Int.natCast_add, Int.add_mul]; omega
    rw [e]
    omega
theorem desc_of {ns : List Int} (h : geD ns = true) : ns.Pairwise (fun a b => b ≤ a) := by
  induction ns with
  | nil => exact .nil
  | cons a r ih =>
    refine List.pairwise_cons.mpr ⟨geD_head h, ih ?_⟩
    cases r with
    | nil => rfl
    | cons b r => exact (Bool.and_eq_true _ _ ▸ h : decide (b ≤ a) = true ∧ geD (b :: r) = true).2
theorem cap_take : ∀ (z : List Int), z.Pairwise (fun a b => b ≤ a) → ∀ t : Int, ∃ k : Nat, capT z t = (z.take k).sum - k * t
  | [], _, t => ⟨0, by rw [List.take_zero]; show (0 : Int) = 0 - 0 * t; omega⟩
  | a :: r, h, t => by
    obtain ⟨h1, h2⟩ := List.pairwise_cons.mp h
    by_cases ha : t < a
    · obtain ⟨k, hk⟩ := cap_take r h2 t
      refine ⟨k + 1, ?_⟩
      rw [capT_cons, hk, List.take_succ_cons, List.sum_cons]
      have e : ((k + 1 : Nat) : Int) * t = k * t + t := by rw [Int.natCast_add, Int.add_mul]; omega
      rw [e]
      omega
    · refine ⟨0, ?_⟩
      rw [capT_top (t := t) fun x hx => by
        rcases List.mem_cons.mp hx with rfl | hx
        · omega
        · have := h1 x hx
          omega]
      rw [List.take_zero]
      show (0 : Int) = 0 - 0 * t
      omega
theorem cap_at : ∀ (ns : List Int), ns.Pairwise (fun a b => b ≤ a) → (∀ x ∈ ns, 0 ≤ x) → ∀ (k : Nat) (b : Int), 0 ≤ b → (∀ x ∈ ns, x ≤ b) → ∃ t : Int, 0 ≤ t ∧ t ≤ b ∧ capT ns t + k * t = (ns.take k).sum
  | ns, h, hp, 0, b, hb, hx => ⟨b, hb, Int.le_refl _, by
      rw [capT_top hx, List.take_zero]
      show (0 : Int) + 0 * b = 0
      omega⟩
  | [], h, hp, k + 1, b, hb, hx => ⟨0, Int.le_refl _, hb, by
      rw [List.take_nil, Int.mul_zero]
      rfl⟩
  | a :: r, h, hp, k + 1, b, hb, hx => by
    obtain ⟨h1, h2⟩ := List.pairwise_cons.mp h
    have ha := hp a List.mem_cons_self
    have hab := hx a List.mem_cons_self
    obtain ⟨t, t0, t1, e⟩ := cap_at r h2 (fun x hx => hp x (List.mem_cons_of_mem _ hx)) k a ha h1
    refine ⟨t, t0, by omega, ?_⟩
    rw [capT_cons, List.take_succ_cons, List.sum_cons, ← e]
    have e : ((k + 1 : Nat) : Int) * t = k * t + t := by rw [Int.natCast_add, Int.add_mul]; omega
    rw [e]
    omega
/-- prefix sums and capacities say the same -/
theorem ok_cap {ns z : List Int} (h1 : ns.Pairwise (fun a b => b ≤ a)) (h2 : z.Pairwise (fun a b => b ≤ a)) (h3 : ∀ x ∈ ns, 0 ≤ x) : okP ns z ↔ ∀ t : Int, 0 ≤ t → capT z t ≤ capT ns t := by
  constructor
  · intro h t ht
    obtain ⟨k, hk⟩ := cap_take z h2 t
    have a1 := h k
    have a2 := take_cap ns k t ht
    omega
  · intro h k
    obtain ⟨t, t0, _, e⟩ := cap_at ns h1 h3 k (maxOr 0 (0 :: ns)) (foldmax_le ns 0).1 (foldmax_le ns 0).2.1
    have a1 := h t t0
    have a2 := take_cap z k t t0
    omega
def capI (z : List Int) (n : Int) : Int := ((z.filter fun x => decide (n ≤ x)).map fun x => x - n + 1).sum
theorem capI_T (z : List Int) (n : Int) : capI z n = capT z (n - 1) := by
  unfold capI
  induction z with
  | nil => rfl
  | cons a r ih =>
    rw [capT_cons, ← ih, List.filter_cons]
    by_cases h : n ≤ a
    · rw [decide_eq_true h, if_pos rfl, List.map_cons, List.sum_cons]
      omega
    · rw [decide_eq_false h, if_neg Bool.false_ne_true]
      omega
def covB (ns z : List Int) : Bool := ((List.range (maxOr 0 (ns ++ z ++ [0])).toNat).map fun (i : Nat) => decide (capI z (1 + i) ≤ capI ns (1 + i))).all id
theorem covB_ok {ns z : List Int} (h1 : ns.Pairwise (fun a b => b ≤ a)) (h2 : z.Pairwise (fun a b => b ≤ a)) (h3 : ∀ x ∈ ns, 0 ≤ x) : covB ns z = true ↔ okP ns z := by
  rw [ok_cap h1 h2 h3]
  unfold covB
  have hne : ns ++ z ++ [0] ≠ [] := by simp
  obtain ⟨_, hmax⟩ := maxOr_spec (d := 0) hne
  rw [List.all_eq_true]
  constructor
  · intro h t ht
    by_cases hlt : t < maxOr 0 (ns ++ z ++ [0])
    · have a1 := h _ (List.mem_map.mpr ⟨t.toNat, List.mem_range.mpr (by omega), rfl⟩)
      have a2 := of_decide_eq_true a1
      rw [capI_T, capI_T] at a2
      have e : (1 : Int) + (t.toNat : Nat) - 1 = t := by omega
      rw [e] at a2
      exact a2
    · rw [capT_top (z := z) (t := t) fun x hx => by
        have := hmax x (List.mem_append_left _ (List.mem_append_right _ hx))
        omega]
      exact capT_nonneg _ _
  · intro h x hx
    obtain ⟨i, _, rfl⟩ := List.mem_map.mp hx
    refine decide_eq_true ?_
    rw [capI_T, capI_T]
    exact h _ (by omega)
theorem all_desc : ∀ (f : Nat) (t m : Int), ∀ z ∈ allF f t m, z.Pairwise (fun a b => b ≤ a) ∧ (∀ x ∈ z, x ≤ m ∧ 1 ≤ x) ∧ (0 ≤ t → z.sum ≤ t)
  | 0, t, m, z, hz => by
    have : z = [] := by simpa [allF] using hz
    subst this
    exact ⟨.nil, fun x hx => (by cases hx), fun h => h⟩
  | f + 1, t, m, z, hz => by
    rcases List.mem_cons.mp hz with rfl | hz
    · exact ⟨.nil, fun x hx => (by cases hx), fun h => h⟩
    · obtain ⟨l, hl, hz⟩ := List.mem_flatten.mp hz
      obtain ⟨i, hi, rfl⟩ := List.mem_map.mp hl
      obtain ⟨y, hy, rfl⟩ := List.mem_map.mp hz
      have hi' := List.mem_range.mp hi
      obtain ⟨h1, h2, h3⟩ := all_desc f (t - (1 + i)) (1 + i) y hy
      refine ⟨List.pairwise_cons.mpr ⟨fun x hx => (h2 x hx).1, h1⟩, fun x hx => ?_, fun ht => ?_⟩
      · rcases List.mem_cons.mp hx with rfl | hx
        · omega
        · have := h2 x hx
          omega
      · have := h3 (by omega)
        rw [List.sum_cons]
        omega
open Classical in
/-- the program's list is the law's -/
theorem cov_due {ns : List Int} (h : lotI ns = true) (f : Nat) : covF ns f [] = (allF f ns.sum ns.sum).filter (covB ns) := by
  have hpos : ∀ x ∈ ns, 0 ≤ x := fun x hx => by have := lotI_pos h x hx; omega
  have ok : okP ns [] := fun k => by
    rw [List.take_nil]
    have := take_mono hpos (Nat.zero_le k)
    rw [List.take_zero] at this
    exact this
  rw [cov_all hpos f [] ok]
  have e : ns.sum - ([] : List Int).sum = ns.sum := by simp
  rw [e]
  have e2 : lastOr ns.sum [] = ns.sum := rfl
  rw [e2]
  have e3 : (([] : List Int) ++ ·) = id := by funext z; rfl
  rw [e3, List.map_id]
  apply List.filter_congr
  intro z hz
  have hd := (all_desc f _ _ z hz).1
  have := covB_ok (desc_of (lotI_ge h)) hd hpos
  show decide (okP ns z) = covB ns z
  cases e : covB ns z with
  | true => exact decide_eq_true (this.mp e)
  | false => exact decide_eq_false fun hok => by rw [this.mpr hok] at e; cases e

/-! ### covered_from, covered_lots -/
theorem geo : ∀ (n r : Nat), n ≤ r → ((List.range n).map fun i => 2 ^ (r - 1 - i)).sum + 2 ^ (r - n) = 2 ^ r
  | 0, r, _ => by simp
  | n + 1, r, h => by
    rw [List.range_succ, List.map_append, List.sum_append]
    have ih := geo n r (by omega)
    have e : 2 ^ (r - n) = 2 ^ (r - 1 - n) + 2 ^ (r - (n + 1)) := by
      rw [show r - n = (r - 1 - n) + 1 by omega, show r - (n + 1) = r - 1 - n by omega, Nat.pow_succ]
      omega
    simp only [List.map_cons, List.map_nil, List.sum_cons, List.sum_nil]
    omega
theorem geo_le (n r : Nat) (h : n ≤ r) (g : Nat → Nat) (hg : ∀ i, i < n → g i ≤ 2 ^ (r - 1 - i)) : 1 + ((List.range n).map g).sum ≤ 2 ^ r := by
  have h1 := geo n r h
  have h2 : ((List.range n).map g).sum ≤ ((List.range n).map fun i => 2 ^ (r - 1 - i)).sum := by
    clear h h1
    induction n with
    | zero => exact Nat.le_refl _
    | succ n ih =>
      rw [List.range_succ, List.map_append, List.map_append, List.sum_append, List.sum_append]
      have := ih fun i hi => hg i (by omega)
      have := hg n (by omega)
      simp only [List.map_cons, List.map_nil, List.sum_cons, List.sum_nil]
      omega
  have h3 : 0 < 2 ^ (r - n) := Nat.pow_pos (by decide)
  omega
theorem covF_le {ns : List Int} (h : ∀ x ∈ ns, 0 ≤ x) : ∀ (f : Nat) (fd : List Int), (covF ns f fd).length ≤ 2 ^ (ns.sum - fd.sum).toNat
  | 0, fd => Nat.pow_pos (by decide)
  | f + 1, fd => by
    show (fd :: _).length ≤ _
    rw [List.length_cons, List.length_flatten, List.map_map, Nat.add_comm]
    have hl := (lim_le h fd.length (lastOr ns.sum fd) fd.sum).1
    refine geo_le _ _ (by unfold limC; omega) _ fun i hi => ?_
    have := covF_le h f (fd ++ [1 + (i : Int)])
    rw [List.sum_append] at this
    simp only [List.sum_cons, List.sum_nil] at this
    have e : (ns.sum - (fd.sum + (1 + (i : Int) + 0))).toNat = (ns.sum - fd.sum).toNat - 1 - i := by omega
    rw [e] at this
    exact this
/-- what the turns have found -/
def rowsAt (ns : List Int) (f : Nat) (fd : List Int) (n : Nat) : List (List Int) := fd :: ((List.range n).map fun (i : Nat) => covF ns f (fd ++ [1 + (i : Int)])).flatten
theorem rowsAt_succ (ns : List Int) (f : Nat) (fd : List Int) (n : Nat) : rowsAt ns f fd (n + 1) = rowsAt ns f fd n ++ covF ns f (fd ++ [1 + (n : Int)]) := by
  unfold rowsAt
  rw [List.range_succ, List.map_append, List.flatten_append]
  simp
theorem rowsAt_le {ns : List Int} (h : ∀ x ∈ ns, 0 ≤ x) (f : Nat) (fd : List Int) {n : Nat} (hn : n ≤ (limC ns fd).toNat) : (rowsAt ns f fd n).length ≤ 2 ^ (ns.sum - fd.sum).toNat := by
  unfold rowsAt
  rw [List.length_cons, List.length_flatten, List.map_map, Nat.add_comm]
  have hl := (lim_le h fd.length (lastOr ns.sum fd) fd.sum).1
  refine geo_le _ _ (by unfold limC at hn; omega) _ fun i hi => ?_
  have := covF_le h f (fd ++ [1 + (i : Int)])
  rw [List.sum_append] at this
  simp only [List.sum_cons, List.sum_nil] at this
  have e : (ns.sum - (fd.sum + (1 + (i : Int) + 0))).toNat = (ns.sum - fd.sum).toNat - 1 - i := by omega
  rw [e] at this
  exact this
theorem rowsAt_end (ns : List Int) (f : Nat) (fd : List Int) (hf : limC ns fd ≤ f) : rowsAt ns (f - 1) fd (limC ns fd).toNat = covF ns f fd := by
  cases f with
  | zero =>
    rw [show (limC ns fd).toNat = 0 by omega]
    rfl
  | succ f => rfl
theorem covF_fuel {ns : List Int} (h : ∀ x ∈ ns, 0 ≤ x) : ∀ (f g : Nat) (fd : List Int), ns.sum - fd.sum ≤ f → ns.sum - fd.sum ≤ g → covF ns f fd = covF ns g fd
  | 0, g, fd, h1, h2 => by
    have hl := (lim_le h fd.length (lastOr ns.sum fd) fd.sum).1
    cases g with
    | zero => rfl
    | succ g =>
      show [fd] = fd :: _
      rw [show (limC ns fd).toNat = 0 by unfold limC; omega]
      rfl
  | f + 1, 0, fd, h1, h2 => by
    have hl := (lim_le h fd.length (lastOr ns.sum fd) fd.sum).1
    show fd :: _ = [fd]
    rw [show (limC ns fd).toNat = 0 by unfold limC; omega]
    rfl
  | f + 1, g + 1, fd, h1, h2 => by
    show fd :: _ = fd :: _
    congr 2
    apply List.map_congr_left
    intro i _
    have e : (fd ++ [1 + (i : Int)]).sum = fd.sum + (1 + i) := by
      rw [List.sum_append]
      simp
    exact covF_fuel h f g _ (by omega) (by omega)
def S_covfrom (f : Nat) : SpD := fun its Ω Q _ => ∃ (ns fd : List Int), its = [.d (tI ns), .d (tI fd)] ∧ (∀ x ∈ ns, 0 ≤ x) ∧ ns.sum ≤ 12 ∧ (∀ x ∈ fd, 0 ≤ x) ∧ fd.sum ≤ ns.sum ∧ fd.length ≤ fd.sum ∧ ns.sum - fd.sum ≤ f ∧ ∀ l, (∀ p ∈ Ω, p.1 ≠ l) → Q (.v (.ref l)) ((l, .lst (((covF ns f fd).map tI).map .d)) :: Ω)
def S_covlots : SpD := fun its Ω Q _ => ∃ (ns : List Int), its = [.d (tI ns)] ∧ lotI ns = true ∧ ns.sum ≤ 12 ∧ ∀ l, (∀ p ∈ Ω, p.1 ≠ l) → Q (.v (.ref l)) ((l, .lst ((sortD ((covF ns 12 []).map tI)).map .d)) :: Ω)
section
variable {P : Program} {w : World} {K : PySem.W.Frag} {mg : Str → Option Value} {base : Heap}
theorem c_covfrom (t : T K mg) (c1 : Cal P w K mg base 1 "next_tools" ["lot", "place", "last", "total"] S_next_tools) : ∀ f : Nat, Cal P w K mg base (2 + f) "covered_from" ["lot", "found"] (S_covfrom f) := by
  intro n
  induction n using Nat.strongRecOn with
  | _ n ihn =>
  rw [Nat.add_comm 2 n]
  refine mk_covered_from t (k := n + 1) ?_
  intro f cdv A outer s H E its Ω Qd Rd hr hl hS
  obtain ⟨ns, fd, rfl, hns, h12, hfd, hle, hlen, hf, q⟩ := hS
  have hsz : sizeLine = 16777216 := by decide
  have hlim := lim_le hns fd.length (lastOr ns.sum fd) fd.sum
  have h0 := sum_nonneg hfd
  refine bx_cons <| sx_set 2 sc_covered_from.nd <| ex_lst <| ax_cons <| ex_var 1 rfl <| ax_nil ⟨by show 1 ≤ sizeLine; decide, fun l hl1 => ?_⟩
  refine bx_cons <| sx_set 3 sc_covered_from.nd <| ex_ifE <| tx_cmp <| ex_blt "len" (m_len t) <| ax_cons <| ex_var 1 rfl <| ax_nil <| callx_lenT <| ex_int <| opx_gt <| onB ?_
  have rest : BX (cxOf (L2.CX P w) P w K mg base ["lot", "found", "rows", "last", "tool"] d_covered_from.qual d_covered_from.scope f cdv A outer s H E) (fun cls d _ H => E cls d H) (fun x _ Ω' => ∃ n, Rd x (Ω'.drop n)) ((defBody s_covered_from).drop 2) [some (.d (tI ns)), some (.d (tI fd)), some (.v (.ref l)), some (.d (.int (lastOr ns.sum fd))), none] ((l, .lst [.d (tI fd)]) :: Ω) { nx := fun _ Ω' => Ret Qd (.d .none) Ω', rt := Ret Qd } := by
    refine bx_cons <| sx_for hpB rfl <| ix_lst <| ex_callC c1 tkB (hr.mono (by omega)) <| ax_cons <| ex_var 0 rfl <| ax_cons <| ex_blt "len" (m_len t) <| ax_cons <| ex_var 1 rfl <| ax_nil <| callx_lenT <| ax_cons <| ex_var 3 rfl <| ax_cons <| ex_blt "sum" (m_sum t) <| ax_cons <| ex_var 1 rfl <| ax_nil <| callx_sumT rfl <| ax_nil ⟨rfl, ns, ((fd.map PyData.int).length : Nat), lastOr ns.sum fd, fd.sum, rfl, by omega, ?_, _, rfl, ?_⟩
    · rw [List.length_map]
      have h1 := pre_nonneg hns fd.length
      have h2 : 0 ≤ lastOr ns.sum fd := by
        unfold lastOr
        split
        · exact sum_nonneg hns
        · next hne =>
          cases e : fd.getLast? with
          | none => exact absurd (List.getLast?_eq_none_iff.mp e) hne
          | some z =>
            have : fd.getLastD 0 = z := by rw [List.getLastD_eq_getLast?, e]; rfl
            rw [this]
            exact hfd z (List.mem_of_getLast? e)
      have h3 : fd.sum ≤ 12 := by omega
      unfold lim at *
      omega
    · rw [List.length_map]
      show ∃ I : Nat → Ro → Om → Prop, _ ∧ (∀ i d ρ2 Ω2, (rangeD 1 (limC ns fd).toNat)[i]? = some d → _) ∧ ∀ ρ2 Ω2, I (rangeD 1 (limC ns fd).toNat).length ρ2 Ω2 → _
      refine ⟨fun i ρ Ω' => ∃ z, Ω' = (l, .lst (((rowsAt ns (n - 1) fd i).map tI).map .d)) :: Ω ∧ ρ = [some (.d (tI ns)), some (.d (tI fd)), some (.v (.ref l)), some (.d (.int (lastOr ns.sum fd))), z], ⟨none, rfl, rfl⟩, ?_, ?_⟩
      · rintro i d ρ2 Ω2 hd ⟨z, rfl, rfl⟩
        obtain ⟨hi, rfl⟩ := rangeD_get hd
        have hi2 : (i : Int) < lim ns fd.length (lastOr ns.sum fd) fd.sum := by unfold limC at hi; omega
        have es : (fd ++ [1 + (i : Int)]).sum = fd.sum + (1 + i) := by rw [List.sum_append]; simp
        refine gx_name 4 sc_covered_from.nd ?_
        refine bx_one <| sx_augL 2 sc_covered_from.nd rfl <| ex_frz <| ex_callC (ihn (n - 1) (by omega)) tkB (hr.mono (by omega)) <| ax_cons <| ex_var 0 rfl <| ax_cons <| ex_bin <| ex_var 1 rfl <| ex_tup <| ax_cons <| ex_var 4 rfl <| ax_nil ⟨by show 1 ≤ sizeLine; decide, [.int (1 + i)], rfl, opx_catT (by rw [List.length_map]; simp only [List.length_cons, List.length_nil]; omega) <| ax_nil ⟨rfl, ns, fd ++ [1 + (i : Int)], ?_, hns, h12, ?_, by omega, ?_, by omega, fun l2 hl2 => ⟨l2, _, _, rfl, rfl, _, _, _, .here, .dat, ?_, some (.d (.int (1 + i))), ?_, rfl⟩⟩⟩
        · show _ = [_, DL.It.d (.tuple ((fd ++ [1 + (i : Int)]).map .int))]
          rw [List.map_append]
          rfl
        · intro x hx
          rcases List.mem_append.mp hx with hx | hx
          · exact hfd x hx
          · have : x = 1 + (i : Int) := by simpa using hx
            omega
        · rw [List.length_append, es]
          simp only [List.length_cons, List.length_nil]
          omega
        · have h1 := rowsAt_le hns (n - 1) fd (n := i + 1) (by omega)
          rw [rowsAt_succ, List.length_append] at h1
          rw [List.length_map, List.length_map, List.length_map]
          have h2 : 2 ^ (ns.sum - fd.sum).toNat ≤ 2 ^ 12 := Nat.pow_le_pow_right (by decide) (by omega)
          have h3 : (2 : Nat) ^ 12 = 4096 := by decide
          omega
        · rw [rowsAt_succ, List.map_append, List.map_append]
      · rintro ρ2 Ω2 ⟨z, rfl, rfl⟩
        rw [rangeD_len, rowsAt_end ns n fd (by unfold limC; omega)]
        exact bx_one <| sx_ret <| ex_var 2 rfl <| ret0 <| q l hl1
  by_cases hne : fd = []
  · subst hne
    exact ifF rfl <| ex_blt "sum" (m_sum t) <| ax_cons <| ex_var 0 rfl <| ax_nil <| callx_sumT rfl <| rest
  · refine ifT ?_ ?_
    · have : 0 < fd.length := List.length_pos_iff.mpr hne
      exact decide_eq_true (by rw [List.length_map]; omega)
    · have e : lastOr ns.sum fd = fd.getLastD 0 := by unfold lastOr; rw [if_neg hne]
      refine ex_ix <| ex_var 1 rfl <| ex_un <| ex_int <| unx_neg <| ixx_T (d := .int (fd.getLastD 0)) (atI_last' ?_) ?_
      · rw [List.length_map, List.getElem?_map, ← List.getLast?_eq_getElem?, List.getLastD_eq_getLast?]
        cases e : fd.getLast? with
        | none => exact absurd (List.getLast?_eq_none_iff.mp e) hne
        | some z => rfl
      · rw [← e]
        exact rest
theorem c_covlots (t : T K mg) (c1 : Cal P w K mg base 4 "check_small" ["lot", "most"] S_check_small) (c2 : Cal P w K mg base (2 + 12) "covered_from" ["lot", "found"] (S_covfrom 12)) : Cal P w K mg base 15 "covered_lots" ["lot"] S_covlots := by
  refine mk_covered_lots t (k := 14) ?_
  intro f cdv A outer s H E its Ω Qd Rd hr hl hS
  obtain ⟨ns, rfl, hn, h12, q⟩ := hS
  have hpos : ∀ x ∈ ns, 0 ≤ x := fun x hx => by have := lotI_pos hn x hx; omega
  have h0 := sum_nonneg hpos
  obtain ⟨t1, e1⟩ := m_MOST_LISTED t
  refine bx_cons <| sx_expr <| ex_callC c1 tkB (hr.mono (by decide)) <| ax_cons <| ex_var 0 rfl <| ax_cons <| ex_globI e1 <| ax_nil ⟨rfl, ns, 12, rfl, hn, h12, ?_⟩
  refine bx_one <| sx_ret <| ex_blt "sorted" (m_sorted t) <| ax_cons <| ex_frz <| ex_callC c2 tkB (hr.mono (by decide)) <| ax_cons <| ex_var 0 rfl <| ax_cons <| ex_tup <| ax_nil ⟨by decide, [], rfl, ax_nil ⟨rfl, ns, [], rfl, hpos, h12, fun x hx => (by cases hx), h0, by decide, by show ns.sum - 0 ≤ _; omega, fun l hl => ⟨l, _, _, rfl, rfl, ax_nil <| callx_sortedD (hu30 hr) .dat (sortOk_tI id _) fun l hl => ret0 (q l hl)⟩⟩⟩
end

/-! ### the law -/
def S_cap : SpD := fun its Ω Q _ => ∃ (z : List Int) (n : Int), its = [.d (tI z), .d (.int n)] ∧ z.length ≤ 1000 ∧ Q (.d (.int (capI z n))) Ω
def S_cov : SpD := fun its Ω Q _ => ∃ (ns z : List Int), its = [.d (tI ns), .d (tI z)] ∧ (∀ x ∈ ns, x ≤ 1000) ∧ (∀ x ∈ z, x ≤ 1000) ∧ ns.length ≤ 1000 ∧ z.length ≤ 1000 ∧ Q (.d (.bool (covB ns z))) Ω
def S_all (f : Nat) : SpD := fun its Ω Q _ => ∃ (u m : Int), its = [.d (.int u), .d (.int m)] ∧ 0 ≤ u ∧ u ≤ f ∧ u ≤ 12 ∧ 0 ≤ m ∧ m ≤ 12 ∧ Q (.d (.list ((allF f u m).map tI))) Ω
def S_lot12 : SpD := fun its Ω Q _ => ∃ (a : Addr) (m : Int) (up : OO → Om), its = [.v (.ref a)] ∧ At Ω a (.lst [.d (.int m)]) up ∧ ∀ (m' : Int) (ns : List Int), lotI ns = true → ns.sum ≤ 12 → Q (.d (tI ns)) (up (.lst [.d (.int m')]))
def S_good : SpD := fun its Ω Q _ => ∃ ns : List Int, its = [.d (tI ns)] ∧ lotI ns = true ∧ ns.sum ≤ 12 ∧ ∀ Ω', Q (.d (.bool true)) (Ω' ++ Ω)
theorem allF_le : ∀ (f : Nat) (u m : Int), (allF f u m).length ≤ 2 ^ u.toNat
  | 0, u, m => Nat.pow_pos (by decide)
  | f + 1, u, m => by
    show ([] :: _).length ≤ _
    rw [List.length_cons, List.length_flatten, List.map_map, Nat.add_comm]
    refine geo_le _ _ (by omega) _ fun i hi => ?_
    have := allF_le f (u - (1 + i)) (1 + i)
    show ((allF f (u - (1 + i)) (1 + i)).map _).length ≤ _
    rw [List.length_map]
    have e : (u - (1 + (i : Int))).toNat = u.toNat - 1 - i := by omega
    rw [e] at this
    exact this
def allAt (f : Nat) (u : Int) (n : Nat) : List (List Int) := [] :: ((List.range n).map fun (i : Nat) => (allF f (u - (1 + i)) (1 + i)).map fun z => (1 + (i : Int)) :: z).flatten
theorem allAt_succ (f : Nat) (u : Int) (n : Nat) : allAt f u (n + 1) = allAt f u n ++ (allF f (u - (1 + n)) (1 + n)).map fun z => (1 + (n : Int)) :: z := by
  unfold allAt
  rw [List.range_succ, List.map_append, List.flatten_append]
  simp
theorem allAt_le (f : Nat) (u : Int) {n : Nat} (hn : n ≤ u.toNat) : (allAt f u n).length ≤ 2 ^ u.toNat := by
  unfold allAt
  rw [List.length_cons, List.length_flatten, List.map_map, Nat.add_comm]
  refine geo_le _ _ hn _ fun i hi => ?_
  have := allF_le f (u - (1 + i)) (1 + i)
  show ((allF f (u - (1 + i)) (1 + i)).map _).length ≤ _
  rw [List.length_map]
  have e : (u - (1 + (i : Int))).toNat = u.toNat - 1 - i := by omega
  rw [e] at this
  exact this
theorem allAt_end (f : Nat) (u m : Int) (h : min u m ≤ f) : allAt (f - 1) u (min u m).toNat = allF f u m := by
  cases f with
  | zero =>
    rw [show (min u m).toNat = 0 by omega]
    rfl
  | succ f => rfl
theorem all_len : ∀ (f : Nat) (u m : Int), ∀ z ∈ allF f u m, z.length ≤ f
  | 0, u, m, z, hz => by
    have : z = [] := by simpa [allF] using hz
    subst this
    exact Nat.le_refl _
  | f + 1, u, m, z, hz => by
    rcases List.mem_cons.mp hz with rfl | hz
    · exact Nat.zero_le _
    · obtain ⟨l, hl, hz⟩ := List.mem_flatten.mp hz
      obtain ⟨i, hi, rfl⟩ := List.mem_map.mp hl
      obtain ⟨y, hy, rfl⟩ := List.mem_map.mp hz
      have := all_len f _ _ y hy
      rw [List.length_cons]
      omega
theorem v272 : cntF [12] 0 12 0 = 272 := by decide +kernel
section
variable {P : Program} {w : World} {K : PySem.W.Frag} {mg : Str → Option Value} {base : Heap}
theorem c_cap (t : T K mg) : Cal P w K mg base 1 "_law_capacity" ["lot", "need"] S_cap := by
  refine mk__law_capacity t ?_
  intro f cdv A outer s H E its Ω Qd Rd hr hl hS
  obtain ⟨z, n, rfl, hz, q⟩ := hS
  have hsz : sizeLine = 16777216 := by decide
  refine bx_one <| sx_ret <| ex_blt "sum" (m_sum t) <| ax_cons <| ex_frz <| ex_lc1 2 rfl sc__law_capacity <| ix_tupl <| ex_var 0 rfl ⟨_, rfl, ?_⟩
  refine lcx_filt z .int (fun x => decide (n ≤ x)) (fun x => x - n + 1) .int rfl (by omega) ?_ ?_ ?_
  · intro a ha p s0 H0 C cl fp
    exact tx_cmp <| ex_var 2 rfl <| ex_var 1 rfl <| opx_ge <| onB ⟨rfl, rfl⟩
  · intro a ha _ p s0 H0 C cl fp
    exact ex_bin <| ex_bin <| ex_var 2 rfl <| ex_var 1 rfl <| opx_sub <| ex_int <| opx_add ⟨rfl, rfl⟩
  · exact ax_nil <| callx_sumL rfl .dat <| ret0 q
theorem c_cov (t : T K mg) (c1 : Cal P w K mg base 1 "_law_capacity" ["lot", "need"] S_cap) : Cal P w K mg base 2 "_law_covers" ["first", "second"] S_cov := by
  refine mk__law_covers t ?_
  intro f cdv A outer s H E its Ω Qd Rd hr hl hS
  obtain ⟨ns, z, rfl, hn, hz, ln, lz, q⟩ := hS
  have hsz : sizeLine = 16777216 := by decide
  have hne : ns ++ z ++ [0] ≠ [] := by simp
  obtain ⟨mm, hmax⟩ := maxOr_spec (d := 0) hne
  have b1 : maxOr 0 (ns ++ z ++ [0]) ≤ 1000 := by
    rcases List.mem_append.mp mm with mm | mm
    · rcases List.mem_append.mp mm with mm | mm
      · exact hn _ mm
      · exact hz _ mm
    · have : maxOr 0 (ns ++ z ++ [0]) = 0 := by simpa using mm
      omega
  have b0 : 0 ≤ maxOr 0 (ns ++ z ++ [0]) := hmax 0 (by simp)
  refine bx_cons <| sx_set 2 sc__law_covers.nd <| ex_listRg2 rfl (m_list t) (m_range t) <| ex_int <| onI <| ex_bin <| ex_blt "max" (m_max t) <| ax_cons <| ex_bin <| ex_bin <| ex_var 0 rfl <| ex_var 1 rfl <| opx_catT (by rw [List.length_map, List.length_map]; omega) <| ex_tup <| ax_cons <| ex_int <| ax_nil ⟨by show 1 ≤ sizeLine; decide, [.int 0], rfl, opx_catT (by rw [List.length_append, List.length_map, List.length_map]; simp only [List.length_cons, List.length_nil]; omega) <| ax_nil ?_⟩
  have e1 : ns.map PyData.int ++ z.map PyData.int ++ [.int 0] = (ns ++ z ++ [0]).map .int := by rw [List.map_append, List.map_append]; rfl
  rw [e1]
  refine callx_maxT rfl (hu_of hr) hne <| ex_int <| opx_add <| onI ⟨?_, ?_⟩
  · unfold RgOk
    omega
  rw [Int.add_sub_cancel]
  refine bx_one <| sx_ret <| ex_blt "all" (m_all t) <| ax_cons <| ex_frz <| ex_lc1 3 rfl sc__law_covers <| ix_lst <| ex_var 2 rfl ⟨_, rfl, ?_⟩
  refine lcx_map (List.range (maxOr 0 (ns ++ z ++ [0])).toNat) (fun i => .int (1 + (i : Nat))) (fun i => decide (capI z (1 + (i : Nat)) ≤ capI ns (1 + (i : Nat)))) .bool rfl (by rw [List.length_range]; omega) ?_ ?_
  · intro i hi p s0 H0 C cl fp
    exact ex_cmp <| ex_callC c1 takes0' (hr.mono (by decide)) <| ax_cons <| ex_var 0 rfl <| ax_cons <| ex_var 3 rfl <| ax_nil ⟨rfl, ns, _, rfl, ln, ex_callC c1 takes0' (hr.mono (by decide)) <| ax_cons <| ex_var 1 rfl <| ax_cons <| ex_var 3 rfl <| ax_nil ⟨rfl, z, _, rfl, lz, opx_ge ⟨rfl, rfl⟩⟩⟩
  · exact ax_nil <| callx_all rfl .dat <| ret0 q
theorem c_all (t : T K mg) : ∀ f : Nat, Cal P w K mg base (1 + f) "_law_all" ["total", "most"] (S_all f) := by
  intro n
  induction n using Nat.strongRecOn with
  | _ n ihn =>
  rw [Nat.add_comm 1 n]
  refine mk__law_all t (k := n) ?_
  intro f cdv A outer s H E its Ω Qd Rd hr hl hS
  obtain ⟨u, m, rfl, u0, uf, u12, m0, m12, q⟩ := hS
  have hsz : sizeLine = 16777216 := by decide
  refine bx_cons <| sx_set 2 sc__law_all.nd <| ex_lstD <| ax_cons <| ex_tup <| ax_nil ⟨by decide, [], rfl, ax_nil ⟨by show 1 ≤ sizeLine; decide, [tI []], rfl, ?_⟩⟩
  refine bx_cons <| sx_for hpB rfl <| ix_range2 (m_range t) <| ex_int <| onI <| ex_bin <| ex_blt "min" (m_min t) <| ax_cons <| ex_var 0 rfl <| ax_cons <| ex_var 1 rfl <| ax_nil <| callx_min2 rfl <| ex_int <| opx_add <| onI ⟨by omega, ?_⟩
  rw [Int.add_sub_cancel]
  have p12 : (2 : Nat) ^ u.toNat ≤ 4096 := Nat.le_trans (Nat.pow_le_pow_right (by decide) (show u.toNat ≤ 12 by omega)) (by decide)
  refine ⟨fun i ρ Ω' => ∃ z1 z2, Ω' = Ω ∧ ρ = [some (.d (.int u)), some (.d (.int m)), some (.d (.list ((allAt (n - 1) u i).map tI))), z1, z2], ⟨none, none, rfl, rfl⟩, ?_, ?_⟩
  · rintro i d ρ2 Ω2 hd ⟨z1, z2, rfl, rfl⟩
    obtain ⟨hi, rfl⟩ := rangeD_get hd
    refine gx_name 3 sc__law_all.nd ?_
    have h1 := allAt_le (n - 1) u (n := i + 1) (by omega)
    rw [allAt_succ, List.length_append, List.length_map] at h1
    refine bx_one <| sx_set 2 sc__law_all.nd <| ex_bin <| ex_var 2 rfl <| ex_frz <| ex_lc1 4 rfl sc__law_all <| ix_lst <| ex_callC (ihn (n - 1) (by omega)) tkB (hr.mono (by omega)) <| ax_cons <| ex_bin <| ex_var 0 rfl <| ex_var 3 rfl <| opx_sub <| ax_cons <| ex_var 3 rfl <| ax_nil ⟨rfl, u - (1 + (i : Nat)), 1 + (i : Nat), rfl, by omega, by omega, by omega, by omega, by omega, _, rfl, ?_⟩
    refine lcx_map (allF (n - 1) (u - (1 + (i : Nat))) (1 + (i : Nat))) tI (fun z => (1 + (i : Int)) :: z) tI rfl (by omega) ?_ ?_
    · intro z hz p s0 H0 C cl fp
      have d := all_desc _ _ _ z hz
      have d2 := len_le_sum fun x hx => (d.2.1 x hx).2
      have d3 := d.2.2 (by omega)
      exact ex_bin <| ex_tup <| ax_cons <| ex_var 3 rfl <| ax_nil ⟨by show 1 ≤ sizeLine; decide, [.int (1 + (i : Nat))], rfl, ex_var 4 rfl <| opx_catT (by rw [List.length_map]; simp only [List.length_cons, List.length_nil]; omega) ⟨rfl, rfl⟩⟩
    · refine opx_catLD .dat .dat (by rw [List.length_map, List.length_map, List.length_map]; omega) ⟨some (.d (.int (1 + (i : Nat)))), z2, rfl, ?_⟩
      rw [allAt_succ, List.map_append]
      rfl
  · rintro ρ2 Ω2 ⟨z1, z2, rfl, rfl⟩
    rw [rangeD_len, allAt_end n u m (by omega)]
    exact bx_one <| sx_ret <| ex_var 2 rfl <| ret0 q
theorem c_lot12 (t : T K mg) (c1 : Cal P w K mg base 1 "_law_take" ["digits", "size"] S_take) : Cal P w K mg base 2 "_law_small" ["digits"] S_lot12 := by
  refine mk__law_small t ?_
  intro f cdv A outer s H E its Ω Qd Rd hr hl hS
  obtain ⟨a, m, up, rfl, w1, q⟩ := hS
  refine bx_cons <| sx_set 1 sc__law_small.nd <| ex_callC c1 tkB (hr.mono (by decide)) <| ax_cons <| ex_var 0 rfl <| ax_cons <| ex_int <| ax_nil ⟨rfl, a, m, 13, up, rfl, w1, by decide, by decide, fun m0 l h1 h2 => ?_⟩
  refine bx_cons <| sx_set 2 sc__law_small.nd <| ex_lst <| ax_nil ⟨by decide, fun z hz => ?_⟩
  refine bx_cons <| sx_while hpB (fun n ρ Ω' => ∃ (ts : List Int) (m' : Int), Ω' = (z, iL ts) :: up (.lst [.d (.int m')]) ∧ (∀ x ∈ ts, 1 ≤ x) ∧ ts.sum + n = l ∧ ρ = [some (.v (.ref a)), some (.d (.int n)), some (.v (.ref z))]) ⟨l.toNat, [], m0, rfl, fun x hx => (by cases hx), (by show (0 : Int) + _ = _; omega), (by rw [show ((l.toNat : Nat) : Int) = l by omega]; rfl)⟩ ?_
  rintro n ρ2 Ω2 ⟨ts, m', rfl, ht, hs, rfl⟩
  have hlen := len_le_sum ht
  refine tx_cmp <| ex_var 1 rfl <| ex_int <| opx_gt <| onB <| ifB (fun hn => ?_) (fun hn => ?_)
  · have hn' := of_decide_eq_true hn
    have w2 := w1.upd (.lst [.d (.int m')])
    have hsz : ((ts.map PyData.int).map DL.It.d).length < sizeLine := by
      rw [List.length_map, List.length_map]
      have : sizeLine = 16777216 := by decide
      omega
    refine bx_cons <| sx_expr <| ex_met PySem.F.plainAttrs_list PySem.F.slot_list_append PySem.F.type_list_append <| ex_var 2 rfl ⟨tyx_list .here, ax_cons <| ex_bin <| ex_int <| ex_callC c1 tkB (hr.mono (by decide)) <| ax_cons <| ex_var 0 rfl <| ax_cons <| ex_blt "min" (m_min t) <| ax_cons <| ex_var 1 rfl <| ax_cons <| ex_bin <| ex_int <| ex_callC c1 tkB (hr.mono (by decide)) <| ax_cons <| ex_var 0 rfl <| ax_cons <| ex_int <| ax_nil ⟨rfl, a, m', 12, _, rfl, .there w2, by decide, by decide, fun m2 n2 a1 a2 => opx_add <| ax_nil <| callx_min2 rfl <| ax_nil ⟨rfl, a, m2, _, _, rfl, .there (w1.upd _), by omega, by omega, fun m3 n3 b1 b2 => opx_add <| ax_nil <| metx_append .here hsz ?_⟩⟩⟩
    have e1 : ((ts.map PyData.int).map DL.It.d ++ [.d (.int (1 + n3))]) = ((ts ++ [1 + n3]).map PyData.int).map .d := by rw [List.map_append, List.map_append]; rfl
    rw [e1]
    have e2 : atI (((ts ++ [1 + n3]).map PyData.int).map DL.It.d) (-1) = some (.d (.int (1 + n3))) := by
      refine atI_last' ?_
      rw [List.length_map, List.length_map, List.length_append, List.getElem?_map, List.getElem?_map]
      simp
    refine bx_one <| sx_set 1 sc__law_small.nd <| ex_bin <| ex_var 1 rfl <| ex_ix <| ex_var 2 rfl <| ex_un <| ex_int <| unx_neg <| ixx_O .here e2 <| opx_sub ⟨(n - (1 + n3)).toNat, by omega, ts ++ [1 + n3], m3, rfl, fun x hx => ?_, ?_, ?_⟩
    · rcases List.mem_append.mp hx with hx | hx
      · exact ht x hx
      · have : x = 1 + n3 := by simpa using hx
        omega
    · rw [List.sum_append]
      simp only [List.sum_cons, List.sum_nil]
      omega
    · show [_, some (DL.It.d (.int (n - (1 + n3)))), _] = _
      rw [show (((n - (1 + n3)).toNat : Nat) : Int) = n - (1 + n3) by omega]
  · have hn' := of_decide_eq_false hn
    refine bx_one <| sx_ret <| ex_bty "tuple" (m_tuple t) <| ax_cons <| ex_rev <| ex_blt "sorted" (m_sorted t) <| ax_cons <| ex_var 2 rfl <| ax_nil <| callx_sorted (.own .here) fun ns hp hs2 => ⟨_, .dat, ax_nil <| callx_tuple (.lst .dat) ?_⟩
    rw [← List.map_reverse]
    obtain ⟨g1, g2⟩ := lot_of ht (by omega) hp hs2
    exact ⟨1, q m' _ g1 (by omega)⟩
theorem c_good (t : T K mg) (c1 : Cal P w K mg base 2 "_law_covers" ["first", "second"] S_cov) (c2 : Cal P w K mg base (1 + 12) "_law_all" ["total", "most"] (S_all 12)) (c3 : Cal P w K mg base 15 "covered_lots" ["lot"] S_covlots) (c4 : Cal P w K mg base 43 "count_covered" ["lot"] S_count_covered) : Cal P w K mg base 44 "_law_good" ["lot"] S_good := by
  refine mk__law_good t (k := 43) ?_
  intro f cdv A outer s H E its Ω Qd Rd hr hl hS
  obtain ⟨ns, rfl, hlot, h12, q⟩ := hS
  have hsz : sizeLine = 16777216 := by decide
  have hpos : ∀ x ∈ ns, 1 ≤ x := lotI_pos hlot
  have h0 := sum_nonneg (ns := ns) fun x hx => by have := hpos x hx; omega
  have hlen := len_le_sum hpos
  have hle := le_sum hpos
  refine bx_cons <| sx_set 1 sc__law_good.nd <| ex_blt "sum" (m_sum t) <| ax_cons <| ex_var 0 rfl <| ax_nil <| callx_sumT rfl ?_
  refine bx_cons <| sx_set 2 sc__law_good.nd <| ex_blt "sorted" (m_sorted t) <| ax_cons <| ex_frz <| ex_lc1 4 rfl sc__law_good <| ix_lst <| ex_callC c2 tkB (hr.mono (by decide)) <| ax_cons <| ex_var 1 rfl <| ax_cons <| ex_var 1 rfl <| ax_nil ⟨rfl, ns.sum, ns.sum, rfl, h0, h12, h12, h0, h12, _, rfl, ?_⟩
  have hal := allF_le 12 ns.sum ns.sum
  have p12 : (2 : Nat) ^ ns.sum.toNat ≤ 4096 := Nat.le_trans (Nat.pow_le_pow_right (by decide) (show ns.sum.toNat ≤ 12 by omega)) (by decide)
  refine lcx_filt (allF 12 ns.sum ns.sum) tI (covB ns) id tI rfl (by omega) ?_ ?_ ?_
  · intro z hz p s0 H0 C cl fp
    have d1 := (all_desc 12 _ _ z hz).2.1
    have d2 := all_len 12 _ _ z hz
    exact tx_val <| ex_callC c1 takes0' (hr.mono (by decide)) <| ax_cons <| ex_var 0 rfl <| ax_cons <| ex_var 4 rfl <| ax_nil ⟨rfl, ns, z, rfl, fun x hx => by have := hle x hx; omega, fun x hx => by have := d1 x hx; omega, by omega, by omega, onB ⟨rfl, rfl⟩⟩
  · intro z hz _ p s0 H0 C cl fp
    exact ex_var 4 rfl ⟨rfl, rfl⟩
  rw [List.map_id, ← cov_due hlot 12]
  refine ax_nil <| callx_sortedD (hu30 hr) .dat (sortOk_tI id _) fun l1 hl1 => ?_
  have sh : SeqAt.shaped (.list (sortD ((covF ns 12 []).map tI))) = true := shaped_list fun d hd => by
    obtain ⟨z, _, rfl⟩ := List.mem_map.mp (sortD_mem.mp hd)
    exact lay_tI z
  refine bx_cons <| sx_freeze (.same <| .same <| .chg <| .same <| .same .nil) <| sx_set 3 sc__law_good.nd <| ex_callC c3 tkB (hr.mono (by decide)) <| ax_cons <| ex_var 0 rfl <| ax_nil ⟨rfl, ns, rfl, hlot, h12, fun l2 hl2 => ?_⟩
  have hb : ((sortD ((covF ns 12 []).map tI)).length : Int) = cntF ns 0 ns.sum 0 := by
    rw [sortD_len, List.length_map]
    have := cov_len (ns := ns) 12 []
    rw [this]
    show cnt ns 12 0 ns.sum 0 = cntF ns 0 ns.sum 0
    exact cnt_fuel (fun x hx => by have := hpos x hx; omega) 12 (ns.sum - 0).toNat 0 ns.sum 0 (by show ns.sum - 0 ≤ 12; omega) (by omega)
  refine bx_cons <| sx_if1 <| tx_W <| wt_or <| tx_cmp <| ex_var 3 rfl <| ex_var 2 rfl <| opx_neD (hu64 hr) (.own .here) .dat sh sh <| onB ?_
  rw [eqv_self sh]
  refine wt_or1 <| tx_cmp <| ex_callC c4 tkB (hr.mono (by decide)) <| ax_cons <| ex_var 0 rfl <| ax_nil ⟨rfl, ns, rfl, hlot, by omega, ?_⟩
  refine ex_blt "len" (m_len t) <| ax_cons <| ex_var 2 rfl <| ax_nil <| callx_lenL .dat ?_
  rw [hb]
  refine opx_ne <| onB <| ifF (by simp) ?_
  have hll : (((sortD ((covF ns 12 []).map tI)).map DL.It.d).length : Nat) < sizeLine := by
    rw [List.length_map, sortD_len, List.length_map, cov_due hlot 12]
    have := List.length_filter_le (covB ns) (allF 12 ns.sum ns.sum)
    omega
  refine bx_cons <| sx_expr <| ex_met PySem.F.plainAttrs_list PySem.F.slot_list_append PySem.F.type_list_append <| ex_var 3 rfl ⟨tyx_list .here, ax_cons <| ex_none <| ax_nil <| metx_append .here hll ?_⟩
  refine bx_one <| sx_ret <| ex_cmp <| ex_callC c3 tkB (hr.mono (by decide)) <| ax_cons <| ex_var 0 rfl <| ax_nil ⟨rfl, ns, rfl, hlot, h12, fun l3 hl3 => ex_var 2 rfl <| opx_eqD (hu64 hr) (.own .here) .dat sh sh ?_⟩
  rw [eqv_self sh]
  exact ret0 (q [_, _])
theorem c_law (t : T K mg) (cc : Cal P w K mg base 2 "_law_cell" ["script", "k"] S_cell) (cl : Cal P w K mg base 2 "_law_small" ["digits"] S_lot12) (cg : Cal P w K mg base 44 "_law_good" ["lot"] S_good) (c3 : Cal P w K mg base 15 "covered_lots" ["lot"] S_covlots) (cn : Cal P w K mg base 43 "count_covered" ["lot"] S_count_covered) :
    Body P w K mg base 44 d_law ["script", "turn", "digits", "k"] ["script"] spTrue := by
  intro f cdv A outer s H E its Ω Qd Rd hr hl hS
  obtain ⟨ns, rfl, hlen, rfl, q⟩ := hS
  refine bx_cons <| sx_for hpB rfl <| ix_range1 (m_range t) <| ex_blt "max" (m_max t) <| ax_cons <| ex_blt "min" (m_min t) <| ax_cons <| ex_blt "len" (m_len t) <| ax_cons <| ex_var 0 rfl <| ax_nil <| callx_lenS <| ax_cons <| ex_int <| ax_nil <| callx_min2 rfl <| ax_cons <| ex_int <| ax_nil <| callx_max2 rfl <| onI ⟨⟨by omega, by omega⟩, fun i ρ Ω' => ∃ z1 z2 z3, ρ = [some (.s ns), z1, z2, z3], ⟨_, _, _, rfl⟩, ?_, ?_⟩
  · rintro i d ρ2 Ω2 hd ⟨z1, z2, z3, rfl⟩
    obtain ⟨hi, rfl⟩ := rangeD_get hd
    refine gx_name 1 sc_law.nd ?_
    refine bx_cons <| sx_set 2 sc_law.nd <| ex_lst <| ax_cons <| ex_callC cc tkB (hr.mono (by decide)) <| ax_cons <| ex_var 0 rfl <| ax_cons <| ex_var 1 rfl <| ax_nil ⟨rfl, ns, _, rfl, by omega, by omega, fun n => ax_nil ⟨by show 1 ≤ sizeLine; decide, fun a ha => ?_⟩⟩
    refine bx_one <| sx_for hpB rfl <| ix_range1 (m_range t) <| ex_int <| onI ⟨⟨by decide, by decide⟩, fun j ρ Ω' => ∃ m z3 Ω0 Ω9, Ω' = Ω9 ++ (a, .lst [.d (.int m)]) :: Ω0 ∧ ρ = [some (.s ns), some (.d (.int (0 + (i : Nat)))), some (.v (.ref a)), z3], ⟨n, z3, _, [], rfl, rfl⟩, ?_, ?_⟩
    · rintro j d ρ3 Ω3 hd3 ⟨m, y3, Ω0, Ω9, rfl, rfl⟩
      obtain ⟨hj, rfl⟩ := rangeD_get hd3
      refine gx_name 3 sc_law.nd ?_
      refine bx_drop Ω9.length ?_
      rw [List.drop_left]
      refine bx_one <| sx_if1 <| tx_not <| tx_val <| ex_callC cg tkB (hr.mono (by decide)) <| ax_cons <| ex_callC cl tkB (hr.mono (by decide)) <| ax_cons <| ex_var 2 rfl <| ax_nil ⟨rfl, a, m, _, rfl, .here, fun m' ls h1 h2 => ax_nil ⟨rfl, ls, rfl, h1, h2, fun Ω' => onB ?_⟩⟩
      exact ifF rfl ⟨m', _, Ω0, Ω', rfl, rfl⟩
    · rintro ρ3 Ω3 ⟨m, y3, Ω0, Ω9, rfl, rfl⟩
      exact ⟨_, _, _, rfl⟩
  · rintro ρ2 Ω2 ⟨z1, z2, z3, rfl⟩
    have sh : SeqAt.shaped (.list [tI []]) = true := shaped_list fun d hd => by
      have : d = tI [] := by simpa using hd
      subst this
      exact lay_tI []
    have e0 : sortD ((covF [] 12 []).map tI) = [tI []] := by
      have e : covF [] 12 [] = [[]] := by decide +kernel
      rw [e]
      unfold sortD
      simp
    refine bx_one <| sx_ret <| ex_and <| ex_cmp <| ex_callC c3 tkB (hr.mono (by decide)) <| ax_cons <| ex_tup <| ax_nil ⟨by decide, [], rfl, ax_nil ⟨rfl, [], rfl, by decide +kernel, by decide +kernel, fun l hl => ?_⟩⟩
    rw [e0]
    refine ex_lstD <| ax_cons <| ex_tup <| ax_nil ⟨by decide, [], rfl, ax_nil ⟨by show 1 ≤ sizeLine; decide, [tI []], rfl, opx_eqD (hu64 hr) (.own .here) .dat sh sh ?_⟩⟩
    rw [eqv_self sh]
    refine onB <| ifT rfl ?_
    refine ex_one <| ex_cmp <| ex_callC cn tkB (hr.mono (by decide)) <| ax_cons <| ex_tup <| ax_cons <| ex_int <| ax_nil ⟨by show 1 ≤ sizeLine; decide, _, rfl, ax_nil ⟨rfl, [12], rfl, by decide +kernel, by decide +kernel, ?_⟩⟩
    have e2 : [(12 : Int)].sum = 12 := by decide +kernel
    rw [e2, v272]
    exact ex_int <| opx_eq <| ret0 <| q _
end
theorem facts {P : Program} {w : World} {K : PySem.W.Frag} {h : Heap} {mg : Str → Option Value} {f : Addr} (X : K.In h) (G : h.Ns mainGlobals mg) (hfa : mg "law" = some (.ref f)) (c : He.SaysD fa fn K) :
    ∃ fd : FuncData, (∀ (s : Shared) (v : Value), BindsTo s fd ⟨[v], []⟩ [("script", v)]) ∧ ∀ base : Heap, K.In base → base.Ns mainGlobals mg → FnOk P w K mg base (L2.CX P w) 45 f fd ["script"] (spD K 1 spTrue) := by
  refine mk_the_law X G hfa c fun base kb gb => ?_
  have t : T K mg := ⟨c, h, X, G⟩
  have ci := c_is_integer (P := P) (w := w) (base := base) t
  have cf := c_fits (P := P) (w := w) (base := base) t
  have cil := c_is_lot t ci cf
  have ccl := c_check_lot t cil
  have ccs := c_check_small t ccl
  have cnt := c_next_tools (P := P) (w := w) (base := base) t
  have cin := c_init (P := P) (w := w) (base := base) t
  have cco := c_count t cnt 40
  have ccc := c_count_covered t ccs cin cco
  have cvf := c_covfrom t cnt 12
  have cvl := c_covlots t ccs cvf
  have cm := c_mixed (P := P) (w := w) (base := base) t
  have cce := c_cell t cm
  have ct := c_take (P := P) (w := w) (base := base) t
  have clu := c_lot12 t ct
  have ccp := c_cap (P := P) (w := w) (base := base) t
  have ccv := c_cov t ccp
  have cal := c_all (P := P) (w := w) (base := base) t 12
  exact c_law t cce clu (c_good t ccv cal cvl ccc) cvl ccc

end K60
set_option Elab.async false
set_option linter.all false
set_option maxRecDepth 100000
set_option maxHeartbeats 0
namespace K60
open PySem PySem.Spec PyProof.Rows L2 DL
/-! ### the head -/
abbrev Rw : PySem.W.OpenRow := PySem.W.OpenLaw.row PySem.Challenge.rw_keenlot_k60_covered_lots_listed
abbrev hk : PySem.W.Hook := He.hookD 5 fa fn
def ob (s : PySem.W.SharedT) : He.AlD := He.obsDG 5 fa fn (HandSHeadRun.getT s)
theorem ob_eq (s : PySem.W.SharedT) : ob s = hk.obs s.abs := He.obsDG_eq (HandSHeadRun.getT_eq s)
def loose : List Str := ["KeenError", "InvalidLot", "TooLarge", "LIMIT", "MOST_TOOLS", "is_integer", "fits", "is_lot", "check_lot", "MOST_LISTED", "MOST_COUNTED", "check_small", "next_tools", "covered_from", "covered_lots", "Counts", "count_covered", "_law_mixed", "_law_cell", "_law_take", "_law_capacity", "_law_covers", "_law_all", "_law_small", "_law_good"]
theorem run (w : World) : HandSHeadRun.RunEq Rw (PySem.W.view Rw.prog [29]) hk ob 4000 loose w := by
  intro os
  kernel_rfl
end K60

open PySem PySem.W PySem.Calls PyProof.Rows
set_option maxRecDepth 100000 in
set_option maxHeartbeats 0 in
theorem PySem.Challenge.cw_keenlot_k60_covered_lots_listed_holds : PySem.Challenge.rw_keenlot_k60_covered_lots_listed.Holds := by
  w_on; o_law
  refine HandSHeadRun.head_any (r := OpenLaw.row PySem.Challenge.rw_keenlot_k60_covered_lots_listed) (q := view (OpenLaw.row PySem.Challenge.rw_keenlot_k60_covered_lots_listed).prog [29]) (H := K60.hk) (ob := K60.ob) (M := 4000) (loose := K60.loose) (d := HandSHeadRun.topDef (OpenLaw.row PySem.Challenge.rw_keenlot_k60_covered_lots_listed).prog 29) (kwd := []) K60.ob_eq
    (by kernel_rfl) (fun s => by kernel_rfl) K60.run (by kernel_rfl) (by kernel_rfl) (by kernel_rfl) (by rfl) (by first | assumption | decide +kernel) (by decide +kernel) ⟨rfl, rfl, rfl, rfl, rfl, by decide +kernel⟩ ?hw ?hc
  case hw => w_witness2
  case hc =>
    refine L2.walk_ofE (l := PySem.Challenge.rw_keenlot_k60_covered_lots_listed) (n := 63) (k := 45) (x := "script") (CX := DL.CXA (PySem.Challenge.rw_keenlot_k60_covered_lots_listed).prog) rfl (by decide) (by kernel_rfl) ⟨rfl, by decide, by decide⟩ ?F (fun H s e s' z => DL.lawCXA H s e s' z)
    intro w mg fa h Y G hmg0
    obtain ⟨K, KX, c⟩ := Y
    have hmg : mg ("law" : PySem.Str) = some (.ref fa) := by
      have e : (HandSHeadRun.topDef (OpenLaw.row PySem.Challenge.rw_keenlot_k60_covered_lots_listed).prog 29).name = ("law" : PySem.Str) := by kernel_rfl
      rw [← e]
      exact hmg0
    obtain ⟨fd, hb, hF⟩ := K60.facts (P := (PySem.Challenge.rw_keenlot_k60_covered_lots_listed).prog) (w := w) KX G hmg c
    exact ⟨K, fd, DL.spD K 1 DL.spTrue, KX, hb, fun H a ns hl _ hS => DL.law_sp hl hS, fun base kb gb => DL.fnAny (hF base kb gb)⟩
