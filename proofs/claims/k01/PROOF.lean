import PyProof.Rows.All
import Wide.All
import OpenK.AllK
import Wide.FinOn
import HandS.ForMost
import HandS.IsInst
import HandS.Zip
import HandS.Defaults
import HandS.Style
import HandS.Walk
import PySem.Challenge.RW_ringlessday_k01_names_and_ends_judged
set_option Elab.async false
set_option linter.all false
set_option maxRecDepth 100000
set_option maxHeartbeats 4000000
namespace Rg
open PySem L2
/-! ### data -/
/-- what a value is worth, without the heap; seq: a list that is only read (the script); raw: a value by itself (an object that changes, a class, a def) -/
inductive D where
  | non
  | bl (b : Bool)
  | int (i : Int)
  | str (x : Str)
  | list (ds : List D)
  | tup (ds : List D)
  | obj (C : Addr) (ns : List Str) (ds : List D)
  | seq (ds : List D)
  | raw (v : V)
mutual
inductive Rp (K : PySem.W.Frag) (G : Hp) : V → D → Prop
  | non : Rp K G .non .non
  | bl (b : Bool) : Rp K G (.bl b) (.bl b)
  | int (i : Int) : Rp K G (.int i) (.int i)
  | str (x : Str) : Rp K G (.str x) (.str x)
  | lst {a : Addr} {xs : List V} {ds : List D} : G a = some (.lst xs) → RpAll K G xs ds → Rp K G (.ref a) (.list ds)
  | tup {a : Addr} {xs : List V} {ds : List D} : SqT K G a xs → RpAll K G xs ds → Rp K G (.ref a) (.tup ds)
  | obj {a C dx : Addr} {fs : List (Str × V)} {ds : List D} : G a = some (.ins C dx fs) → RpAll K G (fs.map (·.2)) ds → Rp K G (.ref a) (.obj C (fs.map (·.1)) ds)
  | seq {a : Addr} {xs : List V} {ds : List D} : SqL K G a xs → RpAll K G xs ds → Rp K G (.ref a) (.seq ds)
  | raw (v : V) : Rp K G v (.raw v)
inductive RpAll (K : PySem.W.Frag) (G : Hp) : List V → List D → Prop
  | nil : RpAll K G [] []
  | cons {v : V} {vs : List V} {d : D} {ds : List D} : Rp K G v d → RpAll K G vs ds → RpAll K G (v :: vs) (d :: ds)
end
theorem sq {K : PySem.W.Frag} {H : Hp} {a : Addr} {xs : List V} (h : H a = some (.lst xs)) : SqL K H a xs := .inl (.inl h)
theorem same_t {K : PySem.W.Frag} {H H' : Hp} {a : Addr} {xs : List V} (e : Same H H') (h : SqT K H a xs) : SqT K H' a xs := by
  rcases h with (h | ⟨o, h⟩) | h
  · exact .inl (.inl (e _ _ h))
  · exact .inl (.inr ⟨o, e _ _ h⟩)
  · exact .inr h
mutual
theorem Rp.mono {K : PySem.W.Frag} {G G' : Hp} (s : Same G G') : ∀ {v : V} {d : D}, Rp K G v d → Rp K G' v d
  | _, _, .non => .non
  | _, _, .bl b => .bl b
  | _, _, .int i => .int i
  | _, _, .str x => .str x
  | _, _, .lst h r => .lst (s _ _ h) (RpAll.mono s r)
  | _, _, .tup h r => .tup (same_t s h) (RpAll.mono s r)
  | _, _, .obj h r => .obj (s _ _ h) (RpAll.mono s r)
  | _, _, .seq h r => .seq (s.seq h) (RpAll.mono s r)
  | _, _, .raw v => .raw v
theorem RpAll.mono {K : PySem.W.Frag} {G G' : Hp} (s : Same G G') : ∀ {vs : List V} {ds : List D}, RpAll K G vs ds → RpAll K G' vs ds
  | _, _, .nil => .nil
  | _, _, .cons h r => .cons (Rp.mono s h) (RpAll.mono s r)
end
section
variable {K : PySem.W.Frag} {G : Hp}
theorem RpAll.length : ∀ {vs : List V} {ds : List D}, RpAll K G vs ds → vs.length = ds.length
  | _, _, .nil => rfl
  | _, _, .cons _ r => by rw [List.length_cons, List.length_cons, RpAll.length r]
theorem RpAll.get : ∀ {vs : List V} {ds : List D} {i : Nat} {d : D}, RpAll K G vs ds → ds[i]? = some d → ∃ v, vs[i]? = some v ∧ Rp K G v d
  | _, _, _, _, .nil, e => by simp at e
  | _, _, 0, _, .cons (v := v) h _, e => by
    have e2 := Option.some.inj (show some _ = some _ from e)
    exact ⟨v, rfl, e2 ▸ h⟩
  | _, _, i + 1, _, .cons _ r, e => RpAll.get (i := i) r e
theorem RpAll.getV : ∀ {vs : List V} {ds : List D} {i : Nat} {v : V}, RpAll K G vs ds → vs[i]? = some v → ∃ d, ds[i]? = some d ∧ Rp K G v d
  | _, _, _, _, .nil, e => by simp at e
  | _, _, 0, _, .cons (d := d) h _, e => by
    have e2 := Option.some.inj (show some _ = some _ from e)
    exact ⟨d, rfl, e2 ▸ h⟩
  | _, _, i + 1, _, .cons _ r, e => RpAll.getV (i := i) r e
theorem RpAll.append : ∀ {vs ws : List V} {ds es : List D}, RpAll K G vs ds → RpAll K G ws es → RpAll K G (vs ++ ws) (ds ++ es)
  | _, _, _, _, .nil, s => s
  | _, _, _, _, .cons h r, s => .cons h (RpAll.append r s)
theorem RpAll.take : ∀ (n : Nat) {vs : List V} {ds : List D}, RpAll K G vs ds → RpAll K G (vs.take n) (ds.take n)
  | 0, _, _, _ => .nil
  | _ + 1, _, _, .nil => .nil
  | n + 1, _, _, .cons h r => .cons h (RpAll.take n r)
theorem RpAll.drop : ∀ (n : Nat) {vs : List V} {ds : List D}, RpAll K G vs ds → RpAll K G (vs.drop n) (ds.drop n)
  | 0, _, _, r => r
  | _ + 1, _, _, .nil => .nil
  | n + 1, _, _, .cons _ r => RpAll.drop n r
theorem RpAll.ints : ∀ (ns : List Int), RpAll K G (ns.map V.int) (ns.map D.int)
  | [] => .nil
  | n :: r => .cons (.int n) (RpAll.ints r)
theorem Rp.int_inv {v : V} {i : Int} (h : Rp K G v (.int i)) : v = .int i := by cases h; rfl
theorem Rp.bl_inv {v : V} {b : Bool} (h : Rp K G v (.bl b)) : v = .bl b := by cases h; rfl
theorem Rp.str_inv {v : V} {x : Str} (h : Rp K G v (.str x)) : v = .str x := by cases h; rfl
theorem Rp.non_inv {v : V} (h : Rp K G v .non) : v = .non := by cases h; rfl
theorem Rp.raw_inv {v u : V} (h : Rp K G v (.raw u)) : v = u := by cases h; rfl
theorem Rp.list_inv {v : V} {ds : List D} (h : Rp K G v (.list ds)) : ∃ a xs, v = .ref a ∧ SqL K G a xs ∧ RpAll K G xs ds := by
  cases h with
  | lst h r => exact ⟨_, _, rfl, sq h, r⟩
theorem Rp.list_ex {v : V} {ds : List D} (h : Rp K G v (.list ds)) : ∃ a xs, v = .ref a ∧ G a = some (.lst xs) ∧ RpAll K G xs ds := by
  cases h with
  | lst h r => exact ⟨_, _, rfl, h, r⟩
theorem Rp.tup_inv {v : V} {ds : List D} (h : Rp K G v (.tup ds)) : ∃ a xs, v = .ref a ∧ SqT K G a xs ∧ RpAll K G xs ds := by
  cases h with
  | tup h r => exact ⟨_, _, rfl, h, r⟩
theorem RpAll.int_inv : ∀ {ns : List Int} {vs : List V}, RpAll K G vs (ns.map D.int) → vs = ns.map V.int
  | [], _, .nil => rfl
  | n :: r, _, .cons h t => by rw [h.int_inv, RpAll.int_inv t]; rfl
theorem RpAll.bl_inv : ∀ {ns : List Bool} {vs : List V}, RpAll K G vs (ns.map D.bl) → vs = ns.map V.bl
  | [], _, .nil => rfl
  | n :: r, _, .cons h t => by rw [h.bl_inv, RpAll.bl_inv t]; rfl
theorem RpAll.str_inv : ∀ {ns : List Str} {vs : List V}, RpAll K G vs (ns.map D.str) → vs = ns.map V.str
  | [], _, .nil => rfl
  | n :: r, _, .cons h t => by rw [h.str_inv, RpAll.str_inv t]; rfl
end
/-! ### the two heaps: G what stands for ever, H what is; M what changes, by what is true of it -/
abbrev Mt := List (Addr × (Hp → HO → Prop))
structure Wd (M : Mt) (G H : Hp) : Prop where
  sub : Same G H
  mt : ∀ p ∈ M, G p.1 = none ∧ ∃ o, H p.1 = some o ∧ p.2 G o
  mono : ∀ p ∈ M, ∀ G1 G2 o, Same G1 G2 → p.2 G1 o → p.2 G2 o
  nd : (M.map (·.1)).Nodup
theorem same_new {H : Hp} {p : Addr} {o : HO} (h : H p = none) : Same H (upd H p o) := fun b x e => by
  rw [upd_ne (ne_of_none e h)]
  exact e
section
variable {M : Mt} {G H : Hp} {p : Addr} {o : HO}
theorem Wd.free (w : Wd M G H) (h : H p = none) : G p = none := w.sub.free h
/-- a new thing that stands for ever -/
theorem Wd.new (w : Wd M G H) (h : H p = none) : Wd M (upd G p o) (upd H p o) where
  sub := fun a u e => by
    by_cases q : a = p
    · subst q; rw [upd_same] at e ⊢; exact e
    · rw [upd_ne q] at e ⊢; exact w.sub a u e
  mt := fun m hm => by
    obtain ⟨g, u, hu, f⟩ := w.mt m hm
    have ne : m.1 ≠ p := ne_of_none hu h
    refine ⟨by rw [upd_ne ne]; exact g, u, by rw [upd_ne ne]; exact hu, w.mono m hm _ _ _ (same_new (w.free h)) f⟩
  mono := w.mono
  nd := w.nd
/-- a new thing that changes -/
theorem Wd.newM (w : Wd M G H) (h : H p = none) {φ : Hp → HO → Prop} (f : φ G o) (mo : ∀ G1 G2 o, Same G1 G2 → φ G1 o → φ G2 o) : Wd ((p, φ) :: M) G (upd H p o) where
  sub := fun a u e => by
    rw [upd_ne (ne_of_none (w.sub _ _ e) h)]
    exact w.sub a u e
  mt := fun m hm => by
    rcases List.mem_cons.mp hm with rfl | hm
    · exact ⟨w.free h, o, upd_same, f⟩
    · obtain ⟨g, u, hu, f⟩ := w.mt m hm
      exact ⟨g, u, by rw [upd_ne (ne_of_none hu h)]; exact hu, f⟩
  mono := fun m hm => by
    rcases List.mem_cons.mp hm with rfl | hm
    · exact mo
    · exact w.mono m hm
  nd := by
    rw [List.map_cons, List.nodup_cons]
    refine ⟨fun hm => ?_, w.nd⟩
    obtain ⟨q, hq, e⟩ := List.mem_map.mp hm
    obtain ⟨_, u, hu, _⟩ := w.mt q hq
    exact ne_of_none hu h e
theorem mem_eq : ∀ {M : Mt} {p q : Addr × (Hp → HO → Prop)}, (M.map (·.1)).Nodup → p ∈ M → q ∈ M → p.1 = q.1 → p = q
  | [], _, _, _, h, _, _ => by simp at h
  | m :: r, p, q, nd, hp, hq, e => by
    rw [List.map_cons, List.nodup_cons] at nd
    rcases List.mem_cons.mp hp with h1 | h1
    · rcases List.mem_cons.mp hq with h2 | h2
      · rw [h1, h2]
      · exact absurd (List.mem_map.mpr ⟨q, h2, by rw [← e, h1]⟩) nd.1
    · rcases List.mem_cons.mp hq with h2 | h2
      · exact absurd (List.mem_map.mpr ⟨p, h1, by rw [e, h2]⟩) nd.1
      · exact mem_eq nd.2 h1 h2 e
/-- a thing that changes is changed -/
theorem Wd.write (w : Wd M G H) {φ : Hp → HO → Prop} (hp : (p, φ) ∈ M) (f : φ G o) : Wd M G (upd H p o) where
  sub := fun a u e => by
    have ne : a ≠ p := fun z => by
      have := (w.mt _ hp).1
      rw [z] at e; rw [e] at this; cases this
    rw [upd_ne ne]; exact w.sub a u e
  mt := fun m hm => by
    obtain ⟨g, u, hu, f'⟩ := w.mt m hm
    by_cases q : m.1 = p
    · have e := mem_eq w.nd hm hp q
      subst e
      exact ⟨g, o, upd_same, f⟩
    · exact ⟨g, u, by rw [upd_ne q]; exact hu, f'⟩
  mono := w.mono
  nd := w.nd
/-- what is told of it is told anew -/
theorem Wd.turn {φ ψ : Hp → HO → Prop} (w : Wd ((p, φ) :: M) G H) (e : H p = some o) (f : ψ G o) (mo : ∀ G1 G2 o, Same G1 G2 → ψ G1 o → ψ G2 o) : Wd ((p, ψ) :: M) G H where
  sub := w.sub
  mt := fun m hm => by
    rcases List.mem_cons.mp hm with rfl | hm
    · exact ⟨(w.mt _ List.mem_cons_self).1, o, e, f⟩
    · exact w.mt m (List.mem_cons_of_mem _ hm)
  mono := fun m hm => by
    rcases List.mem_cons.mp hm with rfl | hm
    · exact mo
    · exact w.mono m (List.mem_cons_of_mem _ hm)
  nd := w.nd
/-- it stands for ever from now on -/
theorem Wd.freeze {φ : Hp → HO → Prop} (w : Wd ((p, φ) :: M) G H) (e : H p = some o) : Wd M (upd G p o) H where
  sub := fun a u h => by
    by_cases q : a = p
    · subst q; rw [upd_same] at h; rw [e]; exact h
    · rw [upd_ne q] at h; exact w.sub a u h
  mt := fun m hm => by
    have g0 : G p = none := (w.mt _ List.mem_cons_self).1
    have ne : m.1 ≠ p := fun z => by
      have nd := w.nd
      rw [List.map_cons, List.nodup_cons] at nd
      exact nd.1 (List.mem_map.mpr ⟨m, hm, z⟩)
    obtain ⟨g, u, hu, f⟩ := w.mt m (List.mem_cons_of_mem _ hm)
    exact ⟨by rw [upd_ne ne]; exact g, u, hu, w.mono m (List.mem_cons_of_mem _ hm) _ _ _ (same_new g0) f⟩
  mono := fun m hm => w.mono m (List.mem_cons_of_mem _ hm)
  nd := (List.nodup_cons.mp w.nd).2
theorem Wd.tail {m : Addr × (Hp → HO → Prop)} (w : Wd (m :: M) G H) : Wd M G H := ⟨w.sub, fun q hq => w.mt q (List.mem_cons_of_mem _ hq), fun q hq => w.mono q (List.mem_cons_of_mem _ hq), (List.nodup_cons.mp w.nd).2⟩
end
def MSub (M M' : Mt) : Prop := ∀ p ∈ M, p ∈ M'
theorem MSub.refl (M : Mt) : MSub M M := fun _ h => h
theorem MSub.trans {M M1 M2 : Mt} (a : MSub M M1) (b : MSub M1 M2) : MSub M M2 := fun p h => b p (a p h)
theorem MSub.cons {M M' : Mt} {p : Addr × (Hp → HO → Prop)} (a : MSub M M') : MSub M (p :: M') := fun q h => List.mem_cons_of_mem _ (a q h)
/-! ### slots -/
abbrev DS := List (Option D)
structure Sg (K : PySem.W.Frag) (G : Hp) (σ : L2.St) (ds : DS) : Prop where
  len : σ.length = ds.length
  at_ : ∀ (i : Nat) (d : D), ds[i]? = some (some d) → ∃ v, σ[i]? = some (some v) ∧ Rp K G v d
section
variable {K : PySem.W.Frag} {G G' : Hp} {σ : L2.St} {ds : DS}
theorem Sg.mono (s : Same G G') (h : Sg K G σ ds) : Sg K G' σ ds := ⟨h.len, fun i d e => let ⟨v, a, b⟩ := h.at_ i d e; ⟨v, a, b.mono s⟩⟩
theorem Sg.set {v : V} {d : D} (h : Sg K G σ ds) (i : Nat) (r : Rp K G v d) : Sg K G (σ.set i (some v)) (ds.set i (some d)) := by
  refine ⟨by rw [List.length_set, List.length_set, h.len], fun j e q => ?_⟩
  rw [List.getElem?_set] at q ⊢
  by_cases hij : i = j
  · subst hij
    rw [if_pos rfl] at q ⊢
    by_cases hl : i < ds.length
    · rw [if_pos hl] at q
      rw [if_pos (by rw [h.len]; exact hl)]
      cases q
      exact ⟨v, rfl, r⟩
    · rw [if_neg hl] at q; cases q
  · rw [if_neg hij] at q ⊢
    exact h.at_ j e q
theorem Sg.drop {i : Nat} {x : Option V} (h : Sg K G σ ds) : Sg K G (σ.set i x) (ds.set i none) := by
  refine ⟨by rw [List.length_set, List.length_set, h.len], fun j e q => ?_⟩
  rw [List.getElem?_set] at q ⊢
  by_cases hij : i = j
  · subst hij
    rw [if_pos rfl] at q
    split at q <;> cases q
  · rw [if_neg hij] at q ⊢
    exact h.at_ j e q
theorem Sg.start {N : List Str} {vs : List V} {as : List D} (h : RpAll K G vs as) : Sg K G (start N vs) (as.map some ++ List.replicate (N.length - as.length) none) := by
  have hl := h.length
  refine ⟨by unfold L2.start; simp [hl], fun i d e => ?_⟩
  unfold L2.start
  by_cases hi : i < as.length
  · rw [List.getElem?_append_left (by simpa using hi), List.getElem?_map] at e
    cases q : as[i]? with
    | none => rw [q] at e; cases e
    | some d' =>
      rw [q] at e; cases e
      obtain ⟨v, e1, r⟩ := h.get q
      exact ⟨v, by rw [List.getElem?_append_left (by rw [List.length_map, hl]; exact hi), List.getElem?_map, e1]; rfl, r⟩
  · rw [List.getElem?_append_right (by simpa using hi)] at e
    rw [List.getElem?_replicate] at e
    split at e <;> cases e
end
/-! ### what an expression, a test, an argument list may give -/
section
variable (K : PySem.W.Frag) (M : Mt) (ds : DS)
def Ev (te : TE) (R : D → Prop) : Prop := ∀ (M' : Mt) (σ : L2.St) (G H : Hp) (Q : VK), MSub M M' → Sg K G σ ds → Wd M' G H →
  (∀ v d G' H', Same G G' → Wd M' G' H' → Rp K G' v d → R d → Q v H') → te σ H Q
def EvT (tt : TT) (R : Bool → Prop) : Prop := ∀ (M' : Mt) (σ : L2.St) (G H : Hp) (Q : Bool → Hp → Prop), MSub M M' → Sg K G σ ds → Wd M' G H →
  (∀ b G' H', Same G G' → Wd M' G' H' → R b → Q b H') → tt σ H Q
def EvA (ta : TA) (R : List D → Prop) : Prop := ∀ (M' : Mt) (σ : L2.St) (G H : Hp) (Q : List V → Hp → Prop), MSub M M' → Sg K G σ ds → Wd M' G H →
  (∀ vs es G' H', Same G G' → Wd M' G' H' → RpAll K G' vs es → R es → Q vs H') → ta σ H Q
/-- the ends of a statement, told of the data -/
structure AE where
  nx : DS → Prop
  rt : D → Prop
  bk : DS → Prop := fun _ => False
  ct : DS → Prop := fun _ => False
structure EndsOk (M' : Mt) (G : Hp) (E : AE) (Z : Ends) : Prop where
  nx : ∀ ds' σ' G' H', E.nx ds' → Same G G' → Sg K G' σ' ds' → Wd M' G' H' → Z.nx σ' H'
  rt : ∀ v d G' H', E.rt d → Same G G' → Rp K G' v d → Wd M' G' H' → Z.rt v H'
  bk : ∀ ds' σ' G' H', E.bk ds' → Same G G' → Sg K G' σ' ds' → Wd M' G' H' → Z.bk σ' H'
  ct : ∀ ds' σ' G' H', E.ct ds' → Same G G' → Sg K G' σ' ds' → Wd M' G' H' → Z.ct σ' H'
def Run (ts : TS) (E : AE) : Prop := ∀ (M' : Mt) (σ : L2.St) (G H : Hp) (Z : Ends), MSub M M' → Sg K G σ ds → Wd M' G H → EndsOk K M' G E Z → ts Z σ H
end
theorem EndsOk.mono {K : PySem.W.Frag} {M' : Mt} {G G' : Hp} {E : AE} {Z : Ends} (s : Same G G') (h : EndsOk K M' G E Z) : EndsOk K M' G' E Z :=
  ⟨fun ds σ G1 H1 a b => h.nx ds σ G1 H1 a (s.trans b), fun v d G1 H1 a b => h.rt v d G1 H1 a (s.trans b), fun ds σ G1 H1 a b => h.bk ds σ G1 H1 a (s.trans b), fun ds σ G1 H1 a b => h.ct ds σ G1 H1 a (s.trans b)⟩
section
variable {K : PySem.W.Frag} {M M1 : Mt} {ds : DS} {te ta tb tc : TE} {t u : TT} {R R' : D → Prop} {RT RT' : Bool → Prop}
theorem Ev.weak (h : Ev K M ds te R) (f : ∀ d, R d → R' d) : Ev K M ds te R' := fun M' σ G H Q m s w q => h M' σ G H Q m s w fun v d G' H' a b c r => q v d G' H' a b c (f d r)
theorem Ev.more (h : Ev K M ds te R) (m : MSub M M1) : Ev K M1 ds te R := fun M' σ G H Q m' => h M' σ G H Q (m.trans m')
theorem EvT.weak (h : EvT K M ds t RT) (f : ∀ d, RT d → RT' d) : EvT K M ds t RT' := fun M' σ G H Q m s w q => h M' σ G H Q m s w fun b G' H' a w' r => q b G' H' a w' (f b r)
theorem EvA.weak {ta : TA} {R R' : List D → Prop} (h : EvA K M ds ta R) (f : ∀ d, R d → R' d) : EvA K M ds ta R' := fun M' σ G H Q m s w q => h M' σ G H Q m s w fun v d G' H' a b c r => q v d G' H' a b c (f d r)
theorem Run.more {ts : TS} {E : AE} (h : Run K M ds ts E) (m : MSub M M1) : Run K M1 ds ts E := fun M' σ G H Z m' => h M' σ G H Z (m.trans m')
/-- one after another -/
theorem ev_var {i : Nat} {d : D} (h : ds[i]? = some (some d)) : Ev K M ds (tVar i) (· = d) := fun M' σ G H Q _ s w q =>
  let ⟨v, e, r⟩ := s.at_ i d h
  ⟨v, e, q v d G H (Same.refl G) w r rfl⟩
theorem ev_c {v : V} {d : D} (h : ∀ G, Rp K G v d) : Ev K M ds (tC v) (· = d) := fun M' σ G H Q _ s w q => q v d G H (Same.refl G) w (h G) rfl
theorem ev_cint {i : Int} : Ev K M ds (tC (.int i)) (· = .int i) := ev_c fun _ => .int i
theorem ev_cbl {b : Bool} : Ev K M ds (tC (.bl b)) (· = .bl b) := ev_c fun _ => .bl b
theorem ev_cnon : Ev K M ds (tC .non) (· = .non) := ev_c fun _ => .non
theorem ev_cstr {x : Str} : Ev K M ds (tC (.str x)) (· = .str x) := ev_c fun _ => .str x
theorem ev_craw {v : V} : Ev K M ds (tC v) (· = .raw v) := ev_c fun _ => .raw v
/-- an operation on values: what it asks and gives -/
def OpD (K : PySem.W.Frag) (M : Mt) (r : R2) (a b : D) (R : D → Prop) : Prop := ∀ (M' : Mt) (G H : Hp) (x y : V) (Q : VK), MSub M M' → Rp K G x a → Rp K G y b → Wd M' G H →
  (∀ v d G' H', Same G G' → Wd M' G' H' → Rp K G' v d → R d → Q v H') → r x y H Q
def UnD (K : PySem.W.Frag) (M : Mt) (r : V → Hp → VK → Prop) (a : D) (R : D → Prop) : Prop := ∀ (M' : Mt) (G H : Hp) (x : V) (Q : VK), MSub M M' → Rp K G x a → Wd M' G H →
  (∀ v d G' H', Same G G' → Wd M' G' H' → Rp K G' v d → R d → Q v H') → r x H Q
def CallD (K : PySem.W.Frag) (M : Mt) (r : List V → Hp → VK → Prop) (as : List D) (R : D → Prop) : Prop := ∀ (M' : Mt) (G H : Hp) (xs : List V) (Q : VK), MSub M M' → RpAll K G xs as → Wd M' G H →
  (∀ v d G' H', Same G G' → Wd M' G' H' → Rp K G' v d → R d → Q v H') → r xs H Q
theorem ev_op {r : R2} {Ra Rb : D → Prop} (ha : Ev K M ds ta Ra) (hb : Ev K M ds tb Rb) (hr : ∀ a b, Ra a → Rb b → OpD K M r a b R) : Ev K M ds (tOp r ta tb) R := fun M' σ G H Q m s w q =>
  ha M' σ G H _ m s w fun v a G1 H1 s1 w1 r1 q1 => hb M' σ G1 H1 _ m (s.mono s1) w1 fun u b G2 H2 s2 w2 r2 q2 =>
    hr a b q1 q2 M' G2 H2 v u Q m (r1.mono s2) r2 w2 fun z d G3 H3 s3 w3 r3 q3 => q z d G3 H3 ((s1.trans s2).trans s3) w3 r3 q3
theorem ev_un {r : V → Hp → VK → Prop} {Ra : D → Prop} (ha : Ev K M ds ta Ra) (hr : ∀ a, Ra a → UnD K M r a R) : Ev K M ds (tUn r ta) R := fun M' σ G H Q m s w q =>
  ha M' σ G H _ m s w fun v a G1 H1 s1 w1 r1 q1 => hr a q1 M' G1 H1 v Q m r1 w1 fun z d G3 H3 s3 w3 r3 q3 => q z d G3 H3 (s1.trans s3) w3 r3 q3
theorem ev_cb {r : List V → Hp → VK → Prop} {ta : TA} {Ra : List D → Prop} (ha : EvA K M ds ta Ra) (hr : ∀ as, Ra as → CallD K M r as R) : Ev K M ds (tCB r ta) R := fun M' σ G H Q m s w q =>
  ha M' σ G H _ m s w fun v a G1 H1 s1 w1 r1 q1 => hr a q1 M' G1 H1 v Q m r1 w1 fun z d G3 H3 s3 w3 r3 q3 => q z d G3 H3 (s1.trans s3) w3 r3 q3
theorem ea_nil : EvA K M ds tNil (· = []) := fun M' σ G H Q _ s w q => q [] [] G H (Same.refl G) w .nil rfl
theorem ea_cons {Ra : D → Prop} {ta : TE} {tr : TA} {Rr : List D → Prop} (ha : Ev K M ds ta Ra) (hr : EvA K M ds tr Rr) : EvA K M ds (tCons ta tr) (fun as => ∃ a r, as = a :: r ∧ Ra a ∧ Rr r) := fun M' σ G H Q m s w q =>
  ha M' σ G H _ m s w fun v a G1 H1 s1 w1 r1 q1 => hr M' σ G1 H1 _ m (s.mono s1) w1 fun us bs G2 H2 s2 w2 r2 q2 =>
    q (v :: us) (a :: bs) G2 H2 (s1.trans s2) w2 (.cons (r1.mono s2) r2) ⟨a, bs, rfl, q1, q2⟩
/-- the same where all is known -/
theorem ea1 {a : D} {as : List D} {ta : TE} {tr : TA} (ha : Ev K M ds ta (· = a)) (hr : EvA K M ds tr (· = as)) : EvA K M ds (tCons ta tr) (· = a :: as) :=
  (ea_cons ha hr).weak fun _ ⟨_, _, e, e1, e2⟩ => by rw [e, e1, e2]
theorem ev_tup {ta : TA} {Ra : List D → Prop} (ha : EvA K M ds ta Ra) (hl : ∀ as, Ra as → as.length ≤ 100000) : Ev K M ds (tTup ta) (fun d => ∃ as, d = .tup as ∧ Ra as) := fun M' σ G H Q m s w q =>
  ha M' σ G H _ m s w fun vs as G1 H1 s1 w1 r1 q1 => ⟨by rw [r1.length]; exact Nat.le_trans (hl as q1) (by decide), fun p hp =>
    q (.ref p) (.tup as) (upd G1 p (.tup vs)) (upd H1 p (.tup vs)) (s1.trans (same_new (w1.free hp))) (w1.new hp) (.tup (.inl (.inl upd_same)) (r1.mono (same_new (w1.free hp)))) ⟨as, rfl, q1⟩⟩
theorem ev_lst {ta : TA} {Ra : List D → Prop} (ha : EvA K M ds ta Ra) (hl : ∀ as, Ra as → as.length ≤ 100000) : Ev K M ds (tLst ta) (fun d => ∃ as, d = .list as ∧ Ra as) := fun M' σ G H Q m s w q =>
  ha M' σ G H _ m s w fun vs as G1 H1 s1 w1 r1 q1 => ⟨by rw [r1.length]; exact Nat.le_trans (hl as q1) (by decide), fun p hp =>
    q (.ref p) (.list as) (upd G1 p (.lst vs)) (upd H1 p (.lst vs)) (s1.trans (same_new (w1.free hp))) (w1.new hp) (.lst upd_same (r1.mono (same_new (w1.free hp)))) ⟨as, rfl, q1⟩⟩
theorem ev_tup1 {ta : TA} {as : List D} (ha : EvA K M ds ta (· = as)) (hl : as.length ≤ 100000) : Ev K M ds (tTup ta) (· = .tup as) :=
  (ev_tup ha fun _ e => by rw [e]; exact hl).weak fun _ ⟨_, e, e1⟩ => by rw [e, e1]
theorem ev_lst1 {ta : TA} {as : List D} (ha : EvA K M ds ta (· = as)) (hl : as.length ≤ 100000) : Ev K M ds (tLst ta) (· = .list as) :=
  (ev_lst ha fun _ e => by rw [e]; exact hl).weak fun _ ⟨_, e, e1⟩ => by rw [e, e1]
/-! known values -/
theorem ev_op1 {r : R2} {a b : D} (ha : Ev K M ds ta (· = a)) (hb : Ev K M ds tb (· = b)) (hr : OpD K M r a b R) : Ev K M ds (tOp r ta tb) R := ev_op ha hb fun _ _ e1 e2 => by rw [e1, e2]; exact hr
theorem ev_un1 {r : V → Hp → VK → Prop} {a : D} (ha : Ev K M ds ta (· = a)) (hr : UnD K M r a R) : Ev K M ds (tUn r ta) R := ev_un ha fun _ e => by rw [e]; exact hr
theorem ev_cb1 {r : List V → Hp → VK → Prop} {ta : TA} {as : List D} (ha : EvA K M ds ta (· = as)) (hr : CallD K M r as R) : Ev K M ds (tCB r ta) R := ev_cb ha fun _ e => by rw [e]; exact hr
theorem od_int {g : Int → Int → V} {h : Int → Int → D} {i j : Int} (hg : ∀ G, Rp K G (g i j) (h i j)) : OpD K M (rI0 g) (.int i) (.int j) (· = h i j) := fun M' G H x y Q _ rx ry w q =>
  ⟨i, j, rx.int_inv, ry.int_inv, q _ _ G H (Same.refl G) w (hg G) rfl⟩
theorem od_intC {C : Int → Int → Prop} {g : Int → Int → V} {h : Int → Int → D} {i j : Int} (hc : C i j) (hg : ∀ G, Rp K G (g i j) (h i j)) : OpD K M (rI C g) (.int i) (.int j) (· = h i j) := fun M' G H x y Q _ rx ry w q =>
  ⟨i, j, rx.int_inv, ry.int_inv, hc, q _ _ G H (Same.refl G) w (hg G) rfl⟩
theorem od_add {i j : Int} : OpD K M rAdd (.int i) (.int j) (· = .int (i + j)) := fun M' G H x y Q _ rx ry w q => ⟨i, j, rx.int_inv, ry.int_inv, q _ _ G H (Same.refl G) w (.int _) rfl⟩
theorem od_sub {i j : Int} : OpD K M rSub (.int i) (.int j) (· = .int (i - j)) := fun M' G H x y Q _ rx ry w q => ⟨i, j, rx.int_inv, ry.int_inv, q _ _ G H (Same.refl G) w (.int _) rfl⟩
end
end Rg
namespace Rg
open PySem L2 RZ
section
variable {K : PySem.W.Frag} {M M1 : Mt} {ds : DS} {te ta tb tc : TE} {t u : TT} {R R' : D → Prop} {RT RT' : Bool → Prop}
/-! ### tests -/
theorem et_B {b : Bool} (h : Ev K M ds te (· = .bl b)) : EvT K M ds (tB te) (· = b) := fun M' σ G H Q m s w q =>
  h M' σ G H _ m s w fun v d G1 H1 s1 w1 r1 e => by
    subst e
    exact ⟨b, r1.bl_inv, q b G1 H1 s1 w1 rfl⟩
theorem et_BR (h : Ev K M ds te (fun d => ∃ b, d = .bl b ∧ RT b)) : EvT K M ds (tB te) RT := fun M' σ G H Q m s w q =>
  h M' σ G H _ m s w fun v d G1 H1 s1 w1 r1 ⟨b, e, hb⟩ => by
    subst e
    exact ⟨b, r1.bl_inv, q b G1 H1 s1 w1 hb⟩
theorem et_test {b : Bool} (h : Ev K M ds te (· = .bl b)) : EvT K M ds (tTest te) (· = b) := et_B h
theorem et_testR (h : Ev K M ds te (fun d => ∃ b, d = .bl b ∧ RT b)) : EvT K M ds (tTest te) RT := et_BR h
theorem et_and {a b : Bool} (h1 : EvT K M ds t (· = a)) (h2 : a = true → EvT K M ds u (· = b)) : EvT K M ds (tAnd t u) (· = (a && b)) := fun M' σ G H Q m s w q =>
  h1 M' σ G H _ m s w fun c G1 H1 s1 w1 e => by
    subst e
    cases c with
    | true => exact h2 rfl M' σ G1 H1 Q m (s.mono s1) w1 fun b' G2 H2 s2 w2 e2 => q b' G2 H2 (s1.trans s2) w2 e2
    | false => exact q false G1 H1 s1 w1 rfl
theorem et_or {a b : Bool} (h1 : EvT K M ds t (· = a)) (h2 : a = false → EvT K M ds u (· = b)) : EvT K M ds (tOr t u) (· = (a || b)) := fun M' σ G H Q m s w q =>
  h1 M' σ G H _ m s w fun c G1 H1 s1 w1 e => by
    subst e
    cases c with
    | false => exact h2 rfl M' σ G1 H1 Q m (s.mono s1) w1 fun b' G2 H2 s2 w2 e2 => q b' G2 H2 (s1.trans s2) w2 e2
    | true => exact q true G1 H1 s1 w1 rfl
theorem et_andR {Ra : Bool → Prop} (h1 : EvT K M ds t Ra) (h2 : Ra true → EvT K M ds u RT) (h3 : Ra false → RT false) : EvT K M ds (tAnd t u) RT := fun M' σ G H Q m s w q =>
  h1 M' σ G H _ m s w fun c G1 H1 s1 w1 e => by
    cases c with
    | true => exact h2 e M' σ G1 H1 Q m (s.mono s1) w1 fun b' G2 H2 s2 w2 e2 => q b' G2 H2 (s1.trans s2) w2 e2
    | false => exact q false G1 H1 s1 w1 (h3 e)
theorem et_orR {Ra : Bool → Prop} (h1 : EvT K M ds t Ra) (h2 : Ra false → EvT K M ds u RT) (h3 : Ra true → RT true) : EvT K M ds (tOr t u) RT := fun M' σ G H Q m s w q =>
  h1 M' σ G H _ m s w fun c G1 H1 s1 w1 e => by
    cases c with
    | false => exact h2 e M' σ G1 H1 Q m (s.mono s1) w1 fun b' G2 H2 s2 w2 e2 => q b' G2 H2 (s1.trans s2) w2 e2
    | true => exact q true G1 H1 s1 w1 (h3 e)
theorem et_not {a : Bool} (h : EvT K M ds t (· = a)) : EvT K M ds (tNot t) (· = !a) := fun M' σ G H Q m s w q =>
  h M' σ G H _ m s w fun c G1 H1 s1 w1 e => q _ G1 H1 s1 w1 (by rw [e])
theorem et_notR {Ra : Bool → Prop} (h : EvT K M ds t Ra) (f : ∀ b, Ra b → RT (!b)) : EvT K M ds (tNot t) RT := fun M' σ G H Q m s w q =>
  h M' σ G H _ m s w fun c G1 H1 s1 w1 e => q _ G1 H1 s1 w1 (f c e)
theorem et_yes : EvT K M ds tYes (· = true) := fun M' σ G H Q m s w q => q true G H (Same.refl G) w rfl
/-- truth of any value -/
def truD : D → Option Bool
  | .non => some false
  | .bl b => some b
  | .int i => some (i != 0)
  | .str x => some (x.length != 0)
  | .list xs => some (!xs.isEmpty)
  | .tup xs => some (!xs.isEmpty)
  | _ => none
theorem ev_ifE {c : Bool} {a b : D} (ht : EvT K M ds t (· = c)) (h1 : c = true → Ev K M ds ta (· = a)) (h2 : c = false → Ev K M ds tb (· = b)) : Ev K M ds (tIf t ta tb) (· = if c then a else b) := fun M' σ G H Q m s w q =>
  ht M' σ G H _ m s w fun c' G1 H1 s1 w1 e => by
    subst e
    cases c' with
    | true => exact h1 rfl M' σ G1 H1 Q m (s.mono s1) w1 fun v d G2 H2 s2 w2 r2 e2 => q v d G2 H2 (s1.trans s2) w2 r2 e2
    | false => exact h2 rfl M' σ G1 H1 Q m (s.mono s1) w1 fun v d G2 H2 s2 w2 r2 e2 => q v d G2 H2 (s1.trans s2) w2 r2 e2
theorem ev_ifR {Ra : Bool → Prop} (ht : EvT K M ds t Ra) (h1 : Ra true → Ev K M ds ta R) (h2 : Ra false → Ev K M ds tb R) : Ev K M ds (tIf t ta tb) R := fun M' σ G H Q m s w q =>
  ht M' σ G H _ m s w fun c' G1 H1 s1 w1 e => by
    cases c' with
    | true => exact h1 e M' σ G1 H1 Q m (s.mono s1) w1 fun v d G2 H2 s2 w2 r2 e2 => q v d G2 H2 (s1.trans s2) w2 r2 e2
    | false => exact h2 e M' σ G1 H1 Q m (s.mono s1) w1 fun v d G2 H2 s2 w2 r2 e2 => q v d G2 H2 (s1.trans s2) w2 r2 e2
theorem ev_andV {a : Bool} (ha : Ev K M ds ta (· = .bl a)) (hb : a = true → Ev K M ds tb R) (hf : a = false → R (.bl false)) : Ev K M ds (tAndV ta tb) R := fun M' σ G H Q m s w q =>
  ha M' σ G H _ m s w fun v d G1 H1 s1 w1 r1 e => by
    subst e
    refine ⟨a, r1.bl_inv, ?_⟩
    cases a with
    | true => exact hb rfl M' σ G1 H1 Q m (s.mono s1) w1 fun v d G2 H2 s2 w2 r2 e2 => q v d G2 H2 (s1.trans s2) w2 r2 e2
    | false => exact q _ _ G1 H1 s1 w1 (.bl false) (hf rfl)
theorem ev_orV {a : Bool} (ha : Ev K M ds ta (· = .bl a)) (hb : a = false → Ev K M ds tb R) (hf : a = true → R (.bl true)) : Ev K M ds (tOrV ta tb) R := fun M' σ G H Q m s w q =>
  ha M' σ G H _ m s w fun v d G1 H1 s1 w1 r1 e => by
    subst e
    refine ⟨a, r1.bl_inv, ?_⟩
    cases a with
    | false => exact hb rfl M' σ G1 H1 Q m (s.mono s1) w1 fun v d G2 H2 s2 w2 r2 e2 => q v d G2 H2 (s1.trans s2) w2 r2 e2
    | true => exact q _ _ G1 H1 s1 w1 (.bl true) (hf rfl)
theorem ev_andB {a b : Bool} (ha : Ev K M ds ta (· = .bl a)) (hb : a = true → Ev K M ds tb (· = .bl b)) : Ev K M ds (tAndV ta tb) (· = .bl (a && b)) :=
  ev_andV ha (fun e => by subst e; exact hb rfl) fun e => by subst e; rfl
theorem ev_orB {a b : Bool} (ha : Ev K M ds ta (· = .bl a)) (hb : a = false → Ev K M ds tb (· = .bl b)) : Ev K M ds (tOrV ta tb) (· = .bl (a || b)) :=
  ev_orV ha (fun e => by subst e; exact hb rfl) fun e => by subst e; rfl
theorem ev_notV {a : Bool} (ha : Ev K M ds ta (· = .bl a)) : Ev K M ds (tNotV ta) (· = .bl (!a)) := fun M' σ G H Q m s w q =>
  ha M' σ G H _ m s w fun v d G1 H1 s1 w1 r1 e => by
    subst e
    exact ⟨a, r1.bl_inv, q _ _ G1 H1 s1 w1 (.bl _) rfl⟩
theorem ev_isN {d : D} (ha : Ev K M ds ta (· = d)) (b : Bool) (hb : ∀ G v, Rp K G v d → decide (v = .non) = b) : Ev K M ds (tIsN ta) (· = .bl b) := fun M' σ G H Q m s w q =>
  ha M' σ G H _ m s w fun v d' G1 H1 s1 w1 r1 e => by
    subst e
    rw [hb G1 v r1]
    exact q _ _ G1 H1 s1 w1 (.bl _) rfl
/-- a < b < c -/
theorem ev_chain {r r' : R2} {x y z : D} {k : Bool} (ha : Ev K M ds ta (· = x)) (hb : Ev K M ds tb (· = y)) (hr : OpD K M r x y (· = .bl k)) (hc : k = true → Ev K M ds tc (· = z)) (hr' : k = true → OpD K M r' y z R) (hf : k = false → R (.bl false)) :
    Ev K M ds (tChain r r' ta tb tc) R := fun M' σ G H Q m s w q =>
  ha M' σ G H _ m s w fun v d G1 H1 s1 w1 r1 e1 => hb M' σ G1 H1 _ m (s.mono s1) w1 fun v2 d2 G2 H2 s2 w2 r2 e2 => by
    subst e1; subst e2
    refine hr M' G2 H2 v v2 _ m (r1.mono s2) r2 w2 fun v3 d3 G3 H3 s3 w3 r3 e3 => ?_
    subst e3
    refine ⟨k, r3.bl_inv, ?_⟩
    have s13 := (s1.trans s2).trans s3
    cases k with
    | true =>
      rw [if_pos rfl]
      refine hc rfl M' σ G3 H3 _ m (s.mono s13) w3 fun v4 d4 G4 H4 s4 w4 r4 e4 => ?_
      subst e4
      exact hr' rfl M' G4 H4 v2 v4 Q m (r2.mono (s3.trans s4)) r4 w4 fun v5 d5 G5 H5 s5 w5 r5 e5 => q v5 d5 G5 H5 ((s13.trans s4).trans s5) w5 r5 e5
    | false =>
      rw [if_neg Bool.false_ne_true]
      exact q _ _ G3 H3 s13 w3 (.bl false) (hf rfl)
/-! ### statements -/
variable {E : AE} {a b : TS}
theorem run_next (h : E.nx ds) : Run K M ds tNext E := fun M' σ G H Z m s w z => z.nx ds σ G H h (Same.refl G) s w
theorem run_brk (h : E.bk ds) : Run K M ds tBreak E := fun M' σ G H Z m s w z => z.bk ds σ G H h (Same.refl G) s w
theorem run_cnt (h : E.ct ds) : Run K M ds tCont E := fun M' σ G H Z m s w z => z.ct ds σ G H h (Same.refl G) s w
theorem run_seq (h : Run K M ds a { E with nx := fun ds' => Run K M ds' b E }) : Run K M ds (tSeq a b) E := fun M' σ G H Z m s w z =>
  h M' σ G H { Z with nx := b Z } m s w ⟨fun ds' σ' G' H' r g s' w' => r M' σ' G' H' Z m s' w' (z.mono g), z.rt, z.bk, z.ct⟩
theorem run_weak {E' : AE} (h : Run K M ds a E) (h1 : ∀ d, E.nx d → E'.nx d) (h2 : ∀ d, E.rt d → E'.rt d) (h3 : ∀ d, E.bk d → E'.bk d) (h4 : ∀ d, E.ct d → E'.ct d) : Run K M ds a E' := fun M' σ G H Z m s w z =>
  h M' σ G H Z m s w ⟨fun ds' σ' G' H' r => z.nx ds' σ' G' H' (h1 _ r), fun v d G' H' r => z.rt v d G' H' (h2 _ r), fun ds' σ' G' H' r => z.bk ds' σ' G' H' (h3 _ r), fun ds' σ' G' H' r => z.ct ds' σ' G' H' (h4 _ r)⟩
theorem run_ret (h : Ev K M ds te E.rt) : Run K M ds (tRet te) E := fun M' σ G H Z m s w z =>
  h M' σ G H _ m s w fun v d G1 H1 s1 w1 r1 e => z.rt v d G1 H1 e s1 r1 w1
theorem run_retN (h : E.rt .non) : Run K M ds tRetN E := fun M' σ G H Z m s w z => z.rt .non .non G H h (Same.refl G) .non w
theorem run_expr (h : Ev K M ds te R) (hn : ∀ d, R d → E.nx ds) : Run K M ds (tDrop te) E := fun M' σ G H Z m s w z =>
  h M' σ G H _ m s w fun v d G1 H1 s1 w1 r1 e => z.nx ds σ G1 H1 (hn d e) s1 (s.mono s1) w1
theorem run_asgN {i : Nat} (h : Ev K M ds te R) (hn : ∀ d, R d → E.nx (ds.set i (some d))) : Run K M ds (tAsg te (gName i)) E := fun M' σ G H Z m s w z =>
  h M' σ G H _ m s w fun v d G1 H1 s1 w1 r1 e => z.nx _ _ G1 H1 (hn d e) s1 ((s.mono s1).set i r1) w1
theorem run_if {tc : TT} (h : EvT K M ds tc RT) (h1 : RT true → Run K M ds a E) (h2 : RT false → Run K M ds b E) : Run K M ds (tIfS tc a b) E := fun M' σ G H Z m s w z =>
  h M' σ G H _ m s w fun c G1 H1 s1 w1 e => by
    cases c with
    | true => exact h1 e M' σ G1 H1 Z m (s.mono s1) w1 (z.mono s1)
    | false => exact h2 e M' σ G1 H1 Z m (s.mono s1) w1 (z.mono s1)
theorem run_never (h : False) : Run K M ds tNever E := h.elim
/-- the same in a row with what follows -/
theorem run_asg {i : Nat} (h : Ev K M ds te R) (hn : ∀ d, R d → Run K M (ds.set i (some d)) b E) : Run K M ds (tSeq (tAsg te (gName i)) b) E := run_seq (run_asgN h hn)
theorem run_asg1 {i : Nat} {d : D} (h : Ev K M ds te (· = d)) (hn : Run K M (ds.set i (some d)) b E) : Run K M ds (tSeq (tAsg te (gName i)) b) E := run_asg h fun _ e => by rw [e]; exact hn
theorem run_par {i j : Nat} {ta : TA} {RA : List D → Prop} (h : EvA K M ds ta RA) (hn : ∀ l, RA l → ∃ x y, l = [x, y] ∧ E.nx ((ds.set i (some x)).set j (some y))) : Run K M ds (tPar i j ta) E := fun M' σ G H Z m s w z =>
  h M' σ G H _ m s w fun vs es G1 H1 s1 w1 r1 e => by
    obtain ⟨x, y, rfl, hx⟩ := hn es e
    cases r1 with
    | cons p r =>
      cases r with
      | cons q r =>
        cases r
        exact ⟨_, _, rfl, z.nx _ _ G1 H1 hx s1 (((s.mono s1).set i p).set j q) w1⟩
/-! ### targets -/
/-- vs: the block's own slots in a comprehension, none in a for -/
def EvG (K : PySem.W.Frag) (M : Mt) (vs : Option (List Nat)) (g : TG) (d : D) (ds : DS) (N : DS → Prop) : Prop := ∀ (M' : Mt) (σ : L2.St) (G H : Hp) (v : V) (Q : L2.St → Hp → Prop), MSub M M' → Sg K G σ ds → Wd M' G H → Rp K G v d →
  (∀ ds' σ' G' H', N ds' → Same G G' → Sg K G' σ' ds' → Wd M' G' H' → (∀ l, vs = some l → ∀ ρ : L2.St, wipe σ l = wipe ρ l → wipe σ' l = wipe ρ l) → Q σ' H') → g v σ H Q
theorem wipe_none : ∀ {vs : List Nat} {σ : L2.St} {i : Nat}, i ∈ vs → (wipe σ vs)[i]? = some none ∨ (wipe σ vs)[i]? = none
  | v :: r, σ, i, h => by
    show ((wipe σ r).set v none)[i]? = some none ∨ ((wipe σ r).set v none)[i]? = none
    rw [List.getElem?_set]
    by_cases e : v = i
    · rw [if_pos e]
      split
      · exact .inl rfl
      · exact .inr rfl
    · rw [if_neg e]
      rcases List.mem_cons.mp h with q | q
      · exact absurd q.symm e
      · exact wipe_none q
theorem wipe_out : ∀ {vs : List Nat} {σ : L2.St} {i : Nat}, i ∉ vs → (wipe σ vs)[i]? = σ[i]?
  | [], _, _, _ => rfl
  | v :: r, σ, i, h => by
    show ((wipe σ r).set v none)[i]? = _
    have ne : ¬ v = i := fun e => h (by rw [e]; exact List.mem_cons_self)
    rw [List.getElem?_set, if_neg ne, wipe_out fun q => h (List.mem_cons_of_mem _ q)]
theorem wipe_wipe (σ : L2.St) (vs : List Nat) : wipe (wipe σ vs) vs = wipe σ vs := by
  apply List.ext_getElem?
  intro i
  by_cases h : i ∈ vs
  · have l1 : (wipe (wipe σ vs) vs).length = σ.length := by rw [wipe_length, wipe_length]
    have l2 : (wipe σ vs).length = σ.length := wipe_length σ vs
    rcases wipe_none (σ := wipe σ vs) h with a | a <;> rcases wipe_none (σ := σ) h with b | b
    · rw [a, b]
    · have := List.getElem?_eq_none_iff.mp b
      have := (List.getElem?_eq_some_iff.mp a).1
      omega
    · have := List.getElem?_eq_none_iff.mp a
      have := (List.getElem?_eq_some_iff.mp b).1
      omega
    · rw [a, b]
  · rw [wipe_out h]
theorem wipe_set_in : ∀ {vs : List Nat} {σ : L2.St} {i : Nat} {x : Option V}, i ∈ vs → wipe (σ.set i x) vs = wipe σ vs
  | v :: r, σ, i, x, h => by
    show ((wipe (σ.set i x) r).set v none) = (wipe σ r).set v none
    by_cases hr : i ∈ r
    · rw [wipe_set_in hr]
    · have e : i = v := by
        rcases List.mem_cons.mp h with e | e
        · exact e
        · exact absurd e hr
      subst e
      have key : ∀ (r : List Nat) (σ : L2.St), (wipe (σ.set i x) r).set i none = (wipe σ r).set i none := by
        intro r
        induction r with
        | nil => intro σ; rw [wipe, wipe, List.set_set]
        | cons k r ih =>
          intro σ
          show ((wipe (σ.set i x) r).set k none).set i none = ((wipe σ r).set k none).set i none
          by_cases hk : k = i
          · subst hk
            rw [List.set_set, List.set_set]
            exact ih σ
          · rw [List.set_comm _ _ hk, List.set_comm _ _ hk, ih σ]
      exact key r σ
def ownIn (vs : Option (List Nat)) (i : Nat) : Bool := match vs with
  | none => true
  | some l => l.contains i
theorem eg_name {vs : Option (List Nat)} {i : Nat} {d : D} {N : DS → Prop} (h : N (ds.set i (some d))) (hi : ownIn vs i = true := by rfl) : EvG K M vs (gName i) d ds N := fun M' σ G H v Q m s w r q =>
  q _ _ G H h (Same.refl G) (s.set i r) w fun l e ρ e2 => by
    subst e
    rw [wipe_set_in (List.contains_iff_mem.mp hi)]; exact e2
def EvGs (K : PySem.W.Frag) (M : Mt) (vs : Option (List Nat)) (g : TGs) (es : List D) (ds : DS) (N : DS → Prop) : Prop := ∀ (M' : Mt) (σ : L2.St) (G H : Hp) (xs : List V) (Q : L2.St → Hp → Prop), MSub M M' → Sg K G σ ds → Wd M' G H → RpAll K G xs es →
  (∀ ds' σ' G' H', N ds' → Same G G' → Sg K G' σ' ds' → Wd M' G' H' → (∀ l, vs = some l → ∀ ρ : L2.St, wipe σ l = wipe ρ l → wipe σ' l = wipe ρ l) → Q σ' H') → g xs σ H Q
theorem Rp.tupAt {H : Hp} {G : Hp} {v : V} {es : List D} (h : Rp K G v (.tup es)) (s : Same G H) : ∃ a xs, v = .ref a ∧ SqT K H a xs ∧ RpAll K G xs es := by
  obtain ⟨a, xs, e, h1, h2⟩ := h.tup_inv
  exact ⟨a, xs, e, same_t s h1, h2⟩
theorem eg_tup {vs : Option (List Nat)} {n : Nat} {g : TGs} {es : List D} {N : DS → Prop} (h : EvGs K M vs g es ds N) (hn : es.length = n := by rfl) : EvG K M vs (gTup K n g) (.tup es) ds N := fun M' σ G H v Q m s w r q => by
  obtain ⟨a, xs, e, h1, h2⟩ := r.tupAt w.sub
  exact ⟨a, xs, e, h1, by rw [h2.length, hn], h M' σ G H xs Q m s w h2 q⟩
theorem egs_nil {vs : Option (List Nat)} {N : DS → Prop} (h : N ds) : EvGs K M vs gNil [] ds N := fun M' σ G H xs Q m s w r q => by
  cases r
  exact ⟨rfl, q ds σ G H h (Same.refl G) s w fun _ _ _ e => e⟩
theorem egs_cons {vs : Option (List Nat)} {i : Nat} {g : TGs} {d : D} {es : List D} {N : DS → Prop} (h : EvGs K M vs g es (ds.set i (some d)) N) (hi : ownIn vs i = true := by rfl) : EvGs K M vs (gCons (gName i) g) (d :: es) ds N := fun M' σ G H xs Q m s w r q => by
  cases r with
  | cons p r =>
    refine ⟨_, _, rfl, ?_⟩
    refine h M' _ G H _ Q m (s.set i p) w r fun ds' σ' G' H' a b c d' f => q ds' σ' G' H' a b c d' fun l e ρ e2 => f l e ρ ?_
    subst e
    rw [wipe_set_in (List.contains_iff_mem.mp hi)]; exact e2
/-! ### what is walked -/
structure WalkD (K : PySem.W.Frag) (G : Hp) (J : It) (es : List D) : Prop where
  goes : ∀ i H G' M', i < es.length → Same G G' → Wd M' G' H → J.go i H
  stops : ∀ H G' M', Same G G' → Wd M' G' H → J.stop es.length H
  yields : ∀ i H x H' G' M', i < es.length → Same G G' → Wd M' G' H → J.yld i H x H' → ∃ G2 d, Same G' G2 ∧ Wd M' G2 H' ∧ es[i]? = some d ∧ Rp K G2 x d
def EvI (K : PySem.W.Frag) (M : Mt) (ds : DS) (wi : TI) (R : List D → Prop) : Prop := ∀ (M' : Mt) (σ : L2.St) (G H : Hp) (Z : It → Hp → Prop), MSub M M' → Sg K G σ ds → Wd M' G H →
  (∀ J es G' H', Same G G' → Wd M' G' H' → R es → WalkD K G' J es → Z J H') → wi σ H Z
theorem wd_list {G : Hp} {a : Addr} {xs : List V} {es : List D} (h : SqL K G a xs) (r : RpAll K G xs es) : WalkD K G (Itl K a) es := by
  have hl := r.length
  refine ⟨fun i H G' M' hi s w => ⟨xs, xs[i]'(by omega), w.sub.seq (s.seq h), by simp [show i < xs.length by omega]⟩, fun H G' M' s w => ⟨xs, w.sub.seq (s.seq h), by omega⟩, fun i H x H' G' M' hi s w y => ?_⟩
  obtain ⟨rfl, y⟩ := y
  obtain ⟨d, e, rd⟩ := (r.mono s).getV (y xs (w.sub.seq (s.seq h)))
  exact ⟨G', d, Same.refl _, w, e, rd⟩
theorem wd_tup {G : Hp} {a : Addr} {xs : List V} {es : List D} (h : SqT K G a xs) (r : RpAll K G xs es) : WalkD K G (Itt K a) es := by
  have hl := r.length
  refine ⟨fun i H G' M' hi s w => ⟨xs, xs[i]'(by omega), same_t w.sub (same_t s h), by simp [show i < xs.length by omega]⟩, fun H G' M' s w => ⟨xs, same_t w.sub (same_t s h), by omega⟩, fun i H x H' G' M' hi s w y => ?_⟩
  obtain ⟨rfl, y⟩ := y
  obtain ⟨d, e, rd⟩ := (r.mono s).getV (y xs (same_t w.sub (same_t s h)))
  exact ⟨G', d, Same.refl _, w, e, rd⟩
def rangeD (lo : Int) (n : Nat) : List D := (List.range n).map fun (i : Nat) => D.int (lo + i)
theorem wd_range {G : Hp} {lo : Int} {n : Nat} : WalkD K G (Itr lo n) (rangeD lo n) := by
  have hl : (rangeD lo n).length = n := by simp [rangeD]
  refine ⟨fun i H G' M' hi s w => by rw [hl] at hi; exact hi, fun H G' M' s w => by rw [hl]; exact Nat.le_refl _, fun i H x H' G' M' hi s w y => ?_⟩
  obtain ⟨rfl, rfl⟩ := y
  rw [hl] at hi
  exact ⟨G', .int (lo + i), Same.refl _, w, by simp [rangeD, hi], .int _⟩
/-- the signs of a text -/
def signsD (x : Str) : List D := x.cps.toList.map fun c => D.str ⟨#[c]⟩
theorem wd_str {G : Hp} {x : Str} : WalkD K G (Its x) (signsD x) := by
  have hl : (signsD x).length = x.cps.size := by simp [signsD]
  refine ⟨fun i H G' M' hi s w => by rw [hl] at hi; exact hi, fun H G' M' s w => by rw [hl]; exact Nat.le_refl _, fun i H v H' G' M' hi s w y => ?_⟩
  obtain ⟨rfl, c, hc, rfl⟩ := y
  refine ⟨G', .str ⟨#[c]⟩, Same.refl _, w, ?_, .str _⟩
  unfold signsD
  rw [List.getElem?_map, Array.getElem?_toList, hc]
  rfl
/-- the items of what is walked -/
def itemsD : D → Option (List D)
  | .list xs => some xs
  | .tup xs => some xs
  | .str x => some (signsD x)
  | .seq xs => some xs
  | _ => none
def iAny (K : PySem.W.Frag) (te : TE) : TI := fun σ H Z => te σ H fun v H1 => (∃ a, v = .ref a ∧ (∃ xs, SqL K H1 a xs) ∧ Z (Itl K a) H1) ∨ (∃ a, v = .ref a ∧ (∃ xs, SqT K H1 a xs) ∧ Z (Itt K a) H1) ∨ ∃ x, v = .str x ∧ Z (Its x) H1
theorem pi_any {X : Cx} {tg e : Expr} {te : TE} (he : PE X e te) : PI X tg e (iAny X.K te) := by
  refine ⟨fun pins s σ H Z J h => ?_⟩
  refine thn (he.run pins s σ H _ J h) fun v s2 ⟨x, H2, J2, rx, qx⟩ => ?_
  rcases qx with ⟨a, rfl, ⟨xs, hx⟩, q⟩ | ⟨a, rfl, ⟨xs, hx⟩, q⟩ | ⟨z, rfl, q⟩
  · cases rx
    obtain ⟨us, _, pl, _⟩ := J2.list hx
    exact wpAny_pyIter_list pl.isList (pi_one (tk := s2.toks) J2 _ (turn_list a _) ⟨_, Heap.get?_push_size _ rfl, rfl, rfl⟩ q)
  · cases rx
    obtain ⟨us, _, pl, _⟩ := J2.tuple hx
    exact wpAny_pyIter_tuple (show s2.heap.IsTuple a us.toArray from pl) (pi_one (tk := s2.toks) J2 _ (turn_tuple a _) ⟨_, Heap.get?_push_size _ rfl, rfl, rfl⟩ q)
  · obtain ⟨tz, rfl⟩ := rx
    cases hw : z.cps.all (· < 128)
    · exact wpAny_pyIter_wide hw (pi_one (tk := s2.toks) J2 _ (turn_str _ z tz "str_iterator" (.inr rfl)) ⟨_, Heap.get?_push_size _ rfl, rfl, rfl⟩ q)
    · exact wpAny_pyIter_ascii hw (pi_one (tk := s2.toks) J2 _ (turn_str _ z tz "str_ascii_iterator" (.inl rfl)) ⟨_, Heap.get?_push_size _ rfl, rfl, rfl⟩ q)
theorem ei_any {d : D} {es : List D} (h : Ev K M ds te (· = d)) (hi : itemsD d = some es) : EvI K M ds (iAny K te) (· = es) := fun M' σ G H Z m s w q =>
  h M' σ G H _ m s w fun v d' G1 H1 s1 w1 r1 e => by
    subst e
    cases r1 with
    | lst hx r => cases hi; exact .inl ⟨_, rfl, ⟨_, w1.sub.seq (sq hx)⟩, q _ _ G1 H1 s1 w1 rfl (wd_list (sq hx) r)⟩
    | tup hx r => cases hi; exact .inr (.inl ⟨_, rfl, ⟨_, same_t w1.sub hx⟩, q _ _ G1 H1 s1 w1 rfl (wd_tup hx r)⟩)
    | str x => cases hi; exact .inr (.inr ⟨_, rfl, q _ _ G1 H1 s1 w1 rfl wd_str⟩)
    | seq hx r => cases hi; exact .inl ⟨_, rfl, ⟨_, w1.sub.seq hx⟩, q _ _ G1 H1 s1 w1 rfl (wd_list hx r)⟩
    | _ => cases hi
theorem ei_anyR (h : Ev K M ds te R) {RI : List D → Prop} (hi : ∀ d, R d → ∃ es, itemsD d = some es ∧ RI es) : EvI K M ds (iAny K te) RI := fun M' σ G H Z m s w q =>
  h M' σ G H _ m s w fun v d' G1 H1 s1 w1 r1 e => by
    obtain ⟨es, hi, hes⟩ := hi d' e
    cases r1 with
    | lst hx r => cases hi; exact .inl ⟨_, rfl, ⟨_, w1.sub.seq (sq hx)⟩, q _ _ G1 H1 s1 w1 hes (wd_list (sq hx) r)⟩
    | tup hx r => cases hi; exact .inr (.inl ⟨_, rfl, ⟨_, same_t w1.sub hx⟩, q _ _ G1 H1 s1 w1 hes (wd_tup hx r)⟩)
    | str x => cases hi; exact .inr (.inr ⟨_, rfl, q _ _ G1 H1 s1 w1 hes wd_str⟩)
    | seq hx r => cases hi; exact .inl ⟨_, rfl, ⟨_, w1.sub.seq hx⟩, q _ _ G1 H1 s1 w1 hes (wd_list hx r)⟩
    | _ => cases hi
theorem ei_range1 {ta : TA} {RA : List D → Prop} (h : EvA K M ds ta RA) (hb : ∀ l, RA l → ∃ j : Int, l = [.int j] ∧ -(2 ^ 62) ≤ j ∧ j < 2 ^ 62) : EvI K M ds (iRng1 ta) (fun es => ∃ j : Int, RA [.int j] ∧ es = rangeD 0 j.toNat) := fun M' σ G H Z m s w q =>
  h M' σ G H _ m s w fun vs l G1 H1 s1 w1 r1 e => by
    obtain ⟨j, rfl, h1, h2⟩ := hb l e
    cases r1 with
    | cons p r =>
      cases r
      exact ⟨j, by rw [p.int_inv], h1, h2, q _ _ G1 H1 s1 w1 ⟨j, e, rfl⟩ wd_range⟩
theorem ei_range2 {ta : TA} {RA : List D → Prop} (h : EvA K M ds ta RA) (hb : ∀ l, RA l → ∃ i j : Int, l = [.int i, .int j] ∧ (-(2 ^ 62) ≤ i ∧ i < 2 ^ 62 ∧ -(2 ^ 62) ≤ j ∧ j < 2 ^ 62)) :
    EvI K M ds (iRng2 ta) (fun es => ∃ i j : Int, RA [.int i, .int j] ∧ es = rangeD i (j - i).toNat) := fun M' σ G H Z m s w q =>
  h M' σ G H _ m s w fun vs l G1 H1 s1 w1 r1 e => by
    obtain ⟨i, j, rfl, hb⟩ := hb l e
    cases r1 with
    | cons p r =>
      cases r with
      | cons p2 r =>
        cases r
        exact ⟨i, j, by rw [p.int_inv, p2.int_inv], hb, q _ _ G1 H1 s1 w1 ⟨i, j, e, rfl⟩ wd_range⟩
/-- zip of two lists or two tuples -/
def zipD (xs ys : List D) : List D := (xs.zip ys).map fun p => D.tup [p.1, p.2]
theorem zipD_get {xs ys : List D} {i : Nat} {x y : D} (hx : xs[i]? = some x) (hy : ys[i]? = some y) : (zipD xs ys)[i]? = some (.tup [x, y]) := by
  have hz : (xs.zip ys)[i]? = some (x, y) := List.getElem?_zip_eq_some.mpr ⟨hx, hy⟩
  unfold zipD
  rw [List.getElem?_map, hz]
  rfl
theorem wd_zipL {G : Hp} {a b : Addr} {xs ys : List V} {es fs : List D} (h : SqL K G a xs) (r : RpAll K G xs es) (h' : SqL K G b ys) (r' : RpAll K G ys fs) : WalkD K G (Itz K a b) (zipD es fs) := by
  have hl := r.length
  have hl' := r'.length
  have hz : (zipD es fs).length = min es.length fs.length := by simp [zipD]
  refine ⟨fun i H G' M' hi s w => ?_, fun H G' M' s w => ⟨xs, ys, w.sub.seq (s.seq h), w.sub.seq (s.seq h'), by omega⟩, fun i H x H' G' M' hi s w y => ?_⟩
  · exact ⟨xs, ys, xs[i]'(by omega), ys[i]'(by omega), w.sub.seq (s.seq h), w.sub.seq (s.seq h'), by simp [show i < xs.length by omega], by simp [show i < ys.length by omega]⟩
  · obtain ⟨T, v1, v2, rfl, nT, rfl, f1, f2⟩ := y
    obtain ⟨d1, e1, p1⟩ := (r.mono s).getV (f1 xs (w.sub.seq (s.seq h)))
    obtain ⟨d2, e2, p2⟩ := (r'.mono s).getV (f2 ys (w.sub.seq (s.seq h')))
    have sn := same_new (o := HO.tup [v1, v2]) (w.free nT)
    exact ⟨upd G' T (.tup [v1, v2]), .tup [d1, d2], sn, w.new nT, zipD_get e1 e2, .tup (.inl (.inl upd_same)) (.cons (p1.mono sn) (.cons (p2.mono sn) .nil))⟩
theorem wd_zipT {G : Hp} {a b : Addr} {xs ys : List V} {es fs : List D} (h : SqT K G a xs) (r : RpAll K G xs es) (h' : SqT K G b ys) (r' : RpAll K G ys fs) : WalkD K G (ItzT K a b) (zipD es fs) := by
  have hl := r.length
  have hl' := r'.length
  have hz : (zipD es fs).length = min es.length fs.length := by simp [zipD]
  refine ⟨fun i H G' M' hi s w => ?_, fun H G' M' s w => ⟨xs, ys, same_t w.sub (same_t s h), same_t w.sub (same_t s h'), by omega⟩, fun i H x H' G' M' hi s w y => ?_⟩
  · exact ⟨xs, ys, xs[i]'(by omega), ys[i]'(by omega), same_t w.sub (same_t s h), same_t w.sub (same_t s h'), by simp [show i < xs.length by omega], by simp [show i < ys.length by omega]⟩
  · obtain ⟨T, v1, v2, rfl, nT, rfl, f1, f2⟩ := y
    obtain ⟨d1, e1, p1⟩ := (r.mono s).getV (f1 xs (same_t w.sub (same_t s h)))
    obtain ⟨d2, e2, p2⟩ := (r'.mono s).getV (f2 ys (same_t w.sub (same_t s h')))
    have sn := same_new (o := HO.tup [v1, v2]) (w.free nT)
    exact ⟨upd G' T (.tup [v1, v2]), .tup [d1, d2], sn, w.new nT, zipD_get e1 e2, .tup (.inl (.inl upd_same)) (.cons (p1.mono sn) (.cons (p2.mono sn) .nil))⟩
theorem ei_zip {ta : TA} {x y : D} {es fs : List D} (h : EvA K M ds ta (· = [x, y])) (hxy : (x = .list es ∧ y = .list fs) ∨ (x = .tup es ∧ y = .tup fs)) : EvI K M ds (iZipA K ta) (· = zipD es fs) := fun M' σ G H Z m s w q =>
  h M' σ G H _ m s w fun vs l G1 H1 s1 w1 r1 e => by
    subst e
    cases r1 with
    | cons p r =>
      cases r with
      | cons p2 r =>
        cases r
        rcases hxy with ⟨rfl, rfl⟩ | ⟨rfl, rfl⟩
        · obtain ⟨a, xs, rfl, ha, ra⟩ := p.list_inv
          obtain ⟨b, ys, rfl, hb, rb⟩ := p2.list_inv
          exact ⟨a, b, xs, ys, rfl, .inl ⟨w1.sub.seq ha, w1.sub.seq hb, q _ _ G1 H1 s1 w1 rfl (wd_zipL ha ra hb rb)⟩⟩
        · obtain ⟨a, xs, rfl, ha, ra⟩ := p.tup_inv
          obtain ⟨b, ys, rfl, hb, rb⟩ := p2.tup_inv
          exact ⟨a, b, xs, ys, rfl, .inr ⟨same_t w1.sub ha, same_t w1.sub hb, q _ _ G1 H1 s1 w1 rfl (wd_zipT ha ra hb rb)⟩⟩
/-! ### for -/
theorem run_for {wi : TI} {g : TG} {tb : TS} {RI : List D → Prop} (hI : EvI K M ds wi RI) (h : ∀ es, RI es → ∃ Pv : Nat → DS → Prop, Pv 0 ds ∧
      (∀ i d ds', es[i]? = some d → Pv i ds' → EvG K M none g d ds' (fun ds2 => Run K M ds2 tb { nx := Pv (i + 1), ct := Pv (i + 1), bk := E.nx, rt := E.rt })) ∧ ∀ ds', Pv es.length ds' → E.nx ds') : Run K M ds (tFor wi g tb) E := fun M' σ G H Z m s w z =>
  hI M' σ G H _ m s w fun J es G1 H1 s1 w1 hes W => by
    obtain ⟨Pv, h0, hs, hd⟩ := h es hes
    refine for_it (n := es.length) (G := fun H => ∃ G2, Same G1 G2 ∧ Wd M' G2 H) (Y := fun i H x H' => J.yld i H x H') ⟨fun i H hi ⟨G2, s2, w2⟩ => W.goes i H G2 M' hi s2 w2, fun H ⟨G2, s2, w2⟩ => W.stops H G2 M' s2 w2, fun i H x H' _ _ y => y⟩
      (fun i σ' H' => ∃ ds' G2, Pv i ds' ∧ Same G1 G2 ∧ Sg K G2 σ' ds' ∧ Wd M' G2 H') ⟨ds, G1, h0, Same.refl _, s.mono s1, w1⟩ (fun i σ' H' _ ⟨_, G2, _, s2, _, w2⟩ => ⟨G2, s2, w2⟩) (fun i x σ' H2 H3 hi ⟨ds', G2, hp, s2, sg, w2⟩ y => ?_)
      (fun σ' H' ⟨ds', G2, hp, s2, sg, w2⟩ => z.nx ds' σ' G2 H' (hd ds' hp) (s1.trans s2) sg w2)
    obtain ⟨G3, d, s3, w3, hd', rd⟩ := W.yields i H2 x H3 G2 M' hi s2 w2 y
    refine hs i d ds' hd' hp M' σ' G3 H3 x _ m (sg.mono s3) w3 rd fun ds2 σ2 G4 H4 hr s4 sg4 w4 _ => ?_
    have s14 := (s2.trans s3).trans s4
    exact hr M' σ2 G4 H4 _ m sg4 w4 ⟨fun ds5 σ5 G5 H5 r5 s5 sg5 w5 => ⟨ds5, G5, r5, s14.trans s5, sg5, w5⟩, fun v d G5 H5 r5 s5 rp5 w5 => z.rt v d G5 H5 r5 (s1.trans (s14.trans s5)) rp5 w5,
      fun ds5 σ5 G5 H5 r5 s5 sg5 w5 => z.nx ds5 σ5 G5 H5 r5 (s1.trans (s14.trans s5)) sg5 w5, fun ds5 σ5 G5 H5 r5 s5 sg5 w5 => ⟨ds5, G5, r5, s14.trans s5, sg5, w5⟩⟩
/-! ### comprehensions -/
def wipeD (ds : DS) : List Nat → DS
  | [] => ds
  | v :: vs => (wipeD ds vs).set v none
theorem Sg.wipe {G : Hp} {σ : L2.St} (s : Sg K G σ ds) : ∀ vs : List Nat, Sg K G (wipe σ vs) (wipeD ds vs)
  | [] => s
  | v :: vs => (Sg.wipe s vs).drop
theorem Wd.put {G H : Hp} {p : Addr} {o : HO} {φ ψ : Hp → HO → Prop} (w : Wd ((p, φ) :: M) G H) (f : ψ G o) (mo : ∀ G1 G2 o, Same G1 G2 → ψ G1 o → ψ G2 o) : Wd ((p, ψ) :: M) G (upd H p o) := by
  have nd := w.nd
  rw [List.map_cons, List.nodup_cons] at nd
  refine ⟨fun a u e => ?_, fun m hm => ?_, fun m hm => ?_, w.nd⟩
  · have ne : a ≠ p := fun z => by
      have := (w.mt _ List.mem_cons_self).1
      rw [z] at e; rw [e] at this; cases this
    rw [upd_ne ne]; exact w.sub a u e
  · rcases List.mem_cons.mp hm with rfl | hm
    · exact ⟨(w.mt _ List.mem_cons_self).1, o, upd_same, f⟩
    · have ne : m.1 ≠ p := fun z => nd.1 (List.mem_map.mpr ⟨m, hm, z⟩)
      obtain ⟨g, u, hu, f'⟩ := w.mt m (List.mem_cons_of_mem _ hm)
      exact ⟨g, u, by rw [upd_ne ne]; exact hu, f'⟩
  · rcases List.mem_cons.mp hm with rfl | hm
    · exact mo
    · exact w.mono m (List.mem_cons_of_mem _ hm)
def isL (xs : List V) : Hp → HO → Prop := fun _ o => o = .lst xs
theorem ev_lc {wi : TI} {g : TG} {tt : TT} {vs : List Nat} {RI : List D → Prop} (hI : EvI K M ds wi RI) (h : ∀ es, RI es → es.length ≤ 100000 ∧ ∃ Pv : Nat → List D → Prop, Pv 0 [] ∧
      (∀ i d acc, es[i]? = some d → acc.length ≤ i → Pv i acc → EvG K M (some vs) g d (wipeD ds vs) (fun ds2 => ∃ RT : Bool → Prop, EvT K M ds2 tt RT ∧ (RT true → Ev K M ds2 te (fun y => Pv (i + 1) (acc ++ [y]))) ∧ (RT false → Pv (i + 1) acc))) ∧
      ∀ acc, acc.length ≤ es.length → Pv es.length acc → R (.list acc)) : Ev K M ds (tLc wi g tt te vs) R := fun M' σ G H Q m s w q =>
  hI M' σ G H _ m s w fun J es G1 H1 s1 w1 hes W D hD => by
    obtain ⟨hl, Pv, h0, hs, hd⟩ := h es hes
    have mo : ∀ xs : List V, ∀ (G1 G2 : Hp) (o : HO), Same G1 G2 → isL xs G1 o → isL xs G2 o := fun _ _ _ _ _ e => e
    refine lc_it (n := es.length) (G := fun H => ∃ G2 M2, Same G1 G2 ∧ Wd M2 G2 H) (Y := fun i H x H' => J.yld i H x H') ⟨fun i H hi ⟨G2, M2, s2, w2⟩ => W.goes i H G2 M2 hi s2 w2, fun H ⟨G2, M2, s2, w2⟩ => W.stops H G2 M2 s2 w2, fun i H x H' _ _ y => y⟩
      (fun i H' => ∃ G2 xs acc, Same G1 G2 ∧ Wd ((D, isL xs) :: M') G2 H' ∧ RpAll K G2 xs acc ∧ Pv i acc ∧ acc.length ≤ i) ⟨G1, [], [], Same.refl _, w1.newM hD rfl (mo []), .nil, h0, Nat.le_refl _⟩
      (fun i H' _ ⟨G2, xs, acc, s2, w2, _⟩ => ⟨G2, _, s2, w2⟩) (fun i x H2 H3 hi ⟨G2, xs, acc, s2, w2, ra, hp, hla⟩ y => ?_) (fun H' ⟨G2, xs, acc, s2, w2, ra, hp, hla⟩ => ?_)
    · obtain ⟨G3, d, s3, w3, hd', rd⟩ := W.yields i H2 x H3 G2 _ hi s2 w2 y
      refine hs i d acc hd' hla hp _ (wipe σ vs) G3 H3 x _ (MSub.cons m) ((s.mono ((s1.trans s2).trans s3)).wipe vs) w3 rd fun ds2 σ2 G4 H4 ⟨RT, hT, hE, hN⟩ s4 sg4 w4 hw => ?_
      refine ⟨?_, ?_⟩
      · have e := hw vs rfl (wipe σ vs) rfl
        have e2 : wipe (wipe σ vs) vs = wipe σ vs := wipe_wipe σ vs
        rw [e, e2]
      · refine hT _ σ2 G4 H4 _ (MSub.cons m) sg4 w4 fun b G5 H5 s5 w5 hb => ?_
        cases b with
        | true =>
          rw [if_pos rfl]
          refine hE hb _ σ2 G5 H5 _ (MSub.cons m) (sg4.mono s5) w5 fun v d6 G6 H6 s6 w6 r6 p6 => ?_
          obtain ⟨_, o, ho, eo⟩ := w6.mt _ List.mem_cons_self
          have eo : o = .lst xs := eo
          subst eo
          have s26 := ((s3.trans s4).trans s5).trans s6
          refine ⟨xs, ho, ?_, G6, xs ++ [v], acc ++ [d6], s2.trans s26, w6.put rfl (mo _), (ra.mono s26).append (.cons r6 .nil), p6, ?_⟩
          · have := ra.length
            exact Nat.lt_of_le_of_lt (show xs.length ≤ 100000 by omega) (by decide)
          · simp only [List.length_append, List.length_singleton]; omega
        | false =>
          rw [if_neg Bool.false_ne_true]
          exact ⟨G5, xs, acc, s2.trans ((s3.trans s4).trans s5), w5, ra.mono ((s3.trans s4).trans s5), hN hb, Nat.le_succ_of_le hla⟩
    · obtain ⟨g0, o, ho, eo⟩ := w2.mt _ List.mem_cons_self
      have eo : o = .lst xs := eo
      subst eo
      have sn := same_new (o := HO.lst xs) g0
      exact q (.ref D) (.list acc) (upd G2 D (.lst xs)) H' ((s1.trans s2).trans sn) (w2.freeze ho) (.lst upd_same (ra.mono sn)) (hd acc hla hp)
end
end Rg
namespace Rg
open PySem L2 RZ PyProof.Rows
/-! ### a def's promise, told of the data -/
def spF (K : PySem.W.Frag) (pre : Mt → List D → Prop) (post : List D → D → Prop) : Sp := fun vs H Q _ => ∃ M G as, Wd M G H ∧ RpAll K G vs as ∧ pre M as ∧ ∀ v d G' H', Same G G' → Wd M G' H' → Rp K G' v d → post as d → Q v H'
section
variable {P : Program} {w : World} {K : PySem.W.Frag} {mg : Str → Option Value} {base : Heap} {pre : Mt → List D → Prop} {post : List D → D → Prop}
theorem fn_run {x qual : Str} {st : Stmt} {f : Addr} {fd : FuncData} {N ps : List Str} {k : Nat} (F : Fun K x qual st f fd) (S : FnScope N ps (defScope st)) (hl : ∀ M as, pre M as → as.length = ps.length)
    (body : ∀ (cdv : Value) (A : Around) (outer : List Env) (s : Shared) (H : Hp) (E : XK), Room k (A.deeper (envOfC qual (defScope st) s.heap.objs.size f cdv)) →
      ∃ t, PSs (cxOf CX0 P w K mg base N qual (defScope st) f cdv A outer s H E).nox (defBody st) t ∧
        ∀ M as, pre M as → Run K M (as.map some ++ List.replicate (N.length - as.length) none) t { nx := fun _ => post as .non, rt := post as }) : FnOk P w K mg base CX0 (k + 1) f fd ps (spF K pre post) := by
  refine F.ok S (fun vs H Q E h => ?_) (fun cdv A outer s H vs Q E hr h => ?_)
  · obtain ⟨M, G, as, _, r, hp, _⟩ := h
    rw [r.length]
    exact hl M as hp
  · obtain ⟨M, G, as, wd, r, hp, q⟩ := h
    obtain ⟨t, ht, hrun⟩ := body cdv A outer s H E hr
    refine ⟨t, ht, hrun M as hp M _ G H _ (MSub.refl M) (Sg.start r) wd ⟨fun ds' σ' G' H' e s' _ w' => q _ _ G' H' s' w' .non e, fun v d G' H' e s' r' w' => q v d G' H' s' w' r' e, fun _ _ _ _ e => e.elim, fun _ _ _ _ e => e.elim⟩⟩
end
section
variable {K : PySem.W.Frag} {M M1 : Mt} {ds : DS} {te ta tb tc : TE} {t u : TT} {R R' : D → Prop} {RT RT' : Bool → Prop} {pre : Mt → List D → Prop} {post : List D → D → Prop}
theorem ev_callD {ta : TA} {RA : List D → Prop} {dvs : List V} {dd : List D} {E : XK} (ha : EvA K M ds ta RA) (hd : ∀ G, RpAll K G dvs dd) (h : ∀ as, RA as → (∀ M', MSub M M' → pre M' (as ++ dd)) ∧ ∀ d, post (as ++ dd) d → R d) :
    Ev K M ds (tCall (spF K pre post) dvs E ta) R := fun M' σ G H Q m s w q =>
  ha M' σ G H _ m s w fun vs as G1 H1 s1 w1 r1 e => ⟨M', G1, as ++ dd, w1, r1.append (hd G1), (h as e).1 M' m, fun v d G2 H2 s2 w2 r2 p2 => q v d G2 H2 (s1.trans s2) w2 r2 ((h as e).2 d p2)⟩
theorem ev_call {ta : TA} {RA : List D → Prop} {E : XK} (ha : EvA K M ds ta RA) (h : ∀ as, RA as → (∀ M', MSub M M' → pre M' as) ∧ ∀ d, post as d → R d) :
    Ev K M ds (tCall (spF K pre post) [] E ta) R := ev_callD ha (fun _ => .nil) fun as e => by rw [List.append_nil]; exact h as e
theorem ev_call1 {ta : TA} {as : List D} {E : XK} (ha : EvA K M ds ta (· = as)) (h : ∀ M', MSub M M' → pre M' as) : Ev K M ds (tCall (spF K pre post) [] E ta) (post as) :=
  ev_call ha fun _ e => by rw [e]; exact ⟨h, fun _ q => q⟩
theorem ev_callK {ta tk : TA} {RA RK : List D → Prop} {E : XK} {gV : List V → List V → List V} {gD : List D → List D → List D} (ha : EvA K M ds ta RA) (hk : EvA K M ds tk RK)
    (hg : ∀ G vs zs as ks, RA as → RK ks → RpAll K G vs as → RpAll K G zs ks → RpAll K G (gV vs zs) (gD as ks)) (h : ∀ as ks, RA as → RK ks → (∀ M', MSub M M' → pre M' (gD as ks)) ∧ ∀ d, post (gD as ks) d → R d) :
    Ev K M ds (tCallK (spF K pre post) gV E ta tk) R := fun M' σ G H Q m s w q =>
  ha M' σ G H _ m s w fun vs as G1 H1 s1 w1 r1 e => hk M' σ G1 H1 _ m (s.mono s1) w1 fun zs ks G2 H2 s2 w2 r2 e2 =>
    ⟨M', G2, gD as ks, w2, hg G2 vs zs as ks e e2 (r1.mono s2) r2, (h as ks e e2).1 M' m, fun v d G3 H3 s3 w3 r3 p3 => q v d G3 H3 ((s1.trans s2).trans s3) w3 r3 ((h as ks e e2).2 d p3)⟩
/-! ### kinds -/
def tyD : D → Option String
  | .non => some "NoneType"
  | .bl _ => some "bool"
  | .int _ => some "int"
  | .str _ => some "str"
  | .list _ => some "list"
  | .tup _ => some "tuple"
  | _ => none
theorem ty_of {G H : Hp} {v : V} {d : D} {n : String} (h : Rp K G v d) (s : Same G H) (e : tyD d = some n) : TyX K H v (.type n) := by
  cases h with
  | non => cases e; exact .base .non
  | bl b => cases e; exact .base (.bl b)
  | int i => cases e; exact .base (.int i)
  | str x => cases e; exact .base (.str x)
  | lst h r =>
    cases e
    exact .base (.lst (s _ _ h))
  | tup h r =>
    cases e
    rcases h with (h | ⟨o, h⟩) | ⟨o, its, k, h1, h2, _⟩
    · exact .base (.tup (s _ _ h))
    · exact .fTuple (s _ _ h)
    · exact .kTuple h1 h2
  | obj _ _ => cases e
  | seq _ _ => cases e
  | raw _ => cases e
def isD (d : D) (n : String) : Option Bool := (tyD d).bind fun a => kitB a n
theorem isD_inv {d : D} {n : String} {b : Bool} (h : isD d n = some b) : ∃ a, tyD d = some a ∧ kitB a n = some b := by
  unfold isD at h
  cases e : tyD d with
  | none => rw [e] at h; cases h
  | some a => rw [e] at h; exact ⟨a, rfl, h⟩
theorem cd_isi {d : D} {n : String} {b : Bool} (h : isD d n = some b) : CallD K M (rIsi K) [d, .raw (.ty n)] (· = .bl b) := fun M' G H xs Q m r w q => by
  obtain ⟨a, e1, e2⟩ := isD_inv h
  cases r with
  | cons p r =>
    cases r with
    | cons p2 r =>
      cases r
      cases p2
      exact ⟨_, _, .type a, .type n, b, rfl, .ty n, ty_of p w.sub e1, kit_ty e2, q _ _ G H (Same.refl G) w (.bl b) rfl⟩
theorem ev_isiT2 {d : D} {n1 n2 : String} {b1 b2 : Bool} {tcs : TA} (ha : Ev K M ds ta (· = d)) (hc : EvA K M ds tcs (· = [.raw (.ty n1), .raw (.ty n2)])) (h1 : isD d n1 = some b1) (h2 : isD d n2 = some b2) :
    Ev K M ds (tCB (rIsiT K) (tCons ta (tCons (tTup tcs) tNil))) (· = .bl (b1 || b2)) := fun M' σ G H Q m s w q => by
  obtain ⟨a1, e1, e1'⟩ := isD_inv h1
  obtain ⟨a2, e2, e2'⟩ := isD_inv h2
  have ea : a1 = a2 := Option.some.inj (e1.symm.trans e2)
  subst ea
  refine ha M' σ G H _ m s w fun v d' G1 H1 s1 w1 r1 e => ?_
  subst e
  refine hc M' σ G1 H1 _ m (s.mono s1) w1 fun vs es G2 H2 s2 w2 r2 e3 => ?_
  subst e3
  cases r2 with
  | cons p r =>
    cases r with
    | cons p2 r =>
      cases r
      cases p; cases p2
      refine ⟨show 2 ≤ sizeLine by decide, fun tp hp => ?_⟩
      have sn := same_new (o := HO.tup [V.ty n1, V.ty n2]) (w2.free hp)
      have wn := w2.new (o := HO.tup [V.ty n1, V.ty n2]) hp
      refine ⟨v, tp, [.ty n1, .ty n2], .type a1, [.type n1, .type n2], b1 || b2, rfl, upd_same, .cons (.ty n1) (.cons (.ty n2) .nil), ty_of ((r1.mono s2).mono sn) wn.sub e1, ?_, q _ _ _ _ ((s1.trans s2).trans sn) wn (.bl _) rfl⟩
      refine kitAny_cons (kit_ty e1') (fun hb => kitAny_cons (kit_ty e2') (fun hb2 => ?_) fun hb2 => ?_) fun hb => ?_
      · rw [hb, hb2]; rfl
      · rw [hb, hb2]; rfl
      · rw [hb]; rfl
/-! ### sizes, items, slices -/
def lenD : D → Option Nat
  | .seq xs => some xs.length
  | .str x => if x.length ≤ 100000 then some x.length else none
  | .list xs => some xs.length
  | .tup xs => some xs.length
  | _ => none
theorem cd_len {d : D} {n : Nat} (h : lenD d = some n) : CallD K M (fun xs H Q => ∃ x n, xs = [x] ∧ LenV K x H n ∧ Q (.int (n : Nat)) H) [d] (· = .int n) := fun M' G H xs Q m r w q => by
  cases r with
  | cons p r =>
    cases r
    refine ⟨_, n, rfl, ?_, q _ _ G H (Same.refl G) w (.int _) rfl⟩
    cases p with
    | str x =>
      replace h : (if x.length ≤ 100000 then some x.length else none) = some n := h
      split at h
      · rename_i hx
        exact ⟨Nat.le_trans hx (by decide), (Option.some.inj h).symm⟩
      · cases h
    | lst hx r => exact .inl ⟨_, w.sub.seq (sq hx), by rw [r.length]; exact (Option.some.inj h).symm⟩
    | tup hx r => exact .inr ⟨_, same_t w.sub hx, by rw [r.length]; exact (Option.some.inj h).symm⟩
    | seq hx r => exact .inl ⟨_, w.sub.seq hx, by rw [r.length]; exact (Option.some.inj h).symm⟩
    | _ => cases h
/-- the item at i -/
def itemD : D → Int → Option D
  | .list xs, i => atI xs i
  | .tup xs, i => atI xs i
  | .str x, i => if x.length ≤ 100000 then (atI x.cps.toList i).map fun c => D.str ⟨#[c]⟩ else none
  | _, _ => none
theorem RpAll.atI {G : Hp} {xs : List V} {es : List D} {i : Int} {d : D} (r : RpAll K G xs es) (h : L2.atI es i = some d) : ∃ v, L2.atI xs i = some v ∧ Rp K G v d := by
  unfold L2.atI at h ⊢
  rw [r.length]
  cases e : ixN es.length i with
  | none => rw [e] at h; cases h
  | some j =>
    rw [e] at h
    obtain ⟨v, e1, r1⟩ := r.get (show es[j]? = some d from h)
    exact ⟨v, e1, r1⟩
theorem od_ix {d e : D} {i : Int} (h : itemD d i = some e) : OpD K M (rIx K) d (.int i) (· = e) := fun M' G H x y Q m rx ry w q => by
  obtain rfl := ry.int_inv
  cases rx with
  | lst hx r =>
    obtain ⟨v, e1, r1⟩ := r.atI h
    exact .inl ⟨_, _, i, v, rfl, rfl, w.sub.seq (sq hx), e1, q v e G H (Same.refl G) w r1 rfl⟩
  | tup hx r =>
    obtain ⟨v, e1, r1⟩ := r.atI h
    exact .inr (.inl ⟨_, _, i, v, rfl, rfl, same_t w.sub hx, e1, q v e G H (Same.refl G) w r1 rfl⟩)
  | str x =>
    replace h : (if x.length ≤ 100000 then (L2.atI x.cps.toList i).map fun c => D.str ⟨#[c]⟩ else none) = some e := h
    split at h
    · rename_i hx
      cases ec : L2.atI x.cps.toList i with
      | none => rw [ec] at h; cases h
      | some c =>
        rw [ec] at h
        cases h
        exact .inr (.inr ⟨x, i, c, rfl, rfl, Nat.le_trans hx (by decide), ec, q _ _ G H (Same.refl G) w (.str _) rfl⟩)
    · cases h
  | _ => cases h
def EvO (K : PySem.W.Frag) (M : Mt) (ds : DS) (to : TO) (o : Option Int) : Prop := ∀ (M' : Mt) (σ : L2.St) (G H : Hp) (Q : Option Int → Hp → Prop), MSub M M' → Sg K G σ ds → Wd M' G H → (∀ G' H', Same G G' → Wd M' G' H' → Q o H') → to σ H Q
theorem eo_none : EvO K M ds tNoPart none := fun M' σ G H Q m s w q => q G H (Same.refl G) w
theorem eo_some {i : Int} (h : Ev K M ds te (· = .int i)) : EvO K M ds (tPart te) (some i) := fun M' σ G H Q m s w q =>
  h M' σ G H _ m s w fun v d G1 H1 s1 w1 r1 e => by
    subst e
    exact ⟨i, r1.int_inv, q G1 H1 s1 w1⟩
def cutD (xs : List D) (lo hi : Option Int) : List D := (xs.drop (HT.sIx xs.length 0 lo)).take (HT.sIx xs.length xs.length hi - HT.sIx xs.length 0 lo)
theorem RpAll.cut {G : Hp} {xs : List V} {es : List D} (r : RpAll K G xs es) (lo hi : Option Int) : RpAll K G (cutV xs lo hi) (cutD es lo hi) := by
  unfold cutV cutD
  rw [r.length]
  exact (r.drop _).take _
/-- slices of texts and lists -/
def rSlU (K : PySem.W.Frag) : V → Option Int → Option Int → Hp → VK → Prop := fun x lo hi H Q => rSlS x lo hi H Q ∨ rSlL K x lo hi H Q
theorem sl_any {X : Cx} : SlR X (rSlU X.K) := sl_str.or sl_list
theorem ev_slS {tl th : TO} {x : Str} {lo hi : Option Int} (h : Ev K M ds te (· = .str x)) (hl : EvO K M ds tl lo) (hh : EvO K M ds th hi) (hx : x.length ≤ 100000) : Ev K M ds (tSl (rSlU K) te tl th) (· = .str (cutS x lo hi)) := fun M' σ G H Q m s w q =>
  h M' σ G H _ m s w fun v d G1 H1 s1 w1 r1 e => hl M' σ G1 H1 _ m (s.mono s1) w1 fun G2 H2 s2 w2 => hh M' σ G2 H2 _ m (s.mono (s1.trans s2)) w2 fun G3 H3 s3 w3 => by
    subst e
    exact .inl ⟨x, r1.str_inv, Nat.le_trans hx (by decide), q _ _ G3 H3 ((s1.trans s2).trans s3) w3 (.str _) rfl⟩
theorem ev_slQ {tl th : TO} {xs : List D} {lo hi : Option Int} (h : Ev K M ds te (· = .seq xs)) (hl : EvO K M ds tl lo) (hh : EvO K M ds th hi) : Ev K M ds (tSl (rSlU K) te tl th) (· = .list (cutD xs lo hi)) := fun M' σ G H Q m s w q =>
  h M' σ G H _ m s w fun v d G1 H1 s1 w1 r1 e => hl M' σ G1 H1 _ m (s.mono s1) w1 fun G2 H2 s2 w2 => hh M' σ G2 H2 _ m (s.mono (s1.trans s2)) w2 fun G3 H3 s3 w3 => by
    subst e
    cases r1 with
    | @seq a us _ hx r =>
      refine .inr ⟨_, _, rfl, w3.sub.seq ((s2.trans s3).seq hx), fun p hp => ?_⟩
      have sn := same_new (o := HO.lst (cutV us lo hi)) (w3.free hp)
      exact q (.ref p) _ _ _ (((s1.trans s2).trans s3).trans sn) (w3.new hp) (.lst upd_same ((r.cut lo hi).mono ((s2.trans s3).trans sn))) rfl
theorem ev_slL {tl th : TO} {xs : List D} {lo hi : Option Int} (h : Ev K M ds te (· = .list xs)) (hl : EvO K M ds tl lo) (hh : EvO K M ds th hi) : Ev K M ds (tSl (rSlU K) te tl th) (· = .list (cutD xs lo hi)) := fun M' σ G H Q m s w q =>
  h M' σ G H _ m s w fun v d G1 H1 s1 w1 r1 e => hl M' σ G1 H1 _ m (s.mono s1) w1 fun G2 H2 s2 w2 => hh M' σ G2 H2 _ m (s.mono (s1.trans s2)) w2 fun G3 H3 s3 w3 => by
    subst e
    obtain ⟨a, us, rfl, hx, r⟩ := r1.list_inv
    refine .inr ⟨a, us, rfl, w3.sub.seq ((s2.trans s3).seq hx), fun p hp => ?_⟩
    have sn := same_new (o := HO.lst (cutV us lo hi)) (w3.free hp)
    exact q (.ref p) _ _ _ (((s1.trans s2).trans s3).trans sn) (w3.new hp) (.lst upd_same ((r.cut lo hi).mono ((s2.trans s3).trans sn))) rfl
/-! ### operators of several kinds -/
def rOr (r r' : R2) : R2 := fun x y H Q => r x y H Q ∨ r' x y H Q
theorem op_or {X : Cx} {f : Value → Value → Sem Value} {r r' : R2} (h : OpR X f r) (h' : OpR X f r') : OpR X f (rOr r r') := fun pins s σ H x y v u Q I rx ry q =>
  q.elim (fun q => h pins s σ H x y v u Q I rx ry q) fun q => h' pins s σ H x y v u Q I rx ry q
theorem od_l {r r' : R2} {a b : D} (h : OpD K M r a b R) : OpD K M (rOr r r') a b R := fun M' G H x y Q m rx ry w q => .inl (h M' G H x y Q m rx ry w q)
theorem od_r {r r' : R2} {a b : D} (h : OpD K M r' a b R) : OpD K M (rOr r r') a b R := fun M' G H x y Q m rx ry w q => .inr (h M' G H x y Q m rx ry w q)
abbrev rAddS : R2 := fun x y H Q => ∃ i j, x = .str i ∧ y = .str j ∧ i.length + j.length ≤ sizeLine ∧ Q (.str (i ++ j)) H
/-- + of two lists, wherever they stand -/
def rAddU (K : PySem.W.Frag) : R2 := rOr (rI0 fun i j => .int (i + j)) (rOr rAddS rCat)
theorem op_addU {X : Cx} : OpR X (binaryOp .Add) (rAddU X.K) := op_or op_add (op_or op_add_str op_cat)
theorem od_addI {i j : Int} : OpD K M (rAddU K) (.int i) (.int j) (· = .int (i + j)) := od_l (od_int (h := fun i j => .int (i + j)) fun _ => .int _)
theorem od_addS {x y : Str} (h : x.length + y.length ≤ 100000) : OpD K M (rAddU K) (.str x) (.str y) (· = .str (x ++ y)) := od_r (od_l fun M' G H v u Q m rx ry w q => ⟨x, y, rx.str_inv, ry.str_inv, Nat.le_trans h (by decide), q _ _ G H (Same.refl G) w (.str _) rfl⟩)
theorem od_eqI {i j : Int} : OpD K M rEq (.int i) (.int j) (· = .bl (decide (i = j))) := fun M' G H x y Q m rx ry w q => by
  cases rx; cases ry
  refine ⟨rfl, q _ _ G H (Same.refl G) w ?_ rfl⟩
  rw [show decide (V.int i = V.int j) = decide (i = j) by simp]
  exact .bl _
theorem od_eqS {i j : Str} : OpD K M rEq (.str i) (.str j) (· = .bl (decide (i = j))) := fun M' G H x y Q m rx ry w q => by
  cases rx; cases ry
  refine ⟨rfl, q _ _ G H (Same.refl G) w ?_ rfl⟩
  rw [show decide (V.str i = V.str j) = decide (i = j) by simp]
  exact .bl _
theorem od_eqB {i j : Bool} : OpD K M rEq (.bl i) (.bl j) (· = .bl (decide (i = j))) := fun M' G H x y Q m rx ry w q => by
  cases rx; cases ry
  refine ⟨rfl, q _ _ G H (Same.refl G) w ?_ rfl⟩
  rw [show decide (V.bl i = V.bl j) = decide (i = j) by simp]
  exact .bl _
theorem od_neI {i j : Int} : OpD K M rNe (.int i) (.int j) (· = .bl (!decide (i = j))) := fun M' G H x y Q m rx ry w q => by
  cases rx; cases ry
  refine ⟨rfl, q _ _ G H (Same.refl G) w ?_ rfl⟩
  rw [show decide (V.int i = V.int j) = decide (i = j) by simp]
  exact .bl _
theorem od_neB {i j : Bool} : OpD K M rNe (.bl i) (.bl j) (· = .bl (!decide (i = j))) := fun M' G H x y Q m rx ry w q => by
  cases rx; cases ry
  refine ⟨rfl, q _ _ G H (Same.refl G) w ?_ rfl⟩
  rw [show decide (V.bl i = V.bl j) = decide (i = j) by simp]
  exact .bl _
theorem od_inSign {c : Nat} {z : Str} : OpD K M (fun x y H Q => ∃ (c : Nat) (z : Str), x = .str ⟨#[c]⟩ ∧ y = .str z ∧ Q (.bl (decide (c ∈ z.cps.toList))) H) (.str ⟨#[c]⟩) (.str z) (· = .bl (decide (c ∈ z.cps.toList))) := fun M' G H x y Q m rx ry w q =>
  ⟨c, z, rx.str_inv, ry.str_inv, q _ _ G H (Same.refl G) w (.bl _) rfl⟩
/-- flat things -/
def flatD : D → Option V
  | .non => some .non
  | .bl b => some (.bl b)
  | .int i => some (.int i)
  | .str x => some (.str x)
  | _ => none
theorem flat_inv {G : Hp} {v x : V} {d : D} (r : Rp K G v d) (h : flatD d = some x) : v = x ∧ flatV v = true := by
  cases r <;> cases h <;> exact ⟨rfl, rfl⟩
theorem flats_inv {G : Hp} : ∀ {vs xs : List V} {es : List D}, RpAll K G vs es → es.map flatD = xs.map some → vs = xs ∧ vs.all flatV = true
  | _, [], _, .nil, _ => ⟨rfl, rfl⟩
  | _, x :: xs, _, .cons h r, e => by
    simp only [List.map_cons, List.cons.injEq] at e
    obtain ⟨rfl, f⟩ := flat_inv h e.1
    obtain ⟨rfl, g⟩ := flats_inv r e.2
    exact ⟨rfl, by rw [List.all_cons, f, g]; rfl⟩
  | _, _ :: _, _, .nil, e => by simp at e
theorem od_inSeq {d : D} {es : List D} {x : V} {xs : List V} {n : Bool} {c : D} (hc : c = .list es ∨ c = .tup es) (h : flatD d = some x) (hs : es.map flatD = xs.map some) : OpD K M (rIn K n) d c (· = .bl (if n then !inV x xs else inV x xs)) := fun M' G H v u Q m rx ry w q => by
  obtain ⟨rfl, f⟩ := flat_inv rx h
  rcases hc with rfl | rfl
  · obtain ⟨a, us, rfl, hx, r⟩ := ry.list_inv
    obtain ⟨rfl, g⟩ := flats_inv r hs
    exact ⟨a, _, rfl, .inl (w.sub.seq hx), f, g, q _ _ G H (Same.refl G) w (.bl _) rfl⟩
  · obtain ⟨a, us, rfl, hx, r⟩ := ry.tup_inv
    obtain ⟨rfl, g⟩ := flats_inv r hs
    exact ⟨a, _, rfl, .inr (same_t w.sub hx), f, g, q _ _ G H (Same.refl G) w (.bl _) rfl⟩
theorem od_isN {d : D} {b : Bool} (hb : ∀ G v, Rp K G v d → decide (v = .non) = b) : OpD K M (fun x y H Q => y = .non ∧ Q (.bl (decide (x = .non))) H) d .non (· = .bl b) := fun M' G H x y Q m rx ry w q =>
  ⟨ry.non_inv, by rw [hb G x rx]; exact q _ _ G H (Same.refl G) w (.bl _) rfl⟩
def noneD : D → Option Bool
  | .non => some true
  | .raw _ => none
  | .seq _ => none
  | _ => some false
theorem od_none {d : D} {b : Bool} (h : noneD d = some b) : OpD K M (fun x y H Q => y = .non ∧ Q (.bl (decide (x = .non))) H) d .non (· = .bl b) := od_isN fun G v r => by
  cases r <;> cases h <;> simp
/-! ### calls of built-ins -/
theorem cd_all {bs : List Bool} : CallD K M (rAll K) [.list (bs.map D.bl)] (· = .bl (bs.all id)) := fun M' G H xs Q m r w q => by
  cases r with
  | cons p r =>
    cases r
    obtain ⟨a, us, rfl, hx, r⟩ := p.list_inv
    have e := r.bl_inv
    subst e
    exact ⟨a, bs, rfl, w.sub.seq hx, q _ _ G H (Same.refl G) w (.bl _) rfl⟩
theorem cd_any {bs : List Bool} : CallD K M (rAny K) [.list (bs.map D.bl)] (· = .bl (bs.any id)) := fun M' G H xs Q m r w q => by
  cases r with
  | cons p r =>
    cases r
    obtain ⟨a, us, rfl, hx, r⟩ := p.list_inv
    have e := r.bl_inv
    subst e
    exact ⟨a, bs, rfl, w.sub.seq hx, q _ _ G H (Same.refl G) w (.bl _) rfl⟩
theorem cd_intI {i : Int} : CallD K M (fun xs H Q => (∃ i, xs = [.int i] ∧ Q (.int i) H) ∨ ∃ k, xs = [.bl k] ∧ Q (.int (if k = true then 1 else 0)) H) [.int i] (· = .int i) := fun M' G H xs Q m r w q => by
  cases r with
  | cons p r =>
    cases r
    exact .inl ⟨i, by rw [p.int_inv], q _ _ G H (Same.refl G) w (.int _) rfl⟩
theorem cd_listof {xs : List D} : CallD K M (fun xs H Q => ∃ p ys, xs = [.ref p] ∧ (SqL K H p ys ∨ SqT K H p ys) ∧ ∀ l, H l = none → Q (.ref l) (upd H l (.lst ys))) [.list xs] (· = .list xs) := fun M' G H vs Q m r w q => by
  cases r with
  | cons p r =>
    cases r
    obtain ⟨a, us, rfl, hx, r⟩ := p.list_inv
    refine ⟨a, us, rfl, .inl (w.sub.seq hx), fun l hl => ?_⟩
    have sn := same_new (o := HO.lst us) (w.free hl)
    exact q (.ref l) _ _ _ sn (w.new hl) (.lst upd_same (r.mono sn)) rfl
theorem cd_str {i : Int} (h : i.natAbs.log2 < 1920) : CallD K M (fun xs H Q => ∃ i : Int, xs = [.int i] ∧ i.natAbs.log2 < 1920 ∧ Q (.str (Str.ofString (toString i))) H) [.int i] (· = .str (Str.ofString (toString i))) := fun M' G H xs Q m r w q => by
  cases r with
  | cons p r =>
    cases r
    exact ⟨i, by rw [p.int_inv], h, q _ _ G H (Same.refl G) w (.str _) rfl⟩
theorem ev_join {x : Str} {xs : List Str} {R1 : D → Prop} (ha : Ev K M ds ta (· = .str x)) (hb : Ev K M ds tb (fun d => ∃ xs : List Str, d = .list (xs.map D.str) ∧ (xs.map (·.length)).sum + xs.length * x.length ≤ 100000 ∧ R (.str (Txt.join x xs)))) :
    Ev K M ds (tM1 (fun x xs H Q => ∃ a p, ∃ ys : List Str, x = .str a ∧ xs = [.ref p] ∧ (SqL K H p (ys.map V.str) ∨ SqT K H p (ys.map V.str)) ∧ (ys.map (·.length)).sum + ys.length * a.length ≤ 16777216 ∧ Q (.str (Txt.join a ys)) H) ta tb) R := fun M' σ G H Q m s w q =>
  ha M' σ G H _ m s w fun v d G1 H1 s1 w1 r1 e => by
    subst e
    refine ⟨⟨x, r1.str_inv⟩, hb M' σ G1 H1 _ m (s.mono s1) w1 fun v2 d2 G2 H2 s2 w2 r2 ⟨ys, e2, hl, hR⟩ => ?_⟩
    subst e2
    obtain ⟨a, us, rfl, hx, r⟩ := r2.list_inv
    have e3 := r.str_inv
    subst e3
    exact ⟨x, a, ys, r1.str_inv, rfl, .inl (w2.sub.seq hx), Nat.le_trans hl (by decide), q _ _ G2 H2 (s1.trans s2) w2 (.str _) hR⟩
end
/-! ### calls by keywords alone -/
section
variable {X : Cx} {CX : CXT} {k : Nat} {f : Addr} {fd : FuncData} {ps ks : List Str} {sp : Sp} {E : XK} {x : Str} {p pos : Pos} {kws : List Keyword} {tk : TA} {g : List Value → List Value → List Value} {gV : List V → List V → List V}
theorem pe_callKs (F : FnOk X.prog X.w X.K X.mg X.base CX k f fd ps sp) (hr : Room k X.A) (hg : Gl X x) (hm : X.mg x = some (.ref f)) (hk : PySem.W.keepIn X.K (.ref f) = true) (hb : KBinds X.K fd ps ks g gV) (hx : Passes CX X E)
    (hkw : PK X kws tk) (hall : (backToKw pos (keywordEach kws X.env)).all (·.1.isSome) = true := by rfl) (hks : (backToKw pos (keywordEach kws X.env)).filterMap (·.1) = ks := by rfl) (hdb : (x == ("__debug__" : Str)) = false := by decide)
    (hpl : ((backTo pos (starEach [] X.env)).any (·.1) || (backToKw pos (keywordEach kws X.env)).any (·.1.isNone)) = false := by rfl) : PE X (.Call (.Name x p) [] kws pos) (tCallK sp gV E tNil tk) := by
  refine ⟨fun pins s σ H Q J h => ?_⟩
  refine wpAny_Call_Name_kw (ld_glob J hg hm ?_ hdb)
  refine PySem.W.callWith_KW0 (h₀ := X.base) J.ok.mod.kin hk hall ?_ hpl
  refine thn (hkw.run pos pins s σ H _ J h) fun ws s2 ⟨zs, H2, J2, rz, q2⟩ => ⟨J2.kIn, ?_⟩
  rw [hks]
  exact run_fnk (us := []) (vs := []) F hr hb hx J2 .nil rz q2
end
/-- one keyword, one parameter -/
def kg1 {α : Type} : List α → List α → List α
  | [], [a] => [a]
  | _, _ => []
def kg2 {α : Type} : List α → List α → List α
  | [], [a, b] => [a, b]
  | _, _ => []
def kg2r {α : Type} : List α → List α → List α
  | [], [a, b] => [b, a]
  | _, _ => []
def kg3r {α : Type} : List α → List α → List α
  | [], [a, b, c] => [c, b, a]
  | _, _ => []
section
variable {K : PySem.W.Frag} {x qual : Str} {st : Stmt} {f : Addr} {fd : FuncData}
theorem kb1 {p : Str} (F : Fun K x qual st f fd) (h : ∀ (kV doc pm : Value) (an : Option Addr) (cdv ct : Value) (a : Value), bindArgs (PySem.W.fnOf x qual (defArgs st) (defBody st) (defScope st) .none kV doc pm an cdv ct) ⟨[], [(p, a)]⟩ = pure [(p, a)]) : KBinds K fd [p] [p] kg1 kg1 := by
  obtain ⟨oc, od, kV, doc, pm, an, cdv, ct, osl, rfl, lk, hcd⟩ := F.ex
  refine ⟨fun s us ws _ hl => ?_, fun r r' => ?_⟩
  · match us, ws, hl with
    | [], [a], _ => exact .of_eq (h kV doc pm an cdv ct a)
  · match r, r' with
    | .nil, .cons q .nil => exact .cons q .nil
    | .nil, .nil => exact .nil
    | .nil, .cons _ (.cons _ _) => exact .nil
    | .cons _ _, _ => exact .nil
theorem kb3r {p1 p2 p3 : Str} (F : Fun K x qual st f fd) (h : ∀ (kV doc pm : Value) (an : Option Addr) (cdv ct : Value) (a b c : Value), bindArgs (PySem.W.fnOf x qual (defArgs st) (defBody st) (defScope st) .none kV doc pm an cdv ct) ⟨[], [(p3, a), (p2, b), (p1, c)]⟩ = pure [(p1, c), (p2, b), (p3, a)]) : KBinds K fd [p1, p2, p3] [p3, p2, p1] kg3r kg3r := by
  obtain ⟨oc, od, kV, doc, pm, an, cdv, ct, osl, rfl, lk, hcd⟩ := F.ex
  refine ⟨fun s us ws _ hl => ?_, fun r r' => ?_⟩
  · match us, ws, hl with
    | [], [a, b, c], _ => exact .of_eq (h kV doc pm an cdv ct a b c)
  · match r, r' with
    | .nil, .cons q (.cons q2 (.cons q3 .nil)) => exact .cons q3 (.cons q2 (.cons q .nil))
    | .nil, .nil => exact .nil
    | .nil, .cons _ .nil => exact .nil
    | .nil, .cons _ (.cons _ .nil) => exact .nil
    | .nil, .cons _ (.cons _ (.cons _ (.cons _ _))) => exact .nil
    | .cons _ _, _ => exact .nil
end
/-! ### built-ins by name, in short -/
theorem bt_isinstance : bootBuiltins "isinstance" = some (.builtin "isinstance") := by decide +kernel
theorem bt_len : bootBuiltins "len" = some (.builtin "len") := by decide +kernel
theorem bt_all : bootBuiltins "all" = some (.builtin "all") := by decide +kernel
theorem bt_any : bootBuiltins "any" = some (.builtin "any") := by decide +kernel
theorem bt_abs : bootBuiltins "abs" = some (.builtin "abs") := by decide +kernel
theorem bt_int : bootBuiltins "int" = some (.type "int") := by decide +kernel
theorem bt_str : bootBuiltins "str" = some (.type "str") := by decide +kernel
theorem bt_list : bootBuiltins "list" = some (.type "list") := by decide +kernel
theorem bt_tuple : bootBuiltins "tuple" = some (.type "tuple") := by decide +kernel
theorem bt_bool : bootBuiltins "bool" = some (.type "bool") := by decide +kernel
section
variable {X : Cx} {pos p : Pos} {e : Expr} {te : TE}
theorem pe_ty {x : Str} {n : String} (hv : bootBuiltins x = some (.type n)) (hm : X.mg x = none) (hg : Gl X x := by rfl) (hn : x ≠ "__name__" := by decide) (hd : (x == ("__debug__" : Str)) = false := by decide) : PE X (.Name x pos) (tC (.ty n)) := pe_bltn hg hm hv rfl hn hd
end
/-- in: of a list or tuple of flat things, of one sign in a text -/
abbrev rInSign : R2 := fun x y H Q => ∃ (c : Nat) (z : Str), x = .str ⟨#[c]⟩ ∧ y = .str z ∧ Q (.bl (decide (c ∈ z.cps.toList))) H
def rInU (K : PySem.W.Frag) : R2 := rOr (rIn K false) rInSign
theorem op_inU {X : Cx} : OpR X (compareOp .In) (rInU X.K) := op_or op_in_seq op_in_sign
section
variable {K : PySem.W.Frag} {M : Mt}
theorem od_inS {c : Nat} {z : Str} : OpD K M (rInU K) (.str ⟨#[c]⟩) (.str z) (· = .bl (decide (c ∈ z.cps.toList))) := od_r od_inSign
theorem od_inQ {d : D} {es : List D} {x : V} {xs : List V} {c : D} (hc : c = .list es ∨ c = .tup es) (h : flatD d = some x) (hs : es.map flatD = xs.map some) : OpD K M (rInU K) d c (· = .bl (inV x xs)) := od_l (od_inSeq (n := false) hc h hs)
theorem od_catL {xs ys : List D} (h : xs.length + ys.length ≤ 100000) : OpD K M (rAddU K) (.list xs) (.list ys) (· = .list (xs ++ ys)) := od_r (od_r fun M' G H v u Q m rx ry w q => by
  obtain ⟨a, us, rfl, ha, ra⟩ := rx.list_ex
  obtain ⟨b, ws, rfl, hb, rb⟩ := ry.list_ex
  refine ⟨a, b, us, ws, rfl, rfl, w.sub _ _ ha, w.sub _ _ hb, by rw [ra.length, rb.length]; exact Nat.le_trans h (by decide), fun p hp => ?_⟩
  have sn := same_new (o := HO.lst (us ++ ws)) (w.free hp)
  exact q (.ref p) _ _ _ sn (w.new hp) (.lst upd_same ((ra.append rb).mono sn)) rfl)
end
/-! ### the same rules with the written part by its own name (within a comprehension's block) -/
section
variable {X : Cx} {K : PySem.W.Frag}
theorem q_len (h : X.K = K := by rfl) : CallR X (.builtin "len") (fun xs H Q => ∃ x n, xs = [x] ∧ LenV K x H n ∧ Q (.int (n : Nat)) H) := h ▸ call_len
theorem q_isi (h : X.K = K := by rfl) : CallR X (.builtin "isinstance") (rIsi K) := h ▸ call_isi
theorem q_isiT (h : X.K = K := by rfl) : CallR X (.builtin "isinstance") (rIsiT K) := h ▸ call_isiT
theorem q_all (hc : X.calm = true := by rfl) (h : X.K = K := by rfl) : CallR X (.builtin "all") (rAll K) := h ▸ cr_all hc
theorem q_any (hc : X.calm = true := by rfl) (h : X.K = K := by rfl) : CallR X (.builtin "any") (rAny K) := h ▸ cr_any hc
theorem q_ix (h : X.K = K := by rfl) : IxR X (rIx K) := h ▸ ix_seq
theorem q_sl (h : X.K = K := by rfl) : SlR X (rSlU K) := h ▸ sl_any
theorem q_add (h : X.K = K := by rfl) : OpR X (binaryOp .Add) (rAddU K) := h ▸ op_addU
theorem q_in (h : X.K = K := by rfl) : OpR X (compareOp .In) (rInU K) := h ▸ op_inU
theorem q_notIn (h : X.K = K := by rfl) : OpR X (compareOp .NotIn) (rIn K true) := h ▸ op_notIn_seq
theorem q_listof (h : X.K = K := by rfl) : CallR X (.type "list") (fun xs H Q => ∃ p ys, xs = [.ref p] ∧ (SqL K H p ys ∨ SqT K H p ys) ∧ ∀ l, H l = none → Q (.ref l) (upd H l (.lst ys))) := h ▸ call_list_of
theorem q_itany {tg e : Expr} {te : TE} (he : PE X e te) (h : X.K = K := by rfl) : PI X tg e (iAny K te) := h ▸ pi_any he
theorem q_zip {e e2 : Expr} {ta : TA} {p pos tpos : Pos} {elts : List Expr} {kk : Nat} (hm : X.mg "zip" = none) (ha : PA X [e, e2] ta) (h : X.K = K := by rfl) (hg : Gl X "zip" := by rfl)
    (hs : starEach [e, e2] X.env = (false, eval e X.env) :: starEach [e2] X.env := by rfl) (hpl : (backTo pos (starEach [e2] X.env)).any (·.1) = false := by rfl) :
    PI X (.Tuple elts kk tpos) (.Call (.Name "zip" p) [e, e2] [] pos) (iZipA K ta) := h ▸ pi_zipA hg hm ha hs hpl
theorem q_join {o e : Expr} {to te : TE} {apos pos : Pos} (ho : PE X o to) (he : PE X e te) (h : X.K = K := by rfl) (hs : starEach [e] X.env = [(false, eval e X.env)] := by rfl) (hb : attributeBase o "join" X.env (eval o X.env) = eval o X.env := by rfl)
    (hl : (apos.endLine == pos.line) = true := by rfl) : PE X (.Call (.Attribute o "join" apos) [e] [] pos)
      (tM1 (fun x xs H Q => ∃ a p, ∃ ys : List Str, x = .str a ∧ xs = [.ref p] ∧ (SqL K H p (ys.map V.str) ∨ SqT K H p (ys.map V.str)) ∧ (ys.map (·.length)).sum + ys.length * a.length ≤ 16777216 ∧ Q (.str (Txt.join a ys)) H) to te) := h ▸ pe_join ho he hs hb hl
theorem q_tup {es : List Expr} {k : Nat} {t : TGs} {n : Nat} {pos : Pos} (hc : X.calm = true) (h : PGs X es t) (hK : X.K = K := by rfl) (hn : (assignEach es X.env).length = n := by rfl) (hst : (assignEach es X.env).findIdx? (·.1) = none := by rfl) : PG X (.Tuple es k pos) (gTup K n t) := hK ▸ pg_tup hc h hn hst
end
end Rg
namespace Rg
open PySem L2 RZ PyProof.Rows
section
variable {K : PySem.W.Frag} {M M1 : Mt} {ds : DS} {te ta tb tc : TE} {t u : TT} {R R' : D → Prop} {RT RT' : Bool → Prop}
theorem et_orT {a : Bool} (h : EvT K M ds t (· = a)) (ha : a = true) : EvT K M ds (tOr t u) (· = true) := by subst ha; exact (et_or (b := true) h fun e => nomatch e)
theorem et_orF {a b : Bool} (h : EvT K M ds t (· = a)) (ha : a = false) (h2 : EvT K M ds u (· = b)) : EvT K M ds (tOr t u) (· = b) := by subst ha; exact et_or h fun _ => h2
theorem et_andF {a : Bool} (h : EvT K M ds t (· = a)) (ha : a = false) : EvT K M ds (tAnd t u) (· = false) := by subst ha; exact (et_and (b := false) h fun e => nomatch e)
theorem et_andT {a b : Bool} (h : EvT K M ds t (· = a)) (ha : a = true) (h2 : EvT K M ds u (· = b)) : EvT K M ds (tAnd t u) (· = b) := by subst ha; exact et_and h fun _ => h2
theorem ev_orT {a : Bool} (h : Ev K M ds ta (· = .bl a)) (ha : a = true) : Ev K M ds (tOrV ta tb) (· = .bl true) := by subst ha; exact ev_orV h (fun e => nomatch e) fun _ => rfl
theorem ev_orF {a : Bool} {d : D} (h : Ev K M ds ta (· = .bl a)) (ha : a = false) (h2 : Ev K M ds tb (· = d)) : Ev K M ds (tOrV ta tb) (· = d) := by subst ha; exact ev_orV h (fun _ => h2) fun e => nomatch e
theorem ev_andF {a : Bool} (h : Ev K M ds ta (· = .bl a)) (ha : a = false) : Ev K M ds (tAndV ta tb) (· = .bl false) := by subst ha; exact ev_andV h (fun e => nomatch e) fun _ => rfl
theorem ev_andT {a : Bool} {d : D} (h : Ev K M ds ta (· = .bl a)) (ha : a = true) (h2 : Ev K M ds tb (· = d)) : Ev K M ds (tAndV ta tb) (· = d) := by subst ha; exact ev_andV h (fun _ => h2) fun e => nomatch e
theorem ev_ifT {a : Bool} {d : D} (h : EvT K M ds t (· = a)) (ha : a = true) (h1 : Ev K M ds ta (· = d)) : Ev K M ds (tIf t ta tb) (· = d) := by subst ha; exact ev_ifR h (fun _ => h1) fun e => nomatch e
theorem ev_ifF {a : Bool} {d : D} (h : EvT K M ds t (· = a)) (ha : a = false) (h1 : Ev K M ds tb (· = d)) : Ev K M ds (tIf t ta tb) (· = d) := by subst ha; exact ev_ifR h (fun e => nomatch e) fun _ => h1
theorem ev_chainB {r r' : R2} {x y z : D} {k k' : Bool} (ha : Ev K M ds ta (· = x)) (hb : Ev K M ds tb (· = y)) (hr : OpD K M r x y (· = .bl k)) (hc : Ev K M ds tc (· = z)) (hr' : OpD K M r' y z (· = .bl k')) :
    Ev K M ds (tChain r r' ta tb tc) (· = .bl (k && k')) := ev_chain ha hb hr (fun _ => hc) (fun e => by subst e; exact hr') fun e => by subst e; rfl
theorem od_leI {i j : Int} : OpD K M (rI0 fun i j => V.bl (decide (i ≤ j))) (.int i) (.int j) (· = .bl (decide (i ≤ j))) := od_int (h := fun i j => .bl (decide (i ≤ j))) fun _ => .bl _
theorem od_ltI {i j : Int} : OpD K M (rI0 fun i j => V.bl (decide (i < j))) (.int i) (.int j) (· = .bl (decide (i < j))) := od_int (h := fun i j => .bl (decide (i < j))) fun _ => .bl _
theorem od_gtI {i j : Int} : OpD K M (rI0 fun i j => V.bl (decide (j < i))) (.int i) (.int j) (· = .bl (decide (j < i))) := od_int (h := fun i j => .bl (decide (j < i))) fun _ => .bl _
theorem od_geI {i j : Int} : OpD K M (rI0 fun i j => V.bl (decide (j ≤ i))) (.int i) (.int j) (· = .bl (decide (j ≤ i))) := od_int (h := fun i j => .bl (decide (j ≤ i))) fun _ => .bl _
theorem od_subI {i j : Int} : OpD K M (rI0 fun i j => V.int (i - j)) (.int i) (.int j) (· = .int (i - j)) := od_int (h := fun i j => .int (i - j)) fun _ => .int _
theorem od_mulI {i j : Int} (h : CMul i j) : OpD K M (rI CMul fun i j => V.int (i * j)) (.int i) (.int j) (· = .int (i * j)) := od_intC (h := fun i j => .int (i * j)) h fun _ => .int _
theorem od_modI {i j : Int} (h : j ≠ 0) : OpD K M (rI (fun _ j => j ≠ 0) fun i j => V.int (i.fmod j)) (.int i) (.int j) (· = .int (i.fmod j)) := od_intC (h := fun i j => .int (i.fmod j)) h fun _ => .int _
theorem od_divI {i j : Int} (h : CDivN i j) : OpD K M (rI CDivN fun i j => V.int (i.fdiv j)) (.int i) (.int j) (· = .int (i.fdiv j)) := od_intC (h := fun i j => .int (i.fdiv j)) h fun _ => .int _
theorem od_powI {i j : Int} (h : CPow i j) : OpD K M (rI CPow fun i j => V.int (i ^ j.toNat)) (.int i) (.int j) (· = .int (i ^ j.toNat)) := od_intC (h := fun i j => .int (i ^ j.toNat)) h fun _ => .int _
theorem ud_neg {i : Int} : UnD K M (rU fun i => .int (-i)) (.int i) (· = .int (-i)) := fun M' G H x Q m rx w q => ⟨i, rx.int_inv, q _ _ G H (Same.refl G) w (.int _) rfl⟩
/-- a comprehension without a test, all known -/
theorem ev_lc1 {wi : TI} {g : TG} {vs : List Nat} {es : List D} {f : D → D} (hI : EvI K M ds wi (· = es)) (hl : es.length ≤ 100000) (h : ∀ (i : Nat) d, es[i]? = some d → EvG K M (some vs) g d (wipeD ds vs) (fun ds2 => Ev K M ds2 te (· = f d))) :
    Ev K M ds (tLc wi g tYes te vs) (· = .list (es.map f)) := by
  refine ev_lc hI fun es' e => ?_
  subst e
  refine ⟨hl, fun i acc => acc = (es'.take i).map f, rfl, fun i d acc hd _ ha => ?_, fun acc _ ha => ?_⟩
  · intro M' σ G H v Q m s w r q
    refine h i d hd M' σ G H v Q m s w r fun ds' σ' G' H' hE => q ds' σ' G' H' ⟨(· = true), et_yes, fun _ => hE.weak fun y ey => ?_, fun e => nomatch e⟩
    show acc ++ [y] = List.map f (List.take (i + 1) es')
    rw [ey, show acc = _ from ha, List.take_add_one, hd, List.map_append]
    rfl
  · rw [show acc = _ from ha, List.take_length]
/-- the same, each item told by a word -/
theorem ev_lcR {wi : TI} {g : TG} {vs : List Nat} {RI : List D → Prop} {Pi : List D → Nat → D → Prop} (hI : EvI K M ds wi RI) (hl : ∀ es, RI es → es.length ≤ 100000)
    (h : ∀ es (i : Nat) d, RI es → es[i]? = some d → EvG K M (some vs) g d (wipeD ds vs) (fun ds2 => Ev K M ds2 te (Pi es i))) :
    Ev K M ds (tLc wi g tYes te vs) (fun d => ∃ es acc, RI es ∧ d = .list acc ∧ acc.length = es.length ∧ ∀ (i : Nat) y, acc[i]? = some y → Pi es i y) := by
  refine ev_lc hI fun es e => ⟨hl es e, fun i acc => acc.length = i ∧ ∀ (j : Nat) y, acc[j]? = some y → Pi es j y, ⟨rfl, fun j y hy => by simp at hy⟩, fun i d acc hd _ ⟨ha, hb⟩ => ?_, fun acc _ ⟨ha, hb⟩ => ⟨es, acc, e, rfl, ha, hb⟩⟩
  intro M' σ G H v Q m s w r q
  refine h es i d e hd M' σ G H v Q m s w r fun ds' σ' G' H' hE => q ds' σ' G' H' ⟨(· = true), et_yes, fun _ => hE.weak fun y ey => ⟨by simp [ha], fun j z hz => ?_⟩, fun e => nomatch e⟩
  by_cases hj : j < acc.length
  · rw [List.getElem?_append_left hj] at hz
    exact hb j z hz
  · have ej : j = acc.length := by
      have := (List.getElem?_eq_some_iff.mp hz).1
      simp at this
      omega
    subst ej
    rw [List.getElem?_append_right (Nat.le_refl _)] at hz
    simp at hz
    subst hz
    rw [ha]
    exact ey
def isStrD : D → Option Bool
  | .non => some false
  | .bl _ => some false
  | .int _ => some false
  | .str _ => some true
  | .list _ => some false
  | .tup _ => some false
  | _ => none
theorem isStr_of {d : D} {b : Bool} (h : isStrD d = some b) : isD d "str" = some b := by
  cases d with
  | non => cases h; exact (show kitB "NoneType" "str" = some false by decide +kernel)
  | bl _ => cases h; exact (show kitB "bool" "str" = some false by decide +kernel)
  | int _ => cases h; exact (show kitB "int" "str" = some false by decide +kernel)
  | str _ => cases h; exact (show kitB "str" "str" = some true by decide +kernel)
  | list _ => cases h; exact (show kitB "list" "str" = some false by decide +kernel)
  | tup _ => cases h; exact (show kitB "tuple" "str" = some false by decide +kernel)
  | _ => cases h
theorem cd_isStr {d : D} {b : Bool} (h : isStrD d = some b) : CallD K M (rIsi K) [d, .raw (.ty "str")] (· = .bl b) := cd_isi (isStr_of h)
def isIntD : D → Option Bool
  | .non => some false
  | .bl _ => some true
  | .int _ => some true
  | .str _ => some false
  | .list _ => some false
  | .tup _ => some false
  | _ => none
theorem isInt_of {d : D} {b : Bool} (h : isIntD d = some b) : isD d "int" = some b := by
  cases d with
  | non => cases h; exact (show kitB "NoneType" "int" = some false by decide +kernel)
  | bl _ => cases h; exact (show kitB "bool" "int" = some true by decide +kernel)
  | int _ => cases h; exact (show kitB "int" "int" = some true by decide +kernel)
  | str _ => cases h; exact (show kitB "str" "int" = some false by decide +kernel)
  | list _ => cases h; exact (show kitB "list" "int" = some false by decide +kernel)
  | tup _ => cases h; exact (show kitB "tuple" "int" = some false by decide +kernel)
  | _ => cases h
theorem cd_isInt {d : D} {b : Bool} (h : isIntD d = some b) : CallD K M (rIsi K) [d, .raw (.ty "int")] (· = .bl b) := cd_isi (isInt_of h)
def isBoolD : D → Option Bool
  | .non => some false
  | .bl _ => some true
  | .int _ => some false
  | .str _ => some false
  | .list _ => some false
  | .tup _ => some false
  | _ => none
theorem isBool_of {d : D} {b : Bool} (h : isBoolD d = some b) : isD d "bool" = some b := by
  cases d with
  | non => cases h; exact (show kitB "NoneType" "bool" = some false by decide +kernel)
  | bl _ => cases h; exact (show kitB "bool" "bool" = some true by decide +kernel)
  | int _ => cases h; exact (show kitB "int" "bool" = some false by decide +kernel)
  | str _ => cases h; exact (show kitB "str" "bool" = some false by decide +kernel)
  | list _ => cases h; exact (show kitB "list" "bool" = some false by decide +kernel)
  | tup _ => cases h; exact (show kitB "tuple" "bool" = some false by decide +kernel)
  | _ => cases h
theorem cd_isBool {d : D} {b : Bool} (h : isBoolD d = some b) : CallD K M (rIsi K) [d, .raw (.ty "bool")] (· = .bl b) := cd_isi (isBool_of h)
def isListD : D → Option Bool
  | .non => some false
  | .bl _ => some false
  | .int _ => some false
  | .str _ => some false
  | .list _ => some true
  | .tup _ => some false
  | _ => none
theorem isList_of {d : D} {b : Bool} (h : isListD d = some b) : isD d "list" = some b := by
  cases d with
  | non => cases h; exact (show kitB "NoneType" "list" = some false by decide +kernel)
  | bl _ => cases h; exact (show kitB "bool" "list" = some false by decide +kernel)
  | int _ => cases h; exact (show kitB "int" "list" = some false by decide +kernel)
  | str _ => cases h; exact (show kitB "str" "list" = some false by decide +kernel)
  | list _ => cases h; exact (show kitB "list" "list" = some true by decide +kernel)
  | tup _ => cases h; exact (show kitB "tuple" "list" = some false by decide +kernel)
  | _ => cases h
theorem cd_isList {d : D} {b : Bool} (h : isListD d = some b) : CallD K M (rIsi K) [d, .raw (.ty "list")] (· = .bl b) := cd_isi (isList_of h)
def isTupleD : D → Option Bool
  | .non => some false
  | .bl _ => some false
  | .int _ => some false
  | .str _ => some false
  | .list _ => some false
  | .tup _ => some true
  | _ => none
theorem isTuple_of {d : D} {b : Bool} (h : isTupleD d = some b) : isD d "tuple" = some b := by
  cases d with
  | non => cases h; exact (show kitB "NoneType" "tuple" = some false by decide +kernel)
  | bl _ => cases h; exact (show kitB "bool" "tuple" = some false by decide +kernel)
  | int _ => cases h; exact (show kitB "int" "tuple" = some false by decide +kernel)
  | str _ => cases h; exact (show kitB "str" "tuple" = some false by decide +kernel)
  | list _ => cases h; exact (show kitB "list" "tuple" = some false by decide +kernel)
  | tup _ => cases h; exact (show kitB "tuple" "tuple" = some true by decide +kernel)
  | _ => cases h
theorem cd_isTuple {d : D} {b : Bool} (h : isTupleD d = some b) : CallD K M (rIsi K) [d, .raw (.ty "tuple")] (· = .bl b) := cd_isi (isTuple_of h)
theorem ev_isSeq {d : D} {b1 b2 : Bool} {tcs : TA} (ha : Ev K M ds ta (· = d)) (hc : EvA K M ds tcs (· = [.raw (.ty "list"), .raw (.ty "tuple")])) (h1 : isListD d = some b1) (h2 : isTupleD d = some b2) :
    Ev K M ds (tCB (rIsiT K) (tCons ta (tCons (tTup tcs) tNil))) (· = .bl (b1 || b2)) := ev_isiT2 ha hc (isList_of h1) (isTuple_of h2)
theorem run_if1 {tc : TT} {a b : TS} {E : AE} {c : Bool} (h : EvT K M ds tc (· = c)) (h1 : c = true → Run K M ds a E) (h2 : c = false → Run K M ds b E) : Run K M ds (tIfS tc a b) E := run_if h (fun e => h1 e.symm) fun e => h2 e.symm
theorem run_ifT {tc : TT} {a b : TS} {E : AE} {c : Bool} (h : EvT K M ds tc (· = c)) (hc : c = true) (h1 : Run K M ds a E) : Run K M ds (tIfS tc a b) E := by subst hc; exact run_if1 h (fun _ => h1) fun e => nomatch e
theorem run_ifF {tc : TT} {a b : TS} {E : AE} {c : Bool} (h : EvT K M ds tc (· = c)) (hc : c = false) (h1 : Run K M ds b E) : Run K M ds (tIfS tc a b) E := by subst hc; exact run_if1 h (fun e => nomatch e) fun _ => h1
theorem run_ret1 {E : AE} {d : D} (h : Ev K M ds te (· = d)) (hr : E.rt d) : Run K M ds (tRet te) E := run_ret (h.weak fun _ e => by rw [e]; exact hr)
theorem ev_lcM {α : Type} {wi : TI} {g : TG} {vs : List Nat} {cs : List α} {inj f : α → D} (hI : EvI K M ds wi (· = cs.map inj)) (hl : cs.length ≤ 100000) (h : ∀ c, c ∈ cs → EvG K M (some vs) g (inj c) (wipeD ds vs) (fun ds2 => Ev K M ds2 te (· = f c))) :
    Ev K M ds (tLc wi g tYes te vs) (· = .list (cs.map f)) := by
  refine ev_lc hI fun es' e => ?_
  subst e
  refine ⟨by rw [List.length_map]; exact hl, fun i acc => acc = (cs.take i).map f, rfl, fun i d acc hd _ ha => ?_, fun acc _ ha => ?_⟩
  · rw [List.getElem?_map] at hd
    cases hc : cs[i]? with
    | none => rw [hc] at hd; cases hd
    | some c =>
      rw [hc] at hd
      have ed : inj c = d := Option.some.inj hd
      subst ed
      intro M' σ G H v Q m s w r q
      refine h c (List.mem_of_getElem? hc) M' σ G H v Q m s w r fun ds' σ' G' H' hE => q ds' σ' G' H' ⟨(· = true), et_yes, fun _ => hE.weak fun y ey => ?_, fun e => nomatch e⟩
      show acc ++ [y] = List.map f (List.take (i + 1) cs)
      rw [ey, show acc = _ from ha, List.take_add_one, hc, List.map_append]
      rfl
  · rw [show acc = _ from ha, List.length_map, List.take_length]
theorem ev_intP {φ : Int → Prop} (h : ∃ k, Ev K M ds te (· = .int k) ∧ φ k) : Ev K M ds te (fun d => ∃ k, φ k ∧ d = .int k) := let ⟨k, h1, h2⟩ := h; h1.weak fun _ e => ⟨k, h2, e⟩
end
end Rg
namespace Rg
open PySem L2 RZ PyProof.Rows
abbrev rLenR (K : PySem.W.Frag) : List V → Hp → VK → Prop := fun xs H Q => ∃ x n, xs = [x] ∧ LenV K x H n ∧ Q (.int (n : Nat)) H
abbrev rIntR : List V → Hp → VK → Prop := fun xs H Q => (∃ i, xs = [.int i] ∧ Q (.int i) H) ∨ ∃ k, xs = [.bl k] ∧ Q (.int (if k = true then 1 else 0)) H
abbrev rAbsR : List V → Hp → VK → Prop := fun xs H Q => ∃ i : Int, xs = [.int i] ∧ Q (.int (if i < 0 then -i else i)) H
/-! ### expressions that lay nothing, over the heap as it stands -/
def Px (te : TE) (σ : L2.St) (H : Hp) (v : V) : Prop := ∀ Q : VK, Q v H → te σ H Q
def PxA (ta : TA) (σ : L2.St) (H : Hp) (vs : List V) : Prop := ∀ Q : List V → Hp → Prop, Q vs H → ta σ H Q
def PxT (t : TT) (σ : L2.St) (H : Hp) (b : Bool) : Prop := ∀ Q : Bool → Hp → Prop, Q b H → t σ H Q
section
variable {K : PySem.W.Frag} {σ : L2.St} {H : Hp} {ta tb te : TE} {t u : TT} {x y z v : V}
theorem px_var {i : Nat} (h : σ[i]? = some (some v)) : Px (tVar i) σ H v := fun Q q => ⟨v, h, q⟩
theorem px_c : Px (tC v) σ H v := fun Q q => q
theorem px_op {r : R2} (ha : Px ta σ H x) (hb : Px tb σ H y) (hr : ∀ Q : VK, Q z H → r x y H Q) : Px (tOp r ta tb) σ H z := fun Q q => ha _ (hb _ (hr Q q))
theorem px_nil : PxA tNil σ H [] := fun Q q => q
theorem px_cons {vs : List V} {tr : TA} (ha : Px ta σ H v) (hr : PxA tr σ H vs) : PxA (tCons ta tr) σ H (v :: vs) := fun Q q => ha _ (hr _ q)
theorem px_cb {r : List V → Hp → VK → Prop} {vs : List V} {ta : TA} (ha : PxA ta σ H vs) (hr : ∀ Q : VK, Q z H → r vs H Q) : Px (tCB r ta) σ H z := fun Q q => ha _ (hr Q q)
theorem px_addI {i j : Int} : ∀ Q : VK, Q (.int (i + j)) H → rAddU K (.int i) (.int j) H Q := fun Q q => .inl ⟨i, j, rfl, rfl, q⟩
theorem px_I0 {g : Int → Int → V} {i j : Int} : ∀ Q : VK, Q (g i j) H → rI0 g (.int i) (.int j) H Q := fun Q q => ⟨i, j, rfl, rfl, q⟩
theorem px_IC {C : Int → Int → Prop} {g : Int → Int → V} {i j : Int} (h : C i j) : ∀ Q : VK, Q (g i j) H → rI C g (.int i) (.int j) H Q := fun Q q => ⟨i, j, rfl, rfl, h, q⟩
theorem px_eqI {i j : Int} : ∀ Q : VK, Q (.bl (decide (i = j))) H → rEq (.int i) (.int j) H Q := fun Q q => ⟨rfl, by rw [show decide (V.int i = V.int j) = decide (i = j) by simp]; exact q⟩
theorem px_ix {p : Addr} {xs : List V} {i : Int} (h : H p = some (.lst xs)) (e : atI xs i = some v) : ∀ Q : VK, Q v H → rIx K (.ref p) (.int i) H Q := fun Q q => .inl ⟨p, xs, i, v, rfl, rfl, sq h, e, q⟩
theorem px_len {p : Addr} {xs : List V} (h : H p = some (.lst xs)) : ∀ Q : VK, Q (.int (xs.length : Nat)) H → rLenR K [.ref p] H Q := fun Q q => ⟨_, xs.length, rfl, .inl ⟨xs, sq h, rfl⟩, q⟩
theorem px_intI {i : Int} : ∀ Q : VK, Q (.int i) H → rIntR [.int i] H Q := fun Q q => .inl ⟨i, rfl, q⟩
theorem px_abs {i : Int} : ∀ Q : VK, Q (.int (if i < 0 then -i else i)) H → rAbsR [.int i] H Q := fun Q q => ⟨i, rfl, q⟩
theorem px_test {b : Bool} (h : Px te σ H (.bl b)) : PxT (tTest te) σ H b := fun Q q => h _ ⟨b, rfl, q⟩
theorem px_B {b : Bool} (h : Px te σ H (.bl b)) : PxT (tB te) σ H b := fun Q q => h _ ⟨b, rfl, q⟩
theorem px_and {a b : Bool} (h1 : PxT t σ H a) (h2 : PxT u σ H b) : PxT (tAnd t u) σ H (a && b) := fun Q q => h1 _ (by
  cases a with
  | true => exact h2 Q q
  | false => exact q)
/-- statements -/
theorem st_set {Z : Ends} {i : Nat} {b : TS} (h : Px te σ H v) (hn : b Z (σ.set i (some v)) H) : tSeq (tAsg te (gName i)) b Z σ H := h _ hn
theorem st_putN {Z : Ends} {p : Addr} {k : Int} {j : Nat} {xs : List V} (h : Px te σ H v) (ho : Px ta σ H (.ref p)) (hi : Px tb σ H (.int k)) (hp : H p = some (.lst xs)) (hj : ixN xs.length k = some j) (hn : Z.nx σ (upd H p (.lst (xs.set j v)))) :
    tAsg te (gSub ta tb rSetL) Z σ H := h _ (ho _ (hi _ ⟨p, xs, k, j, rfl, rfl, hp, hj, hn⟩))
theorem st_put {Z : Ends} {p : Addr} {k : Int} {j : Nat} {xs : List V} {b : TS} (h : Px te σ H v) (ho : Px ta σ H (.ref p)) (hi : Px tb σ H (.int k)) (hp : H p = some (.lst xs)) (hj : ixN xs.length k = some j) (hn : b Z σ (upd H p (.lst (xs.set j v)))) :
    tSeq (tAsg te (gSub ta tb rSetL)) b Z σ H := st_putN h ho hi hp hj hn
theorem upd_self {H : Hp} {p : Addr} {o : HO} (h : H p = some o) : upd H p o = H := by
  funext a
  unfold upd
  split
  · rename_i e; rw [e, h]
  · rfl
theorem at_upd {t : TS} {Z : Ends} {p : Addr} {o : HO} (h : H p = some o) (q : t Z σ (upd H p o)) : t Z σ H := by rw [upd_self h] at q; exact q
theorem st_bag {Z : Ends} {p : Addr} {k : Int} {j : Nat} {xs ys : List V} {b : TS} (h : Px te σ (upd H p (.lst xs)) v) (ho : Px ta σ (upd H p (.lst xs)) (.ref p)) (hi : Px tb σ (upd H p (.lst xs)) (.int k)) (hj : ixN xs.length k = some j) (hy : xs.set j v = ys)
    (hn : b Z σ (upd H p (.lst ys))) : tSeq (tAsg te (gSub ta tb rSetL)) b Z σ (upd H p (.lst xs)) := st_put h ho hi upd_same hj (by rw [upd_upd, hy]; exact hn)
theorem st_bagN {Z : Ends} {p : Addr} {k : Int} {j : Nat} {xs ys : List V} (h : Px te σ (upd H p (.lst xs)) v) (ho : Px ta σ (upd H p (.lst xs)) (.ref p)) (hi : Px tb σ (upd H p (.lst xs)) (.int k)) (hj : ixN xs.length k = some j) (hy : xs.set j v = ys)
    (hn : Z.nx σ (upd H p (.lst ys))) : tAsg te (gSub ta tb rSetL) Z σ (upd H p (.lst xs)) := st_putN h ho hi upd_same hj (by rw [upd_upd, hy]; exact hn)
theorem st_ret {Z : Ends} (h : Px te σ H v) (hr : Z.rt v H) : tRet te Z σ H := h _ hr
theorem st_setE {Z : Ends} {i : Nat} {b : TS} {φ : Int → Prop} (h : ∃ k, Px te σ H (.int k) ∧ φ k) (hn : ∀ k, φ k → b Z (σ.set i (some (.int k))) H) : tSeq (tAsg te (gName i)) b Z σ H := let ⟨k, h1, h2⟩ := h; st_set h1 (hn k h2)
theorem st_bagE {Z : Ends} {p : Addr} {k : Int} {j : Nat} {xs : List V} {b : TS} {φ : Int → Prop} {f : Int → List V} (h : ∃ k, Px te σ (upd H p (.lst xs)) (.int k) ∧ φ k) (ho : Px ta σ (upd H p (.lst xs)) (.ref p)) (hi : Px tb σ (upd H p (.lst xs)) (.int k))
    (hj : ixN xs.length k = some j) (hy : ∀ k, xs.set j (.int k) = f k) (hn : ∀ k, φ k → b Z σ (upd H p (.lst (f k)))) : tSeq (tAsg te (gSub ta tb rSetL)) b Z σ (upd H p (.lst xs)) := let ⟨k, h1, h2⟩ := h; st_bag h1 ho hi hj (hy k) (hn k h2)
theorem st_bagNE {Z : Ends} {p : Addr} {k : Int} {j : Nat} {xs : List V} {φ : Int → Prop} {f : Int → List V} (h : ∃ k, Px te σ (upd H p (.lst xs)) (.int k) ∧ φ k) (ho : Px ta σ (upd H p (.lst xs)) (.ref p)) (hi : Px tb σ (upd H p (.lst xs)) (.int k))
    (hj : ixN xs.length k = some j) (hy : ∀ k, xs.set j (.int k) = f k) (hn : ∀ k, φ k → Z.nx σ (upd H p (.lst (f k)))) : tAsg te (gSub ta tb rSetL) Z σ (upd H p (.lst xs)) := let ⟨k, h1, h2⟩ := h; st_bagN h1 ho hi hj (hy k) (hn k h2)
theorem st_retE {Z : Ends} {φ : Int → Prop} (h : ∃ k, Px te σ H (.int k) ∧ φ k) (hr : ∀ k, φ k → Z.rt (.int k) H) : tRet te Z σ H := let ⟨k, h1, h2⟩ := h; st_ret h1 (hr k h2)
theorem st_next {Z : Ends} (h : Z.nx σ H) : tNext Z σ H := h
theorem st_if {Z : Ends} {a b : TS} {c : Bool} (h : PxT t σ H c) (h1 : c = true → a Z σ H) (h2 : c = false → b Z σ H) : tIfS t a b Z σ H := h _ (by
  cases c with
  | true => exact h1 rfl
  | false => exact h2 rfl)
end
theorem run_at {K : PySem.W.Frag} {M : Mt} {G H : Hp} {σ : L2.St} {ds : DS} {t : TS} {E : AE} {Z : Ends} (h : Run K M ds t E) (s : Sg K G σ ds) (w : Wd M G H) (z : EndsOk K M G E Z) : t Z σ H := h M σ G H Z (MSub.refl M) s w z
theorem fmod_bd {i k : Int} (h : 0 < k) : 0 ≤ i.fmod k ∧ i.fmod k < k := ⟨Int.fmod_nonneg_of_pos i h, Int.fmod_lt_of_pos i h⟩
theorem fmod_lt {i k : Int} {m : Int} (h : 0 < k) (hm : k ≤ m) : 0 ≤ i.fmod k ∧ i.fmod k < m := ⟨(fmod_bd h).1, Int.lt_of_lt_of_le (fmod_bd h).2 hm⟩
theorem fdiv_nn {i k : Int} (hi : 0 ≤ i) (h : 0 < k) : 0 ≤ i.fdiv k := Int.fdiv_nonneg hi (Int.le_of_lt h)
/-! ### the bag of the law's draws -/
structure Bg (K : PySem.W.Frag) (G : Hp) (c : Addr) (ns : List Int) (i r m n : Int) : Prop where
  cells : G c = some (.lst (ns.map V.int))
  len : ns.length ≤ 63
  i0 : 0 ≤ i
  r0 : 0 ≤ r
  m0 : 0 ≤ m
  m1 : m < 2147483648
abbrev bagL (c : Addr) (i r m n : Int) : HO := .lst [.ref c, .int i, .int r, .int m, .int n]
def IsBag (K : PySem.W.Frag) (G : Hp) (o : HO) : Prop := ∃ c ns i r m n, o = bagL c i r m n ∧ Bg K G c ns i r m n
theorem Bg.mono {K : PySem.W.Frag} {G G' : Hp} {c : Addr} {ns : List Int} {i r m n : Int} (s : Same G G') (h : Bg K G c ns i r m n) : Bg K G' c ns i r m n := ⟨s _ _ h.cells, h.len, h.i0, h.r0, h.m0, h.m1⟩
theorem IsBag.mono {K : PySem.W.Frag} : ∀ G1 G2 o, Same G1 G2 → IsBag K G1 o → IsBag K G2 o := fun _ _ _ s ⟨c, ns, i, r, m, n, e, h⟩ => ⟨c, ns, i, r, m, n, e, h.mono s⟩
def preDraw (K : PySem.W.Frag) (M : Mt) (as : List D) : Prop := ∃ b m, as = [.raw (.ref b), .int m] ∧ (b, IsBag K) ∈ M ∧ 0 < m ∧ m < 1073741824
def postDraw (as : List D) (d : D) : Prop := ∃ i : Int, d = .int i ∧ 0 ≤ i ∧ ∀ b m, as = [.raw (.ref b), .int m] → i < m
/-- what the walk of a draw must show -/
theorem draw_of {K : PySem.W.Frag} {vs : List V} {H : Hp} {Q : VK} {E : XK} (h : spF K (preDraw K) postDraw vs H Q E) : ∃ (b : Addr) (m : Int) (c : Addr) (ns : List Int) (i r mx n : Int), vs = [.ref b, .int m] ∧ 0 < m ∧ m < 1073741824 ∧ H b = some (bagL c i r mx n) ∧ H c = some (.lst (ns.map V.int)) ∧ c ≠ b ∧
    ns.length ≤ 63 ∧ 0 ≤ i ∧ 0 ≤ r ∧ 0 ≤ mx ∧ mx < 2147483648 ∧
    ∀ (d i' r' mx' n' : Int), 0 ≤ d → d < m → 0 ≤ i' → 0 ≤ r' → 0 ≤ mx' → mx' < 2147483648 → Q (.int d) (upd H b (bagL c i' r' mx' n')) := by
  obtain ⟨M, G, as, wd, ra, ⟨b, m, rfl, hb, h0, h1⟩, q⟩ := h
  obtain ⟨gb, o, ho, c, ns, i, r, mx, n, rfl, B⟩ := wd.mt _ hb
  cases ra with
  | cons p ra =>
    cases ra with
    | cons p2 ra =>
      cases ra
      have e1 := p.raw_inv
      have e2 := p2.int_inv
      subst e1; subst e2
      have gb' : G b = none := gb
      refine ⟨b, m, c, ns, i, r, mx, n, rfl, h0, h1, ho, wd.sub _ _ B.cells, fun e => ?_, B.len, B.i0, B.r0, B.m0, B.m1, fun d i' r' mx' n' hd0 hd1 a1 a2 a3 a4 => ?_⟩
      · have := B.cells
        rw [e, gb'] at this
        cases this
      · exact q (.int d) (.int d) G _ (Same.refl G) (wd.write hb ⟨c, ns, i', r', mx', n', rfl, B.cells, B.len, a1, a2, a3, a4⟩) (.int d) ⟨d, rfl, hd0, fun b' m' e => by cases e; exact hd1⟩
end Rg
namespace Rg
open PySem L2 RZ PyProof.Rows
theorem atI_in {α : Type} {xs : List α} {i : Int} (h0 : 0 ≤ i) (h1 : i < (xs.length : Int)) : ∃ x, L2.atI xs i = some x ∧ xs[i.toNat]? = some x ∧ x ∈ xs := by
  have hl : i.toNat < xs.length := by omega
  refine ⟨xs[i.toNat], ?_, List.getElem?_eq_getElem hl, List.getElem_mem hl⟩
  unfold L2.atI ixN
  rw [if_pos h0, if_pos h1]
  exact List.getElem?_eq_getElem hl
theorem item_in {d : D} {es : List D} {i : Int} (h : itemsD d = some es) (hl : lenD d = some es.length) (hq : ∀ xs, d ≠ .seq xs) (h0 : 0 ≤ i) (h1 : i < (es.length : Int)) : ∃ e, itemD d i = some e ∧ es[i.toNat]? = some e ∧ e ∈ es := by
  cases d with
  | list xs => cases h; exact atI_in h0 h1
  | tup xs => cases h; exact atI_in h0 h1
  | seq xs => exact absurd rfl (hq xs)
  | str x =>
    cases h
    replace hl : (if x.length ≤ 100000 then some x.length else none) = some (signsD x).length := hl
    split at hl
    · rename_i hx
      have e1 : (signsD x).length = x.cps.toList.length := by unfold signsD; rw [List.length_map]
      obtain ⟨c, h3, h4, h5⟩ := atI_in (xs := x.cps.toList) h0 (by rw [← e1]; exact h1)
      refine ⟨.str ⟨#[c]⟩, ?_, ?_, ?_⟩
      · show (if x.length ≤ 100000 then (L2.atI x.cps.toList i).map fun c => D.str ⟨#[c]⟩ else none) = _
        rw [if_pos hx, h3]; rfl
      · unfold signsD; rw [List.getElem?_map, h4]; rfl
      · unfold signsD; exact List.mem_map.mpr ⟨c, h5, rfl⟩
    · cases hl
  | _ => cases h
def preOf (K : PySem.W.Frag) (M : Mt) (as : List D) : Prop := ∃ b d es, as = [.raw (.ref b), d] ∧ (b, IsBag K) ∈ M ∧ itemsD d = some es ∧ lenD d = some es.length ∧ (∀ xs, d ≠ .seq xs) ∧ 0 < es.length ∧ es.length ≤ 100000
def postOf (as : List D) (r : D) : Prop := ∀ b d es, as = [.raw (.ref b), d] → itemsD d = some es → r ∈ es
section
variable {K : PySem.W.Frag} {M : Mt} {ds : DS} {ta tb : TE} {b : Addr} {E : XK}
theorem ev_draw {m : Int} (ha : Ev K M ds ta (· = .raw (.ref b))) (hb : Ev K M ds tb (· = .int m)) (hm : (b, IsBag K) ∈ M) (h0 : 0 < m) (h1 : m < 1073741824) :
    Ev K M ds (tCall (spF K (preDraw K) postDraw) [] E (tCons ta (tCons tb tNil))) (fun d => ∃ i : Int, (0 ≤ i ∧ i < m) ∧ d = .int i) :=
  (ev_call1 (ea1 ha (ea1 hb ea_nil)) fun M' ms => ⟨b, m, rfl, ms _ hm, h0, h1⟩).weak fun d ⟨i, e, i0, i1⟩ => ⟨i, ⟨i0, i1 b m rfl⟩, e⟩
theorem run_of_body {E2 : AE} {d : D} {es : List D} (hm : (b, IsBag K) ∈ M) (h : itemsD d = some es) (hl : lenD d = some es.length) (hq : ∀ xs, d ≠ .seq xs) (h0 : 0 < es.length) (h1 : es.length ≤ 100000) (hr : ∀ e ∈ es, E2.rt e) :
    Run K M [some (.raw (.ref b)), some d] (tRet (tOp (rIx K) (tVar 1) (tCall (spF K (preDraw K) postDraw) [] E (tCons (tVar 0) (tCons (tCB (rLenR K) (tCons (tVar 1) tNil)) tNil))))) E2 := by
  refine run_ret (ev_op (ev_var rfl) (ev_draw (m := (es.length : Int)) (ev_var rfl) (ev_cb1 (ea1 (ev_var rfl) ea_nil) (cd_len hl)) hm (by omega) (by omega)) fun a c ea ⟨i, ⟨i0, i1⟩, ec⟩ => ?_)
  rw [ea, ec]
  obtain ⟨e, e1, _, e2⟩ := item_in h hl hq i0 i1
  intro M' G H x y Q m rx ry w q
  exact od_ix (M := M) e1 M' G H x y Q m rx ry w fun v d G' H' s' w' r' ed => q v d G' H' s' w' r' (by rw [ed]; exact hr e e2)
theorem ev_of {d : D} {es : List D} (ha : Ev K M ds ta (· = .raw (.ref b))) (hb : Ev K M ds tb (· = d)) (hm : (b, IsBag K) ∈ M) (h : itemsD d = some es) (hl : lenD d = some es.length) (h0 : 0 < es.length := by exact Nat.le_of_ble_eq_true rfl) (h1 : es.length ≤ 100000 := by exact Nat.le_of_ble_eq_true rfl) (hq : ∀ xs, d ≠ .seq xs := by intro _ h; cases h) :
    Ev K M ds (tCall (spF K (preOf K) postOf) [] E (tCons ta (tCons tb tNil))) (· ∈ es) :=
  (ev_call1 (ea1 ha (ea1 hb ea_nil)) fun M' ms => ⟨b, d, es, rfl, ms _ hm, h, hl, hq, h0, h1⟩).weak fun r q => q b d es rfl h
theorem ev_kw1 {tk : TA} {d : D} {pre : Mt → List D → Prop} {post : List D → D → Prop} (hk : EvA K M ds tk (· = [d])) (hp : ∀ M', MSub M M' → pre M' [d]) : Ev K M ds (tCallK (spF K pre post) kg1 E tNil tk) (post [d]) :=
  ev_callK (gD := kg1) ea_nil hk (fun G vs zs as ks e1 e2 r1 r2 => by
    subst e1; subst e2
    cases r1
    cases r2 with
    | cons p r => cases r; exact .cons p .nil) fun as ks e1 e2 => by subst e1; subst e2; exact ⟨hp, fun _ q => q⟩
theorem ev_kw3r {tk : TA} {a b c : D} {pre : Mt → List D → Prop} {post : List D → D → Prop} (hk : EvA K M ds tk (· = [a, b, c])) (hp : ∀ M', MSub M M' → pre M' [c, b, a]) : Ev K M ds (tCallK (spF K pre post) kg3r E tNil tk) (post [c, b, a]) :=
  ev_callK (gD := kg3r) ea_nil hk (fun G vs zs as ks e1 e2 r1 r2 => by
    subst e1; subst e2
    cases r1
    cases r2 with
    | cons p r =>
      cases r with
      | cons p2 r =>
        cases r with
        | cons p3 r => cases r; exact .cons p3 (.cons p2 (.cons p .nil))) fun as ks e1 e2 => by subst e1; subst e2; exact ⟨hp, fun _ q => q⟩
theorem ev_eq {te : TE} {d d' : D} (h : Ev K M ds te (· = d)) (e : d = d') : Ev K M ds te (· = d') := e ▸ h
end
end Rg
namespace Rg
open PySem L2 RZ PyProof.Rows
section
variable {K : PySem.W.Frag} {M : Mt} {G : Hp} {σ : L2.St} {ds : DS} {v : V} {d : D}
/-! ### slots one by one; slots forgotten -/
theorem sg_nil : Sg K G [] [] := ⟨rfl, fun i d e => by simp at e⟩
theorem sg_some (r : Rp K G v d) (s : Sg K G σ ds) : Sg K G (some v :: σ) (some d :: ds) := ⟨by simp [s.len], fun i d' e => by
  match i, e with
  | 0, e => cases e; exact ⟨v, rfl, r⟩
  | i + 1, e => exact s.at_ i d' e⟩
theorem sg_none {x : Option V} (s : Sg K G σ ds) : Sg K G (x :: σ) (none :: ds) := ⟨by simp [s.len], fun i d' e => by
  match i, e with
  | 0, e => cases e
  | i + 1, e => exact s.at_ i d' e⟩
inductive Fg : DS → DS → Prop where
  | nil : Fg [] []
  | keep {x : Option D} {a b : DS} : Fg a b → Fg (x :: a) (x :: b)
  | drop {x : Option D} {a b : DS} : Fg a b → Fg (x :: a) (none :: b)
theorem Fg.refl : ∀ a : DS, Fg a a
  | [] => .nil
  | _ :: r => .keep (Fg.refl r)
theorem Fg.get : ∀ {a b : DS}, Fg a b → ∀ (i : Nat) (d : D), b[i]? = some (some d) → a[i]? = some (some d)
  | _, _, .nil, i, d, e => e
  | _, _, .keep h, 0, d, e => e
  | _, _, .keep h, i + 1, d, e => Fg.get h i d e
  | _, _, .drop h, 0, d, e => by cases e
  | _, _, .drop h, i + 1, d, e => Fg.get h i d e
theorem Fg.length : ∀ {a b : DS}, Fg a b → a.length = b.length
  | _, _, .nil => rfl
  | _, _, .keep h => by rw [List.length_cons, List.length_cons, h.length]
  | _, _, .drop h => by rw [List.length_cons, List.length_cons, h.length]
theorem Sg.forget {b : DS} (s : Sg K G σ ds) (f : Fg ds b) : Sg K G σ b := ⟨by rw [s.len, f.length], fun i d e => s.at_ i d (f.get i d e)⟩
theorem run_forget {b : DS} {t : TS} {E : AE} (f : Fg ds b) (h : Run K M b t E) : Run K M ds t E := fun M' σ G H Z m s w z => h M' σ G H Z m (s.forget f) w z
/-- a for whose turns begin alike: what they store is forgotten -/
theorem run_forF {wi : TI} {g : TG} {tb : TS} {RI : List D → Prop} {E : AE} (b0 : DS) (hI : EvI K M ds wi RI) (h0 : Fg ds b0)
    (hs : ∀ es (i : Nat) d, RI es → es[i]? = some d → EvG K M none g d b0 (fun ds2 => Run K M ds2 tb { nx := fun ds' => Fg ds' b0, ct := fun ds' => Fg ds' b0, bk := E.nx, rt := E.rt })) (hd : E.nx b0) : Run K M ds (tFor wi g tb) E := fun M' σ G H Z m s w z =>
  hI M' σ G H _ m s w fun J es G1 H1 s1 w1 hes W => by
    refine for_it (n := es.length) (G := fun H => ∃ G2, Same G1 G2 ∧ Wd M' G2 H) (Y := fun i H x H' => J.yld i H x H') ⟨fun i H hi ⟨G2, s2, w2⟩ => W.goes i H G2 M' hi s2 w2, fun H ⟨G2, s2, w2⟩ => W.stops H G2 M' s2 w2, fun i H x H' _ _ y => y⟩
      (fun i σ' H' => ∃ G2, Same G1 G2 ∧ Sg K G2 σ' b0 ∧ Wd M' G2 H') ⟨G1, Same.refl _, (s.mono s1).forget h0, w1⟩ (fun i σ' H' _ ⟨G2, s2, _, w2⟩ => ⟨G2, s2, w2⟩) (fun i x σ' H2 H3 hi ⟨G2, s2, sg, w2⟩ y => ?_)
      (fun σ' H' ⟨G2, s2, sg, w2⟩ => z.nx b0 σ' G2 H' hd (s1.trans s2) sg w2)
    obtain ⟨G3, d, s3, w3, hd', rd⟩ := W.yields i H2 x H3 G2 M' hi s2 w2 y
    refine hs es i d hes hd' M' σ' G3 H3 x _ m (sg.mono s3) w3 rd fun ds2 σ2 G4 H4 hr s4 sg4 w4 _ => ?_
    have s14 := (s2.trans s3).trans s4
    exact hr M' σ2 G4 H4 _ m sg4 w4 ⟨fun ds5 σ5 G5 H5 r5 s5 sg5 w5 => ⟨G5, s14.trans s5, sg5.forget r5, w5⟩, fun v d G5 H5 r5 s5 rp5 w5 => z.rt v d G5 H5 r5 (s1.trans (s14.trans s5)) rp5 w5,
      fun ds5 σ5 G5 H5 r5 s5 sg5 w5 => z.nx ds5 σ5 G5 H5 r5 (s1.trans (s14.trans s5)) sg5 w5, fun ds5 σ5 G5 H5 r5 s5 sg5 w5 => ⟨G5, s14.trans s5, sg5.forget r5, w5⟩⟩
theorem ei_range {ta : TA} {n : Int} (h : EvA K M ds ta (· = [.int n])) (hn : -(2 ^ 62) ≤ n ∧ n < 2 ^ 62) : EvI K M ds (iRng1 ta) (· = rangeD 0 n.toNat) := fun M' σ G H Z m s w q =>
  ei_range1 h (fun l e => ⟨n, e, hn.1, hn.2⟩) M' σ G H Z m s w fun J es G' H' a b ⟨j, ej, e2⟩ => q J es G' H' a b (by cases ej; exact e2)
variable {ta tb : TE} {b : Addr} {E : XK} {R : D → Prop}
/-- a draw out of a list that was drawn itself -/
theorem ev_ofR {Rb : D → Prop} (ha : Ev K M ds ta (· = .raw (.ref b))) (hb : Ev K M ds tb Rb) (hm : (b, IsBag K) ∈ M) (h : ∀ d, Rb d → ∃ es, itemsD d = some es ∧ lenD d = some es.length ∧ (∀ xs, d ≠ .seq xs) ∧ 0 < es.length ∧ es.length ≤ 100000 ∧ ∀ e ∈ es, R e) :
    Ev K M ds (tCall (spF K (preOf K) postOf) [] E (tCons ta (tCons tb tNil))) R :=
  ev_call (ea_cons ha (ea_cons hb ea_nil)) fun as ⟨a, r, e, e1, c, r2, e2, hc, e3⟩ => by
    subst e3; subst e2; subst e1; subst e
    obtain ⟨es, h1, h2, h3, h4, h5, h6⟩ := h c hc
    exact ⟨fun M' ms => ⟨b, c, es, rfl, ms _ hm, h1, h2, h3, h4, h5⟩, fun r q => h6 r (q b c es rfl h1)⟩
end
section
variable {K : PySem.W.Frag} {M : Mt} {ds : DS} {ta tb : TE}
theorem od_weak {r : R2} {a b : D} {R R' : D → Prop} (h : OpD K M r a b R) (f : ∀ d, R d → R' d) : OpD K M r a b R' := fun M' G H x y Q m rx ry w q => h M' G H x y Q m rx ry w fun v d G' H' s' w' r' e => q v d G' H' s' w' r' (f d e)
theorem EvI.weak {wi : TI} {R R' : List D → Prop} (h : EvI K M ds wi R) (f : ∀ es, R es → R' es) : EvI K M ds wi R' := fun M' σ G H Z m s w q => h M' σ G H Z m s w fun J es G' H' s' w' e W => q J es G' H' s' w' (f es e) W
/-- whole numbers that are drawn -/
abbrev anyInt : D → Prop := fun d => ∃ i : Int, d = .int i
theorem ev_subAny (ha : Ev K M ds ta anyInt) (hb : Ev K M ds tb anyInt) : Ev K M ds (tOp (rI0 fun i j => V.int (i - j)) ta tb) anyInt := ev_op ha hb fun a b ⟨i, e1⟩ ⟨j, e2⟩ => by rw [e1, e2]; exact od_weak od_subI fun d e => ⟨_, e⟩
theorem ev_addAny (ha : Ev K M ds ta anyInt) (hb : Ev K M ds tb anyInt) : Ev K M ds (tOp (rAddU K) ta tb) anyInt := ev_op ha hb fun a b ⟨i, e1⟩ ⟨j, e2⟩ => by rw [e1, e2]; exact od_weak od_addI fun d e => ⟨_, e⟩
theorem ev_any {te : TE} {R : D → Prop} (h : Ev K M ds te R) (f : ∀ d, R d → anyInt d) : Ev K M ds te anyInt := h.weak f
end
/-! ### texts of signs -/
theorem foldl_ones : ∀ (cs : List Nat) (acc : Array Nat), ((cs.map fun c => (⟨#[c]⟩ : Str)).foldl (fun acc p => acc ++ (Str.ofString "").cps ++ p.cps) acc) = acc ++ cs.toArray
  | [], acc => by simp
  | c :: r, acc => by
    rw [List.map_cons, List.foldl_cons, foldl_ones r]
    have e : (Str.ofString "").cps = #[] := by decide +kernel
    rw [e]
    simp
theorem join0 (cs : List Nat) : Txt.join (Str.ofString "") (cs.map fun c => (⟨#[c]⟩ : Str)) = ⟨cs.toArray⟩ := by
  show Builtin.Str.glued (Str.ofString "") _ = _
  cases cs with
  | nil => rfl
  | cons c r =>
    show (⟨((r.map fun c => (⟨#[c]⟩ : Str)).foldl (fun acc p => acc ++ (Str.ofString "").cps ++ p.cps) #[c])⟩ : Str) = _
    rw [foldl_ones]
    simp
theorem sum_ones (cs : List Nat) : ((cs.map fun c => (⟨#[c]⟩ : Str)).map (·.length)).sum = cs.length := by
  induction cs with
  | nil => rfl
  | cons c r ih =>
    rw [List.map_cons, List.map_cons, List.sum_cons, ih]
    show 1 + r.length = r.length + 1
    omega
/-- signs that were drawn -/
theorem signs_all {x : Str} : ∀ {acc : List D}, (∀ (i : Nat) y, acc[i]? = some y → y ∈ signsD x) → ∃ cs : List Nat, acc = (cs.map fun c => (⟨#[c]⟩ : Str)).map D.str ∧ ∀ c ∈ cs, c ∈ x.cps.toList
  | [], _ => ⟨[], rfl, fun _ h => by cases h⟩
  | y :: r, h => by
    obtain ⟨cs, e, hc⟩ := signs_all (acc := r) fun i z hz => h (i + 1) z hz
    obtain ⟨c, hc1, rfl⟩ := List.mem_map.mp (h 0 y rfl)
    refine ⟨c :: cs, by rw [e]; rfl, fun d hd => ?_⟩
    rcases List.mem_cons.mp hd with rfl | hd
    · exact hc1
    · exact hc d hd
theorem cutS_len (z : Str) (lo hi : Option Int) : (cutS z lo hi).length ≤ z.length := by
  show (((z.cps.toList.drop _).take _).toArray).size ≤ z.cps.size
  simp
  omega
end Rg
namespace K1
open PySem L2 Rg RZ PyProof.Rows
def topS (i : Nat) : Stmt := PySem.Challenge.pw_ringlessday_k01_names_and_ends_judged.main.body.getD i (.Pass ⟨0, 0, 0, 0⟩)
abbrev s_isname : Stmt := topS 5
abbrev n_isname : List Str := ["value", "letter"]
theorem sc_isname : FnScope n_isname ["value"] (defScope s_isname) := ⟨rfl, rfl, rfl, by decide +kernel, rfl, by decide +kernel, by decide +kernel⟩
abbrev s_isnumber : Stmt := topS 6
abbrev n_isnumber : List Str := ["value", "least", "most"]
theorem sc_isnumber : FnScope n_isnumber ["value", "least", "most"] (defScope s_isnumber) := ⟨rfl, rfl, rfl, by decide +kernel, rfl, by decide +kernel, by decide +kernel⟩
abbrev s_isend : Stmt := topS 7
abbrev n_isend : List Str := ["value"]
theorem sc_isend : FnScope n_isend ["value"] (defScope s_isend) := ⟨rfl, rfl, rfl, by decide +kernel, rfl, by decide +kernel, by decide +kernel⟩
abbrev s_isentry : Stmt := topS 8
abbrev n_isentry : List Str := ["value"]
theorem sc_isentry : FnScope n_isentry ["value"] (defScope s_isentry) := ⟨rfl, rfl, rfl, by decide +kernel, rfl, by decide +kernel, by decide +kernel⟩
abbrev s_Lbag : Stmt := topS 10
abbrev n_Lbag : List Str := ["_law_script", "_law_mixed", "_law_cell"]
theorem sc_Lbag : FnScope n_Lbag ["_law_script"] (defScope s_Lbag) := ⟨rfl, rfl, rfl, by decide +kernel, rfl, by decide +kernel, by decide +kernel⟩
abbrev s_Ldraw : Stmt := topS 11
abbrev n_Ldraw : List Str := ["_law_bag_here", "_law_many", "_law_cell", "_law_digit", "_law_seed"]
theorem sc_Ldraw : FnScope n_Ldraw ["_law_bag_here", "_law_many"] (defScope s_Ldraw) := ⟨rfl, rfl, rfl, by decide +kernel, rfl, by decide +kernel, by decide +kernel⟩
abbrev s_Lof : Stmt := topS 12
abbrev n_Lof : List Str := ["_law_bag_here", "_law_some"]
theorem sc_Lof : FnScope n_Lof ["_law_bag_here", "_law_some"] (defScope s_Lof) := ⟨rfl, rfl, rfl, by decide +kernel, rfl, by decide +kernel, by decide +kernel⟩
abbrev s_Lsame : Stmt := topS 13
abbrev n_Lsame : List Str := ["_law_found", "_law_due", "_law_low", "_law_high"]
theorem sc_Lsame : FnScope n_Lsame ["_law_found", "_law_due"] (defScope s_Lsame) := ⟨rfl, rfl, rfl, by decide +kernel, rfl, by decide +kernel, by decide +kernel⟩
abbrev s_Lstrange : Stmt := topS 14
abbrev n_Lstrange : List Str := ["_law_bag_here"]
theorem sc_Lstrange : FnScope n_Lstrange ["_law_bag_here"] (defScope s_Lstrange) := ⟨rfl, rfl, rfl, by decide +kernel, rfl, by decide +kernel, by decide +kernel⟩
abbrev s_Lendso : Stmt := topS 15
abbrev n_Lendso : List Str := ["_law_bag_here", "_law_word", "_law_bent", "_law_gate", "_law_right", "_law_some", "_law_found"]
theorem sc_Lendso : FnScope n_Lendso ["_law_bag_here", "_law_word", "_law_bent"] (defScope s_Lendso) := ⟨rfl, rfl, rfl, by decide +kernel, rfl, by decide +kernel, by decide +kernel⟩
abbrev s_Lentryso : Stmt := topS 16
abbrev n_Lentryso : List Str := ["_law_bag_here", "_law_word", "_law_bent", "_law_number", "_law_right", "_law_some", "_law_found"]
theorem sc_Lentryso : FnScope n_Lentryso ["_law_bag_here", "_law_word", "_law_bent"] (defScope s_Lentryso) := ⟨rfl, rfl, rfl, by decide +kernel, rfl, by decide +kernel, by decide +kernel⟩
abbrev s_law : Stmt := topS 17
abbrev n_law : List Str := ["_law_script", "_law_bag_here", "_law_letters", "_law_turn", "_law_word", "_law_at_z", "_law_bent", "_law_right", "_law_number", "_law_low", "_law_high", "_law_due", "_law_found", "_law_k"]
theorem sc_law : FnScope n_law ["_law_script"] (defScope s_law) := ⟨rfl, rfl, rfl, by decide +kernel, rfl, by decide +kernel, by decide +kernel⟩
structure Tx (K : PySem.W.Frag) (mg : Str → Option Value) where
  f_is_name : Addr
  fd_is_name : FuncData
  F_is_name : Fun K "is_name" "is_name" s_isname f_is_name fd_is_name
  m_is_name : mg "is_name" = some (.ref f_is_name)
  f_is_number : Addr
  fd_is_number : FuncData
  F_is_number : Fun K "is_number" "is_number" s_isnumber f_is_number fd_is_number
  m_is_number : mg "is_number" = some (.ref f_is_number)
  f_is_end : Addr
  fd_is_end : FuncData
  F_is_end : Fun K "is_end" "is_end" s_isend f_is_end fd_is_end
  m_is_end : mg "is_end" = some (.ref f_is_end)
  f_is_entry : Addr
  fd_is_entry : FuncData
  F_is_entry : Fun K "is_entry" "is_entry" s_isentry f_is_entry fd_is_entry
  m_is_entry : mg "is_entry" = some (.ref f_is_entry)
  f__law_bag : Addr
  fd__law_bag : FuncData
  F__law_bag : Fun K "_law_bag" "_law_bag" s_Lbag f__law_bag fd__law_bag
  m__law_bag : mg "_law_bag" = some (.ref f__law_bag)
  f__law_draw : Addr
  fd__law_draw : FuncData
  F__law_draw : Fun K "_law_draw" "_law_draw" s_Ldraw f__law_draw fd__law_draw
  m__law_draw : mg "_law_draw" = some (.ref f__law_draw)
  f__law_of : Addr
  fd__law_of : FuncData
  F__law_of : Fun K "_law_of" "_law_of" s_Lof f__law_of fd__law_of
  m__law_of : mg "_law_of" = some (.ref f__law_of)
  f__law_same : Addr
  fd__law_same : FuncData
  F__law_same : Fun K "_law_same" "_law_same" s_Lsame f__law_same fd__law_same
  m__law_same : mg "_law_same" = some (.ref f__law_same)
  f__law_strange : Addr
  fd__law_strange : FuncData
  F__law_strange : Fun K "_law_strange" "_law_strange" s_Lstrange f__law_strange fd__law_strange
  m__law_strange : mg "_law_strange" = some (.ref f__law_strange)
  f__law_end_so : Addr
  fd__law_end_so : FuncData
  F__law_end_so : Fun K "_law_end_so" "_law_end_so" s_Lendso f__law_end_so fd__law_end_so
  m__law_end_so : mg "_law_end_so" = some (.ref f__law_end_so)
  f__law_entry_so : Addr
  fd__law_entry_so : FuncData
  F__law_entry_so : Fun K "_law_entry_so" "_law_entry_so" s_Lentryso f__law_entry_so fd__law_entry_so
  m__law_entry_so : mg "_law_entry_so" = some (.ref f__law_entry_so)
  f_law : Addr
  fd_law : FuncData
  F_law : Fun K "law" "law" s_law f_law fd_law
  m_law : mg "law" = some (.ref f_law)
  b_isinstance : mg "isinstance" = none
  b_len : mg "len" = none
  b_all : mg "all" = none
  b_abs : mg "abs" = none
  b_int : mg "int" = none
  b_str : mg "str" = none
  b_list : mg "list" = none
  b_tuple : mg "tuple" = none
  b_bool : mg "bool" = none
  b_range : mg "range" = none
  b_zip : mg "zip" = none
  u_LONGEST : Value
  c_LONGEST : mg "LONGEST" = some u_LONGEST
  r_LONGEST : RelV (.int 6) u_LONGEST
  u_LAST_STEP : Value
  c_LAST_STEP : mg "LAST_STEP" = some u_LAST_STEP
  r_LAST_STEP : RelV (.int 5) u_LAST_STEP
  u_LETTERS : Value
  c_LETTERS : mg "LETTERS" = some u_LETTERS
  r_LETTERS : RelV (.str "abcdefghijklmnopqrstuvwxyz") u_LETTERS
  a_SIDES : Addr
  c_SIDES : mg "SIDES" = some (.ref a_SIDES)
  r_SIDES : RelV (.ref a_SIDES) (.ref a_SIDES)
  q_SIDES : ∀ H, SqT K H a_SIDES [.str "a", .str "b", .str "c", .str "d", .str "left", .str "right", .str "stem"]
end K1
namespace K1
open PySem L2 Rg RZ PyProof.Rows
local macro_rules | `(tactic| walk_at "ev") => `(tactic| first
  | with_reducible assumption
  | ((with_reducible apply ev_var); exact rfl)
  | with_reducible exact ev_cint
  | with_reducible exact ev_cbl
  | with_reducible exact ev_cnon
  | with_reducible exact ev_cstr
  | with_reducible exact ev_craw
  | ((with_reducible apply ev_tup1); walk_at "ea"; exact Nat.le_of_ble_eq_true rfl)
  | ((with_reducible apply ev_lst1); walk_at "ea"; exact Nat.le_of_ble_eq_true rfl)
  | ((with_reducible apply ev_op1); walk_at "ev"; walk_at "ev"; walk_at "od")
  | ((with_reducible apply ev_un1); walk_at "ev"; exact ud_neg)
  | ((with_reducible apply ev_isSeq); walk_at "ev"; walk_at "ea"; exact rfl; exact rfl)
  | ((with_reducible apply ev_cb1); walk_at "ea"; walk_at "cd")
  | ((with_reducible apply ev_chainB); walk_at "ev"; walk_at "ev"; walk_at "od"; walk_at "ev"; walk_at "od")
  | ((with_reducible apply ev_andF); walk_at "ev"; exact rfl)
  | ((with_reducible apply ev_andT); walk_at "ev"; exact rfl; walk_at "ev")
  | ((with_reducible apply ev_andB); walk_at "ev"; intro _; walk_at "ev")
  | ((with_reducible apply ev_orT); walk_at "ev"; exact rfl)
  | ((with_reducible apply ev_orF); walk_at "ev"; exact rfl; walk_at "ev")
  | ((with_reducible apply ev_orB); walk_at "ev"; intro _; walk_at "ev")
  | ((with_reducible apply ev_notV); walk_at "ev"))
local macro_rules | `(tactic| walk_at "et") => `(tactic| first
  | ((with_reducible apply et_B); walk_at "ev")
  | ((with_reducible apply et_test); walk_at "ev")
  | ((with_reducible apply et_not); walk_at "et")
  | ((with_reducible apply et_orT); walk_at "et"; exact rfl)
  | ((with_reducible apply et_orF); walk_at "et"; exact rfl; walk_at "et")
  | ((with_reducible apply et_or); walk_at "et"; intro _; walk_at "et")
  | ((with_reducible apply et_andF); walk_at "et"; exact rfl)
  | ((with_reducible apply et_andT); walk_at "et"; exact rfl; walk_at "et")
  | ((with_reducible apply et_and); walk_at "et"; intro _; walk_at "et"))
local macro_rules | `(tactic| walk_at "ea") => `(tactic| first
  | with_reducible exact ea_nil
  | ((with_reducible apply ea1); walk_at "ev"; walk_at "ea"))
local macro_rules | `(tactic| walk_at "od") => `(tactic| first
  | with_reducible exact od_addI
  | with_reducible exact od_subI
  | ((with_reducible apply od_addS); (try simp only [PySem.Str.length_append]); omega)
  | ((with_reducible apply od_catL); exact Nat.le_of_ble_eq_true rfl)
  | ((with_reducible apply od_modI); first | decide | omega)
  | ((with_reducible apply od_mulI); first | (exact Or.inr ⟨by decide, by decide⟩) | (exact Or.inl ⟨by decide, by decide⟩) | (exact Or.inl ⟨by omega, by omega⟩) | (exact Or.inr ⟨by omega, by omega⟩))
  | ((with_reducible apply od_divI); first | (exact ⟨by decide, by decide⟩) | (exact ⟨by omega, by omega⟩))
  | ((with_reducible apply od_powI); exact ⟨by decide, by decide, by decide⟩)
  | with_reducible exact od_leI
  | with_reducible exact od_ltI
  | with_reducible exact od_gtI
  | with_reducible exact od_geI
  | with_reducible exact od_eqI
  | with_reducible exact od_eqB
  | with_reducible exact od_neB
  | with_reducible exact od_neI
  | with_reducible exact od_eqS
  | with_reducible exact od_inS
  | ((with_reducible apply od_none); exact rfl)
  | ((with_reducible apply od_ix); exact rfl))
local macro_rules | `(tactic| walk_at "cd") => `(tactic| first
  | ((with_reducible apply cd_isStr); exact rfl)
  | ((with_reducible apply cd_isInt); exact rfl)
  | ((with_reducible apply cd_isBool); exact rfl)
  | ((with_reducible apply cd_isList); exact rfl)
  | ((with_reducible apply cd_isTuple); exact rfl)
  | ((with_reducible apply cd_isi); assumption)
  | ((with_reducible apply cd_len); assumption)
  | ((with_reducible apply cd_len); exact rfl)
  | with_reducible exact cd_intI
  | with_reducible exact cd_listof
  | with_reducible exact cd_all)
local macro_rules | `(tactic| walk_at "px") => `(tactic| first
  | ((with_reducible apply px_var); exact rfl)
  | with_reducible exact px_c
  | ((with_reducible apply px_op); walk_at "px"; walk_at "px"; walk_at "pr")
  | ((with_reducible apply px_cb); walk_at "pa"; walk_at "pr")
  | ((with_reducible apply px_test); walk_at "px")
  | ((with_reducible apply px_B); walk_at "px")
  | ((with_reducible apply px_and); walk_at "px"; walk_at "px"))
local macro_rules | `(tactic| walk_at "pa") => `(tactic| first
  | with_reducible exact px_nil
  | ((with_reducible apply px_cons); walk_at "px"; walk_at "pa"))
local macro_rules | `(tactic| walk_at "pr") => `(tactic| first
  | exact px_addI
  | (apply px_ix; assumption; exact rfl)
  | (apply px_ix; assumption; assumption)
  | exact px_eqI
  | exact fun Q q => ⟨_, _, rfl, rfl, q⟩
  | exact fun Q q => ⟨_, _, rfl, rfl, (Or.inr ⟨by decide, by decide⟩), q⟩
  | exact fun Q q => ⟨_, _, rfl, rfl, (Or.inl ⟨by omega, by omega⟩), q⟩
  | exact fun Q q => ⟨_, _, rfl, rfl, (Or.inr ⟨by omega, by omega⟩), q⟩
  | exact fun Q q => ⟨_, _, rfl, rfl, ⟨by decide, by decide⟩, q⟩
  | exact fun Q q => ⟨_, _, rfl, rfl, ⟨by omega, by omega⟩, q⟩
  | exact fun Q q => ⟨_, _, rfl, rfl, ⟨by decide, by decide, by decide⟩, q⟩
  | exact fun Q q => ⟨_, _, rfl, rfl, (by decide), q⟩
  | exact fun Q q => ⟨_, _, rfl, rfl, (by omega), q⟩
  | (apply px_len; assumption)
  | exact px_intI
  | exact px_abs)
/-- the letters of a name -/
abbrev lets : Str := "abcdefghijklmnopqrstuvwxyz"
def isNameS (x : Str) : Bool := decide (1 ≤ (x.length : Int)) && decide ((x.length : Int) ≤ 6) && x.cps.toList.all fun c => decide (c ∈ lets.cps.toList)
def isNameD : D → Bool
  | .str x => isNameS x
  | _ => false
/-- a value that may be judged -/
def okD : D → Bool
  | .str x => decide (x.length ≤ 100000)
  | .obj _ _ _ => false
  | .raw _ => false
  | .seq _ => false
  | _ => true
section
variable {P : Program} {w : World} {K : PySem.W.Frag} {mg : Str → Option Value} {base : Heap}
def preName (_ : Mt) (as : List D) : Prop := ∃ d, as = [d] ∧ okD d = true
def postName (as : List D) (r : D) : Prop := ∀ d, as = [d] → r = .bl (isNameD d)
theorem ok_isname (T : Tx K mg) : FnOk P w K mg base CX0 1 T.f_is_name T.fd_is_name ["value"] (spF K preName postName) := by
  refine fn_run T.F_is_name sc_isname (fun M as ⟨d, e, _⟩ => by rw [e]; rfl) (fun cdv A outer s H E hr => ⟨_, (pss_cons (ps_if (PW.pt (pw_or (pt_not (pt_val (pe_callB (q_isi (K := K)) (by rfl) T.b_isinstance bt_isinstance (pa_cons (pv 0) (pa_cons (pe_ty bt_str T.b_str) pa_nil))))) (pw_or1 (pt_not (pt_chain op_le op_le pe_int (pe_callB (q_len (K := K)) (by rfl) T.b_len bt_len (pa_cons (pv 0) pa_nil)) (pe_glob rfl T.c_LONGEST T.r_LONGEST)))))) (pss_one (ps_ret pe_bl)) pss_nil)
  (pss_one (ps_ret (pe_callB (q_all (K := K)) (by rfl) T.b_all bt_all (pa_cons (pe_lc (own := [("letter", 1)]) (g := (gName 1)) (tt := tYes) (by rfl) sc_isname.nd (q_itany (K := K) (pv 0)) (blkOk_by (own := [("letter", 1)]) (N := n_isname) (sc := defScope s_isname) (by decide +kernel)) (fun _ _ _ _ _ => (pg_name (i := 1) sc_isname.nd rfl (Or.inl rfl))) (fun _ _ _ _ _ => pts_nil) (fun _ _ _ _ _ => (pe_cmpR (q_in (K := K)) (pv 1) (pe_glob rfl T.c_LETTERS T.r_LETTERS) (by rfl)))) pa_nil))))), fun M as ⟨d, e, hd⟩ => ?_⟩)
  subst e
  show Rg.Run K M [some d, none] _ _
  have key : ∀ b : Bool, b = isNameD d → postName [d] (.bl b) := fun b hb d' e => by cases e; rw [hb]
  cases d with
  | str x =>
    have hx : x.length ≤ 100000 := of_decide_eq_true hd
    have hl : lenD (.str x) = some x.length := if_pos hx
    refine run_seq ?_
    apply run_if1
    · walk_at "et"
    · intro e
      refine run_ret1 ev_cbl (key _ ?_)
      simp only [isNameD, isNameS]
      simp only [Bool.not_eq_true'] at e
      rw [e]; rfl
    · intro e
      refine run_next ?_
      have e2 : (decide (1 ≤ (x.length : Int)) && decide ((x.length : Int) ≤ 6)) = true := by simpa using e
      apply run_ret1
      · apply ev_cb1
        · apply ea1
          · refine ev_lcM (f := fun c => .bl (decide (c ∈ lets.cps.toList))) (ei_any (ev_var rfl) rfl) hx fun c _ => ?_
            exact eg_name (by walk_at "ev")
          · exact ea_nil
        · rw [show (x.cps.toList.map fun c => D.bl (decide (c ∈ lets.cps.toList))) = (x.cps.toList.map fun c => decide (c ∈ lets.cps.toList)).map D.bl by rw [List.map_map]; rfl]
          exact cd_all
      · refine key _ ?_
        simp only [isNameD, isNameS, e2, Bool.true_and, List.all_map]
        rfl
  | obj _ _ _ => cases hd
  | raw _ => cases hd
  | seq _ => cases hd
  | _ =>
    refine run_seq ?_
    apply run_ifT
    · walk_at "et"
    · rfl
    · exact run_ret1 ev_cbl (key _ rfl)
/-! ### is_number -/
def isNumD : D → Int → Int → Bool
  | .int i, lo, hi => decide (lo ≤ i) && decide (i ≤ hi)
  | _, _, _ => false
def preNum (_ : Mt) (as : List D) : Prop := ∃ d lo hi, as = [d, .int lo, .int hi] ∧ okD d = true
def postNum (as : List D) (r : D) : Prop := ∀ d lo hi, as = [d, .int lo, .int hi] → r = .bl (isNumD d lo hi)
theorem ok_isnumber (T : Tx K mg) : FnOk P w K mg base CX0 1 T.f_is_number T.fd_is_number ["value", "least", "most"] (spF K preNum postNum) := by
  refine fn_run T.F_is_number sc_isnumber (fun M as ⟨d, lo, hi, e, _⟩ => by rw [e]; rfl) (fun cdv A outer s H E hr => ⟨_, (pss_cons (ps_if (PW.pt (pw_or (pt_val (pe_callB (q_isi (K := K)) (by rfl) T.b_isinstance bt_isinstance (pa_cons (pv 0) (pa_cons (pe_ty bt_bool T.b_bool) pa_nil)))) (pw_or1 (pt_not (pt_val (pe_callB (q_isi (K := K)) (by rfl) T.b_isinstance bt_isinstance (pa_cons (pv 0) (pa_cons (pe_ty bt_int T.b_int) pa_nil)))))))) (pss_one (ps_ret pe_bl)) pss_nil)
  (pss_one (ps_ret (pe_chain op_le op_le (pv 1) (pv 0) (pv 2))))), fun M as ⟨d, lo, hi, e, hd⟩ => ?_⟩)
  subst e
  show Rg.Run K M [some d, some (.int lo), some (.int hi)] _ _
  have key : ∀ b : Bool, b = isNumD d lo hi → postNum [d, .int lo, .int hi] (.bl b) := fun b hb d' lo' hi' e => by cases e; rw [hb]
  cases d with
  | int i =>
    refine run_seq ?_
    apply run_ifF
    · walk_at "et"
    · rfl
    · refine run_next ?_
      apply run_ret1
      · walk_at "ev"
      · exact key _ rfl
  | obj _ _ _ => cases hd
  | raw _ => cases hd
  | seq _ => cases hd
  | _ =>
    refine run_seq ?_
    apply run_ifT
    · walk_at "et"
    · rfl
    · exact run_ret1 ev_cbl (key _ rfl)
/-! ### is_end, is_entry -/
def okE : D → Bool
  | .tup xs => xs.all okD
  | d => okD d
def sidesV : List V := [.str "a", .str "b", .str "c", .str "d", .str "left", .str "right", .str "stem"]
def sidesD : List D := [.str "a", .str "b", .str "c", .str "d", .str "left", .str "right", .str "stem"]
def isEndD : D → Bool
  | .tup [a, .str y] => isNameD a && inV (.str y) sidesV
  | _ => false
def isEntD : D → Bool
  | .tup [a, b] => isNameD a && isNumD b 0 5
  | _ => false
def preEnd (_ : Mt) (as : List D) : Prop := ∃ d, as = [d] ∧ okE d = true
def postEnd (as : List D) (r : D) : Prop := ∀ d, as = [d] → r = .bl (isEndD d)
def postEnt (as : List D) (r : D) : Prop := ∀ d, as = [d] → r = .bl (isEntD d)
theorem ev_sides (T : Tx K mg) {M : Mt} {ds : DS} : Ev K M ds (tC (.ref T.a_SIDES)) (· = .tup sidesD) :=
  ev_c fun G => .tup (T.q_SIDES G) (.cons (.str _) (.cons (.str _) (.cons (.str _) (.cons (.str _) (.cons (.str _) (.cons (.str _) (.cons (.str _) .nil)))))))
theorem ev_name {M : Mt} {ds : DS} {ta : TE} {d : D} {E : XK} (h : Ev K M ds ta (· = d)) (hd : okD d = true) : Ev K M ds (tCall (spF K preName postName) [] E (tCons ta tNil)) (· = .bl (isNameD d)) :=
  (ev_call1 (ea1 h ea_nil) fun _ _ => ⟨d, rfl, hd⟩).weak fun r q => q d rfl
theorem ev_num {M : Mt} {ds : DS} {ta tb tc : TE} {d : D} {lo hi : Int} {E : XK} (h : Ev K M ds ta (· = d)) (hl : Ev K M ds tb (· = .int lo)) (hh : Ev K M ds tc (· = .int hi)) (hd : okD d = true) :
    Ev K M ds (tCall (spF K preNum postNum) [] E (tCons ta (tCons tb (tCons tc tNil)))) (· = .bl (isNumD d lo hi)) :=
  (ev_call1 (ea1 h (ea1 hl (ea1 hh ea_nil))) fun _ _ => ⟨d, lo, hi, rfl, hd⟩).weak fun r q => q d lo hi rfl
theorem B_isname (T : Tx K mg) : Binds K T.fd_is_name ["value"] [] := T.F_is_name.binds fun _ _ _ _ _ _ us hl => match us, hl with | [_], _ => rfl
theorem B_isnumber (T : Tx K mg) : Binds K T.fd_is_number ["value", "least", "most"] [] := T.F_is_number.binds fun _ _ _ _ _ _ us hl => match us, hl with | [_, _, _], _ => rfl
theorem ok_isend (T : Tx K mg) : FnOk P w K mg base CX0 2 T.f_is_end T.fd_is_end ["value"] (spF K preEnd postEnd) := by
  have G_isname := ok_isname (P := P) (w := w) (base := base) T
  have B_isname := B_isname T
  refine fn_run T.F_is_end sc_isend (fun M as ⟨d, e, _⟩ => by rw [e]; rfl) (fun cdv A outer s H E hr => ⟨_, (pss_cons (ps_if (PW.pt (pw_or (pt_not (pt_val (pe_callB (q_isi (K := K)) (by rfl) T.b_isinstance bt_isinstance (pa_cons (pv 0) (pa_cons (pe_ty bt_tuple T.b_tuple) pa_nil))))) (pw_or1 (pt_cmpR op_ne (pe_callB (q_len (K := K)) (by rfl) T.b_len bt_len (pa_cons (pv 0) pa_nil)) pe_int (nomark _))))) (pss_one (ps_ret pe_bl)) pss_nil)
  (pss_one (ps_ret (pe_and (pe_call G_isname (hr.mono (by decide)) (by rfl) T.m_is_name T.F_is_name.kp B_isname .nil pass0 (pa_cons (pe_ix (q_ix (K := K)) (pv 0) pe_int (fun _ _ => rfl)) pa_nil)) (pe_and (pe_callB (q_isi (K := K)) (by rfl) T.b_isinstance bt_isinstance (pa_cons (pe_ix (q_ix (K := K)) (pv 0) pe_int (fun _ _ => rfl)) (pa_cons (pe_ty bt_str T.b_str) pa_nil))) (pe_one (pe_cmpR (q_in (K := K)) (pe_ix (q_ix (K := K)) (pv 0) pe_int (fun _ _ => rfl)) (pe_glob rfl T.c_SIDES T.r_SIDES) (by rfl)))))))), fun M as ⟨d, e, hd⟩ => ?_⟩)
  subst e
  show Rg.Run K M [some d] _ _
  have key : ∀ b : Bool, b = isEndD d → postEnd [d] (.bl b) := fun b hb d' e => by cases e; rw [hb]
  cases d with
  | tup xs =>
    match xs, hd with
    | [a, b], hd =>
      have ha : okD a = true := by simp [okE] at hd; exact hd.1
      have hb : okD b = true := by simp [okE] at hd; exact hd.2
      refine run_seq ?_
      apply run_ifF
      · walk_at "et"
      · rfl
      refine run_next ?_
      have h1 : Ev K M [some (.tup [a, b])] (tOp (rIx K) (tVar 0) (tC (.int 0))) (· = a) := by walk_at "ev"
      have h2 : Ev K M [some (.tup [a, b])] (tOp (rIx K) (tVar 0) (tC (.int 1))) (· = b) := by walk_at "ev"
      cases b with
      | str y =>
        apply run_ret1
        · refine ev_andB (b := inV (.str y) sidesV) (ev_name h1 ha) fun _ => ?_
          apply ev_andT
          · exact ev_cb1 (ea1 h2 (ea1 ev_craw ea_nil)) (cd_isStr rfl)
          · rfl
          · exact ev_op1 h2 (ev_sides T) (od_inQ (.inr rfl) rfl (xs := sidesV) rfl)
        · exact key _ rfl
      | obj _ _ _ => cases hb
      | raw _ => cases hb
      | seq _ => cases hb
      | _ =>
        apply run_ret1
        · refine ev_andB (b := false) (ev_name h1 ha) fun _ => ?_
          apply ev_andF
          · exact ev_cb1 (ea1 h2 (ea1 ev_craw ea_nil)) (cd_isStr rfl)
          · rfl
        · exact key _ (by simp [isEndD])
    | [], _ =>
      refine run_seq ?_
      apply run_ifT
      · walk_at "et"
      · rfl
      · exact run_ret1 ev_cbl (key _ rfl)
    | [_], _ =>
      refine run_seq ?_
      apply run_ifT
      · walk_at "et"
      · rfl
      · exact run_ret1 ev_cbl (key _ rfl)
    | _ :: _ :: _ :: r, _ =>
      refine run_seq ?_
      apply run_ifT
      · walk_at "et"
      · simp; omega
      · exact run_ret1 ev_cbl (key _ (by simp [isEndD, isEntD]))
  | obj _ _ _ => cases hd
  | raw _ => cases hd
  | seq _ => cases hd
  | _ =>
    refine run_seq ?_
    apply run_ifT
    · walk_at "et"
    · rfl
    · exact run_ret1 ev_cbl (key _ rfl)
theorem ok_isentry (T : Tx K mg) : FnOk P w K mg base CX0 2 T.f_is_entry T.fd_is_entry ["value"] (spF K preEnd postEnt) := by
  have G_isname := ok_isname (P := P) (w := w) (base := base) T
  have G_isnumber := ok_isnumber (P := P) (w := w) (base := base) T
  have B_isname := B_isname T
  have B_isnumber := B_isnumber T
  refine fn_run T.F_is_entry sc_isentry (fun M as ⟨d, e, _⟩ => by rw [e]; rfl) (fun cdv A outer s H E hr => ⟨_, (pss_cons (ps_if (PW.pt (pw_or (pt_not (pt_val (pe_callB (q_isi (K := K)) (by rfl) T.b_isinstance bt_isinstance (pa_cons (pv 0) (pa_cons (pe_ty bt_tuple T.b_tuple) pa_nil))))) (pw_or1 (pt_cmpR op_ne (pe_callB (q_len (K := K)) (by rfl) T.b_len bt_len (pa_cons (pv 0) pa_nil)) pe_int (nomark _))))) (pss_one (ps_ret pe_bl)) pss_nil)
  (pss_one (ps_ret (pe_and (pe_call G_isname (hr.mono (by decide)) (by rfl) T.m_is_name T.F_is_name.kp B_isname .nil pass0 (pa_cons (pe_ix (q_ix (K := K)) (pv 0) pe_int (fun _ _ => rfl)) pa_nil)) (pe_one (pe_call G_isnumber (hr.mono (by decide)) (by rfl) T.m_is_number T.F_is_number.kp B_isnumber .nil pass0 (pa_cons (pe_ix (q_ix (K := K)) (pv 0) pe_int (fun _ _ => rfl)) (pa_cons pe_int (pa_cons (pe_glob rfl T.c_LAST_STEP T.r_LAST_STEP) pa_nil))))))))), fun M as ⟨d, e, hd⟩ => ?_⟩)
  subst e
  show Rg.Run K M [some d] _ _
  have key : ∀ b : Bool, b = isEntD d → postEnt [d] (.bl b) := fun b hb d' e => by cases e; rw [hb]
  cases d with
  | tup xs =>
    match xs, hd with
    | [a, b], hd =>
      have ha : okD a = true := by simp [okE] at hd; exact hd.1
      have hb : okD b = true := by simp [okE] at hd; exact hd.2
      refine run_seq ?_
      apply run_ifF
      · walk_at "et"
      · rfl
      refine run_next ?_
      have h1 : Ev K M [some (.tup [a, b])] (tOp (rIx K) (tVar 0) (tC (.int 0))) (· = a) := by walk_at "ev"
      have h2 : Ev K M [some (.tup [a, b])] (tOp (rIx K) (tVar 0) (tC (.int 1))) (· = b) := by walk_at "ev"
      apply run_ret1
      · exact ev_andB (ev_name h1 ha) fun _ => ev_num h2 ev_cint ev_cint hb
      · exact key _ rfl
    | [], _ =>
      refine run_seq ?_
      apply run_ifT
      · walk_at "et"
      · rfl
      · exact run_ret1 ev_cbl (key _ rfl)
    | [_], _ =>
      refine run_seq ?_
      apply run_ifT
      · walk_at "et"
      · rfl
      · exact run_ret1 ev_cbl (key _ rfl)
    | _ :: _ :: _ :: r, _ =>
      refine run_seq ?_
      apply run_ifT
      · walk_at "et"
      · simp; omega
      · exact run_ret1 ev_cbl (key _ (by simp [isEndD, isEntD]))
  | obj _ _ _ => cases hd
  | raw _ => cases hd
  | seq _ => cases hd
  | _ =>
    refine run_seq ?_
    apply run_ifT
    · walk_at "et"
    · rfl
    · exact run_ret1 ev_cbl (key _ rfl)
end
end K1
namespace K1
open PySem L2 Rg RZ PyProof.Rows
local macro_rules | `(tactic| walk_at "ev") => `(tactic| first
  | with_reducible assumption
  | ((with_reducible apply ev_var); exact rfl)
  | with_reducible exact ev_cint
  | with_reducible exact ev_cbl
  | with_reducible exact ev_cnon
  | with_reducible exact ev_cstr
  | with_reducible exact ev_craw
  | ((with_reducible apply ev_tup1); walk_at "ea"; exact Nat.le_of_ble_eq_true rfl)
  | ((with_reducible apply ev_lst1); walk_at "ea"; exact Nat.le_of_ble_eq_true rfl)
  | ((with_reducible apply ev_op1); walk_at "ev"; walk_at "ev"; walk_at "od")
  | ((with_reducible apply ev_un1); walk_at "ev"; exact ud_neg)
  | ((with_reducible apply ev_isSeq); walk_at "ev"; walk_at "ea"; exact rfl; exact rfl)
  | ((with_reducible apply ev_cb1); walk_at "ea"; walk_at "cd")
  | ((with_reducible apply ev_chainB); walk_at "ev"; walk_at "ev"; walk_at "od"; walk_at "ev"; walk_at "od")
  | ((with_reducible apply ev_andF); walk_at "ev"; exact rfl)
  | ((with_reducible apply ev_andT); walk_at "ev"; exact rfl; walk_at "ev")
  | ((with_reducible apply ev_andB); walk_at "ev"; intro _; walk_at "ev")
  | ((with_reducible apply ev_orT); walk_at "ev"; exact rfl)
  | ((with_reducible apply ev_orF); walk_at "ev"; exact rfl; walk_at "ev")
  | ((with_reducible apply ev_orB); walk_at "ev"; intro _; walk_at "ev")
  | ((with_reducible apply ev_notV); walk_at "ev"))
local macro_rules | `(tactic| walk_at "et") => `(tactic| first
  | ((with_reducible apply et_B); walk_at "ev")
  | ((with_reducible apply et_test); walk_at "ev")
  | ((with_reducible apply et_not); walk_at "et")
  | ((with_reducible apply et_orT); walk_at "et"; exact rfl)
  | ((with_reducible apply et_orF); walk_at "et"; exact rfl; walk_at "et")
  | ((with_reducible apply et_or); walk_at "et"; intro _; walk_at "et")
  | ((with_reducible apply et_andF); walk_at "et"; exact rfl)
  | ((with_reducible apply et_andT); walk_at "et"; exact rfl; walk_at "et")
  | ((with_reducible apply et_and); walk_at "et"; intro _; walk_at "et"))
local macro_rules | `(tactic| walk_at "ea") => `(tactic| first
  | with_reducible exact ea_nil
  | ((with_reducible apply ea1); walk_at "ev"; walk_at "ea"))
local macro_rules | `(tactic| walk_at "od") => `(tactic| first
  | with_reducible exact od_addI
  | with_reducible exact od_subI
  | ((with_reducible apply od_addS); (try simp only [PySem.Str.length_append]); omega)
  | ((with_reducible apply od_catL); exact Nat.le_of_ble_eq_true rfl)
  | ((with_reducible apply od_modI); first | decide | omega)
  | ((with_reducible apply od_mulI); first | (exact Or.inr ⟨by decide, by decide⟩) | (exact Or.inl ⟨by decide, by decide⟩) | (exact Or.inl ⟨by omega, by omega⟩) | (exact Or.inr ⟨by omega, by omega⟩))
  | ((with_reducible apply od_divI); first | (exact ⟨by decide, by decide⟩) | (exact ⟨by omega, by omega⟩))
  | ((with_reducible apply od_powI); exact ⟨by decide, by decide, by decide⟩)
  | with_reducible exact od_leI
  | with_reducible exact od_ltI
  | with_reducible exact od_gtI
  | with_reducible exact od_geI
  | with_reducible exact od_eqI
  | with_reducible exact od_eqB
  | with_reducible exact od_neB
  | with_reducible exact od_neI
  | with_reducible exact od_eqS
  | with_reducible exact od_inS
  | ((with_reducible apply od_none); exact rfl)
  | ((with_reducible apply od_ix); exact rfl))
local macro_rules | `(tactic| walk_at "cd") => `(tactic| first
  | ((with_reducible apply cd_isStr); exact rfl)
  | ((with_reducible apply cd_isInt); exact rfl)
  | ((with_reducible apply cd_isBool); exact rfl)
  | ((with_reducible apply cd_isList); exact rfl)
  | ((with_reducible apply cd_isTuple); exact rfl)
  | ((with_reducible apply cd_isi); assumption)
  | ((with_reducible apply cd_len); assumption)
  | ((with_reducible apply cd_len); exact rfl)
  | with_reducible exact cd_intI
  | with_reducible exact cd_listof
  | ((with_reducible apply cd_str); assumption)
  | with_reducible exact cd_all)
local macro_rules | `(tactic| walk_at "px") => `(tactic| first
  | ((with_reducible apply px_var); exact rfl)
  | with_reducible exact px_c
  | ((with_reducible apply px_op); walk_at "px"; walk_at "px"; walk_at "pr")
  | ((with_reducible apply px_cb); walk_at "pa"; walk_at "pr")
  | ((with_reducible apply px_test); walk_at "px")
  | ((with_reducible apply px_B); walk_at "px")
  | ((with_reducible apply px_and); walk_at "px"; walk_at "px"))
local macro_rules | `(tactic| walk_at "pa") => `(tactic| first
  | with_reducible exact px_nil
  | ((with_reducible apply px_cons); walk_at "px"; walk_at "pa"))
local macro_rules | `(tactic| walk_at "pr") => `(tactic| first
  | exact px_addI
  | (apply px_ix; assumption; exact rfl)
  | (apply px_ix; assumption; assumption)
  | exact px_eqI
  | exact fun Q q => ⟨_, _, rfl, rfl, q⟩
  | exact fun Q q => ⟨_, _, rfl, rfl, (Or.inr ⟨by decide, by decide⟩), q⟩
  | exact fun Q q => ⟨_, _, rfl, rfl, (Or.inl ⟨by omega, by omega⟩), q⟩
  | exact fun Q q => ⟨_, _, rfl, rfl, (Or.inr ⟨by omega, by omega⟩), q⟩
  | exact fun Q q => ⟨_, _, rfl, rfl, ⟨by decide, by decide⟩, q⟩
  | exact fun Q q => ⟨_, _, rfl, rfl, ⟨by omega, by omega⟩, q⟩
  | exact fun Q q => ⟨_, _, rfl, rfl, ⟨by decide, by decide, by decide⟩, q⟩
  | exact fun Q q => ⟨_, _, rfl, rfl, (by decide), q⟩
  | exact fun Q q => ⟨_, _, rfl, rfl, (by omega), q⟩
  | (apply px_len; assumption)
  | exact px_intI
  | exact px_abs)
/-! ### _law_same -/
def okN : Nat → D → Bool
  | 0, _ => false
  | _ + 1, .obj _ _ _ => false
  | _ + 1, .raw _ => false
  | _ + 1, .seq _ => false
  | n + 1, .list xs => decide (xs.length ≤ 100000) && xs.all (okN n)
  | n + 1, .tup xs => decide (xs.length ≤ 100000) && xs.all (okN n)
  | _ + 1, _ => true
def allZ (f : D → D → Bool) (xs ys : List D) : Bool := (xs.zip ys).all fun p => f p.1 p.2
def sameN : Nat → D → D → Bool
  | 0, _, _ => false
  | _ + 1, .non, .non => true
  | _ + 1, .bl a, .bl b => decide (a = b)
  | _ + 1, .int a, .int b => decide (a = b)
  | _ + 1, .str a, .str b => decide (a = b)
  | n + 1, .list xs, .list ys => decide ((xs.length : Int) = ys.length) && allZ (sameN n) xs ys
  | n + 1, .tup xs, .tup ys => decide ((xs.length : Int) = ys.length) && allZ (sameN n) xs ys
  | _ + 1, _, _ => false
theorem allZ_refl {f : D → D → Bool} : ∀ {xs : List D}, (∀ x ∈ xs, f x x = true) → allZ f xs xs = true
  | [], _ => rfl
  | x :: r, h => by
    show (f x x && allZ f r r) = true
    rw [h x List.mem_cons_self, allZ_refl fun y hy => h y (List.mem_cons_of_mem _ hy)]
    rfl
theorem sameN_refl : ∀ (n : Nat) (d : D), okN n d = true → sameN n d d = true
  | 0, _, h => by cases h
  | n + 1, d, h => by
    cases d with
    | list xs =>
      have h2 : xs.all (okN n) = true := by simp only [okN, Bool.and_eq_true] at h; exact h.2
      simp only [sameN, decide_true, Bool.true_and]
      exact allZ_refl fun x hx => sameN_refl n x (List.all_eq_true.mp h2 x hx)
    | tup xs =>
      have h2 : xs.all (okN n) = true := by simp only [okN, Bool.and_eq_true] at h; exact h.2
      simp only [sameN, decide_true, Bool.true_and]
      exact allZ_refl fun x hx => sameN_refl n x (List.all_eq_true.mp h2 x hx)
    | obj _ _ _ => cases h
    | raw _ => cases h
    | seq _ => cases h
    | non => rfl
    | _ => simp [sameN]
section
variable {P : Program} {w : World} {K : PySem.W.Frag} {mg : Str → Option Value} {base : Heap}
def preSame (n : Nat) (_ : Mt) (as : List D) : Prop := ∃ a b, as = [a, b] ∧ okN n a = true ∧ okN n b = true
def postSame (n : Nat) (as : List D) (r : D) : Prop := ∀ a b, as = [a, b] → r = .bl (sameN n a b)
theorem fn_never {f : Addr} {fd : FuncData} {ps : List Str} {k : Nat} {pre : Mt → List D → Prop} {post : List D → D → Prop} (h : ∀ M as, ¬ pre M as) : FnOk P w K mg base CX0 k f fd ps (spF K pre post) :=
  ⟨fun vs H Q E ⟨M, _, as, _, _, hp, _⟩ => (h M as hp).elim, fun A outer s H args us vs Q E _ _ _ _ ⟨M, _, as, _, _, hp, _⟩ => (h M as hp).elim⟩
theorem ok_same (T : Tx K mg) : ∀ n, FnOk P w K mg base CX0 n T.f__law_same T.fd__law_same ["_law_found", "_law_due"] (spF K (preSame n) (postSame n))
  | 0 => fn_never fun M as ⟨a, b, _, h, _⟩ => by cases h
  | n + 1 => by
    have G_Lsame := ok_same T n
    have B_Lsame : Binds K T.fd__law_same ["_law_found", "_law_due"] [] := T.F__law_same.binds fun _ _ _ _ _ _ us hl => match us, hl with | [_, _], _ => rfl
    refine fn_run T.F__law_same sc_Lsame (fun M as ⟨a, b, e, _⟩ => by rw [e]; rfl) (fun cdv A outer s H E hr => ⟨_, (pss_cons (ps_if (PW.pt (pw_or (pt_cmpR op_isN (pv 1) pe_non (nomark _)) (pw_or1 (pt_cmpR op_isN (pv 0) pe_non (nomark _))))) (pss_one (ps_ret (pe_and (pe_cmpR op_isN (pv 1) pe_non (nomark _)) (pe_one (pe_cmpR op_isN (pv 0) pe_non (nomark _)))))) pss_nil)
  (pss_cons (ps_if (pt_val (pe_callB (q_isiT (K := K)) (by rfl) T.b_isinstance bt_isinstance (pa_cons (pv 1) (pa_cons (pe_tup (pa_cons (pe_ty bt_list T.b_list) (pa_cons (pe_ty bt_tuple T.b_tuple) pa_nil))) pa_nil)))) (pss_cons (ps_if (PW.pt (pw_or (pt_cmpR op_ne (pe_callB (q_isi (K := K)) (by rfl) T.b_isinstance bt_isinstance (pa_cons (pv 0) (pa_cons (pe_ty bt_list T.b_list) pa_nil))) (pe_callB (q_isi (K := K)) (by rfl) T.b_isinstance bt_isinstance (pa_cons (pv 1) (pa_cons (pe_ty bt_list T.b_list) pa_nil))) (nomark _)) (pw_or1 (pt_cmpR op_ne (pe_callB (q_isi (K := K)) (by rfl) T.b_isinstance bt_isinstance (pa_cons (pv 0) (pa_cons (pe_ty bt_tuple T.b_tuple) pa_nil))) (pe_callB (q_isi (K := K)) (by rfl) T.b_isinstance bt_isinstance (pa_cons (pv 1) (pa_cons (pe_ty bt_tuple T.b_tuple) pa_nil))) (nomark _))))) (pss_one (ps_ret pe_bl)) pss_nil)
    (pss_one (ps_ret (pe_and (pe_cmpR op_eq (pe_callB (q_len (K := K)) (by rfl) T.b_len bt_len (pa_cons (pv 0) pa_nil)) (pe_callB (q_len (K := K)) (by rfl) T.b_len bt_len (pa_cons (pv 1) pa_nil)) (nomark _)) (pe_one (pe_callB (q_all (K := K)) (by rfl) T.b_all bt_all (pa_cons (pe_lc (own := [("_law_low", 2), ("_law_high", 3)]) (g := (gTup K 2 (gCons (gName 2) (gCons (gName 3) gNil)))) (tt := tYes) (by rfl) sc_Lsame.nd (q_zip (K := K) T.b_zip (pa_cons (pv 0) (pa_cons (pv 1) pa_nil))) (blkOk_by (own := [("_law_low", 2), ("_law_high", 3)]) (N := n_Lsame) (sc := defScope s_Lsame) (by decide +kernel)) (fun _ _ _ _ _ => (q_tup (K := K) (n := 2) rfl (pgs_cons (pg_name (i := 2) sc_Lsame.nd rfl (Or.inl rfl)) (pgs_cons (pg_name (i := 3) sc_Lsame.nd rfl (Or.inl rfl)) pgs_nil)))) (fun _ _ _ _ _ => pts_nil) (fun _ _ _ _ _ => (pe_call G_Lsame hr (by rfl) T.m__law_same T.F__law_same.kp B_Lsame .nil pass0 (pa_cons (pv 2) (pa_cons (pv 3) pa_nil))))) pa_nil))))))) pss_nil)
  (pss_cons (ps_if (PW.pt (pw_or (pt_cmpR op_ne (pe_callB (q_isi (K := K)) (by rfl) T.b_isinstance bt_isinstance (pa_cons (pv 0) (pa_cons (pe_ty bt_bool T.b_bool) pa_nil))) (pe_callB (q_isi (K := K)) (by rfl) T.b_isinstance bt_isinstance (pa_cons (pv 1) (pa_cons (pe_ty bt_bool T.b_bool) pa_nil))) (nomark _)) (pw_or1 (pt_cmpR op_ne (pe_callB (q_isi (K := K)) (by rfl) T.b_isinstance bt_isinstance (pa_cons (pv 0) (pa_cons (pe_ty bt_int T.b_int) pa_nil))) (pe_callB (q_isi (K := K)) (by rfl) T.b_isinstance bt_isinstance (pa_cons (pv 1) (pa_cons (pe_ty bt_int T.b_int) pa_nil))) (nomark _))))) (pss_one (ps_ret pe_bl)) pss_nil)
  (pss_one (ps_ret (pe_and (pe_cmpR op_eq (pe_callB (q_isi (K := K)) (by rfl) T.b_isinstance bt_isinstance (pa_cons (pv 0) (pa_cons (pe_ty bt_str T.b_str) pa_nil))) (pe_callB (q_isi (K := K)) (by rfl) T.b_isinstance bt_isinstance (pa_cons (pv 1) (pa_cons (pe_ty bt_str T.b_str) pa_nil))) (nomark _)) (pe_one (pe_cmpR op_eq (pv 0) (pv 1) (nomark _))))))))), fun M as ⟨a, b, e, ha, hb⟩ => ?_⟩)
    subst e
    show Rg.Run K M [some a, some b, none, none] _ _
    have key : ∀ c : Bool, c = sameN (n + 1) a b → postSame (n + 1) [a, b] (.bl c) := fun c hc a' b' e => by cases e; rw [hc]
    have seq : ∀ xs ys : List D, ((a = .list xs ∧ b = .list ys) ∨ (a = .tup xs ∧ b = .tup ys)) → Ev K M [some a, some b, none, none]
        (tAndV (tOp rEq (tCB (fun xs H Q => ∃ x n, xs = [x] ∧ LenV K x H n ∧ Q (V.int (n : Nat)) H) (tCons (tVar 0) tNil)) (tCB (fun xs H Q => ∃ x n, xs = [x] ∧ LenV K x H n ∧ Q (V.int (n : Nat)) H) (tCons (tVar 1) tNil)))
          (tCB (rAll K) (tCons (tLc (iZipA K (tCons (tVar 0) (tCons (tVar 1) tNil))) (gTup K 2 (gCons (gName 2) (gCons (gName 3) gNil))) tYes (tCall (spF K (preSame n) (postSame n)) [] E0 (tCons (tVar 2) (tCons (tVar 3) tNil))) [2, 3]) tNil)))
        (· = .bl (decide ((xs.length : Int) = ys.length) && allZ (sameN n) xs ys)) := fun xs ys hxy => by
      have hx : okN (n + 1) (.list xs) = true := by rcases hxy with ⟨rfl, _⟩ | ⟨rfl, _⟩ <;> exact ha
      have hy : okN (n + 1) (.list ys) = true := by rcases hxy with ⟨_, rfl⟩ | ⟨_, rfl⟩ <;> exact hb
      simp only [okN, Bool.and_eq_true, decide_eq_true_eq] at hx hy
      refine ev_andB ?_ fun _ => ?_
      · rcases hxy with ⟨rfl, rfl⟩ | ⟨rfl, rfl⟩ <;> walk_at "ev"
      · have hz : zipD xs ys = (xs.zip ys).map fun p => D.tup [p.1, p.2] := rfl
        apply ev_cb1
        · apply ea1
          · refine ev_lcM (cs := xs.zip ys) (inj := fun p => D.tup [p.1, p.2]) (f := fun p => .bl (sameN n p.1 p.2)) (ei_zip (ea1 (ev_var rfl) (ea1 (ev_var rfl) ea_nil)) hxy) (by rw [List.length_zip]; omega) fun c hc => ?_
            refine eg_tup (egs_cons (egs_cons (egs_nil ?_)))
            refine (ev_call1 (ea1 (ev_var rfl) (ea1 (ev_var rfl) ea_nil)) fun _ _ => ⟨c.1, c.2, rfl, ?_, ?_⟩).weak fun r q => q c.1 c.2 rfl
            · exact List.all_eq_true.mp hx.2 _ (List.of_mem_zip hc).1
            · exact List.all_eq_true.mp hy.2 _ (List.of_mem_zip hc).2
          · exact ea_nil
        · rw [show ((xs.zip ys).map fun p => D.bl (sameN n p.1 p.2)) = ((xs.zip ys).map fun p => sameN n p.1 p.2).map D.bl by rw [List.map_map]; rfl,
            show allZ (sameN n) xs ys = ((xs.zip ys).map fun p => sameN n p.1 p.2).all id by rw [List.all_map]; rfl]
          exact cd_all
    cases b with
    | obj _ _ _ => cases hb
    | raw _ => cases hb
    | seq _ => cases hb
    | non =>
      cases a with
      | obj _ _ _ => cases ha
      | raw _ => cases ha
      | seq _ => cases ha
      | _ =>
        refine run_seq ?_
        apply run_ifT
        · walk_at "et"
        · rfl
        · apply run_ret1
          · walk_at "ev"
          · exact key _ rfl
    | list ys =>
      cases a with
      | obj _ _ _ => cases ha
      | raw _ => cases ha
      | seq _ => cases ha
      | non =>
        refine run_seq ?_
        apply run_ifT
        · walk_at "et"
        · rfl
        · apply run_ret1
          · walk_at "ev"
          · exact key _ rfl
      | list xs =>
        refine run_seq ?_
        apply run_ifF
        · walk_at "et"
        · rfl
        refine run_next (run_seq ?_)
        apply run_ifT
        · walk_at "et"
        · rfl
        refine run_seq ?_
        apply run_ifF
        · walk_at "et"
        · rfl
        exact run_next (run_ret1 (seq xs ys (.inl ⟨rfl, rfl⟩)) (key _ rfl))
      | _ =>
        refine run_seq ?_
        apply run_ifF
        · walk_at "et"
        · rfl
        refine run_next (run_seq ?_)
        apply run_ifT
        · walk_at "et"
        · rfl
        refine run_seq ?_
        apply run_ifT
        · walk_at "et"
        · rfl
        exact run_ret1 ev_cbl (key _ rfl)
    | tup ys =>
      cases a with
      | obj _ _ _ => cases ha
      | raw _ => cases ha
      | seq _ => cases ha
      | non =>
        refine run_seq ?_
        apply run_ifT
        · walk_at "et"
        · rfl
        · apply run_ret1
          · walk_at "ev"
          · exact key _ rfl
      | tup xs =>
        refine run_seq ?_
        apply run_ifF
        · walk_at "et"
        · rfl
        refine run_next (run_seq ?_)
        apply run_ifT
        · walk_at "et"
        · rfl
        refine run_seq ?_
        apply run_ifF
        · walk_at "et"
        · rfl
        exact run_next (run_ret1 (seq xs ys (.inr ⟨rfl, rfl⟩)) (key _ rfl))
      | _ =>
        refine run_seq ?_
        apply run_ifF
        · walk_at "et"
        · rfl
        refine run_next (run_seq ?_)
        apply run_ifT
        · walk_at "et"
        · rfl
        refine run_seq ?_
        apply run_ifT
        · walk_at "et"
        · rfl
        exact run_ret1 ev_cbl (key _ rfl)
    | _ =>
      cases a with
      | obj _ _ _ => cases ha
      | raw _ => cases ha
      | seq _ => cases ha
      | non =>
        refine run_seq ?_
        apply run_ifT
        · walk_at "et"
        · rfl
        · apply run_ret1
          · walk_at "ev"
          · exact key _ rfl
      | _ =>
        refine run_seq ?_
        apply run_ifF
        · walk_at "et"
        · rfl
        refine run_next (run_seq ?_)
        apply run_ifF
        · walk_at "et"
        · rfl
        refine run_next (run_seq ?_)
        first
        | (apply run_ifT
           · walk_at "et"
           · rfl
           exact run_ret1 ev_cbl (key _ rfl))
        | (apply run_ifF
           · walk_at "et"
           · rfl
           refine run_next ?_
           apply run_ret1
           · walk_at "ev"
           · exact key _ rfl)
end
end K1
namespace K1
open PySem L2 Rg RZ PyProof.Rows
local macro_rules | `(tactic| walk_at "ev") => `(tactic| first
  | with_reducible assumption
  | ((with_reducible apply ev_var); exact rfl)
  | with_reducible exact ev_cint
  | with_reducible exact ev_cbl
  | with_reducible exact ev_cnon
  | with_reducible exact ev_cstr
  | with_reducible exact ev_craw
  | ((with_reducible apply ev_tup1); walk_at "ea"; exact Nat.le_of_ble_eq_true rfl)
  | ((with_reducible apply ev_lst1); walk_at "ea"; exact Nat.le_of_ble_eq_true rfl)
  | ((with_reducible apply ev_op1); walk_at "ev"; walk_at "ev"; walk_at "od")
  | ((with_reducible apply ev_un1); walk_at "ev"; exact ud_neg)
  | ((with_reducible apply ev_isSeq); walk_at "ev"; walk_at "ea"; exact rfl; exact rfl)
  | ((with_reducible apply ev_cb1); walk_at "ea"; walk_at "cd")
  | ((with_reducible apply ev_chainB); walk_at "ev"; walk_at "ev"; walk_at "od"; walk_at "ev"; walk_at "od")
  | ((with_reducible apply ev_andF); walk_at "ev"; exact rfl)
  | ((with_reducible apply ev_andT); walk_at "ev"; exact rfl; walk_at "ev")
  | ((with_reducible apply ev_andB); walk_at "ev"; intro _; walk_at "ev")
  | ((with_reducible apply ev_orT); walk_at "ev"; exact rfl)
  | ((with_reducible apply ev_orF); walk_at "ev"; exact rfl; walk_at "ev")
  | ((with_reducible apply ev_orB); walk_at "ev"; intro _; walk_at "ev")
  | ((with_reducible apply ev_notV); walk_at "ev"))
local macro_rules | `(tactic| walk_at "et") => `(tactic| first
  | ((with_reducible apply et_B); walk_at "ev")
  | ((with_reducible apply et_test); walk_at "ev")
  | ((with_reducible apply et_not); walk_at "et")
  | ((with_reducible apply et_orT); walk_at "et"; exact rfl)
  | ((with_reducible apply et_orF); walk_at "et"; exact rfl; walk_at "et")
  | ((with_reducible apply et_or); walk_at "et"; intro _; walk_at "et")
  | ((with_reducible apply et_andF); walk_at "et"; exact rfl)
  | ((with_reducible apply et_andT); walk_at "et"; exact rfl; walk_at "et")
  | ((with_reducible apply et_and); walk_at "et"; intro _; walk_at "et"))
local macro_rules | `(tactic| walk_at "ea") => `(tactic| first
  | with_reducible exact ea_nil
  | ((with_reducible apply ea1); walk_at "ev"; walk_at "ea"))
local macro_rules | `(tactic| walk_at "od") => `(tactic| first
  | with_reducible exact od_addI
  | with_reducible exact od_subI
  | ((with_reducible apply od_addS); (try simp only [PySem.Str.length_append]); omega)
  | ((with_reducible apply od_catL); exact Nat.le_of_ble_eq_true rfl)
  | ((with_reducible apply od_modI); first | decide | omega)
  | ((with_reducible apply od_mulI); first | (exact Or.inr ⟨by decide, by decide⟩) | (exact Or.inl ⟨by decide, by decide⟩) | (exact Or.inl ⟨by omega, by omega⟩) | (exact Or.inr ⟨by omega, by omega⟩))
  | ((with_reducible apply od_divI); first | (exact ⟨by decide, by decide⟩) | (exact ⟨by omega, by omega⟩))
  | ((with_reducible apply od_powI); exact ⟨by decide, by decide, by decide⟩)
  | with_reducible exact od_leI
  | with_reducible exact od_ltI
  | with_reducible exact od_gtI
  | with_reducible exact od_geI
  | with_reducible exact od_eqI
  | with_reducible exact od_eqB
  | with_reducible exact od_neB
  | with_reducible exact od_neI
  | with_reducible exact od_eqS
  | with_reducible exact od_inS
  | ((with_reducible apply od_none); exact rfl)
  | ((with_reducible apply od_ix); exact rfl))
local macro_rules | `(tactic| walk_at "cd") => `(tactic| first
  | ((with_reducible apply cd_isStr); exact rfl)
  | ((with_reducible apply cd_isInt); exact rfl)
  | ((with_reducible apply cd_isBool); exact rfl)
  | ((with_reducible apply cd_isList); exact rfl)
  | ((with_reducible apply cd_isTuple); exact rfl)
  | ((with_reducible apply cd_isi); assumption)
  | ((with_reducible apply cd_len); assumption)
  | ((with_reducible apply cd_len); exact rfl)
  | with_reducible exact cd_intI
  | with_reducible exact cd_listof
  | with_reducible exact cd_all)
local macro_rules | `(tactic| walk_at "px") => `(tactic| first
  | ((with_reducible apply px_var); exact rfl)
  | with_reducible exact px_c
  | ((with_reducible apply px_op); walk_at "px"; walk_at "px"; walk_at "pr")
  | ((with_reducible apply px_cb); walk_at "pa"; walk_at "pr")
  | ((with_reducible apply px_test); walk_at "px")
  | ((with_reducible apply px_B); walk_at "px")
  | ((with_reducible apply px_and); walk_at "px"; walk_at "px"))
local macro_rules | `(tactic| walk_at "pa") => `(tactic| first
  | with_reducible exact px_nil
  | ((with_reducible apply px_cons); walk_at "px"; walk_at "pa"))
local macro_rules | `(tactic| walk_at "pr") => `(tactic| first
  | exact px_addI
  | (apply px_ix; assumption; exact rfl)
  | (apply px_ix; assumption; assumption)
  | exact px_eqI
  | exact fun Q q => ⟨_, _, rfl, rfl, q⟩
  | exact fun Q q => ⟨_, _, rfl, rfl, (Or.inr ⟨by decide, by decide⟩), q⟩
  | exact fun Q q => ⟨_, _, rfl, rfl, (Or.inl ⟨by omega, by omega⟩), q⟩
  | exact fun Q q => ⟨_, _, rfl, rfl, (Or.inr ⟨by omega, by omega⟩), q⟩
  | exact fun Q q => ⟨_, _, rfl, rfl, ⟨by decide, by decide⟩, q⟩
  | exact fun Q q => ⟨_, _, rfl, rfl, ⟨by omega, by omega⟩, q⟩
  | exact fun Q q => ⟨_, _, rfl, rfl, ⟨by decide, by decide, by decide⟩, q⟩
  | exact fun Q q => ⟨_, _, rfl, rfl, (by decide), q⟩
  | exact fun Q q => ⟨_, _, rfl, rfl, (by omega), q⟩
  | (apply px_len; assumption)
  | exact px_intI
  | exact px_abs)
section
variable {P : Program} {w : World} {K : PySem.W.Frag} {mg : Str → Option Value} {base : Heap}
theorem ok_draw (T : Tx K mg) : FnOk P w K mg base CX0 1 T.f__law_draw T.fd__law_draw ["_law_bag_here", "_law_many"] (spF K (preDraw K) postDraw) := by
  refine T.F__law_draw.ok sc_Ldraw (fun vs H Q E h => ?_) (fun cdv A outer s H vs Q E hr h => ?_)
  · obtain ⟨b, m, c, ns, i, r, mx, n, rfl, _⟩ := draw_of h
    rfl
  · obtain ⟨b, m, c, ns, i, r, mx, n, rfl, h0, h1, hb, hc, ne, hl, i0, r0, m0, m1, q⟩ := draw_of h
    refine ⟨_, (pss_cons (ps_asg (pe_op (q_add (K := K)) (pe_ix (q_ix (K := K)) (pv 0) pe_int (fun _ _ => rfl)) pe_int) (pg_sub (pv 0) pe_int set_list))
  (pss_cons (ps_if (PW.pt (pw_and (pt_cmpR op_eq (pe_ix (q_ix (K := K)) (pv 0) pe_int (fun _ _ => rfl)) pe_int (nomark _)) (pw_and1 (pt_cmpR op_lt (pe_ix (q_ix (K := K)) (pv 0) pe_int (fun _ _ => rfl)) (pe_callB (q_len (K := K)) (by rfl) T.b_len bt_len (pa_cons (pe_ix (q_ix (K := K)) (pv 0) pe_int (fun _ _ => rfl)) pa_nil)) (nomark _))))) (pss_cons (ps_set (i := 2) sc_Ldraw.nd rfl (Or.inl rfl) (pe_callB call_abs (by rfl) T.b_abs bt_abs (pa_cons (pe_ix (q_ix (K := K)) (pe_ix (q_ix (K := K)) (pv 0) pe_int (fun _ _ => rfl)) (pe_ix (q_ix (K := K)) (pv 0) pe_int (fun _ _ => rfl)) (fun _ _ => rfl)) pa_nil)))
    (pss_cons (ps_asg (pe_op (q_add (K := K)) (pe_ix (q_ix (K := K)) (pv 0) pe_int (fun _ _ => rfl)) pe_int) (pg_sub (pv 0) pe_int set_list))
    (pss_one (ps_if (pt_cmpR op_ge (pv 2) (pe_op op_pow pe_int pe_int) (nomark _)) (pss_one (ps_asg (pv 2) (pg_sub (pv 0) pe_int set_list))) (pss_one (ps_asg (pe_op op_modN (pe_callTy call_int1 (by rfl) T.b_int bt_int (pa_cons (pe_op (q_add (K := K)) (pe_op (q_add (K := K)) (pe_op op_mul (pe_ix (q_ix (K := K)) (pv 0) pe_int (fun _ _ => rfl)) pe_int) (pe_op op_mul (pe_op op_modN (pe_callTy call_int1 (by rfl) T.b_int bt_int (pa_cons (pv 2) pa_nil)) pe_int) pe_int)) pe_int) pa_nil)) pe_int) (pg_sub (pv 0) pe_int set_list))))))) pss_nil)
  (pss_cons (ps_if (pt_cmpR op_gt (pe_ix (q_ix (K := K)) (pv 0) pe_int (fun _ _ => rfl)) pe_int (nomark _)) (pss_cons (ps_set (i := 3) sc_Ldraw.nd rfl (Or.inl rfl) (pe_op op_modN (pe_callTy call_int1 (by rfl) T.b_int bt_int (pa_cons (pe_ix (q_ix (K := K)) (pv 0) pe_int (fun _ _ => rfl)) pa_nil)) (pv 1)))
    (pss_cons (ps_asg (pe_op op_fdivN (pe_ix (q_ix (K := K)) (pv 0) pe_int (fun _ _ => rfl)) (pv 1)) (pg_sub (pv 0) pe_int set_list))
    (pss_one (ps_ret (pv 3))))) pss_nil)
  (pss_cons (ps_set (i := 4) sc_Ldraw.nd rfl (Or.inl rfl) (pe_op op_modN (pe_callTy call_int1 (by rfl) T.b_int bt_int (pa_cons (pe_op (q_add (K := K)) (pe_op op_mul (pe_ix (q_ix (K := K)) (pv 0) pe_int (fun _ _ => rfl)) (pe_ix (q_ix (K := K)) (pv 0) pe_int (fun _ _ => rfl))) (pe_op op_mul (pe_ix (q_ix (K := K)) (pv 0) pe_int (fun _ _ => rfl)) pe_int)) pa_nil)) pe_int))
  (pss_cons (ps_asg (pe_op op_modN (pe_callTy call_int1 (by rfl) T.b_int bt_int (pa_cons (pe_op (q_add (K := K)) (pe_op (q_add (K := K)) (pe_op op_mul (pv 4) pe_int) (pe_op op_mul (pe_ix (q_ix (K := K)) (pv 0) pe_int (fun _ _ => rfl)) pe_int)) pe_int) pa_nil)) pe_int) (pg_sub (pv 0) pe_int set_list))
  (pss_one (ps_ret (pe_op op_modN (pe_callTy call_int1 (by rfl) T.b_int bt_int (pa_cons (pe_op (q_add (K := K)) (pe_op op_fdivN (pe_ix (q_ix (K := K)) (pv 0) pe_int (fun _ _ => rfl)) pe_int) (pe_op op_mul (pe_op op_modN (pe_callTy call_int1 (by rfl) T.b_int bt_int (pa_cons (pe_ix (q_ix (K := K)) (pv 0) pe_int (fun _ _ => rfl)) pa_nil)) pe_int) pe_int)) pa_nil)) (pv 1))))))))), ?_⟩
    rw [show L2.start n_Ldraw [V.ref b, V.int m] = [some (.ref b), some (.int m), none, none, none] from rfl]
    refine at_upd hb ?_
    have hb0 : upd H b (bagL c i r mx n) b = some (bagL c i r mx n) := upd_same
    refine st_bag (ys := [.ref c, .int i, .int r, .int mx, .int (n + 1)]) (v := .int (n + 1)) (k := 4) (j := 4) (by walk_at "px") (by walk_at "px") (by walk_at "px") rfl rfl ?_
    show tSeq ?fst ?rest ?Z _ _
    have tail : ∀ (x2 : Option V) (i r mx n : Int), 0 ≤ i → 0 ≤ r → 0 ≤ mx → mx < 2147483648 → ?rest ?Z [some (.ref b), some (.int m), x2, none, none] (upd H b (bagL c i r mx n)) := by
      intro x2 i r mx n i0 r0 m0 m1
      have hb1 : upd H b (bagL c i r mx n) b = some (bagL c i r mx n) := upd_same
      refine st_if (c := decide (0 < r)) (by walk_at "px") (fun e => ?_) (fun e => ?_)
      · have hr : 0 < r := of_decide_eq_true e
        refine st_set (v := .int (r.fmod m)) (by walk_at "px") ?_
        refine st_bag (ys := [.ref c, .int i, .int (r.fdiv m), .int mx, .int n]) (v := .int (r.fdiv m)) (k := 2) (j := 2) (by walk_at "px") (by walk_at "px") (by walk_at "px") rfl rfl ?_
        refine st_ret (v := .int (r.fmod m)) (by walk_at "px") ?_
        exact q _ i _ mx n (fmod_bd h0).1 (fmod_bd h0).2 i0 (fdiv_nn r0 h0) m0 m1
      · refine st_next ?_
        dsimp only
        refine st_setE (φ := fun _ => True) ⟨_, by walk_at "px", trivial⟩ fun sd _ => ?_
        refine st_bagE (k := 3) (j := 3) (φ := fun k => 0 ≤ k ∧ k < 2147483648) (f := fun k => [.ref c, .int i, .int r, .int k, .int n]) ⟨_, by walk_at "px", fmod_lt (by decide) (by decide)⟩ (by walk_at "px") (by walk_at "px") rfl (fun _ => rfl) fun mx2 hm => ?_
        have hm0 := hm.1
        have hm1 := hm.2
        have hb2 : upd H b (bagL c i r mx2 n) b = some (bagL c i r mx2 n) := upd_same
        refine st_retE (φ := fun k => 0 ≤ k ∧ k < m) ⟨_, by walk_at "px", fmod_lt h0 (Int.le_refl m)⟩ fun d hd => ?_
        exact q d i r mx2 n hd.1 hd.2 i0 r0 hm.1 hm.2
    have hb1 : upd H b (bagL c i r mx (n + 1)) b = some (bagL c i r mx (n + 1)) := upd_same
    have hc1 : upd H b (bagL c i r mx (n + 1)) c = some (HO.lst (List.map V.int ns)) := by rw [upd_ne ne]; exact hc
    refine st_if (c := decide (r = 0) && decide (i < (ns.length : Int))) ?_ (fun e => ?_) (fun e => ?_)
    · rw [show (ns.length : Int) = ((ns.map V.int).length : Nat) by rw [List.length_map]]
      walk_at "px"
    · have e2 : r = 0 ∧ i < (ns.length : Int) := by simpa using e
      have hi : (ns.map V.int)[i.toNat]? = some (.int (ns.getD i.toNat 0)) := by
        rw [List.getElem?_map, List.getElem?_eq_getElem (show i.toNat < ns.length by omega), List.getD_eq_getElem?_getD, List.getElem?_eq_getElem (show i.toNat < ns.length by omega)]
        rfl
      have ha : atI (ns.map V.int) i = some (.int (ns.getD i.toNat 0)) := by
        unfold atI ixN
        rw [List.length_map, if_pos i0, if_pos e2.2]
        exact hi
      generalize ns.getD i.toNat 0 = cell at ha
      refine st_setE (φ := fun k => 0 ≤ k) ⟨_, by walk_at "px", ?_⟩ fun ac hac => ?_
      · split <;> omega
      refine st_bag (ys := [.ref c, .int (i + 1), .int r, .int mx, .int (n + 1)]) (v := .int (i + 1)) (k := 1) (j := 1) (by walk_at "px") (by walk_at "px") (by walk_at "px") rfl rfl ?_
      have hb2 : upd H b (bagL c (i + 1) r mx (n + 1)) b = some (bagL c (i + 1) r mx (n + 1)) := upd_same
      refine st_if (c := decide ((10 : Int) ^ (18 : Int).toNat ≤ ac)) (by walk_at "px") (fun e => ?_) (fun e => ?_)
      · refine st_bagN (ys := [.ref c, .int (i + 1), .int ac, .int mx, .int (n + 1)]) (v := .int ac) (k := 2) (j := 2) (by walk_at "px") (by walk_at "px") (by walk_at "px") rfl rfl ?_
        exact tail _ (i + 1) ac mx (n + 1) (by omega) hac m0 m1
      · refine st_bagNE (k := 3) (j := 3) (φ := fun k => 0 ≤ k ∧ k < 2147483648) (f := fun k => [.ref c, .int (i + 1), .int r, .int k, .int (n + 1)]) ⟨_, by walk_at "px", fmod_lt (by decide) (by decide)⟩ (by walk_at "px") (by walk_at "px") rfl (fun _ => rfl) fun mx2 hm => ?_
        exact tail _ (i + 1) r mx2 (n + 1) (by omega) r0 hm.1 hm.2
    · exact tail none i r mx (n + 1) i0 r0 m0 m1
end
end K1
namespace K1
open PySem L2 Rg RZ PyProof.Rows
local macro_rules | `(tactic| walk_at "ev") => `(tactic| first
  | with_reducible assumption
  | ((with_reducible apply ev_var); exact rfl)
  | with_reducible exact ev_cint
  | with_reducible exact ev_cbl
  | with_reducible exact ev_cnon
  | with_reducible exact ev_cstr
  | with_reducible exact ev_craw
  | ((with_reducible apply ev_tup1); walk_at "ea"; exact Nat.le_of_ble_eq_true rfl)
  | ((with_reducible apply ev_lst1); walk_at "ea"; exact Nat.le_of_ble_eq_true rfl)
  | ((with_reducible apply ev_op1); walk_at "ev"; walk_at "ev"; walk_at "od")
  | ((with_reducible apply ev_un1); walk_at "ev"; exact ud_neg)
  | ((with_reducible apply ev_isSeq); walk_at "ev"; walk_at "ea"; exact rfl; exact rfl)
  | ((with_reducible apply ev_cb1); walk_at "ea"; walk_at "cd")
  | ((with_reducible apply ev_chainB); walk_at "ev"; walk_at "ev"; walk_at "od"; walk_at "ev"; walk_at "od")
  | ((with_reducible apply ev_andF); walk_at "ev"; exact rfl)
  | ((with_reducible apply ev_andT); walk_at "ev"; exact rfl; walk_at "ev")
  | ((with_reducible apply ev_andB); walk_at "ev"; intro _; walk_at "ev")
  | ((with_reducible apply ev_orT); walk_at "ev"; exact rfl)
  | ((with_reducible apply ev_orF); walk_at "ev"; exact rfl; walk_at "ev")
  | ((with_reducible apply ev_orB); walk_at "ev"; intro _; walk_at "ev")
  | ((with_reducible apply ev_notV); walk_at "ev"))
local macro_rules | `(tactic| walk_at "et") => `(tactic| first
  | ((with_reducible apply et_B); walk_at "ev")
  | ((with_reducible apply et_test); walk_at "ev")
  | ((with_reducible apply et_not); walk_at "et")
  | ((with_reducible apply et_orT); walk_at "et"; exact rfl)
  | ((with_reducible apply et_orF); walk_at "et"; exact rfl; walk_at "et")
  | ((with_reducible apply et_or); walk_at "et"; intro _; walk_at "et")
  | ((with_reducible apply et_andF); walk_at "et"; exact rfl)
  | ((with_reducible apply et_andT); walk_at "et"; exact rfl; walk_at "et")
  | ((with_reducible apply et_and); walk_at "et"; intro _; walk_at "et"))
local macro_rules | `(tactic| walk_at "ea") => `(tactic| first
  | with_reducible exact ea_nil
  | ((with_reducible apply ea1); walk_at "ev"; walk_at "ea"))
local macro_rules | `(tactic| walk_at "od") => `(tactic| first
  | with_reducible exact od_addI
  | with_reducible exact od_subI
  | ((with_reducible apply od_addS); (try simp only [PySem.Str.length_append]); omega)
  | ((with_reducible apply od_catL); exact Nat.le_of_ble_eq_true rfl)
  | ((with_reducible apply od_modI); first | decide | omega)
  | ((with_reducible apply od_mulI); first | (exact Or.inr ⟨by decide, by decide⟩) | (exact Or.inl ⟨by decide, by decide⟩) | (exact Or.inl ⟨by omega, by omega⟩) | (exact Or.inr ⟨by omega, by omega⟩))
  | ((with_reducible apply od_divI); first | (exact ⟨by decide, by decide⟩) | (exact ⟨by omega, by omega⟩))
  | ((with_reducible apply od_powI); exact ⟨by decide, by decide, by decide⟩)
  | with_reducible exact od_leI
  | with_reducible exact od_ltI
  | with_reducible exact od_gtI
  | with_reducible exact od_geI
  | with_reducible exact od_eqI
  | with_reducible exact od_eqB
  | with_reducible exact od_neB
  | with_reducible exact od_neI
  | with_reducible exact od_eqS
  | with_reducible exact od_inS
  | ((with_reducible apply od_none); exact rfl)
  | ((with_reducible apply od_ix); exact rfl))
local macro_rules | `(tactic| walk_at "cd") => `(tactic| first
  | ((with_reducible apply cd_isStr); exact rfl)
  | ((with_reducible apply cd_isInt); exact rfl)
  | ((with_reducible apply cd_isBool); exact rfl)
  | ((with_reducible apply cd_isList); exact rfl)
  | ((with_reducible apply cd_isTuple); exact rfl)
  | ((with_reducible apply cd_isi); assumption)
  | ((with_reducible apply cd_len); assumption)
  | ((with_reducible apply cd_len); exact rfl)
  | with_reducible exact cd_intI
  | with_reducible exact cd_listof
  | with_reducible exact cd_all)
local macro_rules | `(tactic| walk_at "px") => `(tactic| first
  | ((with_reducible apply px_var); exact rfl)
  | with_reducible exact px_c
  | ((with_reducible apply px_op); walk_at "px"; walk_at "px"; walk_at "pr")
  | ((with_reducible apply px_cb); walk_at "pa"; walk_at "pr")
  | ((with_reducible apply px_test); walk_at "px")
  | ((with_reducible apply px_B); walk_at "px")
  | ((with_reducible apply px_and); walk_at "px"; walk_at "px"))
local macro_rules | `(tactic| walk_at "pa") => `(tactic| first
  | with_reducible exact px_nil
  | ((with_reducible apply px_cons); walk_at "px"; walk_at "pa"))
local macro_rules | `(tactic| walk_at "pr") => `(tactic| first
  | exact px_addI
  | (apply px_ix; assumption; exact rfl)
  | (apply px_ix; assumption; assumption)
  | exact px_eqI
  | exact fun Q q => ⟨_, _, rfl, rfl, q⟩
  | exact fun Q q => ⟨_, _, rfl, rfl, (Or.inr ⟨by decide, by decide⟩), q⟩
  | exact fun Q q => ⟨_, _, rfl, rfl, (Or.inl ⟨by omega, by omega⟩), q⟩
  | exact fun Q q => ⟨_, _, rfl, rfl, (Or.inr ⟨by omega, by omega⟩), q⟩
  | exact fun Q q => ⟨_, _, rfl, rfl, ⟨by decide, by decide⟩, q⟩
  | exact fun Q q => ⟨_, _, rfl, rfl, ⟨by omega, by omega⟩, q⟩
  | exact fun Q q => ⟨_, _, rfl, rfl, ⟨by decide, by decide, by decide⟩, q⟩
  | exact fun Q q => ⟨_, _, rfl, rfl, (by decide), q⟩
  | exact fun Q q => ⟨_, _, rfl, rfl, (by omega), q⟩
  | (apply px_len; assumption)
  | exact px_intI
  | exact px_abs)
def spBag (K : PySem.W.Frag) : Sp := fun vs H Q _ => ∃ (a : Addr) (ns : List Int), vs = [.ref a] ∧ SqL K H a (ns.map V.int) ∧ ns.length ≤ 63 ∧ ∀ b G' H', Wd [(b, IsBag K)] G' H' → Q (.ref b) H'
/-- what stands for ever may change again, where nothing else is told -/
theorem thaw {G H : Hp} {p : Addr} {o : HO} {φ : Hp → HO → Prop} (w : Wd [] G H) (e : G p = some o) (f : φ (fun a => if a = p then none else G a) o) (mo : ∀ G1 G2 o, Same G1 G2 → φ G1 o → φ G2 o) : Wd [(p, φ)] (fun a => if a = p then none else G a) H := by
  refine ⟨fun a u h => ?_, fun m hm => ?_, fun m hm => ?_, by simp⟩
  · replace h : (if a = p then none else G a) = some u := h
    split at h
    · cases h
    · exact w.sub a u h
  · simp only [List.mem_singleton] at hm
    subst hm
    exact ⟨if_pos rfl, o, w.sub _ _ e, f⟩
  · simp only [List.mem_singleton] at hm
    subst hm
    exact mo
theorem RpAll.ints_of {K : PySem.W.Frag} {G : Hp} {vs : List V} : ∀ {ds : List D} {ns : List Int}, RpAll K G vs ds → ds = ns.map D.int → vs = ns.map V.int := fun r e => by subst e; exact r.int_inv
theorem cutD_ints (ns : List Int) (h : ns.length ≤ 63) : Rg.cutD (ns.map D.int) none (some 63) = ns.map D.int := by
  unfold Rg.cutD
  rw [HT.sIx_none, List.drop_zero, List.length_map]
  apply List.take_of_length_le
  rw [List.length_map]
  have : HT.sIx ns.length ns.length (some 63) = min 63 ns.length := HT.sIx_nat ns.length ns.length 63
  omega
section
variable {P : Program} {w : World} {K : PySem.W.Frag} {mg : Str → Option Value} {base : Heap}
theorem ok_bag (T : Tx K mg) : FnOk P w K mg base CX0 1 T.f__law_bag T.fd__law_bag ["_law_script"] (spBag K) := by
  refine T.F__law_bag.ok sc_Lbag (fun vs H Q E h => ?_) (fun cdv A outer s H vs Q E hr h => ?_)
  · obtain ⟨a, ns, rfl, _⟩ := h
    rfl
  · obtain ⟨a, ns, rfl, hS, hl, q⟩ := h
    refine ⟨_, (pss_cons (ps_set (i := 1) sc_Lbag.nd rfl (Or.inl rfl) pe_int)
  (pss_cons (ps_for PassesOwn.never rfl (q_itany (K := K) (pe_slice (q_sl (K := K)) (pv 0) po_none (po_some pe_int))) (pg_name (i := 2) sc_Lbag.nd rfl (Or.inl rfl))
    (pss_one (ps_set (i := 1) sc_Lbag.nd rfl (Or.inl rfl) (pe_op op_modN (pe_callTy call_int1 (by rfl) T.b_int bt_int (pa_cons (pe_op (q_add (K := K)) (pe_op (q_add (K := K)) (pe_op op_mul (pv 1) pe_int) (pe_op op_mul (pe_op op_modN (pe_callTy call_int1 (by rfl) T.b_int bt_int (pa_cons (pv 2) pa_nil)) pe_int) pe_int)) pe_int) pa_nil)) pe_int))))
  (pss_one (ps_ret (pe_lst (pa_cons (pe_callTy (q_listof (K := K)) (by rfl) T.b_list bt_list (pa_cons (pe_slice (q_sl (K := K)) (pv 0) po_none (po_some pe_int)) pa_nil)) (pa_cons pe_int (pa_cons pe_int (pa_cons (pv 1) (pa_cons pe_int pa_nil)))))))))), ?_⟩
    rw [show L2.start n_Lbag [V.ref a] = [some (.ref a), none, none] from rfl]
    have sg : Sg K H [some (.ref a), none, none] [some (.seq (ns.map D.int)), none, none] := ⟨rfl, fun i d e => by
      match i, e with
      | 0, e => cases e; exact ⟨.ref a, rfl, .seq hS (RpAll.ints ns)⟩
      | 1, e => cases e
      | 2, e => cases e⟩
    have wd : Wd [] H H := ⟨Same.refl H, fun p hp => (by cases hp), fun p hp => (by cases hp), by simp⟩
    refine run_at (K := K) (E := { nx := fun _ => False, rt := fun d => ∃ m : Int, 0 ≤ m ∧ m < 2147483648 ∧ d = .list [.list (ns.map D.int), .int 0, .int 0, .int m, .int 0] }) ?_ sg wd ⟨fun _ _ _ _ e => e.elim, fun v d G' H' ⟨m, m0, m1, e⟩ s' r' w' => ?_, fun _ _ _ _ e => e.elim, fun _ _ _ _ e => e.elim⟩
    · have hcut : ∀ ds : DS, ds[0]? = some (some (.seq (ns.map D.int))) → Ev K [] ds (tSl (rSlU K) (tVar 0) tNoPart (tPart (tC (V.int 63)))) (· = .list (ns.map D.int)) := fun ds h => by
        have e2 := ev_slQ (K := K) (M := []) (ev_var h) eo_none (eo_some (i := 63) ev_cint)
        rw [cutD_ints ns hl] at e2
        exact e2
      refine run_asg1 ev_cint ?_
      refine run_seq (run_for (ei_any (hcut _ rfl) rfl) fun es he => ?_)
      subst he
      refine ⟨fun _ ds => ∃ (m : Int) (x : Option D), 0 ≤ m ∧ m < 2147483648 ∧ ds = [some (.seq (ns.map D.int)), some (.int m), x], ⟨_, none, by decide, by decide, rfl⟩, fun i d ds' hd ⟨m, x, m0, m1, e⟩ => ?_, fun ds' ⟨m, x, m0, m1, e⟩ => ?_⟩
      · subst e
        rw [List.getElem?_map] at hd
        cases hn : ns[i]? with
        | none => rw [hn] at hd; cases hd
        | some n =>
          rw [hn] at hd
          cases hd
          refine eg_name ?_
          refine run_asgN (ev_intP (φ := fun k => 0 ≤ k ∧ k < 2147483648) ⟨_, by walk_at "ev", fmod_lt (by decide) (by decide)⟩) fun d ⟨m', hm, e⟩ => ⟨m', some (.int n), hm.1, hm.2, by rw [e]; rfl⟩
      · subst e
        have hc := hcut [some (.seq (ns.map D.int)), some (.int m), x] rfl
        apply run_ret1
        · walk_at "ev"
        · exact ⟨m, m0, m1, rfl⟩
    · subst e
      obtain ⟨b, us, rfl, hb, ru⟩ := r'.list_ex
      cases ru with
      | cons p1 ru =>
        cases ru with
        | cons p2 ru =>
          cases ru with
          | cons p3 ru =>
            cases ru with
            | cons p4 ru =>
              cases ru with
              | cons p5 ru =>
                cases ru
                cases p2; cases p3; cases p4; cases p5
                obtain ⟨c, ws, rfl, hc, rc⟩ := p1.list_ex
                have ew := rc.int_inv
                subst ew
                refine q b _ H' (thaw w' hb ⟨c, ns, 0, 0, m, 0, rfl, ?_, hl, Int.le_refl 0, Int.le_refl 0, m0, m1⟩ IsBag.mono)
                have ne : c ≠ b := fun e => by
                  rw [e, hb] at hc
                  cases ns <;> cases hc
                exact (if_neg ne).trans hc
theorem B_draw (T : Tx K mg) : Binds K T.fd__law_draw ["_law_bag_here", "_law_many"] [] := T.F__law_draw.binds fun _ _ _ _ _ _ us hl => match us, hl with | [_, _], _ => rfl
theorem ok_of (T : Tx K mg) : FnOk P w K mg base CX0 2 T.f__law_of T.fd__law_of ["_law_bag_here", "_law_some"] (spF K (preOf K) postOf) := by
  have G_Ldraw := ok_draw (P := P) (w := w) (base := base) T
  have B_Ldraw := B_draw T
  refine fn_run T.F__law_of sc_Lof (fun M as ⟨_, _, _, e, _⟩ => by rw [e]; rfl) (fun cdv A outer s H E hr => ⟨_, (pss_one (ps_ret (pe_ix (q_ix (K := K)) (pv 1) (pe_call G_Ldraw (hr.mono (by decide)) (by rfl) T.m__law_draw T.F__law_draw.kp B_Ldraw .nil pass0 (pa_cons (pv 0) (pa_cons (pe_callB (q_len (K := K)) (by rfl) T.b_len bt_len (pa_cons (pv 1) pa_nil)) pa_nil))) (fun _ _ => rfl)))), fun M as ⟨b, d, es, e, hm, h, hl, hq, h0, h1⟩ => ?_⟩)
  subst e
  exact run_of_body hm h hl hq h0 h1 fun e he b' d' es' e1 e2 => by
    cases e1
    rw [h] at e2
    cases e2
    exact he
end
end K1
namespace K1
open PySem L2 Rg RZ PyProof.Rows
local macro_rules | `(tactic| walk_at "ev") => `(tactic| first
  | with_reducible assumption
  | ((with_reducible apply ev_var); exact rfl)
  | with_reducible exact ev_cint
  | with_reducible exact ev_cbl
  | with_reducible exact ev_cnon
  | with_reducible exact ev_cstr
  | with_reducible exact ev_craw
  | ((with_reducible apply ev_tup1); walk_at "ea"; exact Nat.le_of_ble_eq_true rfl)
  | ((with_reducible apply ev_lst1); walk_at "ea"; exact Nat.le_of_ble_eq_true rfl)
  | ((with_reducible apply ev_op1); walk_at "ev"; walk_at "ev"; walk_at "od")
  | ((with_reducible apply ev_un1); walk_at "ev"; exact ud_neg)
  | ((with_reducible apply ev_isSeq); walk_at "ev"; walk_at "ea"; exact rfl; exact rfl)
  | ((with_reducible apply ev_cb1); walk_at "ea"; walk_at "cd")
  | ((with_reducible apply ev_chainB); walk_at "ev"; walk_at "ev"; walk_at "od"; walk_at "ev"; walk_at "od")
  | ((with_reducible apply ev_andF); walk_at "ev"; exact rfl)
  | ((with_reducible apply ev_andT); walk_at "ev"; exact rfl; walk_at "ev")
  | ((with_reducible apply ev_andB); walk_at "ev"; intro _; walk_at "ev")
  | ((with_reducible apply ev_orT); walk_at "ev"; exact rfl)
  | ((with_reducible apply ev_orF); walk_at "ev"; exact rfl; walk_at "ev")
  | ((with_reducible apply ev_orB); walk_at "ev"; intro _; walk_at "ev")
  | ((with_reducible apply ev_notV); walk_at "ev"))
local macro_rules | `(tactic| walk_at "et") => `(tactic| first
  | ((with_reducible apply et_B); walk_at "ev")
  | ((with_reducible apply et_test); walk_at "ev")
  | ((with_reducible apply et_not); walk_at "et")
  | ((with_reducible apply et_orT); walk_at "et"; exact rfl)
  | ((with_reducible apply et_orF); walk_at "et"; exact rfl; walk_at "et")
  | ((with_reducible apply et_or); walk_at "et"; intro _; walk_at "et")
  | ((with_reducible apply et_andF); walk_at "et"; exact rfl)
  | ((with_reducible apply et_andT); walk_at "et"; exact rfl; walk_at "et")
  | ((with_reducible apply et_and); walk_at "et"; intro _; walk_at "et"))
local macro_rules | `(tactic| walk_at "ea") => `(tactic| first
  | with_reducible exact ea_nil
  | ((with_reducible apply ea1); walk_at "ev"; walk_at "ea"))
local macro_rules | `(tactic| walk_at "od") => `(tactic| first
  | with_reducible exact od_addI
  | with_reducible exact od_subI
  | ((with_reducible apply od_addS); (try simp only [PySem.Str.length_append]); omega)
  | ((with_reducible apply od_catL); exact Nat.le_of_ble_eq_true rfl)
  | ((with_reducible apply od_modI); first | decide | omega)
  | ((with_reducible apply od_mulI); first | (exact Or.inr ⟨by decide, by decide⟩) | (exact Or.inl ⟨by decide, by decide⟩) | (exact Or.inl ⟨by omega, by omega⟩) | (exact Or.inr ⟨by omega, by omega⟩))
  | ((with_reducible apply od_divI); first | (exact ⟨by decide, by decide⟩) | (exact ⟨by omega, by omega⟩))
  | ((with_reducible apply od_powI); exact ⟨by decide, by decide, by decide⟩)
  | with_reducible exact od_leI
  | with_reducible exact od_ltI
  | with_reducible exact od_gtI
  | with_reducible exact od_geI
  | with_reducible exact od_eqI
  | with_reducible exact od_eqB
  | with_reducible exact od_neB
  | with_reducible exact od_neI
  | with_reducible exact od_eqS
  | with_reducible exact od_inS
  | ((with_reducible apply od_none); exact rfl)
  | ((with_reducible apply od_ix); exact rfl))
local macro_rules | `(tactic| walk_at "cd") => `(tactic| first
  | ((with_reducible apply cd_isStr); exact rfl)
  | ((with_reducible apply cd_isInt); exact rfl)
  | ((with_reducible apply cd_isBool); exact rfl)
  | ((with_reducible apply cd_isList); exact rfl)
  | ((with_reducible apply cd_isTuple); exact rfl)
  | ((with_reducible apply cd_isi); assumption)
  | ((with_reducible apply cd_len); assumption)
  | ((with_reducible apply cd_len); exact rfl)
  | with_reducible exact cd_intI
  | with_reducible exact cd_listof
  | with_reducible exact cd_all)
local macro_rules | `(tactic| walk_at "px") => `(tactic| first
  | ((with_reducible apply px_var); exact rfl)
  | with_reducible exact px_c
  | ((with_reducible apply px_op); walk_at "px"; walk_at "px"; walk_at "pr")
  | ((with_reducible apply px_cb); walk_at "pa"; walk_at "pr")
  | ((with_reducible apply px_test); walk_at "px")
  | ((with_reducible apply px_B); walk_at "px")
  | ((with_reducible apply px_and); walk_at "px"; walk_at "px"))
local macro_rules | `(tactic| walk_at "pa") => `(tactic| first
  | with_reducible exact px_nil
  | ((with_reducible apply px_cons); walk_at "px"; walk_at "pa"))
local macro_rules | `(tactic| walk_at "pr") => `(tactic| first
  | exact px_addI
  | (apply px_ix; assumption; exact rfl)
  | (apply px_ix; assumption; assumption)
  | exact px_eqI
  | exact fun Q q => ⟨_, _, rfl, rfl, q⟩
  | exact fun Q q => ⟨_, _, rfl, rfl, (Or.inr ⟨by decide, by decide⟩), q⟩
  | exact fun Q q => ⟨_, _, rfl, rfl, (Or.inl ⟨by omega, by omega⟩), q⟩
  | exact fun Q q => ⟨_, _, rfl, rfl, (Or.inr ⟨by omega, by omega⟩), q⟩
  | exact fun Q q => ⟨_, _, rfl, rfl, ⟨by decide, by decide⟩, q⟩
  | exact fun Q q => ⟨_, _, rfl, rfl, ⟨by omega, by omega⟩, q⟩
  | exact fun Q q => ⟨_, _, rfl, rfl, ⟨by decide, by decide, by decide⟩, q⟩
  | exact fun Q q => ⟨_, _, rfl, rfl, (by decide), q⟩
  | exact fun Q q => ⟨_, _, rfl, rfl, (by omega), q⟩
  | (apply px_len; assumption)
  | exact px_intI
  | exact px_abs)
section
variable {P : Program} {w : World} {K : PySem.W.Frag} {mg : Str → Option Value} {base : Heap}
def strangeL : List D := [.non, .bl true, .bl false, .str "3", .str "", .list [.int 3], .str "a", .list [.str "a", .str "b"], .list [.tup [.str "a", .int 0]]]
def preB (K : PySem.W.Frag) (M : Mt) (as : List D) : Prop := ∃ b, as = [.raw (.ref b)] ∧ (b, IsBag K) ∈ M
def postStr (_ : List D) (r : D) : Prop := r ∈ strangeL
theorem B_of (T : Tx K mg) : Binds K T.fd__law_of ["_law_bag_here", "_law_some"] [] := T.F__law_of.binds fun _ _ _ _ _ _ us hl => match us, hl with | [_, _], _ => rfl
theorem B_strange (T : Tx K mg) : Binds K T.fd__law_strange ["_law_bag_here"] [] := T.F__law_strange.binds fun _ _ _ _ _ _ us hl => match us, hl with | [_], _ => rfl
theorem B_same (T : Tx K mg) : Binds K T.fd__law_same ["_law_found", "_law_due"] [] := T.F__law_same.binds fun _ _ _ _ _ _ us hl => match us, hl with | [_, _], _ => rfl
theorem B_isend (T : Tx K mg) : Binds K T.fd_is_end ["value"] [] := T.F_is_end.binds fun _ _ _ _ _ _ us hl => match us, hl with | [_], _ => rfl
theorem B_isentry (T : Tx K mg) : Binds K T.fd_is_entry ["value"] [] := T.F_is_entry.binds fun _ _ _ _ _ _ us hl => match us, hl with | [_], _ => rfl
theorem KB_isname (T : Tx K mg) : KBinds K T.fd_is_name ["value"] ["value"] kg1 kg1 := kb1 T.F_is_name fun _ _ _ _ _ _ _ => rfl
theorem KB_isend (T : Tx K mg) : KBinds K T.fd_is_end ["value"] ["value"] kg1 kg1 := kb1 T.F_is_end fun _ _ _ _ _ _ _ => rfl
theorem KB_isentry (T : Tx K mg) : KBinds K T.fd_is_entry ["value"] ["value"] kg1 kg1 := kb1 T.F_is_entry fun _ _ _ _ _ _ _ => rfl
theorem KB_isnumber (T : Tx K mg) : KBinds K T.fd_is_number ["value", "least", "most"] ["most", "least", "value"] kg3r kg3r := kb3r T.F_is_number fun _ _ _ _ _ _ _ _ _ => rfl
theorem ok_strange (T : Tx K mg) : FnOk P w K mg base CX0 3 T.f__law_strange T.fd__law_strange ["_law_bag_here"] (spF K (preB K) postStr) := by
  have G_Lof := ok_of (P := P) (w := w) (base := base) T
  have B_Lof := B_of T
  refine fn_run T.F__law_strange sc_Lstrange (fun M as ⟨_, e, _⟩ => by rw [e]; rfl) (fun cdv A outer s H E hr => ⟨_, (pss_one (ps_ret (pe_call G_Lof (hr.mono (by decide)) (by rfl) T.m__law_of T.F__law_of.kp B_Lof .nil pass0 (pa_cons (pv 0) (pa_cons (pe_lst (pa_cons pe_non (pa_cons pe_bl (pa_cons pe_bl (pa_cons pe_str (pa_cons pe_str (pa_cons (pe_lst (pa_cons pe_int pa_nil)) (pa_cons pe_str (pa_cons (pe_lst (pa_cons pe_str (pa_cons pe_str pa_nil))) (pa_cons (pe_lst (pa_cons (pe_tup (pa_cons pe_str (pa_cons pe_int pa_nil))) pa_nil)) pa_nil)))))))))) pa_nil))))), fun M as ⟨b, e, hm⟩ => ?_⟩)
  subst e
  show Rg.Run K M [some (.raw (.ref b))] _ _
  refine run_ret (Ev.weak (ev_of (es := strangeL) (ev_var rfl) (by walk_at "ev") hm rfl rfl) fun d h => h)
/-- same of what is the same -/
theorem ev_same {M : Mt} {ds : DS} {ta tb : TE} {E : XK} {d : D} {R : D → Prop} (ha : Ev K M ds ta (· = d)) (hb : Ev K M ds tb (· = d)) (hd : okN 3 d = true) : Ev K M ds (tCall (spF K (preSame 3) (postSame 3)) [] E (tCons ta (tCons tb tNil))) (· = .bl true) :=
  (ev_call1 (ea1 ha (ea1 hb ea_nil)) fun _ _ => ⟨d, d, rfl, hd, hd⟩).weak fun r q => by rw [q d d rfl, sameN_refl 3 d hd]
/-- a word of letters, and one that is none -/
structure Wrd (wd bt : Str) : Prop where
  len : wd.length ≤ 100
  lenb : bt.length ≤ 200
  all : wd.cps.toList.all (fun c => decide (c ∈ lets.cps.toList)) = true
  bent : isNameS bt = false
def preSo (K : PySem.W.Frag) (M : Mt) (as : List D) : Prop := ∃ b wd bt, as = [.raw (.ref b), .str wd, .str bt] ∧ (b, IsBag K) ∈ M ∧ Wrd wd bt
def postTrue (_ : List D) (r : D) : Prop := r = .bl true
def gates : List D := [.str "a", .str "b", .str "c", .str "d", .str "left", .str "right", .str "stem"]
theorem gates_mem {gd : D} (h : gd ∈ gates) : ∃ g : Str, gd = .str g ∧ g.length ≤ 5 ∧ inV (.str g) sidesV = true ∧ inV (.str (g ++ g)) sidesV = false := by
  simp only [gates, List.mem_cons, List.not_mem_nil, or_false] at h
  rcases h with h | h | h | h | h | h | h <;> exact ⟨_, h, by decide +kernel, by decide +kernel, by decide +kernel⟩
def rightOf (wd : Str) : Bool := decide (1 ≤ (wd.length : Int)) && decide ((wd.length : Int) ≤ 6)
theorem Wrd.name {wd bt : Str} (W : Wrd wd bt) : isNameS wd = rightOf wd := by
  unfold isNameS rightOf
  rw [W.all, Bool.and_true]
/-- a call of one value that is told by a word -/
theorem ev_one {M : Mt} {ds : DS} {ta : TE} {E : XK} {pre : Mt → List D → Prop} {post : List D → D → Prop} {Rx R : D → Prop} (h : Ev K M ds ta Rx) (hx : ∀ x, Rx x → (∀ M', MSub M M' → pre M' [x]) ∧ ∀ r, post [x] r → R r) : Ev K M ds (tCall (spF K pre post) [] E (tCons ta tNil)) R :=
  ev_call (ea_cons h ea_nil) fun as ⟨a, r, e, ha, hr⟩ => by
    subst hr; subst e
    exact hx a ha
theorem ev_end {M : Mt} {ds : DS} {ta : TE} {E : XK} {Rx : D → Prop} {v : Bool} (h : Ev K M ds ta Rx) (hx : ∀ x, Rx x → okE x = true ∧ isEndD x = v) : Ev K M ds (tCall (spF K preEnd postEnd) [] E (tCons ta tNil)) (· = .bl v) :=
  ev_one h fun x hr => ⟨fun _ _ => ⟨x, rfl, (hx x hr).1⟩, fun r q => by rw [q x rfl, (hx x hr).2]⟩
theorem ev_endK {M : Mt} {ds : DS} {ta : TE} {E : XK} {d : D} (h : Ev K M ds ta (· = d)) (hd : okE d = true) : Ev K M ds (tCallK (spF K preEnd postEnd) kg1 E tNil (tCons ta tNil)) (· = .bl (isEndD d)) :=
  (ev_kw1 (ea1 h ea_nil) fun _ _ => ⟨d, rfl, hd⟩).weak fun r q => q d rfl
theorem ev_entry {M : Mt} {ds : DS} {ta : TE} {E : XK} {Rx : D → Prop} {v : Bool} (h : Ev K M ds ta Rx) (hx : ∀ x, Rx x → okE x = true ∧ isEntD x = v) : Ev K M ds (tCall (spF K preEnd postEnt) [] E (tCons ta tNil)) (· = .bl v) :=
  ev_one h fun x hr => ⟨fun _ _ => ⟨x, rfl, (hx x hr).1⟩, fun r q => by rw [q x rfl, (hx x hr).2]⟩
theorem ev_entryK {M : Mt} {ds : DS} {ta : TE} {E : XK} {d : D} (h : Ev K M ds ta (· = d)) (hd : okE d = true) : Ev K M ds (tCallK (spF K preEnd postEnt) kg1 E tNil (tCons ta tNil)) (· = .bl (isEntD d)) :=
  (ev_kw1 (ea1 h ea_nil) fun _ _ => ⟨d, rfl, hd⟩).weak fun r q => q d rfl
theorem ev_strange {M : Mt} {ds : DS} {ta : TE} {E : XK} {b : Addr} (h : Ev K M ds ta (· = .raw (.ref b))) (hm : (b, IsBag K) ∈ M) : Ev K M ds (tCall (spF K (preB K) postStr) [] E (tCons ta tNil)) (· ∈ strangeL) :=
  (ev_call1 (ea1 h ea_nil) fun M' ms => ⟨b, rfl, ms _ hm⟩).weak fun r q => q
theorem strange_ok : ∀ x, x ∈ strangeL → okE x = true ∧ isEndD x = false ∧ isEntD x = false ∧ okD x = true ∧ ∀ lo hi, isNumD x lo hi = false := by
  intro x h
  simp only [strangeL, List.mem_cons, List.not_mem_nil, or_false] at h
  rcases h with h | h | h | h | h | h | h | h | h <;> subst h <;> exact ⟨by decide +kernel, rfl, rfl, by decide +kernel, fun _ _ => rfl⟩
def endSome (wd bt g : Str) : List D := [.tup [.str wd], .tup [.str wd, .str g, .str g], .list [.str wd, .str g], .tup [.str bt, .str g], .tup [.str wd, .str "up"], .tup [.str wd, .non], .tup [.non, .str g], .str g,
  .str (wd ++ "." ++ g), .tup [.tup [.str wd, .str g], .str g], .tup [.str wd, .str (g ++ g)], .tup [.str wd, .str ""], .tup [.str wd, .int 1], .tup [.str "", .str g], .tup []]
theorem isName_tup (xs : List D) : isNameD (.tup xs) = false := rfl
theorem endSome_no {wd bt g : Str} (W : Wrd wd bt) (hg : g.length ≤ 5) (h2 : inV (.str (g ++ g)) sidesV = false) : ∀ x, x ∈ endSome wd bt g → okE x = true ∧ isEndD x = false := by
  intro x h
  have w1 : okD (.str wd) = true := decide_eq_true (Nat.le_trans W.len (by decide))
  have w2 : okD (.str bt) = true := decide_eq_true (Nat.le_trans W.lenb (by decide))
  have w3 : okD (.str g) = true := decide_eq_true (Nat.le_trans hg (by decide))
  have w4 : okD (.str (g ++ g)) = true := decide_eq_true (by rw [PySem.Str.length_append]; omega)
  have w5 : okD (.str (wd ++ "." ++ g)) = true := decide_eq_true (by
    have := W.len
    have hd : (Str.ofString ".").length = 1 := by decide +kernel
    rw [PySem.Str.length_append, PySem.Str.length_append, hd]; omega)
  have w6 : okD (.str "up") = true := by decide +kernel
  have w7 : okD (.str "") = true := by decide +kernel
  have wN : okD .non = true := rfl
  have wL : ∀ xs, okD (.list xs) = true := fun _ => rfl
  have wT : ∀ xs, okD (.tup xs) = true := fun _ => rfl
  have wI : ∀ i, okD (.int i) = true := fun _ => rfl
  simp only [endSome, List.mem_cons, List.not_mem_nil, or_false] at h
  rcases h with h | h | h | h | h | h | h | h | h | h | h | h | h | h | h <;> subst h
  all_goals refine ⟨by simp [okE, w1, w2, w3, w4, w5, w6, w7, wN, wL, wT, wI], ?_⟩
  · rfl
  · rfl
  · rfl
  · show (isNameS bt && _) = false
    rw [W.bent]; rfl
  · show (_ && inV (.str "up") sidesV) = false
    rw [show inV (.str "up") sidesV = false by decide +kernel, Bool.and_false]
  · rfl
  · rfl
  · rfl
  · rfl
  · rfl
  · show (_ && inV (.str (g ++ g)) sidesV) = false
    rw [h2, Bool.and_false]
  · show (_ && inV (.str "") sidesV) = false
    rw [show inV (.str "") sidesV = false by decide +kernel, Bool.and_false]
  · rfl
  · show (isNameS "" && inV (.str g) sidesV) = false
    rw [show isNameS "" = false by decide +kernel]; rfl
  · rfl
theorem ok_endso (T : Tx K mg) : FnOk P w K mg base CX0 4 T.f__law_end_so T.fd__law_end_so ["_law_bag_here", "_law_word", "_law_bent"] (spF K (preSo K) postTrue) := by
  have G_Lof := ok_of (P := P) (w := w) (base := base) T
  have G_Lstrange := ok_strange (P := P) (w := w) (base := base) T
  have G_isend := ok_isend (P := P) (w := w) (base := base) T
  have G_Lsame := ok_same (P := P) (w := w) (base := base) T 3
  have B_Lof := B_of T
  have B_Lstrange := B_strange T
  have B_Lsame := B_same T
  have B_isend := B_isend T
  have KB_isend := KB_isend T
  refine fn_run T.F__law_end_so sc_Lendso (fun M as ⟨_, _, _, e, _⟩ => by rw [e]; rfl) (fun cdv A outer s H E hr => ⟨_, (pss_cons (ps_set (i := 3) sc_Lendso.nd rfl (Or.inl rfl) (pe_call G_Lof (hr.mono (by decide)) (by rfl) T.m__law_of T.F__law_of.kp B_Lof .nil pass0 (pa_cons (pv 0) (pa_cons (pe_lst (pa_cons pe_str (pa_cons pe_str (pa_cons pe_str (pa_cons pe_str (pa_cons pe_str (pa_cons pe_str (pa_cons pe_str pa_nil)))))))) pa_nil))))
  (pss_cons (ps_set (i := 4) sc_Lendso.nd rfl (Or.inl rfl) (pe_chain op_le op_le pe_int (pe_callB (q_len (K := K)) (by rfl) T.b_len bt_len (pa_cons (pv 1) pa_nil)) pe_int))
  (pss_cons (ps_set (i := 5) sc_Lendso.nd rfl (Or.inl rfl) (pe_lst (pa_cons (pe_tup (pa_cons (pv 1) pa_nil)) (pa_cons (pe_tup (pa_cons (pv 1) (pa_cons (pv 3) (pa_cons (pv 3) pa_nil)))) (pa_cons (pe_lst (pa_cons (pv 1) (pa_cons (pv 3) pa_nil))) (pa_cons (pe_tup (pa_cons (pv 2) (pa_cons (pv 3) pa_nil))) (pa_cons (pe_tup (pa_cons (pv 1) (pa_cons pe_str pa_nil))) (pa_cons (pe_tup (pa_cons (pv 1) (pa_cons pe_non pa_nil))) (pa_cons (pe_tup (pa_cons pe_non (pa_cons (pv 3) pa_nil))) (pa_cons (pv 3) pa_nil))))))))))
  (pss_cons (ps_set (i := 5) sc_Lendso.nd rfl (Or.inl rfl) (pe_op (q_add (K := K)) (pv 5) (pe_lst (pa_cons (pe_op (q_add (K := K)) (pe_op (q_add (K := K)) (pv 1) pe_str) (pv 3)) (pa_cons (pe_tup (pa_cons (pe_tup (pa_cons (pv 1) (pa_cons (pv 3) pa_nil))) (pa_cons (pv 3) pa_nil))) (pa_cons (pe_tup (pa_cons (pv 1) (pa_cons (pe_op (q_add (K := K)) (pv 3) (pv 3)) pa_nil))) (pa_cons (pe_tup (pa_cons (pv 1) (pa_cons pe_str pa_nil))) (pa_cons (pe_tup (pa_cons (pv 1) (pa_cons pe_int pa_nil))) (pa_cons (pe_tup (pa_cons pe_str (pa_cons (pv 3) pa_nil))) (pa_cons (pe_tup pa_nil) pa_nil))))))))))
  (pss_cons (ps_set (i := 6) sc_Lendso.nd rfl (Or.inl rfl) (pe_lst (pa_cons (pe_call G_isend (hr.mono (by decide)) (by rfl) T.m_is_end T.F_is_end.kp B_isend .nil pass0 (pa_cons (pe_tup (pa_cons (pv 1) (pa_cons (pv 3) pa_nil))) pa_nil)) (pa_cons (pe_callKs G_isend (hr.mono (by decide)) (by rfl) T.m_is_end T.F_is_end.kp KB_isend pass0 (pk_cons (pe_tup (pa_cons (pv 1) (pa_cons (pv 3) pa_nil))) pk_nil)) (pa_cons (pe_call G_isend (hr.mono (by decide)) (by rfl) T.m_is_end T.F_is_end.kp B_isend .nil pass0 (pa_cons (pe_call G_Lof (hr.mono (by decide)) (by rfl) T.m__law_of T.F__law_of.kp B_Lof .nil pass0 (pa_cons (pv 0) (pa_cons (pv 5) pa_nil))) pa_nil)) (pa_cons (pe_call G_isend (hr.mono (by decide)) (by rfl) T.m_is_end T.F_is_end.kp B_isend .nil pass0 (pa_cons (pe_call G_Lstrange (hr.mono (by decide)) (by rfl) T.m__law_strange T.F__law_strange.kp B_Lstrange .nil pass0 (pa_cons (pv 0) pa_nil)) pa_nil)) pa_nil))))))
  (pss_one (ps_ret (pe_call G_Lsame (hr.mono (by decide)) (by rfl) T.m__law_same T.F__law_same.kp B_Lsame .nil pass0 (pa_cons (pv 6) (pa_cons (pe_lst (pa_cons (pv 4) (pa_cons (pv 4) (pa_cons pe_bl (pa_cons pe_bl pa_nil))))) pa_nil)))))))))), fun M as ⟨b, wd, bt, e, hm, W⟩ => ?_⟩)
  subst e
  show Rg.Run K M [some (.raw (.ref b)), some (.str wd), some (.str bt), none, none, none, none] _ _
  refine run_asg (ev_of (es := gates) (ev_var rfl) (by walk_at "ev") hm rfl rfl) fun gd hg => ?_
  obtain ⟨g, rfl, hgl, hg1, hg2⟩ := gates_mem hg
  have hwl := W.len
  have hd : (Str.ofString ".").length = 1 := by decide +kernel
  have hl : lenD (.str wd) = some wd.length := if_pos (Nat.le_trans W.len (by decide))
  refine run_asg1 (d := .bl (rightOf wd)) (ev_eq (by walk_at "ev") (by exact rfl)) ?_
  apply run_asg1
  · walk_at "ev"
  refine run_asg1 (d := .list (endSome wd bt g)) (ev_eq (by walk_at "ev") (by exact rfl)) ?_
  refine run_asg1 (d := .list [.bl (rightOf wd), .bl (rightOf wd), .bl false, .bl false]) ?_ ?_
  · have o1 : okE (.tup [.str wd, .str g]) = true := by
      simp [okE, okD]; omega
    have v1 : isEndD (.tup [.str wd, .str g]) = rightOf wd := by
      show (isNameS wd && inV (.str g) sidesV) = _
      rw [hg1, W.name, Bool.and_true]
    refine ev_lst1 (ea1 (ev_end (by walk_at "ev") fun x e => by subst e; exact ⟨o1, v1⟩) (ea1 ?_ (ea1 (ev_end (ev_of (es := endSome wd bt g) (ev_var rfl) (ev_var rfl) hm rfl rfl) fun x e => endSome_no W hgl hg2 x e) (ea1 (ev_end (ev_strange (ev_var rfl) hm) fun x e => ⟨(strange_ok x e).1, (strange_ok x e).2.1⟩) ea_nil)))) (by simp)
    exact ev_eq (ev_endK (by walk_at "ev") o1) (by rw [v1])
  · refine run_ret1 (ev_same (R := fun _ => True) (d := .list [.bl (rightOf wd), .bl (rightOf wd), .bl false, .bl false]) (by walk_at "ev") (by walk_at "ev") (by rfl)) rfl
end
end K1
namespace K1
open PySem L2 Rg RZ PyProof.Rows
local macro_rules | `(tactic| walk_at "ev") => `(tactic| first
  | with_reducible assumption
  | ((with_reducible apply ev_var); exact rfl)
  | with_reducible exact ev_cint
  | with_reducible exact ev_cbl
  | with_reducible exact ev_cnon
  | with_reducible exact ev_cstr
  | with_reducible exact ev_craw
  | ((with_reducible apply ev_tup1); walk_at "ea"; exact Nat.le_of_ble_eq_true rfl)
  | ((with_reducible apply ev_lst1); walk_at "ea"; exact Nat.le_of_ble_eq_true rfl)
  | ((with_reducible apply ev_op1); walk_at "ev"; walk_at "ev"; walk_at "od")
  | ((with_reducible apply ev_un1); walk_at "ev"; exact ud_neg)
  | ((with_reducible apply ev_isSeq); walk_at "ev"; walk_at "ea"; exact rfl; exact rfl)
  | ((with_reducible apply ev_cb1); walk_at "ea"; walk_at "cd")
  | ((with_reducible apply ev_chainB); walk_at "ev"; walk_at "ev"; walk_at "od"; walk_at "ev"; walk_at "od")
  | ((with_reducible apply ev_andF); walk_at "ev"; exact rfl)
  | ((with_reducible apply ev_andT); walk_at "ev"; exact rfl; walk_at "ev")
  | ((with_reducible apply ev_andB); walk_at "ev"; intro _; walk_at "ev")
  | ((with_reducible apply ev_orT); walk_at "ev"; exact rfl)
  | ((with_reducible apply ev_orF); walk_at "ev"; exact rfl; walk_at "ev")
  | ((with_reducible apply ev_orB); walk_at "ev"; intro _; walk_at "ev")
  | ((with_reducible apply ev_notV); walk_at "ev"))
local macro_rules | `(tactic| walk_at "et") => `(tactic| first
  | ((with_reducible apply et_B); walk_at "ev")
  | ((with_reducible apply et_test); walk_at "ev")
  | ((with_reducible apply et_not); walk_at "et")
  | ((with_reducible apply et_orT); walk_at "et"; exact rfl)
  | ((with_reducible apply et_orF); walk_at "et"; exact rfl; walk_at "et")
  | ((with_reducible apply et_or); walk_at "et"; intro _; walk_at "et")
  | ((with_reducible apply et_andF); walk_at "et"; exact rfl)
  | ((with_reducible apply et_andT); walk_at "et"; exact rfl; walk_at "et")
  | ((with_reducible apply et_and); walk_at "et"; intro _; walk_at "et"))
local macro_rules | `(tactic| walk_at "ea") => `(tactic| first
  | with_reducible exact ea_nil
  | ((with_reducible apply ea1); walk_at "ev"; walk_at "ea"))
local macro_rules | `(tactic| walk_at "od") => `(tactic| first
  | with_reducible exact od_addI
  | with_reducible exact od_subI
  | ((with_reducible apply od_addS); (try simp only [PySem.Str.length_append]); omega)
  | ((with_reducible apply od_catL); exact Nat.le_of_ble_eq_true rfl)
  | ((with_reducible apply od_modI); first | decide | omega)
  | ((with_reducible apply od_mulI); first | (exact Or.inr ⟨by decide, by decide⟩) | (exact Or.inl ⟨by decide, by decide⟩) | (exact Or.inl ⟨by omega, by omega⟩) | (exact Or.inr ⟨by omega, by omega⟩))
  | ((with_reducible apply od_divI); first | (exact ⟨by decide, by decide⟩) | (exact ⟨by omega, by omega⟩))
  | ((with_reducible apply od_powI); exact ⟨by decide, by decide, by decide⟩)
  | with_reducible exact od_leI
  | with_reducible exact od_ltI
  | with_reducible exact od_gtI
  | with_reducible exact od_geI
  | with_reducible exact od_eqI
  | with_reducible exact od_eqB
  | with_reducible exact od_neB
  | with_reducible exact od_neI
  | with_reducible exact od_eqS
  | with_reducible exact od_inS
  | ((with_reducible apply od_none); exact rfl)
  | ((with_reducible apply od_ix); exact rfl))
local macro_rules | `(tactic| walk_at "cd") => `(tactic| first
  | ((with_reducible apply cd_isStr); exact rfl)
  | ((with_reducible apply cd_isInt); exact rfl)
  | ((with_reducible apply cd_isBool); exact rfl)
  | ((with_reducible apply cd_isList); exact rfl)
  | ((with_reducible apply cd_isTuple); exact rfl)
  | ((with_reducible apply cd_isi); assumption)
  | ((with_reducible apply cd_len); assumption)
  | ((with_reducible apply cd_len); exact rfl)
  | with_reducible exact cd_intI
  | with_reducible exact cd_listof
  | ((with_reducible apply cd_str); assumption)
  | with_reducible exact cd_all)
local macro_rules | `(tactic| walk_at "px") => `(tactic| first
  | ((with_reducible apply px_var); exact rfl)
  | with_reducible exact px_c
  | ((with_reducible apply px_op); walk_at "px"; walk_at "px"; walk_at "pr")
  | ((with_reducible apply px_cb); walk_at "pa"; walk_at "pr")
  | ((with_reducible apply px_test); walk_at "px")
  | ((with_reducible apply px_B); walk_at "px")
  | ((with_reducible apply px_and); walk_at "px"; walk_at "px"))
local macro_rules | `(tactic| walk_at "pa") => `(tactic| first
  | with_reducible exact px_nil
  | ((with_reducible apply px_cons); walk_at "px"; walk_at "pa"))
local macro_rules | `(tactic| walk_at "pr") => `(tactic| first
  | exact px_addI
  | (apply px_ix; assumption; exact rfl)
  | (apply px_ix; assumption; assumption)
  | exact px_eqI
  | exact fun Q q => ⟨_, _, rfl, rfl, q⟩
  | exact fun Q q => ⟨_, _, rfl, rfl, (Or.inr ⟨by decide, by decide⟩), q⟩
  | exact fun Q q => ⟨_, _, rfl, rfl, (Or.inl ⟨by omega, by omega⟩), q⟩
  | exact fun Q q => ⟨_, _, rfl, rfl, (Or.inr ⟨by omega, by omega⟩), q⟩
  | exact fun Q q => ⟨_, _, rfl, rfl, ⟨by decide, by decide⟩, q⟩
  | exact fun Q q => ⟨_, _, rfl, rfl, ⟨by omega, by omega⟩, q⟩
  | exact fun Q q => ⟨_, _, rfl, rfl, ⟨by decide, by decide, by decide⟩, q⟩
  | exact fun Q q => ⟨_, _, rfl, rfl, (by decide), q⟩
  | exact fun Q q => ⟨_, _, rfl, rfl, (by omega), q⟩
  | (apply px_len; assumption)
  | exact px_intI
  | exact px_abs)
section
variable {P : Program} {w : World} {K : PySem.W.Frag} {mg : Str → Option Value} {base : Heap}
def numS (i : Int) : Str := Str.ofString (toString i)
def entSome (wd bt : Str) (i : Int) : List D := [.tup [.str wd, .int (-1)], .tup [.str wd, .int 6], .tup [.str wd, .bl true], .tup [.str wd, .bl false], .tup [.str wd, .str (numS i)], .list [.str wd, .int i], .tup [.str bt, .int i],
  .tup [.str wd], .tup [.str wd, .int i, .int i], .int i, .str wd, .tup [.int i, .str wd], .tup [.str wd, .non], .tup [.tup [.str wd], .int i], .tup [.str "", .int 0], .tup [.str wd, .int (10 ^ 9)], .tup [.str wd, .tup [.int i]]]
theorem numS_len : ∀ i : Int, 0 ≤ i → i < 6 → (numS i).length ≤ 5 := by
  intro i h0 h1
  have : i = 0 ∨ i = 1 ∨ i = 2 ∨ i = 3 ∨ i = 4 ∨ i = 5 := by omega
  rcases this with rfl | rfl | rfl | rfl | rfl | rfl <;> decide +kernel
theorem entSome_no {wd bt : Str} {i : Int} (W : Wrd wd bt) (i0 : 0 ≤ i) (i1 : i < 6) : ∀ x, x ∈ entSome wd bt i → okE x = true ∧ isEntD x = false := by
  intro x h
  have w1 : okD (.str wd) = true := decide_eq_true (Nat.le_trans W.len (by decide))
  have w2 : okD (.str bt) = true := decide_eq_true (Nat.le_trans W.lenb (by decide))
  have w3 : okD (.str (numS i)) = true := decide_eq_true (Nat.le_trans (numS_len i i0 i1) (by decide))
  have w7 : okD (.str "") = true := by decide +kernel
  have wN : okD .non = true := rfl
  have wL : ∀ xs, okD (.list xs) = true := fun _ => rfl
  have wT : ∀ xs, okD (.tup xs) = true := fun _ => rfl
  have wI : ∀ i, okD (.int i) = true := fun _ => rfl
  have wB : ∀ i, okD (.bl i) = true := fun _ => rfl
  simp only [entSome, List.mem_cons, List.not_mem_nil, or_false] at h
  rcases h with h | h | h | h | h | h | h | h | h | h | h | h | h | h | h | h | h <;> subst h
  all_goals refine ⟨by simp [okE, w1, w2, w3, w7, wN, wL, wT, wI, wB], ?_⟩
  · exact Bool.and_false _
  · exact Bool.and_false _
  · exact Bool.and_false _
  · exact Bool.and_false _
  · exact Bool.and_false _
  · rfl
  · show (isNameS bt && isNumD (.int i) 0 5) = false
    rw [W.bent]; rfl
  · rfl
  · rfl
  · rfl
  · rfl
  · rfl
  · exact Bool.and_false _
  · rfl
  · show (isNameS "" && isNumD (.int 0) 0 5) = false
    rw [show isNameS "" = false by decide +kernel]; rfl
  · exact Bool.and_false _
  · exact Bool.and_false _
theorem ok_entryso (T : Tx K mg) : FnOk P w K mg base CX0 4 T.f__law_entry_so T.fd__law_entry_so ["_law_bag_here", "_law_word", "_law_bent"] (spF K (preSo K) postTrue) := by
  have G_Lof := ok_of (P := P) (w := w) (base := base) T
  have G_Ldraw := ok_draw (P := P) (w := w) (base := base) T
  have G_Lstrange := ok_strange (P := P) (w := w) (base := base) T
  have G_isentry := ok_isentry (P := P) (w := w) (base := base) T
  have G_Lsame := ok_same (P := P) (w := w) (base := base) T 3
  have B_Lof := B_of T
  have B_Ldraw := B_draw T
  have B_Lstrange := B_strange T
  have B_Lsame := B_same T
  have B_isentry := B_isentry T
  have KB_isentry := KB_isentry T
  refine fn_run T.F__law_entry_so sc_Lentryso (fun M as ⟨_, _, _, e, _⟩ => by rw [e]; rfl) (fun cdv A outer s H E hr => ⟨_, (pss_cons (ps_par rfl sc_Lentryso.nd (i := 3) (j := 4) rfl rfl (by decide) rfl rfl (pa_cons (pe_call G_Ldraw (hr.mono (by decide)) (by rfl) T.m__law_draw T.F__law_draw.kp B_Ldraw .nil pass0 (pa_cons (pv 0) (pa_cons pe_int pa_nil))) (pa_cons (pe_chain op_le op_le pe_int (pe_callB (q_len (K := K)) (by rfl) T.b_len bt_len (pa_cons (pv 1) pa_nil)) pe_int) pa_nil)) (by rfl))
  (pss_cons (ps_set (i := 5) sc_Lentryso.nd rfl (Or.inl rfl) (pe_lst (pa_cons (pe_tup (pa_cons (pv 1) (pa_cons (pe_un un_neg pe_int) pa_nil))) (pa_cons (pe_tup (pa_cons (pv 1) (pa_cons pe_int pa_nil))) (pa_cons (pe_tup (pa_cons (pv 1) (pa_cons pe_bl pa_nil))) (pa_cons (pe_tup (pa_cons (pv 1) (pa_cons pe_bl pa_nil))) (pa_cons (pe_tup (pa_cons (pv 1) (pa_cons (pe_callTy call_str_int (by rfl) T.b_str bt_str (pa_cons (pv 3) pa_nil)) pa_nil))) (pa_cons (pe_lst (pa_cons (pv 1) (pa_cons (pv 3) pa_nil))) (pa_cons (pe_tup (pa_cons (pv 2) (pa_cons (pv 3) pa_nil))) pa_nil)))))))))
  (pss_cons (ps_set (i := 5) sc_Lentryso.nd rfl (Or.inl rfl) (pe_op (q_add (K := K)) (pv 5) (pe_lst (pa_cons (pe_tup (pa_cons (pv 1) pa_nil)) (pa_cons (pe_tup (pa_cons (pv 1) (pa_cons (pv 3) (pa_cons (pv 3) pa_nil)))) (pa_cons (pv 3) (pa_cons (pv 1) (pa_cons (pe_tup (pa_cons (pv 3) (pa_cons (pv 1) pa_nil))) (pa_cons (pe_tup (pa_cons (pv 1) (pa_cons pe_non pa_nil))) (pa_cons (pe_tup (pa_cons (pe_tup (pa_cons (pv 1) pa_nil)) (pa_cons (pv 3) pa_nil))) (pa_cons (pe_tup (pa_cons pe_str (pa_cons pe_int pa_nil))) pa_nil)))))))))))
  (pss_cons (ps_set (i := 5) sc_Lentryso.nd rfl (Or.inl rfl) (pe_op (q_add (K := K)) (pv 5) (pe_lst (pa_cons (pe_tup (pa_cons (pv 1) (pa_cons (pe_op op_pow pe_int pe_int) pa_nil))) (pa_cons (pe_tup (pa_cons (pv 1) (pa_cons (pe_tup (pa_cons (pv 3) pa_nil)) pa_nil))) pa_nil)))))
  (pss_cons (ps_set (i := 6) sc_Lentryso.nd rfl (Or.inl rfl) (pe_lst (pa_cons (pe_call G_isentry (hr.mono (by decide)) (by rfl) T.m_is_entry T.F_is_entry.kp B_isentry .nil pass0 (pa_cons (pe_tup (pa_cons (pv 1) (pa_cons (pv 3) pa_nil))) pa_nil)) (pa_cons (pe_callKs G_isentry (hr.mono (by decide)) (by rfl) T.m_is_entry T.F_is_entry.kp KB_isentry pass0 (pk_cons (pe_tup (pa_cons (pv 1) (pa_cons (pv 3) pa_nil))) pk_nil)) (pa_cons (pe_call G_isentry (hr.mono (by decide)) (by rfl) T.m_is_entry T.F_is_entry.kp B_isentry .nil pass0 (pa_cons (pe_call G_Lof (hr.mono (by decide)) (by rfl) T.m__law_of T.F__law_of.kp B_Lof .nil pass0 (pa_cons (pv 0) (pa_cons (pv 5) pa_nil))) pa_nil)) pa_nil)))))
  (pss_one (ps_ret (pe_call G_Lsame (hr.mono (by decide)) (by rfl) T.m__law_same T.F__law_same.kp B_Lsame .nil pass0 (pa_cons (pe_op (q_add (K := K)) (pv 6) (pe_lst (pa_cons (pe_call G_isentry (hr.mono (by decide)) (by rfl) T.m_is_entry T.F_is_entry.kp B_isentry .nil pass0 (pa_cons (pe_call G_Lstrange (hr.mono (by decide)) (by rfl) T.m__law_strange T.F__law_strange.kp B_Lstrange .nil pass0 (pa_cons (pv 0) pa_nil)) pa_nil)) pa_nil))) (pa_cons (pe_lst (pa_cons (pv 4) (pa_cons (pv 4) (pa_cons pe_bl (pa_cons pe_bl pa_nil))))) pa_nil)))))))))), fun M as ⟨b, wd, bt, e, hm, W⟩ => ?_⟩)
  subst e
  show Rg.Run K M [some (.raw (.ref b)), some (.str wd), some (.str bt), none, none, none, none] _ _
  have hwl := W.len
  have hl : lenD (.str wd) = some wd.length := if_pos (Nat.le_trans W.len (by decide))
  refine run_seq (run_par (ea_cons (ev_draw (ev_var rfl) ev_cint hm (by decide) (by decide)) (ea1 (a := .bl (rightOf wd)) (ev_eq (by walk_at "ev") (by exact rfl)) ea_nil)) fun l ⟨x, r, el, ⟨i, ⟨i0, i1⟩, ex⟩, er⟩ => ⟨.int i, .bl (rightOf wd), by rw [el, ex, er], ?_⟩)
  have hlog : i.natAbs.log2 < 1920 := by
    have : i = 0 ∨ i = 1 ∨ i = 2 ∨ i = 3 ∨ i = 4 ∨ i = 5 := by omega
    rcases this with rfl | rfl | rfl | rfl | rfl | rfl <;> decide +kernel
  apply run_asg1
  · walk_at "ev"
  apply run_asg1
  · walk_at "ev"
  refine run_asg1 (d := .list (entSome wd bt i)) (ev_eq (by walk_at "ev") (by exact rfl)) ?_
  have o1 : okE (.tup [.str wd, .int i]) = true := by
    simp [okE, okD]; omega
  have v1 : isEntD (.tup [.str wd, .int i]) = rightOf wd := by
    show (isNameS wd && (decide (0 ≤ i) && decide (i ≤ 5))) = _
    rw [W.name, decide_eq_true i0, decide_eq_true (show i ≤ 5 by omega), Bool.and_self, Bool.and_true]
  refine run_asg1 (d := .list [.bl (rightOf wd), .bl (rightOf wd), .bl false]) ?_ ?_
  · exact ev_lst1 (ea1 (ev_entry (by walk_at "ev") fun x e => by subst e; exact ⟨o1, v1⟩) (ea1 (ev_eq (ev_entryK (by walk_at "ev") o1) (by rw [v1])) (ea1 (ev_entry (ev_of (es := entSome wd bt i) (ev_var rfl) (ev_var rfl) hm rfl rfl) fun x e => entSome_no W i0 i1 x e) ea_nil))) (by simp)
  · refine run_ret1 (ev_same (R := fun _ => True) (d := .list [.bl (rightOf wd), .bl (rightOf wd), .bl false, .bl false]) ?_ (by walk_at "ev") (by rfl)) rfl
    exact ev_eq (ev_op1 (ev_var rfl) (ev_lst1 (ea1 (ev_entry (ev_strange (ev_var rfl) hm) fun x e => ⟨(strange_ok x e).1, (strange_ok x e).2.2.1⟩) ea_nil) (by simp)) (od_catL (by simp))) (by exact rfl)
end
end K1
namespace K1
open PySem L2 Rg RZ PyProof.Rows
local macro_rules | `(tactic| walk_at "ev") => `(tactic| first
  | with_reducible assumption
  | ((with_reducible apply ev_var); exact rfl)
  | with_reducible exact ev_cint
  | with_reducible exact ev_cbl
  | with_reducible exact ev_cnon
  | with_reducible exact ev_cstr
  | with_reducible exact ev_craw
  | ((with_reducible apply ev_tup1); walk_at "ea"; exact Nat.le_of_ble_eq_true rfl)
  | ((with_reducible apply ev_lst1); walk_at "ea"; exact Nat.le_of_ble_eq_true rfl)
  | ((with_reducible apply ev_op1); walk_at "ev"; walk_at "ev"; walk_at "od")
  | ((with_reducible apply ev_un1); walk_at "ev"; exact ud_neg)
  | ((with_reducible apply ev_isSeq); walk_at "ev"; walk_at "ea"; exact rfl; exact rfl)
  | ((with_reducible apply ev_cb1); walk_at "ea"; walk_at "cd")
  | ((with_reducible apply ev_chainB); walk_at "ev"; walk_at "ev"; walk_at "od"; walk_at "ev"; walk_at "od")
  | ((with_reducible apply ev_andF); walk_at "ev"; exact rfl)
  | ((with_reducible apply ev_andT); walk_at "ev"; exact rfl; walk_at "ev")
  | ((with_reducible apply ev_andB); walk_at "ev"; intro _; walk_at "ev")
  | ((with_reducible apply ev_orT); walk_at "ev"; exact rfl)
  | ((with_reducible apply ev_orF); walk_at "ev"; exact rfl; walk_at "ev")
  | ((with_reducible apply ev_orB); walk_at "ev"; intro _; walk_at "ev")
  | ((with_reducible apply ev_notV); walk_at "ev"))
local macro_rules | `(tactic| walk_at "et") => `(tactic| first
  | ((with_reducible apply et_B); walk_at "ev")
  | ((with_reducible apply et_test); walk_at "ev")
  | ((with_reducible apply et_not); walk_at "et")
  | ((with_reducible apply et_orT); walk_at "et"; exact rfl)
  | ((with_reducible apply et_orF); walk_at "et"; exact rfl; walk_at "et")
  | ((with_reducible apply et_or); walk_at "et"; intro _; walk_at "et")
  | ((with_reducible apply et_andF); walk_at "et"; exact rfl)
  | ((with_reducible apply et_andT); walk_at "et"; exact rfl; walk_at "et")
  | ((with_reducible apply et_and); walk_at "et"; intro _; walk_at "et"))
local macro_rules | `(tactic| walk_at "ea") => `(tactic| first
  | with_reducible exact ea_nil
  | ((with_reducible apply ea1); walk_at "ev"; walk_at "ea"))
local macro_rules | `(tactic| walk_at "od") => `(tactic| first
  | with_reducible exact od_addI
  | with_reducible exact od_subI
  | ((with_reducible apply od_addS); (try simp only [PySem.Str.length_append]); omega)
  | ((with_reducible apply od_catL); exact Nat.le_of_ble_eq_true rfl)
  | ((with_reducible apply od_modI); first | decide | omega)
  | ((with_reducible apply od_mulI); first | (exact Or.inr ⟨by decide, by decide⟩) | (exact Or.inl ⟨by decide, by decide⟩) | (exact Or.inl ⟨by omega, by omega⟩) | (exact Or.inr ⟨by omega, by omega⟩))
  | ((with_reducible apply od_divI); first | (exact ⟨by decide, by decide⟩) | (exact ⟨by omega, by omega⟩))
  | ((with_reducible apply od_powI); exact ⟨by decide, by decide, by decide⟩)
  | with_reducible exact od_leI
  | with_reducible exact od_ltI
  | with_reducible exact od_gtI
  | with_reducible exact od_geI
  | with_reducible exact od_eqI
  | with_reducible exact od_eqB
  | with_reducible exact od_neB
  | with_reducible exact od_neI
  | with_reducible exact od_eqS
  | with_reducible exact od_inS
  | ((with_reducible apply od_none); exact rfl)
  | ((with_reducible apply od_ix); exact rfl))
local macro_rules | `(tactic| walk_at "cd") => `(tactic| first
  | ((with_reducible apply cd_isStr); exact rfl)
  | ((with_reducible apply cd_isInt); exact rfl)
  | ((with_reducible apply cd_isBool); exact rfl)
  | ((with_reducible apply cd_isList); exact rfl)
  | ((with_reducible apply cd_isTuple); exact rfl)
  | ((with_reducible apply cd_isi); assumption)
  | ((with_reducible apply cd_len); assumption)
  | ((with_reducible apply cd_len); exact rfl)
  | with_reducible exact cd_intI
  | with_reducible exact cd_listof
  | ((with_reducible apply cd_str); assumption)
  | with_reducible exact cd_all)
local macro_rules | `(tactic| walk_at "px") => `(tactic| first
  | ((with_reducible apply px_var); exact rfl)
  | with_reducible exact px_c
  | ((with_reducible apply px_op); walk_at "px"; walk_at "px"; walk_at "pr")
  | ((with_reducible apply px_cb); walk_at "pa"; walk_at "pr")
  | ((with_reducible apply px_test); walk_at "px")
  | ((with_reducible apply px_B); walk_at "px")
  | ((with_reducible apply px_and); walk_at "px"; walk_at "px"))
local macro_rules | `(tactic| walk_at "pa") => `(tactic| first
  | with_reducible exact px_nil
  | ((with_reducible apply px_cons); walk_at "px"; walk_at "pa"))
local macro_rules | `(tactic| walk_at "pr") => `(tactic| first
  | exact px_addI
  | (apply px_ix; assumption; exact rfl)
  | (apply px_ix; assumption; assumption)
  | exact px_eqI
  | exact fun Q q => ⟨_, _, rfl, rfl, q⟩
  | exact fun Q q => ⟨_, _, rfl, rfl, (Or.inr ⟨by decide, by decide⟩), q⟩
  | exact fun Q q => ⟨_, _, rfl, rfl, (Or.inl ⟨by omega, by omega⟩), q⟩
  | exact fun Q q => ⟨_, _, rfl, rfl, (Or.inr ⟨by omega, by omega⟩), q⟩
  | exact fun Q q => ⟨_, _, rfl, rfl, ⟨by decide, by decide⟩, q⟩
  | exact fun Q q => ⟨_, _, rfl, rfl, ⟨by omega, by omega⟩, q⟩
  | exact fun Q q => ⟨_, _, rfl, rfl, ⟨by decide, by decide, by decide⟩, q⟩
  | exact fun Q q => ⟨_, _, rfl, rfl, (by decide), q⟩
  | exact fun Q q => ⟨_, _, rfl, rfl, (by omega), q⟩
  | (apply px_len; assumption)
  | exact px_intI
  | exact px_abs)
section
variable {P : Program} {w : World} {K : PySem.W.Frag} {mg : Str → Option Value} {base : Heap}
def spLaw (K : PySem.W.Frag) : Sp := fun vs H Q _ => ∃ (a : Addr) (ns : List Int), vs = [.ref a] ∧ SqL K H a (ns.map V.int) ∧ ns.length ≤ 63 ∧ ∀ H', Q (.bl true) H'
theorem B_bag (T : Tx K mg) : Binds K T.fd__law_bag ["_law_script"] [] := T.F__law_bag.binds fun _ _ _ _ _ _ us hl => match us, hl with | [_], _ => rfl
theorem B_endso (T : Tx K mg) : Binds K T.fd__law_end_so ["_law_bag_here", "_law_word", "_law_bent"] [] := T.F__law_end_so.binds fun _ _ _ _ _ _ us hl => match us, hl with | [_, _, _], _ => rfl
theorem B_entryso (T : Tx K mg) : Binds K T.fd__law_entry_so ["_law_bag_here", "_law_word", "_law_bent"] [] := T.F__law_entry_so.binds fun _ _ _ _ _ _ us hl => match us, hl with | [_, _, _], _ => rfl
def bads : List D := [.str "A", .str "Z", .str "0", .str " ", .str "_", .str "\n", .str ".", .str "-", .str "~"]
theorem bads_mem {d : D} (h : d ∈ bads) : ∃ c : Nat, d = .str ⟨#[c]⟩ ∧ ¬ c ∈ lets.cps.toList := by
  simp only [bads, List.mem_cons, List.not_mem_nil, or_false] at h
  rcases h with h | h | h | h | h | h | h | h | h
  · exact ⟨65, h, by decide +kernel⟩
  · exact ⟨90, h, by decide +kernel⟩
  · exact ⟨48, h, by decide +kernel⟩
  · exact ⟨32, h, by decide +kernel⟩
  · exact ⟨95, h, by decide +kernel⟩
  · exact ⟨10, h, by decide +kernel⟩
  · exact ⟨46, h, by decide +kernel⟩
  · exact ⟨45, h, by decide +kernel⟩
  · exact ⟨126, h, by decide +kernel⟩
/-- a text with a sign that is no letter is no name -/
theorem noName {x : Str} {c : Nat} (hc : c ∈ x.cps.toList) (hn : ¬ c ∈ lets.cps.toList) : isNameS x = false := by
  unfold isNameS
  have : (x.cps.toList.all fun c => decide (c ∈ lets.cps.toList)) = false := by
    rw [List.all_eq_false]
    exact ⟨c, hc, by simpa using hn⟩
  rw [this, Bool.and_false]
theorem mid_mem (x y : Str) (c : Nat) : c ∈ (x ++ (⟨#[c]⟩ : Str) ++ y).cps.toList := by
  rw [PySem.Str.cps_append, PySem.Str.cps_append]
  simp
theorem last_mem (x : Str) : 10 ∈ (x ++ Str.ofString "\n").cps.toList := by
  rw [PySem.Str.cps_append]
  have e : (Str.ofString "\n").cps = #[10] := by decide +kernel
  rw [e]
  simp
def noNames : List D := [.non, .bl true, .int 3, .list [.str "a"], .tup [.str "a"], .tup [], .str "abcdefg", .str "", .list [.str "a", .str "b"]]
theorem noNames_ok : ∀ x, x ∈ noNames → okD x = true ∧ isNameD x = false := by
  intro x h
  simp only [noNames, List.mem_cons, List.not_mem_nil, or_false] at h
  rcases h with h | h | h | h | h | h | h | h | h <;> subst h <;> exact ⟨by decide +kernel, by decide +kernel⟩
theorem ev_nameR {M : Mt} {ds : DS} {ta : TE} {E : XK} {Rx : D → Prop} {v : Bool} (h : Ev K M ds ta Rx) (hx : ∀ x, Rx x → okD x = true ∧ isNameD x = v) : Ev K M ds (tCall (spF K preName postName) [] E (tCons ta tNil)) (· = .bl v) :=
  ev_one h fun x hr => ⟨fun _ _ => ⟨x, rfl, (hx x hr).1⟩, fun r q => by rw [q x rfl, (hx x hr).2]⟩
theorem ev_nameK {M : Mt} {ds : DS} {ta : TE} {E : XK} {d : D} (h : Ev K M ds ta (· = d)) (hd : okD d = true) : Ev K M ds (tCallK (spF K preName postName) kg1 E tNil (tCons ta tNil)) (· = .bl (isNameD d)) :=
  (ev_kw1 (ea1 h ea_nil) fun _ _ => ⟨d, rfl, hd⟩).weak fun r q => q d rfl
theorem ev_numK {M : Mt} {ds : DS} {ta tb tc : TE} {E : XK} {i lo hi : Int} (hc : Ev K M ds ta (· = .int hi)) (hb : Ev K M ds tb (· = .int lo)) (ha : Ev K M ds tc (· = .int i)) : Ev K M ds (tCallK (spF K preNum postNum) kg3r E tNil (tCons ta (tCons tb (tCons tc tNil)))) (· = .bl (isNumD (.int i) lo hi)) :=
  (ev_kw3r (ea1 hc (ea1 hb (ea1 ha ea_nil))) fun _ _ => ⟨.int i, lo, hi, rfl, rfl⟩).weak fun r q => q (.int i) lo hi rfl
theorem ev_numR {M : Mt} {ds : DS} {ta tb tc : TE} {E : XK} {Rx : D → Prop} {lo hi : Int} {v : Bool} (h : Ev K M ds ta Rx) (hl : Ev K M ds tb (· = .int lo)) (hh : Ev K M ds tc (· = .int hi)) (hx : ∀ x, Rx x → okD x = true ∧ isNumD x lo hi = v) :
    Ev K M ds (tCall (spF K preNum postNum) [] E (tCons ta (tCons tb (tCons tc tNil)))) (· = .bl v) :=
  ev_call (ea_cons h (ea1 hl (ea1 hh ea_nil))) fun as ⟨a, r, e, ha, er⟩ => by
    subst er; subst e
    exact ⟨fun _ _ => ⟨a, lo, hi, rfl, (hx a ha).1⟩, fun r q => by rw [q a lo hi rfl, (hx a ha).2]⟩
theorem ev_so {M : Mt} {ds : DS} {ta tb tc : TE} {E : XK} {b : Addr} {wd bt : Str} (ha : Ev K M ds ta (· = .raw (.ref b))) (hb : Ev K M ds tb (· = .str wd)) (hc : Ev K M ds tc (· = .str bt)) (hm : (b, IsBag K) ∈ M) (W : Wrd wd bt) :
    Ev K M ds (tCall (spF K (preSo K) postTrue) [] E (tCons ta (tCons tb (tCons tc tNil)))) (· = .bl true) :=
  (ev_call1 (ea1 ha (ea1 hb (ea1 hc ea_nil))) fun M' ms => ⟨b, wd, bt, rfl, ms _ hm, W⟩).weak fun r q => q
theorem ok_law (T : Tx K mg) : FnOk P w K mg base CX0 5 T.f_law T.fd_law ["_law_script"] (spLaw K) := by
  have G_Lbag := ok_bag (P := P) (w := w) (base := base) T
  have G_Lof := ok_of (P := P) (w := w) (base := base) T
  have G_Ldraw := ok_draw (P := P) (w := w) (base := base) T
  have G_Lstrange := ok_strange (P := P) (w := w) (base := base) T
  have G_isname := ok_isname (P := P) (w := w) (base := base) T
  have G_isnumber := ok_isnumber (P := P) (w := w) (base := base) T
  have G_isend := ok_isend (P := P) (w := w) (base := base) T
  have G_Lendso := ok_endso (P := P) (w := w) (base := base) T
  have G_Lentryso := ok_entryso (P := P) (w := w) (base := base) T
  have G_Lsame := ok_same (P := P) (w := w) (base := base) T 3
  have B_Lbag := B_bag T
  have B_Lof := B_of T
  have B_Ldraw := B_draw T
  have B_Lstrange := B_strange T
  have B_Lsame := B_same T
  have B_isname := B_isname T
  have B_isnumber := B_isnumber T
  have B_isend := B_isend T
  have B_Lendso := B_endso T
  have B_Lentryso := B_entryso T
  have KB_isname := KB_isname T
  have KB_isnumber := KB_isnumber T
  refine T.F_law.ok sc_law (fun vs H Q E h => ?_) (fun cdv A outer s H vs Q E hr h => ?_)
  · obtain ⟨a, ns, rfl, _⟩ := h
    rfl
  · obtain ⟨a, ns, rfl, hS, hl, q⟩ := h
    refine ⟨_, (pss_cons (ps_asg (pe_tup (pa_cons (pe_call G_Lbag (hr.mono (by decide)) (by rfl) T.m__law_bag T.F__law_bag.kp B_Lbag .nil pass0 (pa_cons (pv 0) pa_nil)) (pa_cons pe_str pa_nil))) (q_tup (K := K) (n := 2) rfl (pgs_cons (pg_name (i := 1) sc_law.nd rfl (Or.inr rfl)) (pgs_cons (pg_name (i := 2) sc_law.nd rfl (Or.inr rfl)) pgs_nil))))
  (pss_cons (ps_for PassesOwn.never rfl (pi_range1 rfl T.b_range (pa_cons pe_int pa_nil)) (pg_name (i := 3) sc_law.nd rfl (Or.inl rfl))
    (pss_cons (ps_set (i := 4) sc_law.nd rfl (Or.inl rfl) (q_join (K := K) pe_str (pe_lc (own := [("_law_k", 13)]) (g := (gName 13)) (tt := tYes) (by rfl) sc_law.nd (pi_range1 rfl T.b_range (pa_cons (pe_call G_Ldraw (hr.mono (by decide)) (by rfl) T.m__law_draw T.F__law_draw.kp B_Ldraw .nil pass0 (pa_cons (pv 1) (pa_cons pe_int pa_nil))) pa_nil)) (blkOk_by (own := [("_law_k", 13)]) (N := n_law) (sc := defScope s_law) (by decide +kernel)) (fun _ _ _ _ _ => (pg_name (i := 13) sc_law.nd rfl (Or.inl rfl))) (fun _ _ _ _ _ => pts_nil) (fun _ _ _ _ _ => (pe_call G_Lof (hr.mono (by decide)) (by rfl) T.m__law_of T.F__law_of.kp B_Lof .nil pass0 (pa_cons (pv 1) (pa_cons (pv 2) pa_nil)))))))
    (pss_cons (ps_set (i := 5) sc_law.nd rfl (Or.inl rfl) (pe_call G_Ldraw (hr.mono (by decide)) (by rfl) T.m__law_draw T.F__law_draw.kp B_Ldraw .nil pass0 (pa_cons (pv 1) (pa_cons (pe_op (q_add (K := K)) (pe_callB (q_len (K := K)) (by rfl) T.b_len bt_len (pa_cons (pv 4) pa_nil)) pe_int) pa_nil))))
    (pss_cons (ps_set (i := 6) sc_law.nd rfl (Or.inl rfl) (pe_op (q_add (K := K)) (pe_op (q_add (K := K)) (pe_slice (q_sl (K := K)) (pv 4) po_none (po_some (pv 5))) (pe_call G_Lof (hr.mono (by decide)) (by rfl) T.m__law_of T.F__law_of.kp B_Lof .nil pass0 (pa_cons (pv 1) (pa_cons (pe_lst (pa_cons pe_str (pa_cons pe_str (pa_cons pe_str (pa_cons pe_str (pa_cons pe_str (pa_cons pe_str (pa_cons pe_str (pa_cons pe_str (pa_cons pe_str pa_nil)))))))))) pa_nil)))) (pe_slice (q_sl (K := K)) (pv 4) (po_some (pv 5)) po_none)))
    (pss_cons (ps_set (i := 7) sc_law.nd rfl (Or.inl rfl) (pe_chain op_le op_le pe_int (pe_callB (q_len (K := K)) (by rfl) T.b_len bt_len (pa_cons (pv 4) pa_nil)) pe_int))
    (pss_cons (ps_if (pt_not (pt_val (pe_call G_Lsame (hr.mono (by decide)) (by rfl) T.m__law_same T.F__law_same.kp B_Lsame .nil pass0 (pa_cons (pe_lst (pa_cons (pe_call G_isname (hr.mono (by decide)) (by rfl) T.m_is_name T.F_is_name.kp B_isname .nil pass0 (pa_cons (pv 4) pa_nil)) (pa_cons (pe_call G_isname (hr.mono (by decide)) (by rfl) T.m_is_name T.F_is_name.kp B_isname .nil pass0 (pa_cons (pv 6) pa_nil)) (pa_cons (pe_callKs G_isname (hr.mono (by decide)) (by rfl) T.m_is_name T.F_is_name.kp KB_isname pass0 (pk_cons (pv 4) pk_nil)) (pa_cons (pe_call G_isname (hr.mono (by decide)) (by rfl) T.m_is_name T.F_is_name.kp B_isname .nil pass0 (pa_cons (pe_op (q_add (K := K)) (pv 4) pe_str) pa_nil)) pa_nil))))) (pa_cons (pe_lst (pa_cons (pv 7) (pa_cons pe_bl (pa_cons (pv 7) (pa_cons pe_bl pa_nil))))) pa_nil))))) (pss_one (ps_ret pe_bl)) pss_nil)
    (pss_cons (ps_if (pt_not (pt_val (pe_call G_Lsame (hr.mono (by decide)) (by rfl) T.m__law_same T.F__law_same.kp B_Lsame .nil pass0 (pa_cons (pe_call G_isname (hr.mono (by decide)) (by rfl) T.m_is_name T.F_is_name.kp B_isname .nil pass0 (pa_cons (pe_call G_Lof (hr.mono (by decide)) (by rfl) T.m__law_of T.F__law_of.kp B_Lof .nil pass0 (pa_cons (pv 1) (pa_cons (pe_lst (pa_cons pe_non (pa_cons pe_bl (pa_cons pe_int (pa_cons (pe_lst (pa_cons pe_str pa_nil)) (pa_cons (pe_tup (pa_cons pe_str pa_nil)) (pa_cons (pe_tup pa_nil) (pa_cons pe_str (pa_cons pe_str (pa_cons (pe_lst (pa_cons pe_str (pa_cons pe_str pa_nil))) pa_nil)))))))))) pa_nil))) pa_nil)) (pa_cons pe_bl pa_nil))))) (pss_one (ps_ret pe_bl)) pss_nil)
    (pss_cons (ps_par rfl sc_law.nd (i := 8) (j := 9) rfl rfl (by decide) rfl rfl (pa_cons (pe_op op_sub (pe_call G_Ldraw (hr.mono (by decide)) (by rfl) T.m__law_draw T.F__law_draw.kp B_Ldraw .nil pass0 (pa_cons (pv 1) (pa_cons pe_int pa_nil))) pe_int) (pa_cons (pe_op op_sub (pe_call G_Ldraw (hr.mono (by decide)) (by rfl) T.m__law_draw T.F__law_draw.kp B_Ldraw .nil pass0 (pa_cons (pv 1) (pa_cons pe_int pa_nil))) pe_int) pa_nil)) (by rfl))
    (pss_cons (ps_set (i := 10) sc_law.nd rfl (Or.inl rfl) (pe_op (q_add (K := K)) (pv 9) (pe_call G_Lof (hr.mono (by decide)) (by rfl) T.m__law_of T.F__law_of.kp B_Lof .nil pass0 (pa_cons (pv 1) (pa_cons (pe_lst (pa_cons pe_int (pa_cons pe_int (pa_cons (pe_call G_Ldraw (hr.mono (by decide)) (by rfl) T.m__law_draw T.F__law_draw.kp B_Ldraw .nil pass0 (pa_cons (pv 1) (pa_cons pe_int pa_nil))) (pa_cons (pe_un un_neg pe_int) (pa_cons (pe_op op_sub (pe_op op_pow pe_int pe_int) pe_int) pa_nil)))))) pa_nil)))))
    (pss_cons (ps_set (i := 11) sc_law.nd rfl (Or.inl rfl) (pe_and (pe_cmpR op_le (pv 9) (pv 8) (nomark _)) (pe_one (pe_cmpR op_le (pv 8) (pv 10) (nomark _)))))
    (pss_cons (ps_set (i := 12) sc_law.nd rfl (Or.inl rfl) (pe_lst (pa_cons (pe_call G_isnumber (hr.mono (by decide)) (by rfl) T.m_is_number T.F_is_number.kp B_isnumber .nil pass0 (pa_cons (pv 8) (pa_cons (pv 9) (pa_cons (pv 10) pa_nil)))) (pa_cons (pe_callKs G_isnumber (hr.mono (by decide)) (by rfl) T.m_is_number T.F_is_number.kp KB_isnumber pass0 (pk_cons (pv 10) (pk_cons (pv 9) (pk_cons (pv 8) pk_nil)))) (pa_cons (pe_call G_isnumber (hr.mono (by decide)) (by rfl) T.m_is_number T.F_is_number.kp B_isnumber .nil pass0 (pa_cons (pe_op op_sub (pv 9) pe_int) (pa_cons (pv 9) (pa_cons (pv 10) pa_nil)))) pa_nil)))))
    (pss_cons (ps_set (i := 12) sc_law.nd rfl (Or.inl rfl) (pe_op (q_add (K := K)) (pv 12) (pe_lst (pa_cons (pe_call G_isnumber (hr.mono (by decide)) (by rfl) T.m_is_number T.F_is_number.kp B_isnumber .nil pass0 (pa_cons (pe_op (q_add (K := K)) (pv 10) pe_int) (pa_cons (pv 9) (pa_cons (pv 10) pa_nil)))) (pa_cons (pe_call G_isnumber (hr.mono (by decide)) (by rfl) T.m_is_number T.F_is_number.kp B_isnumber .nil pass0 (pa_cons (pv 9) (pa_cons (pv 9) (pa_cons (pv 9) pa_nil)))) (pa_cons (pe_call G_isnumber (hr.mono (by decide)) (by rfl) T.m_is_number T.F_is_number.kp B_isnumber .nil pass0 (pa_cons (pe_call G_Lstrange (hr.mono (by decide)) (by rfl) T.m__law_strange T.F__law_strange.kp B_Lstrange .nil pass0 (pa_cons (pv 1) pa_nil)) (pa_cons (pe_un un_neg pe_int) (pa_cons pe_int pa_nil)))) pa_nil))))))
    (pss_cons (ps_if (pt_not (pt_val (pe_call G_Lsame (hr.mono (by decide)) (by rfl) T.m__law_same T.F__law_same.kp B_Lsame .nil pass0 (pa_cons (pv 12) (pa_cons (pe_lst (pa_cons (pv 11) (pa_cons (pv 11) (pa_cons pe_bl (pa_cons pe_bl (pa_cons pe_bl (pa_cons pe_bl pa_nil))))))) pa_nil))))) (pss_one (ps_ret pe_bl)) pss_nil)
    (pss_one (ps_if (PW.pt (pw_or (pt_not (pt_val (pe_call G_Lendso (hr.mono (by decide)) (by rfl) T.m__law_end_so T.F__law_end_so.kp B_Lendso .nil pass0 (pa_cons (pv 1) (pa_cons (pv 4) (pa_cons (pv 6) pa_nil)))))) (pw_or1 (pt_not (pt_val (pe_call G_Lentryso (hr.mono (by decide)) (by rfl) T.m__law_entry_so T.F__law_entry_so.kp B_Lentryso .nil pass0 (pa_cons (pv 1) (pa_cons (pv 4) (pa_cons (pv 6) pa_nil))))))))) (pss_one (ps_ret pe_bl)) pss_nil)))))))))))))))
  (pss_one (ps_ret (pe_and (pe_call G_isname (hr.mono (by decide)) (by rfl) T.m_is_name T.F_is_name.kp B_isname .nil pass0 (pa_cons pe_str pa_nil)) (pe_and (pe_call G_isnumber (hr.mono (by decide)) (by rfl) T.m_is_number T.F_is_number.kp B_isnumber .nil pass0 (pa_cons (pe_op op_pow pe_int pe_int) (pa_cons (pe_un un_neg (pe_op op_pow pe_int pe_int)) (pa_cons (pe_op op_pow pe_int pe_int) pa_nil)))) (pe_one (pe_call G_isend (hr.mono (by decide)) (by rfl) T.m_is_end T.F_is_end.kp B_isend .nil pass0 (pa_cons (pe_tup (pa_cons pe_str (pa_cons pe_str pa_nil))) pa_nil))))))))), ?_⟩
    refine ⟨.ref a, rfl, a, ns, rfl, hS, hl, fun b G1 H1 w1 => ?_⟩
    refine ⟨show 2 ≤ sizeLine by decide, fun p hp => ?_⟩
    refine ⟨p, _, rfl, .inl (.inl upd_same), rfl, _, _, rfl, _, _, rfl, rfl, ?_⟩
    have hm : (b, IsBag K) ∈ [(b, IsBag K)] := List.mem_singleton.mpr rfl
    dsimp only
    refine run_at (K := K) (M := [(b, IsBag K)]) (G := upd G1 p _) (ds := [none, some (.raw (.ref b)), some (.str lets), none, none, none, none, none, none, none, none, none, none, none]) (E := { nx := fun _ => False, rt := fun d => d = .bl true }) ?_
      (sg_none (sg_some (.raw _) (sg_some (.str _) (sg_none (sg_none (sg_none (sg_none (sg_none (sg_none (sg_none (sg_none (sg_none (sg_none (sg_none sg_nil)))))))))))))) (w1.new hp)
      ⟨fun _ _ _ _ e => e.elim, fun v d G' H' e s' r' w' => by
        have e : d = .bl true := e
        subst e
        rw [r'.bl_inv]
        exact q H', fun _ _ _ _ e => e.elim, fun _ _ _ _ e => e.elim⟩
    refine run_seq (run_forF [none, some (.raw (.ref b)), some (.str lets), none, none, none, none, none, none, none, none, none, none, none] (ei_range (n := 9) (ea1 ev_cint ea_nil) (by decide)) (Fg.refl _) (fun es i d _ _ => ?_) ?_)
    · refine eg_name ?_
      -- the word
      have hlw : lenD (.str lets) = some (signsD lets).length := by decide +kernel
      refine run_asg (R := fun d => ∃ wd : Str, (wd.length ≤ 8 ∧ wd.cps.toList.all (fun c => decide (c ∈ lets.cps.toList)) = true) ∧ d = .str wd) ?_ fun dw ⟨wd, ⟨wl, wa⟩, ew⟩ => ?_
      · refine ev_join (R1 := fun _ => True) (x := Str.ofString "") (xs := []) ev_cstr ?_
        refine Ev.weak (ev_lcR (RI := fun es => es.length ≤ 8) (Pi := fun _ _ y => y ∈ signsD lets) ?_ (fun es h => Nat.le_trans h (by decide)) fun es i d _ _ => ?_) fun d ⟨es, acc, h1, h2, h3, h4⟩ => ?_
        · refine (ei_range1 (ea_cons (ev_draw (ev_var rfl) ev_cint hm (by decide) (by decide)) ea_nil) fun l ⟨x, r, e1, ⟨i, hi, e2⟩, e3⟩ => ⟨i, by rw [e1, e2, e3], by omega, by omega⟩).weak fun es ⟨j, ⟨x, r, e1, ⟨i, hi, e2⟩, e3⟩, e4⟩ => ?_
          have ej : j = i := by cases e1; cases e2; rfl
          rw [e4]
          simp [rangeD]
          omega
        · exact eg_name (ev_of (ev_var rfl) (ev_var rfl) hm rfl hlw (by decide +kernel) (by decide +kernel))
        · obtain ⟨cs, ec, hc⟩ := signs_all h4
          have hlen : cs.length ≤ 8 := by
            have : acc.length = cs.length := by rw [ec]; simp
            omega
          refine ⟨cs.map fun c => ⟨#[c]⟩, by rw [h2, ec], ?_, ?_⟩
          · have z : (Str.ofString "").length = 0 := by decide +kernel
            rw [sum_ones, z]; omega
          · rw [join0]
            exact ⟨_, ⟨by show cs.toArray.size ≤ 8; simpa using hlen, by simpa using hc⟩, rfl⟩
      subst ew
      have hl4 : lenD (.str wd) = some wd.length := if_pos (Nat.le_trans wl (by decide))
      have wl9 : wd.length ≤ 100000 := Nat.le_trans wl (by decide)
      -- the bent word
      refine run_asg (ev_draw (m := (wd.length : Int) + 1) (ev_var rfl) (by walk_at "ev") hm (by omega) (by omega)) fun dz ⟨z, hz, ez⟩ => ?_
      subst ez
      refine run_asg (R := fun d => ∃ bt : Str, Wrd wd bt ∧ d = .str bt) ?_ fun db ⟨bt, W, eb⟩ => ?_
      · refine ev_op (ev_op (ev_slS (ev_var rfl) eo_none (eo_some (ev_var rfl)) wl9) (ev_of (es := bads) (ev_var rfl) (by walk_at "ev") hm rfl rfl) (R := fun d => ∃ c : Nat, ¬ c ∈ lets.cps.toList ∧ d = .str (cutS wd none (some z) ++ (⟨#[c]⟩ : Str))) fun x y ex hy => ?_) (ev_slS (ev_var rfl) (eo_some (ev_var rfl)) eo_none wl9) fun x y ⟨c, hc, ex⟩ ey => ?_
        · obtain ⟨c, ec, hc⟩ := bads_mem hy
          have h1 := cutS_len wd none (some z)
          have h2 : (⟨#[c]⟩ : Str).length = 1 := rfl
          rw [ex, ec]
          exact od_weak (od_addS (by omega)) fun d e => ⟨c, hc, e⟩
        · have h1 := cutS_len wd none (some z)
          have h3 := cutS_len wd (some z) none
          have h2 : (⟨#[c]⟩ : Str).length = 1 := rfl
          rw [ex, ey]
          refine od_weak (od_addS (by rw [PySem.Str.length_append]; omega)) fun d e => ⟨_, ⟨Nat.le_trans wl (by decide), ?_, wa, noName (mid_mem _ _ c) hc⟩, e⟩
          rw [PySem.Str.length_append, PySem.Str.length_append]
          omega
      subst eb
      have okw : okD (.str wd) = true := decide_eq_true wl9
      have okb : okD (.str bt) = true := decide_eq_true (Nat.le_trans W.lenb (by decide))
      refine run_asg1 (d := .bl (rightOf wd)) (ev_eq (by walk_at "ev") (by exact rfl)) ?_
      -- names
      refine run_seq (run_ifF (et_not (et_B (ev_same (R := fun _ => True) (d := .list [.bl (rightOf wd), .bl false, .bl (rightOf wd), .bl false]) ?_ (by walk_at "ev") (by rfl)))) rfl (run_next ?_))
      · have hn1 : (Str.ofString "\n").length = 1 := by decide +kernel
        refine ev_lst1 (ea1 (ev_nameR (ev_var rfl) fun x e => by subst e; exact ⟨okw, W.name⟩) (ea1 (ev_nameR (ev_var rfl) fun x e => by subst e; exact ⟨okb, W.bent⟩) (ea1 (ev_eq (ev_nameK (ev_var rfl) okw) (by rw [← W.name]; rfl)) (ea1 (ev_nameR (by walk_at "ev") fun x e => ?_) ea_nil)))) (by simp)
        subst e
        refine ⟨decide_eq_true (by rw [PySem.Str.length_append]; omega), noName (last_mem wd) (by decide +kernel)⟩
      refine run_seq (run_ifF (et_not (et_B (ev_same (R := fun _ => True) (d := .bl false) (ev_nameR (ev_of (es := noNames) (ev_var rfl) (by walk_at "ev") hm rfl rfl) noNames_ok) ev_cbl (by rfl)))) rfl (run_next ?_))
      -- numbers
      refine run_seq (run_par (ea_cons (ev_subAny (ev_any (ev_draw (ev_var rfl) ev_cint hm (by decide) (by decide)) fun d ⟨i, _, e⟩ => ⟨i, e⟩) (ev_any ev_cint fun d e => ⟨_, e⟩)) (ea_cons (ev_subAny (ev_any (ev_draw (ev_var rfl) ev_cint hm (by decide) (by decide)) fun d ⟨i, _, e⟩ => ⟨i, e⟩) (ev_any ev_cint fun d e => ⟨_, e⟩)) ea_nil)) fun l ⟨x, r, el, ⟨nu, ex⟩, y, r2, el2, ⟨lo, ey⟩, er⟩ => ⟨.int nu, .int lo, by rw [el, el2, ex, ey, er], ?_⟩)
      refine run_asg (R := anyInt) ?_ fun dh ⟨hi, eh⟩ => ?_
      · refine ev_addAny (ev_any (ev_var rfl) fun d e => ⟨lo, e⟩) (ev_ofR (ev_var rfl) (ev_lst (ea_cons ev_cint (ea_cons ev_cint (ea_cons (ev_draw (ev_var rfl) ev_cint hm (by decide) (by decide)) (ea_cons (by walk_at "ev") (ea_cons (by walk_at "ev") ea_nil))))) ?_) hm ?_)
        · intro as ⟨x1, r1, e1, _, x2, r2, e2, _, x3, r3, e3, _, x4, r4, e4, _, x5, r5, e5, _, e6⟩
          subst e6; subst e5; subst e4; subst e3; subst e2; subst e1
          exact Nat.le_of_ble_eq_true rfl
        · intro d ⟨as, ed, x1, r1, e1, h1, x2, r2, e2, h2, x3, r3, e3, ⟨k, _, h3⟩, x4, r4, e4, h4, x5, r5, e5, h5, e6⟩
          subst e6; subst e5; subst e4; subst e3; subst e2; subst e1; subst ed
          refine ⟨_, rfl, rfl, fun xs h => (by cases h), Nat.le_of_ble_eq_true rfl, Nat.le_of_ble_eq_true rfl, fun e he => ?_⟩
          simp only [List.mem_cons, List.not_mem_nil, or_false] at he
          rcases he with he | he | he | he | he
          · exact ⟨_, he.trans h1⟩
          · exact ⟨_, he.trans h2⟩
          · exact ⟨_, he.trans h3⟩
          · exact ⟨_, he.trans h4⟩
          · exact ⟨_, he.trans h5⟩
      subst eh
      apply run_asg1
      · walk_at "ev"
      have i1 : isNumD (.int (lo - 1)) lo hi = false := by
        show (decide (lo ≤ lo - 1) && _) = false
        rw [decide_eq_false (by omega)]; rfl
      have i2 : isNumD (.int (hi + 1)) lo hi = false := by
        show (_ && decide (hi + 1 ≤ hi)) = false
        rw [decide_eq_false (show ¬ hi + 1 ≤ hi by omega), Bool.and_false]
      have i3 : isNumD (.int lo) lo lo = true := by
        show (decide (lo ≤ lo) && decide (lo ≤ lo)) = true
        rw [decide_eq_true (Int.le_refl lo)]; rfl
      refine run_asg1 (d := .list [.bl (isNumD (.int nu) lo hi), .bl (isNumD (.int nu) lo hi), .bl false]) (ev_lst1 (ea1 (ev_num (ev_var rfl) (ev_var rfl) (ev_var rfl) rfl) (ea1 (ev_numK (ev_var rfl) (ev_var rfl) (ev_var rfl)) (ea1 (ev_eq (ev_num (by walk_at "ev") (ev_var rfl) (ev_var rfl) rfl) (by rw [i1])) ea_nil))) (by simp)) ?_
      refine run_asg1 (d := .list [.bl (isNumD (.int nu) lo hi), .bl (isNumD (.int nu) lo hi), .bl false, .bl false, .bl true, .bl false]) (ev_eq (ev_op1 (ev_var rfl) (ev_lst1 (ea1 (ev_eq (ev_num (by walk_at "ev") (ev_var rfl) (ev_var rfl) rfl) (by rw [i2])) (ea1 (ev_eq (ev_num (ev_var rfl) (ev_var rfl) (ev_var rfl) rfl) (by rw [i3])) (ea1 (ev_numR (ev_strange (ev_var rfl) hm) (by walk_at "ev") ev_cint fun x e => ⟨(strange_ok x e).2.2.2.1, (strange_ok x e).2.2.2.2 _ _⟩) ea_nil))) (by simp)) (od_catL (by simp))) (by exact rfl)) ?_
      refine run_seq (run_ifF (et_not (et_B (ev_same (R := fun _ => True) (ev_var rfl) (by walk_at "ev") (by rfl)))) rfl (run_next ?_))
      -- ends and entries
      refine run_ifF (et_orF (et_not (et_B (ev_so (ev_var rfl) (ev_var rfl) (ev_var rfl) hm W))) rfl (et_not (et_B (ev_so (ev_var rfl) (ev_var rfl) (ev_var rfl) hm W)))) rfl (run_next ?_)
      exact .keep (.keep (.keep (.drop (.drop (.drop (.drop (.drop (.drop (.drop (.drop (.drop (.drop (.drop .nil)))))))))))))
    · show Rg.Run K _ _ (tRet _) _
      refine run_ret1 (d := .bl true) (ev_andT (ev_nameR (v := true) ev_cstr fun x e => by subst e; exact ⟨by decide +kernel, by decide +kernel⟩) rfl ?_) rfl
      refine ev_andT (ev_eq (ev_num (by walk_at "ev") (by walk_at "ev") (by walk_at "ev") rfl) (by exact rfl)) (by decide +kernel) ?_
      refine ev_end (by walk_at "ev") fun x e => by subst e; exact ⟨by decide +kernel, by decide +kernel⟩
end
end K1
namespace K1
open PySem L2 Rg RZ PyProof.Rows
theorem all_mk {l : PySem.W.OpenLaw} {w : World} {K : PySem.W.Frag} {h : Heap} {mg : Str → Option Value} {fa f0 f1 f2 f3 f4 f5 f6 f7 f8 f9 f10 f11 pS : Addr} {od0 an0 od1 an1 od2 an2 od3 an3 od4 an4 od5 an5 od6 an6 od7 an7 od8 an8 od9 an9 od10 an10 od11 an11 odS : Option Addr} {sl0 sl1 sl2 sl3 sl4 sl5 sl6 sl7 sl8 sl9 sl10 sl11 slS : Array (Option Value)} {oc0 kV0 dc0 pm0 cd0 ct0 oc1 kV1 dc1 pm1 cd1 ct1 oc2 kV2 dc2 pm2 cd2 ct2 oc3 kV3 dc3 pm3 cd3 ct3 oc4 kV4 dc4 pm4 cd4 ct4 oc5 kV5 dc5 pm5 cd5 ct5 oc6 kV6 dc6 pm6 cd6 ct6 oc7 kV7 dc7 pm7 cd7 ct7 oc8 kV8 dc8 pm8 cd8 ct8 oc9 kV9 dc9 pm9 cd9 ct9 oc10 kV10 dc10 pm10 cd10 ct10 oc11 kV11 dc11 pm11 cd11 ct11 : Value} {tA tB tC tS1 tS2 tS3 tS4 tS5 tS6 tS7 : Tok} {nS : Nat}
    (X : K.In h) (G : h.Ns mainGlobals mg) (hfa : mg "law" = some (.ref fa))
    (a0 : PySem.W.nsIn K mainGlobals "is_name" = some (some (.ref f0))) (l0 : K.lookup f0 = some ⟨oc0, od0, .func (PySem.W.fnOf "is_name" "is_name" (defArgs s_isname) (defBody s_isname) (defScope s_isname) .none kV0 dc0 pm0 an0 cd0 ct0), sl0⟩) (c0 : PySem.W.codeIn K cd0 "is_name" = true) (k0 : PySem.W.keepIn K (.ref f0) = true)
    (a1 : PySem.W.nsIn K mainGlobals "is_number" = some (some (.ref f1))) (l1 : K.lookup f1 = some ⟨oc1, od1, .func (PySem.W.fnOf "is_number" "is_number" (defArgs s_isnumber) (defBody s_isnumber) (defScope s_isnumber) .none kV1 dc1 pm1 an1 cd1 ct1), sl1⟩) (c1 : PySem.W.codeIn K cd1 "is_number" = true) (k1 : PySem.W.keepIn K (.ref f1) = true)
    (a2 : PySem.W.nsIn K mainGlobals "is_end" = some (some (.ref f2))) (l2 : K.lookup f2 = some ⟨oc2, od2, .func (PySem.W.fnOf "is_end" "is_end" (defArgs s_isend) (defBody s_isend) (defScope s_isend) .none kV2 dc2 pm2 an2 cd2 ct2), sl2⟩) (c2 : PySem.W.codeIn K cd2 "is_end" = true) (k2 : PySem.W.keepIn K (.ref f2) = true)
    (a3 : PySem.W.nsIn K mainGlobals "is_entry" = some (some (.ref f3))) (l3 : K.lookup f3 = some ⟨oc3, od3, .func (PySem.W.fnOf "is_entry" "is_entry" (defArgs s_isentry) (defBody s_isentry) (defScope s_isentry) .none kV3 dc3 pm3 an3 cd3 ct3), sl3⟩) (c3 : PySem.W.codeIn K cd3 "is_entry" = true) (k3 : PySem.W.keepIn K (.ref f3) = true)
    (a4 : PySem.W.nsIn K mainGlobals "_law_bag" = some (some (.ref f4))) (l4 : K.lookup f4 = some ⟨oc4, od4, .func (PySem.W.fnOf "_law_bag" "_law_bag" (defArgs s_Lbag) (defBody s_Lbag) (defScope s_Lbag) .none kV4 dc4 pm4 an4 cd4 ct4), sl4⟩) (c4 : PySem.W.codeIn K cd4 "_law_bag" = true) (k4 : PySem.W.keepIn K (.ref f4) = true)
    (a5 : PySem.W.nsIn K mainGlobals "_law_draw" = some (some (.ref f5))) (l5 : K.lookup f5 = some ⟨oc5, od5, .func (PySem.W.fnOf "_law_draw" "_law_draw" (defArgs s_Ldraw) (defBody s_Ldraw) (defScope s_Ldraw) .none kV5 dc5 pm5 an5 cd5 ct5), sl5⟩) (c5 : PySem.W.codeIn K cd5 "_law_draw" = true) (k5 : PySem.W.keepIn K (.ref f5) = true)
    (a6 : PySem.W.nsIn K mainGlobals "_law_of" = some (some (.ref f6))) (l6 : K.lookup f6 = some ⟨oc6, od6, .func (PySem.W.fnOf "_law_of" "_law_of" (defArgs s_Lof) (defBody s_Lof) (defScope s_Lof) .none kV6 dc6 pm6 an6 cd6 ct6), sl6⟩) (c6 : PySem.W.codeIn K cd6 "_law_of" = true) (k6 : PySem.W.keepIn K (.ref f6) = true)
    (a7 : PySem.W.nsIn K mainGlobals "_law_same" = some (some (.ref f7))) (l7 : K.lookup f7 = some ⟨oc7, od7, .func (PySem.W.fnOf "_law_same" "_law_same" (defArgs s_Lsame) (defBody s_Lsame) (defScope s_Lsame) .none kV7 dc7 pm7 an7 cd7 ct7), sl7⟩) (c7 : PySem.W.codeIn K cd7 "_law_same" = true) (k7 : PySem.W.keepIn K (.ref f7) = true)
    (a8 : PySem.W.nsIn K mainGlobals "_law_strange" = some (some (.ref f8))) (l8 : K.lookup f8 = some ⟨oc8, od8, .func (PySem.W.fnOf "_law_strange" "_law_strange" (defArgs s_Lstrange) (defBody s_Lstrange) (defScope s_Lstrange) .none kV8 dc8 pm8 an8 cd8 ct8), sl8⟩) (c8 : PySem.W.codeIn K cd8 "_law_strange" = true) (k8 : PySem.W.keepIn K (.ref f8) = true)
    (a9 : PySem.W.nsIn K mainGlobals "_law_end_so" = some (some (.ref f9))) (l9 : K.lookup f9 = some ⟨oc9, od9, .func (PySem.W.fnOf "_law_end_so" "_law_end_so" (defArgs s_Lendso) (defBody s_Lendso) (defScope s_Lendso) .none kV9 dc9 pm9 an9 cd9 ct9), sl9⟩) (c9 : PySem.W.codeIn K cd9 "_law_end_so" = true) (k9 : PySem.W.keepIn K (.ref f9) = true)
    (a10 : PySem.W.nsIn K mainGlobals "_law_entry_so" = some (some (.ref f10))) (l10 : K.lookup f10 = some ⟨oc10, od10, .func (PySem.W.fnOf "_law_entry_so" "_law_entry_so" (defArgs s_Lentryso) (defBody s_Lentryso) (defScope s_Lentryso) .none kV10 dc10 pm10 an10 cd10 ct10), sl10⟩) (c10 : PySem.W.codeIn K cd10 "_law_entry_so" = true) (k10 : PySem.W.keepIn K (.ref f10) = true)
    (a11 : PySem.W.nsIn K mainGlobals "law" = some (some (.ref f11))) (l11 : K.lookup f11 = some ⟨oc11, od11, .func (PySem.W.fnOf "law" "law" (defArgs s_law) (defBody s_law) (defScope s_law) .none kV11 dc11 pm11 an11 cd11 ct11), sl11⟩) (c11 : PySem.W.codeIn K cd11 "law" = true) (k11 : PySem.W.keepIn K (.ref f11) = true)
    (z0 : PySem.W.nsIn K mainGlobals "isinstance" = some none)    (z1 : PySem.W.nsIn K mainGlobals "len" = some none)    (z2 : PySem.W.nsIn K mainGlobals "all" = some none)    (z3 : PySem.W.nsIn K mainGlobals "abs" = some none)    (z4 : PySem.W.nsIn K mainGlobals "int" = some none)    (z5 : PySem.W.nsIn K mainGlobals "str" = some none)    (z6 : PySem.W.nsIn K mainGlobals "list" = some none)    (z7 : PySem.W.nsIn K mainGlobals "tuple" = some none)    (z8 : PySem.W.nsIn K mainGlobals "bool" = some none)    (z9 : PySem.W.nsIn K mainGlobals "range" = some none)    (z10 : PySem.W.nsIn K mainGlobals "zip" = some none)
    (y0 : PySem.W.nsIn K mainGlobals "LONGEST" = some (some (.int 6 tA))) (y1 : PySem.W.nsIn K mainGlobals "LAST_STEP" = some (some (.int 5 tB))) (y2 : PySem.W.nsIn K mainGlobals "LETTERS" = some (some (.str "abcdefghijklmnopqrstuvwxyz" tC)))
    (y3 : PySem.W.nsIn K mainGlobals "SIDES" = some (some (.ref pS))) (y4 : K.lookup pS = some ⟨.type "tuple", odS, .seq #[.str "a" tS1, .str "b" tS2, .str "c" tS3, .str "d" tS4, .str "left" tS5, .str "right" tS6, .str "stem" tS7] nS, slS⟩) :
    ∃ fd : FuncData, (∀ (s : Shared) (v : Value), BindsTo s fd ⟨[v], []⟩ [("_law_script", v)]) ∧ ∀ base : Heap, K.In base → base.Ns mainGlobals mg → FnOk l.prog w K mg base CX0 5 fa fd ["_law_script"] (spLaw K) := by
  have e := hfa.symm.trans (PySem.W.mg_of X G a11)
  cases e
  let T : Tx K mg := {
    f_is_name := f0
    fd_is_name := PySem.W.fnOf "is_name" "is_name" (defArgs s_isname) (defBody s_isname) (defScope s_isname) .none kV0 dc0 pm0 an0 cd0 ct0
    F_is_name := fun_mk (st := s_isname) l0 c0 k0
    m_is_name := PySem.W.mg_of X G a0
    f_is_number := f1
    fd_is_number := PySem.W.fnOf "is_number" "is_number" (defArgs s_isnumber) (defBody s_isnumber) (defScope s_isnumber) .none kV1 dc1 pm1 an1 cd1 ct1
    F_is_number := fun_mk (st := s_isnumber) l1 c1 k1
    m_is_number := PySem.W.mg_of X G a1
    f_is_end := f2
    fd_is_end := PySem.W.fnOf "is_end" "is_end" (defArgs s_isend) (defBody s_isend) (defScope s_isend) .none kV2 dc2 pm2 an2 cd2 ct2
    F_is_end := fun_mk (st := s_isend) l2 c2 k2
    m_is_end := PySem.W.mg_of X G a2
    f_is_entry := f3
    fd_is_entry := PySem.W.fnOf "is_entry" "is_entry" (defArgs s_isentry) (defBody s_isentry) (defScope s_isentry) .none kV3 dc3 pm3 an3 cd3 ct3
    F_is_entry := fun_mk (st := s_isentry) l3 c3 k3
    m_is_entry := PySem.W.mg_of X G a3
    f__law_bag := f4
    fd__law_bag := PySem.W.fnOf "_law_bag" "_law_bag" (defArgs s_Lbag) (defBody s_Lbag) (defScope s_Lbag) .none kV4 dc4 pm4 an4 cd4 ct4
    F__law_bag := fun_mk (st := s_Lbag) l4 c4 k4
    m__law_bag := PySem.W.mg_of X G a4
    f__law_draw := f5
    fd__law_draw := PySem.W.fnOf "_law_draw" "_law_draw" (defArgs s_Ldraw) (defBody s_Ldraw) (defScope s_Ldraw) .none kV5 dc5 pm5 an5 cd5 ct5
    F__law_draw := fun_mk (st := s_Ldraw) l5 c5 k5
    m__law_draw := PySem.W.mg_of X G a5
    f__law_of := f6
    fd__law_of := PySem.W.fnOf "_law_of" "_law_of" (defArgs s_Lof) (defBody s_Lof) (defScope s_Lof) .none kV6 dc6 pm6 an6 cd6 ct6
    F__law_of := fun_mk (st := s_Lof) l6 c6 k6
    m__law_of := PySem.W.mg_of X G a6
    f__law_same := f7
    fd__law_same := PySem.W.fnOf "_law_same" "_law_same" (defArgs s_Lsame) (defBody s_Lsame) (defScope s_Lsame) .none kV7 dc7 pm7 an7 cd7 ct7
    F__law_same := fun_mk (st := s_Lsame) l7 c7 k7
    m__law_same := PySem.W.mg_of X G a7
    f__law_strange := f8
    fd__law_strange := PySem.W.fnOf "_law_strange" "_law_strange" (defArgs s_Lstrange) (defBody s_Lstrange) (defScope s_Lstrange) .none kV8 dc8 pm8 an8 cd8 ct8
    F__law_strange := fun_mk (st := s_Lstrange) l8 c8 k8
    m__law_strange := PySem.W.mg_of X G a8
    f__law_end_so := f9
    fd__law_end_so := PySem.W.fnOf "_law_end_so" "_law_end_so" (defArgs s_Lendso) (defBody s_Lendso) (defScope s_Lendso) .none kV9 dc9 pm9 an9 cd9 ct9
    F__law_end_so := fun_mk (st := s_Lendso) l9 c9 k9
    m__law_end_so := PySem.W.mg_of X G a9
    f__law_entry_so := f10
    fd__law_entry_so := PySem.W.fnOf "_law_entry_so" "_law_entry_so" (defArgs s_Lentryso) (defBody s_Lentryso) (defScope s_Lentryso) .none kV10 dc10 pm10 an10 cd10 ct10
    F__law_entry_so := fun_mk (st := s_Lentryso) l10 c10 k10
    m__law_entry_so := PySem.W.mg_of X G a10
    f_law := fa
    fd_law := PySem.W.fnOf "law" "law" (defArgs s_law) (defBody s_law) (defScope s_law) .none kV11 dc11 pm11 an11 cd11 ct11
    F_law := fun_mk (st := s_law) l11 c11 k11
    m_law := PySem.W.mg_of X G a11
    b_isinstance := PySem.W.mg_none_of X G z0
    b_len := PySem.W.mg_none_of X G z1
    b_all := PySem.W.mg_none_of X G z2
    b_abs := PySem.W.mg_none_of X G z3
    b_int := PySem.W.mg_none_of X G z4
    b_str := PySem.W.mg_none_of X G z5
    b_list := PySem.W.mg_none_of X G z6
    b_tuple := PySem.W.mg_none_of X G z7
    b_bool := PySem.W.mg_none_of X G z8
    b_range := PySem.W.mg_none_of X G z9
    b_zip := PySem.W.mg_none_of X G z10
    u_LONGEST := _
    c_LONGEST := PySem.W.mg_of X G y0
    r_LONGEST := ⟨_, rfl⟩
    u_LAST_STEP := _
    c_LAST_STEP := PySem.W.mg_of X G y1
    r_LAST_STEP := ⟨_, rfl⟩
    u_LETTERS := _
    c_LETTERS := PySem.W.mg_of X G y2
    r_LETTERS := ⟨_, rfl⟩
    a_SIDES := pS
    c_SIDES := PySem.W.mg_of X G y3
    r_SIDES := rfl
    q_SIDES := fun H => .inr ⟨_, _, _, y4, rfl, rfl, show 7 ≤ sizeLine by decide, .cons ⟨_, rfl⟩ (.cons ⟨_, rfl⟩ (.cons ⟨_, rfl⟩ (.cons ⟨_, rfl⟩ (.cons ⟨_, rfl⟩ (.cons ⟨_, rfl⟩ (.cons ⟨_, rfl⟩ .nil))))))⟩ }
  exact ⟨T.fd_law, fun s v => .of_eq rfl, fun base _ _ => ok_law T⟩
end K1
open PySem PySem.W PyProof.Rows
set_option maxHeartbeats 0 in
theorem PySem.Challenge.cw_ringlessday_k01_names_and_ends_judged_holds : PySem.Challenge.rw_ringlessday_k01_names_and_ends_judged.Holds := by
  w_on; o_law; k_head; (case hw => w_witness2)
  k_fill
  refine L2.walk_of (l := PySem.Challenge.rw_ringlessday_k01_names_and_ends_judged) (n := 63) (k := 5) (x := "_law_script") (CX := fun _ => L2.CX0) (sp := fun w => K1.spLaw _) rfl (by decide) rfl ⟨rfl, by decide, by decide⟩ (fun w h Y => PySem.W.kIn_of Y) ?F (fun _ _ a ns hl _ hS => ⟨a, ns, rfl, hS, hl, fun _ => rfl⟩) (fun _ _ _ _ _ h => h)
  case F =>
    intro w mg fa h KX G hmg
    refine' K1.all_mk KX G hmg ?a0 ?l0 ?c0 ?k0 ?a1 ?l1 ?c1 ?k1 ?a2 ?l2 ?c2 ?k2 ?a3 ?l3 ?c3 ?k3 ?a4 ?l4 ?c4 ?k4 ?a5 ?l5 ?c5 ?k5 ?a6 ?l6 ?c6 ?k6 ?a7 ?l7 ?c7 ?k7 ?a8 ?l8 ?c8 ?k8 ?a9 ?l9 ?c9 ?k9 ?a10 ?l10 ?c10 ?k10 ?a11 ?l11 ?c11 ?k11 ?z0 ?z1 ?z2 ?z3 ?z4 ?z5 ?z6 ?z7 ?z8 ?z9 ?z10 ?y0 ?y1 ?y2 ?y3 ?y4
    (case a0 => k_is); (case l0 => k_is); (case c0 => k_is); (case k0 => k_is); (case a1 => k_is); (case l1 => k_is); (case c1 => k_is); (case k1 => k_is); (case a2 => k_is); (case l2 => k_is); (case c2 => k_is); (case k2 => k_is); (case a3 => k_is); (case l3 => k_is); (case c3 => k_is); (case k3 => k_is); (case a4 => k_is); (case l4 => k_is); (case c4 => k_is); (case k4 => k_is); (case a5 => k_is); (case l5 => k_is); (case c5 => k_is); (case k5 => k_is); (case a6 => k_is); (case l6 => k_is); (case c6 => k_is); (case k6 => k_is); (case a7 => k_is); (case l7 => k_is); (case c7 => k_is); (case k7 => k_is); (case a8 => k_is); (case l8 => k_is); (case c8 => k_is); (case k8 => k_is); (case a9 => k_is); (case l9 => k_is); (case c9 => k_is); (case k9 => k_is); (case a10 => k_is); (case l10 => k_is); (case c10 => k_is); (case k10 => k_is); (case a11 => k_is); (case l11 => k_is); (case c11 => k_is); (case k11 => k_is); (case z0 => k_is); (case z1 => k_is); (case z2 => k_is); (case z3 => k_is); (case z4 => k_is); (case z5 => k_is); (case z6 => k_is); (case z7 => k_is); (case z8 => k_is); (case z9 => k_is); (case z10 => k_is); (case y0 => k_is); (case y1 => k_is); (case y2 => k_is); (case y3 => k_is); (case y4 => k_is)
