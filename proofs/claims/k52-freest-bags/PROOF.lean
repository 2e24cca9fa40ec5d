import PyProof.Rows.All
import Wide.All
import OpenK.AllK
import Wide.FinOn
import HandS.ForMost
import HandS.Conv
import HandS.IsInst
import HandS.HeadHook2
import HandS.Codes
import HandS.TupAny
import HandS.Defaults
import HandS.Deep
import HandS.SortInts
import HandS.Style
import KE.KSortedM
import HandS.SortKw
import HandS.SetFor
import HandS.Strs
import KE.KStateDown
import HandS.HeadEnd
import HandS.Head2
import PySem.Challenge.RW_waysleft_k52_freest_bags
set_option Elab.async false
set_option linter.all false
set_option maxRecDepth 100000
set_option maxHeartbeats 0

/-! FLCore: values as data (D), what a slot holds (T: shared data, or a tree of objects that this frame alone owns), and what the abstract heap says of them. -/
namespace FL
open L2 PyProof.Rows PySem.Spec PySem

inductive D where
  | non | bl (b : Bool) | int (i : Int) | str (x : Str)
  | tup (ds : List D) | lst (ds : List D)
  | dic (ks : List Key) (ds : List D)
  | obj (c : Str) (ns : List Str) (ds : List D)
inductive T where
  | no | sh (d : D) | ls (ts : List T)
  | di (ks : List Key) (ts : List T)
  | ob (mk : Bool) (c : Str) (ns : List Str) (ts : List T)

def Sub (F G : Hp) : Prop := ∀ a o, F a = some o → G a = some o
theorem Sub.refl (F : Hp) : Sub F F := fun _ _ h => h
theorem Sub.trans {F G I : Hp} (a : Sub F G) (b : Sub G I) : Sub F I := fun x o h => b x o (a x o h)
theorem Sub.free {F G : Hp} (s : Sub F G) {a : Addr} (h : G a = none) : F a = none := by
  cases q : F a with
  | none => rfl
  | some o => rw [s a o q] at h; cases h
theorem Sub.lay {F : Hp} {a : Addr} {o : HO} (h : F a = none) : Sub F (upd F a o) := fun b u e => by
  rw [upd_ne (ne_of_none e h)]; exact e
theorem Sub.rd {F G : Hp} (s : Sub F G) {a : Addr} {u : HO} (h : Rd F a u) : Rd G a u := by
  rcases h with h | ⟨o, h⟩
  · exact .inl (s _ _ h)
  · exact .inr ⟨o, s _ _ h⟩
theorem Sub.seqL {K : PySem.W.Frag} {F G : Hp} (s : Sub F G) {a : Addr} {vs : List V} (h : SqL K F a vs) : SqL K G a vs := by
  rcases h with h | h
  · exact .inl (s.rd h)
  · exact .inr h
theorem Sub.seqT {K : PySem.W.Frag} {F G : Hp} (s : Sub F G) {a : Addr} {vs : List V} (h : SqT K F a vs) : SqT K G a vs := by
  rcases h with h | h
  · exact .inl (s.rd h)
  · exact .inr h

/-! ### data in a heap -/
mutual
def Rep (K : PySem.W.Frag) (F : Hp) : D → V → Prop
  | .non, v => v = .non
  | .bl b, v => v = .bl b
  | .int i, v => v = .int i
  | .str x, v => v = .str x
  | .tup ds, v => ∃ a vs, v = .ref a ∧ SqT K F a vs ∧ Reps K F ds vs
  | .lst ds, v => ∃ a vs, v = .ref a ∧ SqL K F a vs ∧ Reps K F ds vs
  | .dic ks ds, v => ∃ a vs, v = .ref a ∧ F a = some (.dK (ks.zip vs)) ∧ ks.length = vs.length ∧ Reps K F ds vs
  | .obj c ns ds, v => ∃ a dx vs, v = .ref a ∧ F a = some (.ins (He.ga K c) dx (ns.zip vs)) ∧ ns.length = vs.length ∧ Reps K F ds vs
def Reps (K : PySem.W.Frag) (F : Hp) : List D → List V → Prop
  | [], vs => vs = []
  | d :: ds, vs => ∃ v r, vs = v :: r ∧ Rep K F d v ∧ Reps K F ds r
end
mutual
theorem Rep.mono {K : PySem.W.Frag} {F G : Hp} (s : Sub F G) : ∀ {d : D} {v : V}, Rep K F d v → Rep K G d v
  | .non, _, h => h
  | .bl _, _, h => h
  | .int _, _, h => h
  | .str _, _, h => h
  | .tup ds, _, ⟨a, vs, e, h, r⟩ => ⟨a, vs, e, s.seqT h, Reps.mono s r⟩
  | .lst ds, _, ⟨a, vs, e, h, r⟩ => ⟨a, vs, e, s.seqL h, Reps.mono s r⟩
  | .dic ks ds, _, ⟨a, vs, e, h, l, r⟩ => ⟨a, vs, e, s _ _ h, l, Reps.mono s r⟩
  | .obj c ns ds, _, ⟨a, dx, vs, e, h, l, r⟩ => ⟨a, dx, vs, e, s _ _ h, l, Reps.mono s r⟩
theorem Reps.mono {K : PySem.W.Frag} {F G : Hp} (s : Sub F G) : ∀ {ds : List D} {vs : List V}, Reps K F ds vs → Reps K G ds vs
  | [], _, h => h
  | d :: ds, _, ⟨v, r, e, h, t⟩ => ⟨v, r, e, Rep.mono s h, Reps.mono s t⟩
end
theorem Reps.nil {K : PySem.W.Frag} {F : Hp} : Reps K F [] [] := rfl
theorem Reps.cons {K : PySem.W.Frag} {F : Hp} {d : D} {ds : List D} {v : V} {vs : List V} (h : Rep K F d v) (t : Reps K F ds vs) : Reps K F (d :: ds) (v :: vs) := ⟨v, vs, rfl, h, t⟩
theorem Reps.length {K : PySem.W.Frag} {F : Hp} : ∀ {ds : List D} {vs : List V}, Reps K F ds vs → ds.length = vs.length
  | [], _, h => by cases h; rfl
  | d :: ds, _, ⟨v, r, e, _, t⟩ => by subst e; simp [Reps.length t]
theorem Reps.get {K : PySem.W.Frag} {F : Hp} : ∀ {ds : List D} {vs : List V} {i : Nat} {d : D}, Reps K F ds vs → ds[i]? = some d → ∃ v, vs[i]? = some v ∧ Rep K F d v
  | [], _, i, d, _, e => by simp at e
  | x :: ds, _, 0, d, ⟨v, r, e, h, _⟩, e2 => by
    subst e; simp at e2; subst e2; exact ⟨v, rfl, h⟩
  | x :: ds, _, i + 1, d, ⟨v, r, e, _, t⟩, e2 => by
    subst e
    obtain ⟨u, h1, h2⟩ := Reps.get (i := i) (d := d) t (by simpa using e2)
    exact ⟨u, by simpa using h1, h2⟩
theorem Reps.get' {K : PySem.W.Frag} {F : Hp} {ds : List D} {vs : List V} {i : Nat} {v : V} (h : Reps K F ds vs) (e : vs[i]? = some v) : ∃ d, ds[i]? = some d ∧ Rep K F d v := by
  have hl := h.length
  have hi : i < vs.length := (List.getElem?_eq_some_iff.mp e).1
  obtain ⟨u, h1, h2⟩ := h.get (List.getElem?_eq_getElem (by omega : i < ds.length))
  rw [h1] at e; cases e
  exact ⟨_, List.getElem?_eq_getElem (by omega : i < ds.length), h2⟩
theorem Reps.append {K : PySem.W.Frag} {F : Hp} : ∀ {ds es : List D} {vs ws : List V}, Reps K F ds vs → Reps K F es ws → Reps K F (ds ++ es) (vs ++ ws)
  | [], _, _, _, h, q => by cases h; exact q
  | d :: ds, _, _, _, ⟨v, r, e, h, t⟩, q => by subst e; exact ⟨v, _, rfl, h, Reps.append t q⟩
theorem Reps.take {K : PySem.W.Frag} {F : Hp} : ∀ {ds : List D} {vs : List V} (n : Nat), Reps K F ds vs → Reps K F (ds.take n) (vs.take n)
  | [], _, n, h => by cases h; simp [Reps]
  | d :: ds, _, 0, _ => by simp [Reps]
  | d :: ds, _, n + 1, ⟨v, r, e, h, t⟩ => by subst e; exact ⟨v, _, rfl, h, Reps.take n t⟩
theorem Reps.drop {K : PySem.W.Frag} {F : Hp} : ∀ {ds : List D} {vs : List V} (n : Nat), Reps K F ds vs → Reps K F (ds.drop n) (vs.drop n)
  | [], _, n, h => by cases h; simp [Reps]
  | d :: ds, _, 0, h => h
  | d :: ds, _, n + 1, ⟨v, r, e, h, t⟩ => by subst e; exact Reps.drop n t
theorem Reps.set {K : PySem.W.Frag} {F : Hp} {d : D} {v : V} (q : Rep K F d v) : ∀ {ds : List D} {vs : List V} (n : Nat), Reps K F ds vs → Reps K F (ds.set n d) (vs.set n v)
  | [], _, n, h => by cases h; simp [Reps]
  | x :: ds, _, 0, ⟨v, r, e, h, t⟩ => by subst e; exact ⟨_, _, rfl, q, t⟩
  | x :: ds, _, n + 1, ⟨v, r, e, h, t⟩ => by subst e; exact ⟨v, _, rfl, h, Reps.set q n t⟩
theorem reps_map {K : PySem.W.Frag} {F : Hp} {α : Type} {f : α → D} {g : α → V} (h : ∀ x, Rep K F (f x) (g x)) : ∀ xs : List α, Reps K F (xs.map f) (xs.map g)
  | [] => rfl
  | x :: xs => ⟨_, _, rfl, h x, reps_map h xs⟩
theorem reps_ints {K : PySem.W.Frag} {F : Hp} (ns : List Int) : Reps K F (ns.map D.int) (ns.map V.int) := reps_map (f := D.int) (g := V.int) (fun _ => by simp [Rep]) ns
theorem reps_ints' {K : PySem.W.Frag} {F : Hp} : ∀ {ns : List Int} {vs : List V}, Reps K F (ns.map D.int) vs → vs = ns.map V.int
  | [], _, h => h
  | n :: ns, _, ⟨v, r, e, h, t⟩ => by
    subst e
    have h1 : v = V.int n := h
    rw [h1, reps_ints' (ns := ns) t]; rfl
theorem reps_strs' {K : PySem.W.Frag} {F : Hp} : ∀ {ns : List Str} {vs : List V}, Reps K F (ns.map D.str) vs → vs = ns.map V.str
  | [], _, h => h
  | n :: ns, _, ⟨v, r, e, h, t⟩ => by
    subst e
    have h1 : v = V.str n := h
    rw [h1, reps_strs' (ns := ns) t]; rfl

/-! ### an entry: B what stood and must stay, F its shared part, S the instance that an __init__ makes -/
structure En where
  B : Hp
  F : Hp
  S : Addr := 0
/-! ### trees that a frame owns -/
mutual
def Own (K : PySem.W.Frag) (B : En) (F H : Hp) : T → Option V → List Addr → Prop
  | .no, _, fp => fp = []
  | .sh d, ov, fp => fp = [] ∧ ∃ v, ov = some v ∧ Rep K F d v
  | .ls ts, ov, fp => ∃ a vs fq, ov = some (.ref a) ∧ fp = a :: fq ∧ H a = some (.lst vs) ∧ B.B a = none ∧ F a = none ∧ Owns K B F H ts (vs.map some) fq
  | .di ks ts, ov, fp => ∃ a vs fq, ov = some (.ref a) ∧ fp = a :: fq ∧ H a = some (.dK (ks.zip vs)) ∧ ks.length = vs.length ∧ B.B a = none ∧ F a = none ∧ Owns K B F H ts (vs.map some) fq
  | .ob mk c ns ts, ov, fp => ∃ a dx vs fq, ov = some (.ref a) ∧ fp = a :: fq ∧ (mk = true → a = B.S) ∧ H a = some (.ins (He.ga K c) dx (ns.zip vs)) ∧ ns.length = vs.length ∧ B.B a = none ∧ F a = none ∧ Owns K B F H ts (vs.map some) fq
def Owns (K : PySem.W.Frag) (B : En) (F H : Hp) : List T → List (Option V) → List Addr → Prop
  | [], ovs, fp => ovs = [] ∧ fp = []
  | t :: ts, ovs, fp => ∃ ov r fa fb, ovs = ov :: r ∧ fp = fa ++ fb ∧ Own K B F H t ov fa ∧ Owns K B F H ts r fb
end
mutual
def T.toD : T → Option D
  | .no => none
  | .sh d => some d
  | .ls ts => (T.toDs ts).map D.lst
  | .di ks ts => (T.toDs ts).map (D.dic ks)
  | .ob _ c ns ts => (T.toDs ts).map (D.obj c ns)
def T.toDs : List T → Option (List D)
  | [] => some []
  | t :: ts => (T.toD t).bind fun d => (T.toDs ts).map fun ds => d :: ds
end
section
variable {K : PySem.W.Frag} {B : En} {F F' H H' G : Hp}
mutual
theorem Own.mono (s : Sub F F') : ∀ {t : T} {ov : Option V} {fp : List Addr}, Own K B F H t ov fp → (∀ a ∈ fp, H' a = H a) → (∀ a ∈ fp, F' a = none) → Own K B F' H' t ov fp
  | .no, _, _, h, _, _ => h
  | .sh d, _, _, ⟨e, v, e2, r⟩, _, _ => ⟨e, v, e2, Rep.mono s r⟩
  | .ls ts, _, _, ⟨a, vs, fq, e, e1, h, b, f, r⟩, k, kf => by
    subst e1
    exact ⟨a, vs, fq, e, rfl, (k a (by simp)).trans h, b, kf a (by simp), Owns.mono s r (fun b hb => k b (by simp [hb])) fun b hb => kf b (by simp [hb])⟩
  | .di ks ts, _, _, ⟨a, vs, fq, e, e1, h, l, b, f, r⟩, k, kf => by
    subst e1
    exact ⟨a, vs, fq, e, rfl, (k a (by simp)).trans h, l, b, kf a (by simp), Owns.mono s r (fun b hb => k b (by simp [hb])) fun b hb => kf b (by simp [hb])⟩
  | .ob mk c ns ts, _, _, ⟨a, dx, vs, fq, e, e1, em, h, l, b, f, r⟩, k, kf => by
    subst e1
    exact ⟨a, dx, vs, fq, e, rfl, em, (k a (by simp)).trans h, l, b, kf a (by simp), Owns.mono s r (fun b hb => k b (by simp [hb])) fun b hb => kf b (by simp [hb])⟩
theorem Owns.mono (s : Sub F F') : ∀ {ts : List T} {ovs : List (Option V)} {fp : List Addr}, Owns K B F H ts ovs fp → (∀ a ∈ fp, H' a = H a) → (∀ a ∈ fp, F' a = none) → Owns K B F' H' ts ovs fp
  | [], _, _, h, _, _ => h
  | t :: ts, _, _, ⟨ov, r, fa, fb, e, e1, h, q⟩, k, kf => by
    subst e1
    exact ⟨ov, r, fa, fb, e, rfl, Own.mono s h (fun a ha => k a (by simp [ha])) (fun a ha => kf a (by simp [ha])), Owns.mono s q (fun a ha => k a (by simp [ha])) fun a ha => kf a (by simp [ha])⟩
end
mutual
/-- a tree as data, over a heap G that has the shared part and the tree's own objects -/
theorem Own.rep (s : Sub F G) : ∀ {t : T} {ov : Option V} {fp : List Addr} {d : D}, Own K B F H t ov fp → t.toD = some d → (∀ a ∈ fp, G a = H a) → ∃ v, ov = some v ∧ Rep K G d v
  | .no, _, _, _, _, e, _ => by simp [T.toD] at e
  | .sh d, _, _, _, ⟨_, v, e2, r⟩, e, _ => by
    simp [T.toD] at e; subst e; exact ⟨v, e2, Rep.mono s r⟩
  | .ls ts, _, _, _, ⟨a, vs, fq, e0, e1, h, b, f, r⟩, e, k => by
    subst e1
    simp only [T.toD, Option.map_eq_some_iff] at e
    obtain ⟨ds, e, rfl⟩ := e
    obtain ⟨ws, e2, q⟩ := Owns.rep s r e fun b hb => k b (by simp [hb])
    have e3 : vs = ws := by simpa using (List.map_inj_right (f := (some : V → Option V)) (fun _ _ z => Option.some.inj z)).mp e2
    subst e3
    exact ⟨_, e0, a, vs, rfl, .inl (.inl ((k a (by simp)).trans h)), q⟩
  | .di ks ts, _, _, _, ⟨a, vs, fq, e0, e1, h, l, b, f, r⟩, e, k => by
    subst e1
    simp only [T.toD, Option.map_eq_some_iff] at e
    obtain ⟨ds, e, rfl⟩ := e
    obtain ⟨ws, e2, q⟩ := Owns.rep s r e fun b hb => k b (by simp [hb])
    have e3 : vs = ws := by simpa using (List.map_inj_right (f := (some : V → Option V)) (fun _ _ z => Option.some.inj z)).mp e2
    subst e3
    exact ⟨_, e0, a, vs, rfl, (k a (by simp)).trans h, l, q⟩
  | .ob mk c ns ts, _, _, _, ⟨a, dx, vs, fq, e0, e1, em, h, l, b, f, r⟩, e, k => by
    subst e1
    simp only [T.toD, Option.map_eq_some_iff] at e
    obtain ⟨ds, e, rfl⟩ := e
    obtain ⟨ws, e2, q⟩ := Owns.rep s r e fun b hb => k b (by simp [hb])
    have e3 : vs = ws := by simpa using (List.map_inj_right (f := (some : V → Option V)) (fun _ _ z => Option.some.inj z)).mp e2
    subst e3
    exact ⟨_, e0, a, dx, vs, rfl, (k a (by simp)).trans h, l, q⟩
theorem Owns.rep (s : Sub F G) : ∀ {ts : List T} {ovs : List (Option V)} {fp : List Addr} {ds : List D}, Owns K B F H ts ovs fp → T.toDs ts = some ds → (∀ a ∈ fp, G a = H a) → ∃ vs, ovs = vs.map some ∧ Reps K G ds vs
  | [], _, _, _, ⟨h, _⟩, e, _ => by
    simp [T.toDs] at e; subst e; exact ⟨[], h, rfl⟩
  | t :: ts, _, _, _, ⟨ov, r, fa, fb, e0, e1, h, q⟩, e, k => by
    subst e1
    simp only [T.toDs, Option.bind_eq_some_iff, Option.map_eq_some_iff] at e
    obtain ⟨d, ed, ds, eds, rfl⟩ := e
    obtain ⟨v, ev, rv⟩ := Own.rep s h ed fun a ha => k a (by simp [ha])
    obtain ⟨vs, evs, rvs⟩ := Owns.rep s q eds fun a ha => k a (by simp [ha])
    subst ev evs e0
    exact ⟨v :: vs, rfl, v, vs, rfl, rv, rvs⟩
end
mutual
theorem Own.objs (x : ∀ a, F a = none ∨ True) : ∀ {t : T} {ov : Option V} {fp : List Addr}, Own K B F H t ov fp → ∀ a ∈ fp, (∃ o, H a = some o) ∧ B.B a = none ∧ F a = none
  | .no, _, _, h, a, ha => by
    have e : _ = _ := h
    subst e; simp at ha
  | .sh d, _, _, ⟨e, _⟩, a, ha => by subst e; simp at ha
  | .ls ts, _, _, ⟨a, vs, fq, e, e1, h, b, f, r⟩, c, hc => by
    subst e1
    rcases List.mem_cons.mp hc with rfl | hc
    · exact ⟨⟨_, h⟩, b, f⟩
    · exact Owns.objs x r c hc
  | .di ks ts, _, _, ⟨a, vs, fq, e, e1, h, l, b, f, r⟩, c, hc => by
    subst e1
    rcases List.mem_cons.mp hc with rfl | hc
    · exact ⟨⟨_, h⟩, b, f⟩
    · exact Owns.objs x r c hc
  | .ob mk c0 ns ts, _, _, ⟨a, dx, vs, fq, e, e1, em, h, l, b, f, r⟩, c, hc => by
    subst e1
    rcases List.mem_cons.mp hc with rfl | hc
    · exact ⟨⟨_, h⟩, b, f⟩
    · exact Owns.objs x r c hc
theorem Owns.objs (x : ∀ a, F a = none ∨ True) : ∀ {ts : List T} {ovs : List (Option V)} {fp : List Addr}, Owns K B F H ts ovs fp → ∀ a ∈ fp, (∃ o, H a = some o) ∧ B.B a = none ∧ F a = none
  | [], _, _, ⟨_, e⟩, a, ha => by subst e; simp at ha
  | t :: ts, _, _, ⟨ov, r, fa, fb, e, e1, h, q⟩, a, ha => by
    subst e1
    rcases List.mem_append.mp ha with ha | ha
    · exact Own.objs x h a ha
    · exact Owns.objs x q a ha
end
theorem Own.at (h : Own K B F H t ov fp) : ∀ a ∈ fp, (∃ o, H a = some o) ∧ B.B a = none ∧ F a = none := Own.objs (fun _ => .inr trivial) h
theorem Owns.at (h : Owns K B F H ts ovs fp) : ∀ a ∈ fp, (∃ o, H a = some o) ∧ B.B a = none ∧ F a = none := Owns.objs (fun _ => .inr trivial) h
theorem Owns.length : ∀ {ts : List T} {ovs : List (Option V)} {fp : List Addr}, Owns K B F H ts ovs fp → ts.length = ovs.length
  | [], _, _, ⟨e, _⟩ => by subst e; rfl
  | t :: ts, _, _, ⟨ov, r, fa, fb, e, e1, h, q⟩ => by subst e; simp [Owns.length q]
/-- one of a row: it, and what may be put in its place -/
theorem Owns.get : ∀ {ts : List T} {ovs : List (Option V)} {fp : List Addr} {i : Nat} {t : T}, Owns K B F H ts ovs fp → ts[i]? = some t →
    ∃ ov fl fa fr, ovs[i]? = some ov ∧ fp = fl ++ fa ++ fr ∧ Own K B F H t ov fa ∧
      ∀ (F' H' : Hp) (t' : T) (ov' : Option V) (fa' : List Addr), Sub F F' → (∀ a ∈ fl, H' a = H a ∧ F' a = none) → (∀ a ∈ fr, H' a = H a ∧ F' a = none) → Own K B F' H' t' ov' fa' → Owns K B F' H' (ts.set i t') (ovs.set i ov') (fl ++ fa' ++ fr)
  | [], _, _, i, t, _, e => by simp at e
  | x :: ts, _, _, 0, t, ⟨ov, r, fa, fb, e0, e1, h, q⟩, e => by
    simp at e; subst e e0 e1
    refine ⟨ov, [], fa, fb, rfl, by simp, h, fun F' H' t' ov' fa' s kl kr h' => ?_⟩
    exact ⟨ov', r, fa', fb, rfl, by simp, h', Owns.mono s q (fun a ha => (kr a ha).1) fun a ha => (kr a ha).2⟩
  | x :: ts, _, _, i + 1, t, ⟨ov, r, fa, fb, e0, e1, h, q⟩, e => by
    subst e0 e1
    obtain ⟨ov1, fl, fm, fr, g1, g2, g3, g4⟩ := Owns.get (i := i) (t := t) q (by simpa using e)
    refine ⟨ov1, fa ++ fl, fm, fr, by simpa using g1, by rw [g2]; simp, g3, fun F' H' t' ov' fa' s kl kr h' => ?_⟩
    refine ⟨ov, r.set i ov', fa, fl ++ fa' ++ fr, by simp, by simp, Own.mono s h (fun a ha => (kl a (by simp [ha])).1) (fun a ha => (kl a (by simp [ha])).2), ?_⟩
    exact g4 F' H' t' ov' fa' s (fun a ha => kl a (by simp [ha])) kr h'
theorem Owns.shared : ∀ {ds : List D} {vs : List V}, Reps K F ds vs → Owns K B F H (ds.map T.sh) (vs.map some) []
  | [], _, h => by cases h; exact ⟨rfl, rfl⟩
  | d :: ds, _, ⟨v, r, e, h, t⟩ => by
    subst e
    exact ⟨some v, r.map some, [], [], rfl, rfl, ⟨rfl, v, rfl, h⟩, Owns.shared t⟩
theorem Owns.unshared : ∀ {ds : List D} {ovs : List (Option V)} {fp : List Addr}, Owns K B F H (ds.map T.sh) ovs fp → fp = [] ∧ ∃ vs, ovs = vs.map some ∧ Reps K F ds vs
  | [], _, _, ⟨e, e1⟩ => ⟨e1, [], e, rfl⟩
  | d :: ds, _, _, ⟨ov, r, fa, fb, e, e1, ⟨h0, v, h1, h2⟩, q⟩ => by
    obtain ⟨g0, vs, g1, g2⟩ := Owns.unshared q
    subst e e1 h0 h1 g0 g1
    exact ⟨rfl, v :: vs, rfl, v, vs, rfl, h2, g2⟩
theorem Owns.append : ∀ {ts us : List T} {ovs ows : List (Option V)} {fp fq : List Addr}, Owns K B F H ts ovs fp → Owns K B F H us ows fq → Owns K B F H (ts ++ us) (ovs ++ ows) (fp ++ fq)
  | [], _, _, _, _, _, ⟨e, e1⟩, q => by subst e e1; exact q
  | t :: ts, _, _, _, _, _, ⟨ov, r, fa, fb, e, e1, h, h2⟩, q => by
    subst e e1
    exact ⟨ov, _, fa, _, rfl, by simp, h, Owns.append h2 q⟩
end

/-! ### the state of a frame: B what stood at the entry and must stay, F the shared part, H the heap -/
abbrev Rho := List T
structure Base (E : En) (F H : Hp) : Prop where
  bh : Sub E.B H
  ff : Sub E.F F
  fh : Sub F H
  nw : ∀ a o, F a = some o → E.F a = some o ∨ E.B a = none
def Abs (K : PySem.W.Frag) (E : En) (F : Hp) (σ : L2.St) (H : Hp) (ρ : Rho) : Prop := Base E F H ∧ ∃ fp : List Addr, fp.Nodup ∧ Owns K E F H ρ σ fp
/-- what an expression may do: new objects, some of them shared from now on -/
structure Grow (F H F' H' : Hp) : Prop where
  f : Sub F F'
  h : Sub H H'
  fh : Sub F' H'
  nw : ∀ a o, F' a = some o → F a = some o ∨ H a = none
section
variable {K : PySem.W.Frag} {E : En} {F F' F1 F2 H H' H1 H2 : Hp} {σ : L2.St} {ρ : Rho}
theorem Grow.refl (h : Sub F H) : Grow F H F H := ⟨Sub.refl _, Sub.refl _, h, fun _ _ e => .inl e⟩
theorem Grow.trans (a : Grow F H F1 H1) (b : Grow F1 H1 F2 H2) : Grow F H F2 H2 :=
  ⟨a.f.trans b.f, a.h.trans b.h, b.fh, fun x o e => by
    rcases b.nw x o e with q | q
    · exact a.nw x o q
    · exact .inr (a.h.free q)⟩
/-- a new object that is not shared -/
theorem Grow.lay {p : Addr} {o : HO} (g : Grow F H F' H') (h : H' p = none) : Grow F H F' (upd H' p o) :=
  ⟨g.f, g.h.trans (Sub.lay h), g.fh.trans (Sub.lay h), g.nw⟩
/-- a new object that is shared -/
theorem Grow.share {p : Addr} {o : HO} (g : Grow F H F' H') (h : H' p = none) : Grow F H (upd F' p o) (upd H' p o) := by
  refine ⟨g.f.trans (Sub.lay (g.fh.free h)), g.h.trans (Sub.lay h), fun a u e => ?_, fun a u e => ?_⟩
  · by_cases ha : a = p
    · subst ha; rw [upd_same] at e ⊢; exact e
    · rw [upd_ne ha] at e ⊢; exact g.fh _ _ e
  · by_cases ha : a = p
    · subst ha; exact .inr (g.h.free h)
    · rw [upd_ne ha] at e; exact g.nw a u e
/-- a new object of ours becomes shared -/
theorem Grow.give {p : Addr} {o : HO} (g : Grow F H F' H') (h0 : H p = none) (h : H' p = some o) : Grow F H (upd F' p o) H' := by
  refine ⟨fun a u e => ?_, g.h, fun a u e => ?_, fun a u e => ?_⟩
  · by_cases ha : a = p
    · subst ha
      have := g.fh a u (g.f a u e)
      rw [h] at this; cases this; exact upd_same
    · rw [upd_ne ha]; exact g.f a u e
  · by_cases ha : a = p
    · subst ha; rw [upd_same] at e; cases e; exact h
    · rw [upd_ne ha] at e; exact g.fh a u e
  · by_cases ha : a = p
    · subst ha; exact .inr h0
    · rw [upd_ne ha] at e; exact g.nw a u e
theorem Abs.base (a : Abs K E F σ H ρ) : Base E F H := a.1
theorem Abs.fh (a : Abs K E F σ H ρ) : Sub F H := a.1.fh
theorem Abs.grow0 (a : Abs K E F σ H ρ) : Grow F H F H := .refl a.1.fh
theorem Base.grow (b : Base E F H) (g : Grow F H F' H') : Base E F' H' :=
  ⟨b.bh.trans g.h, b.ff.trans g.f, g.fh, fun x o e => by
    rcases g.nw x o e with q | q
    · exact b.nw x o q
    · exact .inr (b.bh.free q)⟩
theorem Abs.grow (a : Abs K E F σ H ρ) (g : Grow F H F' H') : Abs K E F' σ H' ρ := by
  obtain ⟨b, fp, nd, ow⟩ := a
  refine ⟨b.grow g, fp, nd, ow.mono g.f (fun x hx => ?_) fun x hx => ?_⟩
  · obtain ⟨⟨o, e⟩, _, _⟩ := ow.at x hx
    rw [e]; exact g.h x o e
  · obtain ⟨⟨o, e⟩, _, f⟩ := ow.at x hx
    cases q : F' x with
    | none => rfl
    | some u =>
      rcases g.nw x u q with z | z
      · rw [f] at z; cases z
      · rw [e] at z; cases z
theorem Abs.length (a : Abs K E F σ H ρ) : ρ.length = σ.length := by
  obtain ⟨_, fp, _, ow⟩ := a
  exact ow.length
/-- a slot that holds shared data -/
theorem Abs.sh {i : Nat} {d : D} (a : Abs K E F σ H ρ) (e : ρ[i]? = some (.sh d)) : ∃ v, σ[i]? = some (some v) ∧ Rep K F d v := by
  obtain ⟨_, fp, _, ow⟩ := a
  obtain ⟨ov, fl, fa, fr, g1, _, ⟨_, v, e2, r⟩, _⟩ := ow.get e
  subst e2
  exact ⟨v, g1, r⟩
/-- a slot, read as it stands -/
theorem Abs.rd {i : Nat} {t : T} {d : D} (a : Abs K E F σ H ρ) (e : ρ[i]? = some t) (ed : t.toD = some d) : ∃ v, σ[i]? = some (some v) ∧ Rep K H d v := by
  obtain ⟨b, fp, _, ow⟩ := a
  obtain ⟨ov, fl, fa, fr, g1, _, h, _⟩ := ow.get e
  obtain ⟨v, e2, r⟩ := h.rep b.fh ed fun _ _ => rfl
  subst e2
  exact ⟨v, g1, r⟩
/-- a slot is stored: a tree whose objects are new -/
theorem Abs.set {i : Nat} {t : T} {v : V} {fa : List Addr} (a : Abs K E F σ H ρ) (o : Own K E F' H' t (some v) fa) (g : Grow F H F' H') (nd : fa.Nodup) (nw : ∀ x ∈ fa, H x = none) : Abs K E F' (σ.set i (some v)) H' (ρ.set i t) := by
  have a' := a.grow g
  obtain ⟨b, fp, nd0, ow⟩ := a
  cases q : ρ[i]? with
  | none =>
    have h1 : ρ.length ≤ i := List.getElem?_eq_none_iff.mp q
    have h2 := ow.length
    rw [List.set_eq_of_length_le h1, List.set_eq_of_length_le (by omega)]
    exact a'
  | some t0 =>
    obtain ⟨ov2, fl, fm, fr, k1, k2, k3, k4⟩ := ow.get q
    have old : ∀ x ∈ fp, H' x = H x ∧ F' x = none := fun x hx => by
      obtain ⟨⟨o, e⟩, _, f⟩ := ow.at x hx
      refine ⟨by rw [e]; exact g.h x o e, ?_⟩
      cases z : F' x with
      | none => rfl
      | some u =>
        rcases g.nw x u z with z | z
        · rw [f] at z; cases z
        · rw [e] at z; cases z
    subst k2
    refine ⟨b.grow g, fl ++ fa ++ fr, ?_, k4 F' H' t (some v) fa g.f (fun x hx => old x (by simp [hx])) (fun x hx => old x (by simp [hx])) o⟩
    have apart : ∀ x ∈ fa, x ∉ fl ++ fm ++ fr := fun x hx hy => by
      obtain ⟨⟨o, e⟩, _, f⟩ := ow.at x hy
      rw [nw x hx] at e; cases e
    simp only [List.nodup_append, List.mem_append, not_or] at nd0 apart ⊢
    refine ⟨⟨nd0.1.1, nd, fun x hx y hy z => ?_⟩, nd0.2.1, fun x hx y hy z => ?_⟩
    · subst z; exact (apart _ hy).1.1 hx
    · subst z
      rcases hx with hx | hx
      · exact nd0.2.2 x (.inl hx) x hy rfl
      · exact (apart _ hx).2 hy
/-- .. shared data -/
theorem Abs.setS {i : Nat} {d : D} {v : V} (a : Abs K E F σ H ρ) (r : Rep K F' d v) (g : Grow F H F' H') : Abs K E F' (σ.set i (some v)) H' (ρ.set i (.sh d)) :=
  a.set (fa := []) ⟨rfl, v, rfl, r⟩ g .nil (by simp)
/-- a slot is forgotten -/
theorem Abs.drop {i : Nat} (a : Abs K E F σ H ρ) : Abs K E F (σ.set i none) H (ρ.set i .no) := by
  have a' := a
  obtain ⟨b, fp, nd0, ow⟩ := a
  cases q : ρ[i]? with
  | none =>
    have h1 : ρ.length ≤ i := List.getElem?_eq_none_iff.mp q
    have h2 := ow.length
    rw [List.set_eq_of_length_le h1, List.set_eq_of_length_le (by omega)]
    exact a'
  | some t0 =>
    obtain ⟨ov2, fl, fm, fr, k1, k2, k3, k4⟩ := ow.get q
    subst k2
    refine ⟨b, fl ++ [] ++ fr, ?_, k4 F H .no none [] (Sub.refl _) (fun x hx => ⟨rfl, (ow.at x (by simp [hx])).2.2⟩) (fun x hx => ⟨rfl, (ow.at x (by simp [hx])).2.2⟩) rfl⟩
    simp only [List.nodup_append, List.mem_append] at nd0 ⊢
    refine ⟨⟨nd0.1.1, .nil, fun x hx y hy => by simp at hy⟩, nd0.2.1, fun x hx y hy z => ?_⟩
    rcases hx with hx | hx
    · exact nd0.2.2 x (.inl hx) y hy z
    · simp at hx
/-- a tree becomes shared -/
theorem Abs.freeze {i : Nat} {t : T} {d : D} (a : Abs K E F σ H ρ) (e : ρ[i]? = some t) (ed : t.toD = some d) : ∃ F', Sub F F' ∧ Abs K E F' σ H (ρ.set i (.sh d)) := by
  obtain ⟨b, fp, nd0, ow⟩ := a
  obtain ⟨ov, fl, fa, fr, k1, k2, k3, k4⟩ := ow.get e
  subst k2
  have ha : ∀ x ∈ fa, (∃ o, H x = some o) ∧ E.B x = none ∧ F x = none := k3.at
  let F' : Hp := fun x => if x ∈ fa then H x else F x
  have hin : ∀ x ∈ fa, F' x = H x := fun x hx => if_pos hx
  have hout : ∀ x, x ∉ fa → F' x = F x := fun x hx => if_neg hx
  have s : Sub F F' := fun x o h => by
    have n : x ∉ fa := fun hx => by rw [(ha x hx).2.2] at h; cases h
    rw [hout x n]; exact h
  obtain ⟨v, ev, r⟩ := k3.rep s ed hin
  refine ⟨F', s, ⟨b.bh, b.ff.trans s, fun x o h => ?_, fun x o h => ?_⟩, fl ++ [] ++ fr, ?_, ?_⟩
  · by_cases hx : x ∈ fa
    · rw [hin x hx] at h; exact h
    · rw [hout x hx] at h; exact b.fh x o h
  · by_cases hx : x ∈ fa
    · exact .inr (ha x hx).2.1
    · rw [hout x hx] at h; exact b.nw x o h
  · simp only [List.nodup_append, List.mem_append] at nd0 ⊢
    refine ⟨⟨nd0.1.1, .nil, fun x hx y hy => by simp at hy⟩, nd0.2.1, fun x hx y hy z => ?_⟩
    rcases hx with hx | hx
    · exact nd0.2.2 x (.inl hx) y hy z
    · simp at hx
  · have hσ : σ.set i (some v) = σ := by
      rw [ev] at k1
      obtain ⟨h1, h2⟩ := List.getElem?_eq_some_iff.mp k1
      rw [← h2]; exact List.set_getElem_self h1
    have q := k4 F' H (.sh d) (some v) [] s (fun x hx => ⟨rfl, ?_⟩) (fun x hx => ⟨rfl, ?_⟩) ⟨rfl, v, rfl, r⟩
    · rw [hσ] at q; exact q
    · have n : x ∉ fa := fun hy => by
        simp only [List.nodup_append, List.mem_append] at nd0
        exact nd0.1.2.2 x hx x hy rfl
      rw [hout x n]; exact (ow.at x (by simp [hx])).2.2
    · have n : x ∉ fa := fun hy => by
        simp only [List.nodup_append, List.mem_append] at nd0
        exact nd0.2.2 x (.inr hy) x hx rfl
      rw [hout x n]; exact (ow.at x (by simp [hx])).2.2
end
end FL

/-! FLExpr: expressions as functions from the frame's state to data. -/
namespace FL
open L2 PyProof.Rows PySem.Spec PySem

/-- how a value stands for data: s: shared data; q: a sequence whose items are shared; w: as the heap stands now -/
inductive Md where | s | q | w
def RepM (K : PySem.W.Frag) (F H : Hp) : Md → D → V → Prop
  | .s, d, v => Rep K F d v
  | .w, d, v => Rep K H d v
  | .q, .lst ds, v => ∃ a vs, v = .ref a ∧ SqL K H a vs ∧ Reps K F ds vs
  | .q, d, v => Rep K F d v
section
variable {K : PySem.W.Frag} {F H F' H' : Hp} {m : Md} {d : D} {v : V}
theorem RepM.up (s : Sub F H) (h : Rep K F d v) : RepM K F H m d v := by
  cases m with
  | s => exact h
  | w => exact Rep.mono s h
  | q =>
    cases d with
    | lst ds => obtain ⟨a, vs, e, q, r⟩ := h; exact ⟨a, vs, e, s.seqL q, r⟩
    | _ => exact h
theorem RepM.dn (s : Sub F H) (h : RepM K F H m d v) : Rep K H d v := by
  cases m with
  | s => exact Rep.mono s h
  | w => exact h
  | q =>
    cases d with
    | lst ds => obtain ⟨a, vs, e, q, r⟩ := h; exact ⟨a, vs, e, q, Reps.mono s r⟩
    | _ => exact Rep.mono s h
theorem RepM.grow (g : Grow F H F' H') (h : RepM K F H m d v) : RepM K F' H' m d v := by
  cases m with
  | s => exact Rep.mono g.f h
  | w => exact Rep.mono g.h h
  | q =>
    cases d with
    | lst ds => obtain ⟨a, vs, e, q, r⟩ := h; exact ⟨a, vs, e, g.h.seqL q, Reps.mono g.f r⟩
    | _ => exact Rep.mono g.f h
end

abbrev FX := Rho → Option D
/-- the reading of an expression that gives data -/
def tX (K : PySem.W.Frag) (E : En) (m : Md) (f : FX) : TE := fun σ H Q => ∃ F ρ d, Abs K E F σ H ρ ∧ f ρ = some d ∧ ∀ v F' H', Grow F H F' H' → RepM K F' H' m d v → Q v H'
/-- .. that makes a new tree -/
def tO (K : PySem.W.Frag) (E : En) (f : Rho → Option T) : TE := fun σ H Q => ∃ F ρ t, Abs K E F σ H ρ ∧ f ρ = some t ∧ ∀ v fa F' H', Grow F H F' H' → Own K E F' H' t (some v) fa → fa.Nodup → (∀ x ∈ fa, H x = none) → Q v H'
def tBo (K : PySem.W.Frag) (E : En) (f : Rho → Option Bool) : TT := fun σ H Q => ∃ F ρ b, Abs K E F σ H ρ ∧ f ρ = some b ∧ ∀ F' H', Grow F H F' H' → Q b H'
/-- arguments: shared data -/
def tAs (K : PySem.W.Frag) (E : En) (m : Md) (f : Rho → Option (List D)) : TA := fun σ H Q => ∃ F ρ ds, Abs K E F σ H ρ ∧ f ρ = some ds ∧ ∀ vs F' H', Grow F H F' H' → Reps K (match m with | .s => F' | _ => H') ds vs → Q vs H'
structure PX (X : Cx) (m : Md) (e : Expr) (f : FX) : Prop where
  pe : ∀ E, PE X e (tX X.K E m f)
structure PO (X : Cx) (e : Expr) (f : Rho → Option T) : Prop where
  pe : ∀ E, PE X e (tO X.K E f)
structure PB (X : Cx) (e : Expr) (f : Rho → Option Bool) : Prop where
  pt : ∀ E, PT X e (tBo X.K E f)
structure PBw (X : Cx) (e : Expr) (f : Rho → Option Bool) : Prop where
  pw : ∀ E, PW X e (tBo X.K E f)
structure PAs (X : Cx) (m : Md) (es : List Expr) (f : Rho → Option (List D)) : Prop where
  pa : ∀ E, PA X es (tAs X.K E m f)
theorem pe_imp {X : Cx} {e : Expr} {t t' : TE} (h : PE X e t) (w : ∀ σ H Q, t' σ H Q → t σ H Q) : PE X e t' := ⟨fun pins s σ H Q I q => h.run pins s σ H Q I (w σ H Q q)⟩
theorem pt_imp {X : Cx} {e : Expr} {t t' : TT} (h : PT X e t) (w : ∀ σ H Q, t' σ H Q → t σ H Q) : PT X e t' := ⟨fun pins s σ H Q I q => h.run pins s σ H Q I (w σ H Q q)⟩
theorem pw_imp {X : Cx} {e : Expr} {t t' : TT} (h : PW X e t) (w : ∀ σ H Q, t' σ H Q → t σ H Q) : PW X e t' := ⟨fun wh pins s σ H Q I q => h.run wh pins s σ H Q I (w σ H Q q)⟩
theorem pa_imp {X : Cx} {es : List Expr} {t t' : TA} (h : PA X es t) (w : ∀ σ H Q, t' σ H Q → t σ H Q) : PA X es t' := ⟨fun p pins s σ H Q I q => h.run p pins s σ H Q I (w σ H Q q)⟩
theorem ps_imp {X : Cx} {e : Stmt} {t t' : TS} (h : PS X e t) (w : ∀ D σ H, t' D σ H → t D σ H) : PS X e t' := ⟨fun pins s σ H D I q => h.run pins s σ H D I (w D σ H q)⟩
theorem pss_imp {X : Cx} {e : List Stmt} {t t' : TS} (h : PSs X e t) (w : ∀ D σ H, t' D σ H → t D σ H) : PSs X e t' := ⟨fun pins s σ H D I q => h.run pins s σ H D I (w D σ H q)⟩
theorem pe_or2 {X : Cx} {e : Expr} {t t' : TE} (h : PE X e t) (h' : PE X e t') : PE X e (fun σ H Q => t σ H Q ∨ t' σ H Q) :=
  ⟨fun pins s σ H Q I q => q.elim (h.run pins s σ H Q I) (h'.run pins s σ H Q I)⟩

section
variable {X : Cx} {e a b : Expr} {f fa fb : FX} {m m1 m2 : Md} {pos : Pos}
theorem px_up (h : PX X .s e f) : PX X m e f := ⟨fun E => pe_imp (h.pe E) fun σ H Q ⟨F, ρ, d, A, ef, k⟩ => ⟨F, ρ, d, A, ef, fun v F' H' g r => k v F' H' g (RepM.up g.fh r)⟩⟩
/-- a new tree becomes shared -/
theorem give_tree {K : PySem.W.Frag} {B : En} {F H F' H' : Hp} {t : T} {v : V} {d : D} {fa : List Addr} (o : Own K B F' H' t (some v) fa) (ed : t.toD = some d) (g : Grow F H F' H') (nw : ∀ x ∈ fa, H x = none) :
    ∃ F2, Grow F H F2 H' ∧ Rep K F2 d v := by
  have ha := o.at
  let F2 : Hp := fun x => if x ∈ fa then H' x else F' x
  have hin : ∀ x ∈ fa, F2 x = H' x := fun x hx => if_pos hx
  have hout : ∀ x, x ∉ fa → F2 x = F' x := fun x hx => if_neg hx
  have s : Sub F' F2 := fun x u h => by
    have n : x ∉ fa := fun hx => by rw [(ha x hx).2.2] at h; cases h
    rw [hout x n]; exact h
  obtain ⟨v', ev, r⟩ := o.rep s ed hin
  cases ev
  refine ⟨F2, ⟨g.f.trans s, g.h, fun x u h => ?_, fun x u h => ?_⟩, r⟩
  · by_cases hx : x ∈ fa
    · rw [hin x hx] at h; exact h
    · rw [hout x hx] at h; exact g.fh x u h
  · by_cases hx : x ∈ fa
    · exact .inr (nw x hx)
    · rw [hout x hx] at h; exact g.nw x u h
def fGive (f : Rho → Option T) : FX := fun ρ => (f ρ).bind T.toD
theorem po_px {f : Rho → Option T} (h : PO X e f) : PX X m e (fGive f) := px_up ⟨fun E => pe_imp (h.pe E) fun σ H Q ⟨F, ρ, d, A, ef, k⟩ => by
  obtain ⟨t, et, ed⟩ := Option.bind_eq_some_iff.mp ef
  refine ⟨F, ρ, t, A, et, fun v fa F' H' g o nd nw => ?_⟩
  obtain ⟨F2, g2, r⟩ := give_tree o ed g nw
  exact k v F2 H' g2 r⟩
def fSh (f : FX) : Rho → Option T := fun ρ => (f ρ).map T.sh
theorem px_po (h : PX X .s e f) : PO X e (fSh f) := ⟨fun E => pe_imp (h.pe E) fun σ H Q ⟨F, ρ, t, A, et, k⟩ => by
  obtain ⟨d, ed, rfl⟩ := Option.map_eq_some_iff.mp et
  exact ⟨F, ρ, d, A, ed, fun v F' H' g r => k v [] F' H' g ⟨rfl, v, rfl, r⟩ .nil (by simp)⟩⟩

/-! ### names and constants -/
def nm (i : Nat) : FX := fun ρ => match ρ[i]? with
  | some (.sh d) => some d
  | _ => none
def nmW (i : Nat) : FX := fun ρ => match ρ[i]? with
  | some t => t.toD
  | _ => none
def shAll : List T → Option (List D)
  | [] => some []
  | .sh d :: ts => (shAll ts).map fun ds => d :: ds
  | _ => none
def nmQ (i : Nat) : FX := fun ρ => match ρ[i]? with
  | some (.sh d) => some d
  | some (.ls ts) => (shAll ts).map D.lst
  | _ => none
theorem shAll_map : ∀ {ts : List T} {ds : List D}, shAll ts = some ds → ts = ds.map T.sh
  | [], _, h => by simp [shAll] at h; subst h; rfl
  | .sh d :: ts, _, h => by
    simp only [shAll, Option.map_eq_some_iff] at h
    obtain ⟨r, h, rfl⟩ := h
    rw [shAll_map h]; rfl
  | .no :: ts, _, h => by simp [shAll] at h
  | .ls _ :: ts, _, h => by simp [shAll] at h
  | .di _ _ :: ts, _, h => by simp [shAll] at h
  | .ob _ _ _ _ :: ts, _, h => by simp [shAll] at h
theorem shAll_of (ds : List D) : shAll (ds.map T.sh) = some ds := by
  induction ds with
  | nil => rfl
  | cons d ds ih => simp [shAll, ih]
theorem toDs_shared : ∀ ds : List D, T.toDs (ds.map T.sh) = some ds
  | [] => rfl
  | d :: ds => by simp [T.toDs, T.toD, toDs_shared ds]
theorem x_nm (i : Nat) {x : Str} (hN : X.N[i]? = some x := by rfl) (hv : Vis X.env.scope x := by first | exact Or.inl rfl | exact Or.inr (Or.inl rfl) | exact Or.inr (Or.inr rfl)) (hd : (x == ("__debug__" : Str)) = false := by decide)
    (hcd : (x == ("__classdict__" : Str)) = false := by decide) : PX X m (.Name x pos) (nm i) := px_up ⟨fun E => pe_imp (pe_var hN hv hd hcd) fun σ H Q ⟨F, ρ, d, A, ef, k⟩ => by
  have e : ρ[i]? = some (.sh d) := by
    unfold nm at ef
    split at ef
    · rename_i q; rw [q]; cases ef; rfl
    · cases ef
  obtain ⟨v, e1, r⟩ := A.sh e
  exact ⟨v, e1, k v F H A.grow0 r⟩⟩
theorem x_nmW (i : Nat) {x : Str} (hN : X.N[i]? = some x := by rfl) (hv : Vis X.env.scope x := by first | exact Or.inl rfl | exact Or.inr (Or.inl rfl) | exact Or.inr (Or.inr rfl)) (hd : (x == ("__debug__" : Str)) = false := by decide)
    (hcd : (x == ("__classdict__" : Str)) = false := by decide) : PX X .w (.Name x pos) (nmW i) := ⟨fun E => pe_imp (pe_var hN hv hd hcd) fun σ H Q ⟨F, ρ, d, A, ef, k⟩ => by
  cases e : ρ[i]? with
  | none => simp [nmW, e] at ef
  | some t =>
    simp only [nmW, e] at ef
    obtain ⟨v, e1, r⟩ := A.rd e ef
    exact ⟨v, e1, k v F H A.grow0 r⟩⟩
theorem x_nmQ (i : Nat) {x : Str} (hN : X.N[i]? = some x := by rfl) (hv : Vis X.env.scope x := by first | exact Or.inl rfl | exact Or.inr (Or.inl rfl) | exact Or.inr (Or.inr rfl)) (hd : (x == ("__debug__" : Str)) = false := by decide)
    (hcd : (x == ("__classdict__" : Str)) = false := by decide) : PX X .q (.Name x pos) (nmQ i) := ⟨fun E => pe_imp (pe_var hN hv hd hcd) fun σ H Q ⟨F, ρ, d, A, ef, k⟩ => by
  cases e : ρ[i]? with
  | none => simp [nmQ, e] at ef
  | some t =>
    cases t with
    | sh d' =>
      simp only [nmQ, e] at ef
      cases ef
      obtain ⟨v, e1, r⟩ := A.sh e
      exact ⟨v, e1, k v F H A.grow0 (RepM.up A.fh r)⟩
    | ls ts =>
      simp only [nmQ, e, Option.map_eq_some_iff] at ef
      obtain ⟨ds, es, rfl⟩ := ef
      have et := shAll_map es
      subst et
      obtain ⟨B, fp, _, ow⟩ := id A
      obtain ⟨ov, fl, fa, fr, g1, _, ⟨c, vs, fq, h1, h2, h3, h4, h5, h6⟩, _⟩ := ow.get e
      obtain ⟨_, ws, e2, r⟩ := h6.unshared
      have e3 : vs = ws := by simpa using (List.map_inj_right (f := (some : V → Option V)) (fun _ _ z => Option.some.inj z)).mp e2
      subst e3
      subst h1
      exact ⟨.ref c, g1, k _ F H A.grow0 ⟨c, vs, rfl, .inl (.inl h3), r⟩⟩
    | no => simp [nmQ, e] at ef
    | di _ _ => simp [nmQ, e] at ef
    | ob _ _ _ _ => simp [nmQ, e] at ef⟩
def cst (d : D) : FX := fun _ => some d
theorem x_cst {v : V} {d : D} (h : PE X e (tC v)) (r : ∀ F, Rep X.K F d v) : PX X m e (cst d) := px_up ⟨fun E => pe_imp h fun σ H Q ⟨F, ρ, d', A, ef, k⟩ => by
  cases ef
  exact k v F H A.grow0 (r F)⟩
theorem x_int {i : Int} {j pos} : PX X m (.Constant (.int i) j pos) (cst (.int i)) := x_cst pe_int fun _ => by simp [Rep]
theorem x_bl {i : Bool} {j pos} : PX X m (.Constant (.bool i) j pos) (cst (.bl i)) := x_cst pe_bl fun _ => by simp [Rep]
theorem x_non {j pos} : PX X m (.Constant .none j pos) (cst .non) := x_cst pe_non fun _ => by simp [Rep]
theorem x_str {i : Str} {j pos} : PX X m (.Constant (.str i) j pos) (cst (.str i)) := x_cst pe_str fun _ => by simp [Rep]
/-- a module's constant -/
theorem x_glob {x : Str} {v : V} {d : D} {u : Value} (hg : Gl X x) (hm : X.mg x = some u) (rv : RelV v u) (r : ∀ F, Rep X.K F d v) (hd : (x == ("__debug__" : Str)) = false := by decide) : PX X m (.Name x pos) (cst d) :=
  x_cst (pe_glob hg hm rv hd) r

/-! ### operators -/
def f2 (g : D → D → Option D) (fa fb : FX) : FX := fun ρ => (fa ρ).bind fun x => (fb ρ).bind fun y => g x y
def f1 (g : D → Option D) (fa : FX) : FX := fun ρ => (fa ρ).bind g
/-- a two-place operation on data -/
def OpF (X : Cx) (h : Value → Value → Sem Value) (m1 m2 : Md) (g : D → D → Option D) : Prop :=
  ∃ r : R2, OpR X h r ∧ ∀ (F H : Hp) (x y : V) (a b d : D) (Q : VK), Sub F H → RepM X.K F H m1 a x → RepM X.K F H m2 b y → g a b = some d → (∀ v F' H', Grow F H F' H' → Rep X.K F' d v → Q v H') → r x y H Q
theorem two_of {K : PySem.W.Frag} {E : En} {ta tb : TE} {g : D → D → Option D} {σ : L2.St} {H : Hp} {Q : VK} {R : R2} (ha : ∀ Q', tX K E m1 fa σ H Q' → ta σ H Q') (hb : ∀ H' Q', tX K E m2 fb σ H' Q' → tb σ H' Q')
    (hr : ∀ (F H : Hp) (x y : V) (a b d : D) (Q : VK), Sub F H → RepM K F H m1 a x → RepM K F H m2 b y → g a b = some d → (∀ v F' H', Grow F H F' H' → Rep K F' d v → Q v H') → R x y H Q)
    (h : tX K E .s (f2 g fa fb) σ H Q) : ta σ H fun x H1 => tb σ H1 fun y H2 => R x y H2 Q := by
  obtain ⟨F, ρ, d, A, ef, k⟩ := h
  obtain ⟨x, ex, ef⟩ := Option.bind_eq_some_iff.mp ef
  obtain ⟨y, ey, ef⟩ := Option.bind_eq_some_iff.mp ef
  refine ha _ ⟨F, ρ, x, A, ex, fun v F1 H1 g1 r1 => ?_⟩
  refine hb _ _ ⟨F1, ρ, y, A.grow g1, ey, fun w F2 H2 g2 r2 => ?_⟩
  exact hr F2 H2 v w x y d Q g2.fh (r1.grow g2) r2 ef fun z F3 H3 g3 r3 => k z F3 H3 ((g1.trans g2).trans g3) r3
theorem x_bin {op : Operator} {g : D → D → Option D} (ho : OpF X (binaryOp op) m1 m2 g) (ha : PX X m1 a fa) (hb : PX X m2 b fb) : PX X m (.BinOp a op b pos) (f2 g fa fb) := by
  obtain ⟨r, hr, hw⟩ := ho
  exact px_up ⟨fun E => pe_imp (pe_op hr (ha.pe E) (hb.pe E)) fun σ H Q h => two_of (fun _ q => q) (fun _ _ q => q) hw h⟩
theorem x_cmp {op : CmpOp} {g : D → D → Option D} (ho : OpF X (compareOp op) m1 m2 g) (ha : PX X m1 a fa) (hb : PX X m2 b fb) (hm : behindInMarks op b = false) : PX X m (.Compare a [op] [b] pos) (f2 g fa fb) := by
  obtain ⟨r, hr, hw⟩ := ho
  exact px_up ⟨fun E => pe_imp (pe_cmpR hr (ha.pe E) (hb.pe E) hm) fun σ H Q h => two_of (fun _ q => q) (fun _ _ q => q) hw h⟩
/-- a test: the data's truth -/
def tBl (f : FX) : Rho → Option Bool := fun ρ => (f ρ).bind fun d => match d with
  | .bl b => some b
  | _ => none
theorem tBl_some {f : FX} {ρ : Rho} {b : Bool} (h : tBl f ρ = some b) : f ρ = some (.bl b) := by
  unfold tBl at h
  obtain ⟨d, e, h⟩ := Option.bind_eq_some_iff.mp h
  cases d <;> simp at h
  subst h; exact e
theorem b_cmp {op : CmpOp} {g : D → D → Option D} (ho : OpF X (compareOp op) m1 m2 g) (ha : PX X m1 a fa) (hb : PX X m2 b fb) (hm : behindInMarks op b = false) : PB X (.Compare a [op] [b] pos) (tBl (f2 g fa fb)) := by
  obtain ⟨r, hr, hw⟩ := ho
  refine ⟨fun E => pt_imp (pt_cmpR hr (ha.pe E) (hb.pe E) hm) fun σ H Q ⟨F, ρ, c, A, ef, k⟩ => ?_⟩
  refine two_of (Q := fun x H' => ∃ k, x = .bl k ∧ Q k H') (fun _ q => q) (fun _ _ q => q) hw ⟨F, ρ, .bl c, A, tBl_some ef, fun v F' H' g r => ⟨c, ?_, k F' H' g⟩⟩
  have r' : v = .bl c := r
  exact r'
/-- an expression that gives True or False, as a test -/
theorem b_val (h : PX X m e f) (he : ∀ whole, isTrue e X.env whole = (do let v ← whole; standAt e.pos; holding [v] (truthy v)) := by intro _; rfl) : PB X e (tBl f) :=
  ⟨fun E => pt_imp (pt_val (h.pe E) he) fun σ H Q ⟨F, ρ, c, A, ef, k⟩ => ⟨F, ρ, .bl c, A, tBl_some ef, fun v F' H' g r => ⟨c, by
    have r' := r.dn g.fh
    exact (show v = .bl c from r'), k F' H' g⟩⟩⟩
def fChain (g g' : D → D → Option D) (fa fb fc : FX) : FX := fun ρ => (fa ρ).bind fun x => (fb ρ).bind fun y => (g x y).bind fun z => match z with
  | .bl true => (fc ρ).bind fun w => g' y w
  | .bl false => some (.bl false)
  | _ => none
theorem chain_of {K : PySem.W.Frag} {E : En} {ta tb tc : TE} {fc : FX} {m3 : Md} {g g' : D → D → Option D} {σ : L2.St} {H : Hp} {Q : VK} {R R' : R2} (ha : ∀ Q', tX K E m1 fa σ H Q' → ta σ H Q') (hb : ∀ H' Q', tX K E m2 fb σ H' Q' → tb σ H' Q') (hc : ∀ H' Q', tX K E m3 fc σ H' Q' → tc σ H' Q')
    (hr : ∀ (F H : Hp) (x y : V) (a b d : D) (Q : VK), Sub F H → RepM K F H m1 a x → RepM K F H m2 b y → g a b = some d → (∀ v F' H', Grow F H F' H' → Rep K F' d v → Q v H') → R x y H Q)
    (hr' : ∀ (F H : Hp) (x y : V) (a b d : D) (Q : VK), Sub F H → RepM K F H m2 a x → RepM K F H m3 b y → g' a b = some d → (∀ v F' H', Grow F H F' H' → Rep K F' d v → Q v H') → R' x y H Q)
    (h : tX K E .s (fChain g g' fa fb fc) σ H Q) : tChain R R' ta tb tc σ H Q := by
  obtain ⟨F, ρ, d, A, ef, k⟩ := h
  obtain ⟨x, ex, ef⟩ := Option.bind_eq_some_iff.mp ef
  obtain ⟨y, ey, ef⟩ := Option.bind_eq_some_iff.mp ef
  obtain ⟨z, ez, ef⟩ := Option.bind_eq_some_iff.mp ef
  refine ha _ ⟨F, ρ, x, A, ex, fun v F1 H1 g1 r1 => ?_⟩
  refine hb _ _ ⟨F1, ρ, y, A.grow g1, ey, fun w F2 H2 g2 r2 => ?_⟩
  refine hr F2 H2 v w x y z _ g2.fh (r1.grow g2) r2 ez fun u F3 H3 g3 r3 => ?_
  have g13 := (g1.trans g2).trans g3
  cases z with
  | bl c =>
    have r3' : u = .bl c := r3
    refine ⟨c, r3', ?_⟩
    cases c with
    | true =>
      obtain ⟨q, eq, ef⟩ := Option.bind_eq_some_iff.mp ef
      rw [if_pos rfl]
      refine hc _ _ ⟨F3, ρ, q, A.grow g13, eq, fun w' F4 H4 g4 r4 => ?_⟩
      exact hr' F4 H4 w w' y q d Q g4.fh ((r2.grow g3).grow g4) r4 ef fun z F5 H5 g5 r5 => k z F5 H5 ((g13.trans g4).trans g5) r5
    | false =>
      rw [if_neg Bool.false_ne_true]
      have ed : D.bl false = d := Option.some.inj ef
      exact k (.bl false) F3 H3 g13 (by rw [← ed]; simp [RepM, Rep])
  | _ => cases ef
theorem x_chain {c : Expr} {fc : FX} {m3 : Md} {op op' : CmpOp} {g g' : D → D → Option D} (ho : OpF X (compareOp op) m1 m2 g) (ho' : OpF X (compareOp op') m2 m3 g') (ha : PX X m1 a fa) (hb : PX X m2 b fb) (hc : PX X m3 c fc)
    (h1 : lastMarks [op, op'] [b, c] = false := by with_unfolding_all rfl) : PX X m (.Compare a [op, op'] [b, c] pos) (fChain g g' fa fb fc) := by
  obtain ⟨r, hr, hw⟩ := ho
  obtain ⟨r', hr', hw'⟩ := ho'
  exact px_up ⟨fun E => pe_imp (pe_chain hr hr' (ha.pe E) (hb.pe E) (hc.pe E) h1) fun σ H Q h => chain_of (fun _ q => q) (fun _ _ q => q) (fun _ _ q => q) hw hw' h⟩
theorem b_chain {c : Expr} {fc : FX} {m3 : Md} {op op' : CmpOp} {g g' : D → D → Option D} (ho : OpF X (compareOp op) m1 m2 g) (ho' : OpF X (compareOp op') m2 m3 g') (ha : PX X m1 a fa) (hb : PX X m2 b fb) (hc : PX X m3 c fc)
    (h1 : lastMarks [op, op'] [b, c] = false := by with_unfolding_all rfl) : PB X (.Compare a [op, op'] [b, c] pos) (tBl (fChain g g' fa fb fc)) := by
  obtain ⟨r, hr, hw⟩ := ho
  obtain ⟨r', hr', hw'⟩ := ho'
  refine ⟨fun E => pt_imp (pt_chain hr hr' (ha.pe E) (hb.pe E) (hc.pe E) h1) fun σ H Q ⟨F, ρ, c, A, ef, k⟩ => ?_⟩
  exact chain_of (Q := fun x H' => ∃ k, x = .bl k ∧ Q k H') (fun _ q => q) (fun _ _ q => q) (fun _ _ q => q) hw hw' ⟨F, ρ, .bl c, A, tBl_some ef, fun v F' H' g r => ⟨c, (show v = .bl c from r), k F' H' g⟩⟩

/-! ### and, or, not, if -/
variable {ta tb : Rho → Option Bool} {rest : List Expr}
def tAndF (ta tb : Rho → Option Bool) : Rho → Option Bool := fun ρ => (ta ρ).bind fun c => match c with
  | true => tb ρ
  | false => some false
def tOrF (ta tb : Rho → Option Bool) : Rho → Option Bool := fun ρ => (ta ρ).bind fun c => match c with
  | true => some true
  | false => tb ρ
def tNotF (ta : Rho → Option Bool) : Rho → Option Bool := fun ρ => (ta ρ).map fun c => !c
theorem bw_and1 (h : PB X a ta) : PBw X (.BoolOp .And [a] pos) ta := ⟨fun E => pw_and1 (h.pt E)⟩
theorem bw_or1 (h : PB X a ta) : PBw X (.BoolOp .Or [a] pos) ta := ⟨fun E => pw_or1 (h.pt E)⟩
theorem bw_and (ha : PB X a ta) (hb : PBw X (.BoolOp .And (b :: rest) pos) tb) : PBw X (.BoolOp .And (a :: b :: rest) pos) (tAndF ta tb) := ⟨fun E => pw_imp (pw_and (ha.pt E) (hb.pw E)) fun σ H Q ⟨F, ρ, c, A, ef, k⟩ => by
  obtain ⟨x, ex, ef⟩ := Option.bind_eq_some_iff.mp ef
  refine ⟨F, ρ, x, A, ex, fun F1 H1 g1 => ?_⟩
  cases x with
  | true =>
    rw [if_pos rfl]
    exact ⟨F1, ρ, c, A.grow g1, ef, fun F2 H2 g2 => k F2 H2 (g1.trans g2)⟩
  | false =>
    rw [if_neg Bool.false_ne_true]
    cases ef
    exact k F1 H1 g1⟩
theorem bw_or (ha : PB X a ta) (hb : PBw X (.BoolOp .Or (b :: rest) pos) tb) : PBw X (.BoolOp .Or (a :: b :: rest) pos) (tOrF ta tb) := ⟨fun E => pw_imp (pw_or (ha.pt E) (hb.pw E)) fun σ H Q ⟨F, ρ, c, A, ef, k⟩ => by
  obtain ⟨x, ex, ef⟩ := Option.bind_eq_some_iff.mp ef
  refine ⟨F, ρ, x, A, ex, fun F1 H1 g1 => ?_⟩
  cases x with
  | true =>
    rw [if_pos rfl]
    cases ef
    exact k F1 H1 g1
  | false =>
    rw [if_neg Bool.false_ne_true]
    exact ⟨F1, ρ, c, A.grow g1, ef, fun F2 H2 g2 => k F2 H2 (g1.trans g2)⟩⟩
theorem b_w (h : PBw X e ta) : PB X e ta := ⟨fun E => (h.pw E).pt⟩
theorem b_not (h : PB X a ta) : PB X (.UnaryOp .Not a pos) (tNotF ta) := ⟨fun E => pt_imp (pt_not (h.pt E)) fun σ H Q ⟨F, ρ, c, A, ef, k⟩ => by
  obtain ⟨x, ex, rfl⟩ := Option.map_eq_some_iff.mp ef
  exact ⟨F, ρ, x, A, ex, fun F1 H1 g1 => k F1 H1 g1⟩⟩
/-- .. as values: all but the last True or False -/
def fAnd (fa fb : FX) : FX := fun ρ => (fa ρ).bind fun c => match c with
  | .bl true => fb ρ
  | .bl false => some (.bl false)
  | _ => none
def fOr (fa fb : FX) : FX := fun ρ => (fa ρ).bind fun c => match c with
  | .bl true => some (.bl true)
  | .bl false => fb ρ
  | _ => none
def fNot (fa : FX) : FX := fun ρ => (fa ρ).bind fun c => match c with
  | .bl b => some (.bl (!b))
  | _ => none
theorem x_one {op} (h : PX X m a fa) : PX X m (.BoolOp op [a] pos) fa := ⟨fun E => pe_one (h.pe E)⟩
theorem x_and (ha : PX X m1 a fa) (hb : PX X m (.BoolOp .And (b :: rest) pos) fb) : PX X m (.BoolOp .And (a :: b :: rest) pos) (fAnd fa fb) := ⟨fun E => pe_imp (pe_and (ha.pe E) (hb.pe E)) fun σ H Q ⟨F, ρ, d, A, ef, k⟩ => by
  obtain ⟨x, ex, ef⟩ := Option.bind_eq_some_iff.mp ef
  refine ⟨F, ρ, x, A, ex, fun v F1 H1 g1 r1 => ?_⟩
  have r1 := r1.dn g1.fh
  cases x with
  | bl c =>
    refine ⟨c, (show v = .bl c from r1), ?_⟩
    cases c with
    | true =>
      rw [if_pos rfl]
      exact ⟨F1, ρ, d, A.grow g1, ef, fun v F2 H2 g2 => k v F2 H2 (g1.trans g2)⟩
    | false =>
      rw [if_neg Bool.false_ne_true]
      cases ef
      exact k _ F1 H1 g1 (RepM.up g1.fh (by simp [Rep]))
  | _ => cases ef⟩
theorem x_or (ha : PX X m1 a fa) (hb : PX X m (.BoolOp .Or (b :: rest) pos) fb) : PX X m (.BoolOp .Or (a :: b :: rest) pos) (fOr fa fb) := ⟨fun E => pe_imp (pe_or (ha.pe E) (hb.pe E)) fun σ H Q ⟨F, ρ, d, A, ef, k⟩ => by
  obtain ⟨x, ex, ef⟩ := Option.bind_eq_some_iff.mp ef
  refine ⟨F, ρ, x, A, ex, fun v F1 H1 g1 r1 => ?_⟩
  have r1 := r1.dn g1.fh
  cases x with
  | bl c =>
    refine ⟨c, (show v = .bl c from r1), ?_⟩
    cases c with
    | true =>
      rw [if_pos rfl]
      cases ef
      exact k _ F1 H1 g1 (RepM.up g1.fh (by simp [Rep]))
    | false =>
      rw [if_neg Bool.false_ne_true]
      exact ⟨F1, ρ, d, A.grow g1, ef, fun v F2 H2 g2 => k v F2 H2 (g1.trans g2)⟩
  | _ => cases ef⟩
theorem x_not (ha : PX X m1 a fa) : PX X m (.UnaryOp .Not a pos) (fNot fa) := px_up ⟨fun E => pe_imp (pe_not (ha.pe E)) fun σ H Q ⟨F, ρ, d, A, ef, k⟩ => by
  obtain ⟨x, ex, ef⟩ := Option.bind_eq_some_iff.mp ef
  refine ⟨F, ρ, x, A, ex, fun v F1 H1 g1 r1 => ?_⟩
  have r1 := r1.dn g1.fh
  cases x with
  | bl c =>
    cases ef
    exact ⟨c, (show v = .bl c from r1), k _ F1 H1 g1 (by simp [RepM, Rep])⟩
  | _ => cases ef⟩
def fIf (t : Rho → Option Bool) (fa fb : FX) : FX := fun ρ => (t ρ).bind fun c => match c with
  | true => fa ρ
  | false => fb ρ
theorem x_if {c : Expr} {t : Rho → Option Bool} (hc : PB X c t) (ha : PX X m a fa) (hb : PX X m b fb) : PX X m (.IfExp c a b pos) (fIf t fa fb) := ⟨fun E => pe_imp (pe_ifExp (hc.pt E) (ha.pe E) (hb.pe E)) fun σ H Q ⟨F, ρ, d, A, ef, k⟩ => by
  obtain ⟨x, ex, ef⟩ := Option.bind_eq_some_iff.mp ef
  refine ⟨F, ρ, x, A, ex, fun F1 H1 g1 => ?_⟩
  cases x with
  | true =>
    rw [if_pos rfl]
    exact ⟨F1, ρ, d, A.grow g1, ef, fun v F2 H2 g2 => k v F2 H2 (g1.trans g2)⟩
  | false =>
    rw [if_neg Bool.false_ne_true]
    exact ⟨F1, ρ, d, A.grow g1, ef, fun v F2 H2 g2 => k v F2 H2 (g1.trans g2)⟩⟩
end

/-! ### arguments -/
section
variable {X : Cx} {e : Expr} {es : List Expr} {f : FX} {fs : Rho → Option (List D)} {m : Md}
def aNil : Rho → Option (List D) := fun _ => some []
def aCons (f : FX) (fs : Rho → Option (List D)) : Rho → Option (List D) := fun ρ => (f ρ).bind fun d => (fs ρ).map fun ds => d :: ds
theorem as_nil : PAs X m [] aNil := ⟨fun E => pa_imp pa_nil fun σ H Q ⟨F, ρ, ds, A, ef, k⟩ => by
  cases ef
  exact k [] F H A.grow0 rfl⟩
theorem as_cons (ha : PX X .s e f) (hr : PAs X .s es fs) (hs : starEach (e :: es) X.env = (false, eval e X.env) :: starEach es X.env := by rfl) : PAs X .s (e :: es) (aCons f fs) := ⟨fun E => pa_imp (pa_cons (ha.pe E) (hr.pa E) hs) fun σ H Q ⟨F, ρ, ds, A, ef, k⟩ => by
  obtain ⟨x, ex, ef⟩ := Option.bind_eq_some_iff.mp ef
  obtain ⟨r, er, rfl⟩ := Option.map_eq_some_iff.mp ef
  refine ⟨F, ρ, x, A, ex, fun v F1 H1 g1 r1 => ?_⟩
  exact ⟨F1, ρ, r, A.grow g1, er, fun vs F2 H2 g2 r2 => k (v :: vs) F2 H2 (g1.trans g2) ⟨v, vs, rfl, Rep.mono g2.f r1, r2⟩⟩⟩
/-- arguments as they stand (for a callee that only reads them) -/
theorem as_consW {m1 : Md} (ha : PX X m1 e f) (hr : PAs X .w es fs) (hs : starEach (e :: es) X.env = (false, eval e X.env) :: starEach es X.env := by rfl) : PAs X .w (e :: es) (aCons f fs) := ⟨fun E => pa_imp (pa_cons (ha.pe E) (hr.pa E) hs) fun σ H Q ⟨F, ρ, ds, A, ef, k⟩ => by
  obtain ⟨x, ex, ef⟩ := Option.bind_eq_some_iff.mp ef
  obtain ⟨r, er, rfl⟩ := Option.map_eq_some_iff.mp ef
  refine ⟨F, ρ, x, A, ex, fun v F1 H1 g1 r1 => ?_⟩
  exact ⟨F1, ρ, r, A.grow g1, er, fun vs F2 H2 g2 r2 => k (v :: vs) F2 H2 (g1.trans g2) ⟨v, vs, rfl, Rep.mono g2.h (r1.dn g1.fh), r2⟩⟩⟩
end
end FL

/-! FLOps: operators and built-ins on data. -/
namespace FL
open L2 PyProof.Rows PySem.Spec PySem

/-- a length that is far within Python's line -/
abbrev lim : Nat := 1000000
theorem lim_ok {n : Nat} (h : n ≤ lim) : n ≤ sizeLine := Nat.le_trans h (by decide)
theorem lim_lt {n : Nat} (h : n ≤ lim) : n < sizeLine := Nat.lt_of_le_of_lt h (by decide)

/-! ### list + list, of any tracked lists -/
def rCatL (K : PySem.W.Frag) : R2 := fun x y H Q => ∃ l b xs zs, x = .ref l ∧ y = .ref b ∧ SqL K H l xs ∧ SqL K H b zs ∧ xs.length + zs.length ≤ sizeLine ∧ ∀ p, H p = none → Q (.ref p) (upd H p (.lst (xs ++ zs)))
theorem op_catL {X : Cx} : OpR X (binaryOp .Add) (rCatL X.K) := by
  intro pins s σ H x y v u Q I rx ry h
  obtain ⟨l, b, xs, zs, rfl, rfl, hH, hB, hz, q⟩ := h
  cases rx
  cases ry
  obtain ⟨its, r, ⟨⟨cls, dd, data, sl⟩, n, ho, hc, hdi, hd⟩, _⟩ := I.list hH
  obtain ⟨its2, r2, ⟨⟨cls2, dd2, data2, sl2⟩, n2, ho2, hc2, hdi2, hd2⟩, _⟩ := I.list hB
  simp only at hc hd hc2 hd2
  subst hc hd hc2 hd2
  have l1 := r.length
  have l2 := r2.length
  refine concat_meets ⟨_, ho, rfl⟩ ⟨_, ho2, rfl⟩ noFill_list_add seq_list_add PySem.F.slot_list_add PySem.F.entry_list_add (PySem.F.args_list_add_2 _ _) (list_addW l b its.toArray its2.toArray n n2 dd dd2 sl sl2 (by simp; omega)) ⟨ho, ho2, ?_⟩
  have ea : its.toArray ++ its2.toArray = (its ++ its2).toArray := by simp
  rw [ea]
  exact ⟨.ref _, _, I.lnew (t' := s.toks) (r.append r2) (by rw [List.length_append]; omega), rfl, q _ I.fresh⟩

/-! ### data as the library's data, as flat values -/
mutual
def D.py : D → Option PyData
  | .non => some .none
  | .bl b => some (.bool b)
  | .int i => some (.int i)
  | .str x => some (.str x)
  | .tup ds => (D.pys ds).map PyData.tuple
  | .lst ds => (D.pys ds).map PyData.list
  | .dic _ _ => none
  | .obj _ _ _ => none
def D.pys : List D → Option (List PyData)
  | [] => some []
  | d :: ds => (D.py d).bind fun p => (D.pys ds).map fun ps => p :: ps
end
mutual
theorem rep_dp {K : PySem.W.Frag} {H : Hp} : ∀ {d : D} {v : V} {p : PyData}, Rep K H d v → d.py = some p → Dp K H v p
  | .non, v, p, h, e => by
    have h : v = .non := h
    simp [D.py] at e; subst h e; exact .non
  | .bl b, v, p, h, e => by
    have h : v = .bl b := h
    simp [D.py] at e; subst h e; exact .bl b
  | .int b, v, p, h, e => by
    have h : v = .int b := h
    simp [D.py] at e; subst h e; exact .int b
  | .str b, v, p, h, e => by
    have h : v = .str b := h
    simp [D.py] at e; subst h e; exact .str b
  | .tup ds, _, _, ⟨a, vs, ev, h, r⟩, e => by
    subst ev
    simp only [D.py, Option.map_eq_some_iff] at e
    obtain ⟨ps, e, rfl⟩ := e
    exact .tup h (reps_dp r e)
  | .lst ds, _, _, ⟨a, vs, ev, h, r⟩, e => by
    subst ev
    simp only [D.py, Option.map_eq_some_iff] at e
    obtain ⟨ps, e, rfl⟩ := e
    exact .lst h (reps_dp r e)
  | .dic _ _, _, _, _, e => by simp [D.py] at e
  | .obj _ _ _, _, _, _, e => by simp [D.py] at e
theorem reps_dp {K : PySem.W.Frag} {H : Hp} : ∀ {ds : List D} {vs : List V} {ps : List PyData}, Reps K H ds vs → D.pys ds = some ps → DpAll K H vs ps
  | [], vs, ps, h, e => by
    have h : vs = [] := h
    simp [D.pys] at e; subst h e; exact .nil
  | d :: ds, vs, ps, ⟨v, r, ev, h, t⟩, e => by
    subst ev
    simp only [D.pys, Option.bind_eq_some_iff, Option.map_eq_some_iff] at e
    obtain ⟨p, e1, qs, e2, rfl⟩ := e
    exact .cons (rep_dp h e1) (reps_dp t e2)
end
def D.fv : D → Option V
  | .non => some .non
  | .bl b => some (.bl b)
  | .int i => some (.int i)
  | .str x => some (.str x)
  | _ => none
def D.fvs : List D → Option (List V)
  | [] => some []
  | d :: ds => (D.fv d).bind fun v => (D.fvs ds).map fun vs => v :: vs
theorem fv_of {K : PySem.W.Frag} {H : Hp} {d : D} {v w : V} (h : Rep K H d v) (e : d.fv = some w) : v = w ∧ flatV v = true := by
  cases d <;> simp [D.fv] at e <;> subst e <;> (have h2 := h; simp only [Rep] at h2; subst h2; exact ⟨rfl, rfl⟩)
theorem fvs_of {K : PySem.W.Frag} {H : Hp} : ∀ {ds : List D} {vs ws : List V}, Reps K H ds vs → D.fvs ds = some ws → vs = ws ∧ vs.all flatV = true
  | [], _, _, h, e => by cases h; simp [D.fvs] at e; subst e; exact ⟨rfl, rfl⟩
  | d :: ds, _, _, ⟨v, r, ev, h, t⟩, e => by
    subst ev
    simp only [D.fvs, Option.bind_eq_some_iff, Option.map_eq_some_iff] at e
    obtain ⟨w, e1, ws, e2, rfl⟩ := e
    obtain ⟨rfl, f1⟩ := fv_of h e1
    obtain ⟨rfl, f2⟩ := fvs_of t e2
    exact ⟨rfl, by simp [f1, f2]⟩
def D.ints : List D → Option (List Int)
  | [] => some []
  | .int i :: ds => (D.ints ds).map fun is => i :: is
  | _ => none
theorem ints_eq : ∀ {ds : List D} {ns : List Int}, D.ints ds = some ns → ds = ns.map D.int
  | [], _, h => by simp [D.ints] at h; subst h; rfl
  | .int i :: ds, _, h => by
    simp only [D.ints, Option.map_eq_some_iff] at h
    obtain ⟨r, h, rfl⟩ := h
    rw [ints_eq h]; rfl
  | .non :: ds, _, h => by simp [D.ints] at h
  | .bl _ :: ds, _, h => by simp [D.ints] at h
  | .str _ :: ds, _, h => by simp [D.ints] at h
  | .tup _ :: ds, _, h => by simp [D.ints] at h
  | .lst _ :: ds, _, h => by simp [D.ints] at h
  | .dic _ _ :: ds, _, h => by simp [D.ints] at h
  | .obj _ _ _ :: ds, _, h => by simp [D.ints] at h
@[simp] theorem ints_map (ns : List Int) : D.ints (ns.map D.int) = some ns := by
  induction ns with
  | nil => rfl
  | cons n ns ih => simp [D.ints, ih]

/-! ### the operators -/
def gI (g : Int → Int → Option D) : D → D → Option D
  | .int i, .int j => g i j
  | _, _ => none
theorem gI_some {g : Int → Int → Option D} {a b d : D} (h : gI g a b = some d) : ∃ i j, a = .int i ∧ b = .int j ∧ g i j = some d := by
  cases a <;> cases b <;> simp [gI] at h
  exact ⟨_, _, rfl, rfl, h⟩
section
variable {X : Cx} {m m1 m2 : Md}
theorem repm_int {K : PySem.W.Frag} {F H : Hp} {i : Int} {v : V} (s : Sub F H) (h : RepM K F H m (.int i) v) : v = .int i := h.dn s
theorem repm_bl {K : PySem.W.Frag} {F H : Hp} {i : Bool} {v : V} (s : Sub F H) (h : RepM K F H m (.bl i) v) : v = .bl i := h.dn s
theorem repm_non {K : PySem.W.Frag} {F H : Hp} {v : V} (s : Sub F H) (h : RepM K F H m .non v) : v = .non := h.dn s
theorem repm_str {K : PySem.W.Frag} {F H : Hp} {x : Str} {v : V} (s : Sub F H) (h : RepM K F H m (.str x) v) : v = .str x := h.dn s
/-- ints in, under C; flat data out -/
theorem opf_I {h : Value → Value → Sem Value} {C : Int → Int → Prop} {gv : Int → Int → V} {g : Int → Int → Option D} (ho : OpR X h (rI C gv)) (hg : ∀ i j d, g i j = some d → C i j ∧ ∀ F, Rep X.K F d (gv i j)) : OpF X h m1 m2 (gI g) := by
  refine ⟨_, ho, fun F H x y a b d Q s ra rb e k => ?_⟩
  obtain ⟨i, j, rfl, rfl, e⟩ := gI_some e
  obtain ⟨c, r⟩ := hg i j d e
  exact ⟨i, j, repm_int s ra, repm_int s rb, c, k _ F H (.refl s) (r F)⟩
theorem opf_I0 {h : Value → Value → Sem Value} {gv : Int → Int → V} {g : Int → Int → Option D} (ho : OpR X h (rI0 gv)) (hg : ∀ i j d, g i j = some d → ∀ F, Rep X.K F d (gv i j)) : OpF X h m1 m2 (gI g) := by
  refine ⟨_, ho, fun F H x y a b d Q s ra rb e k => ?_⟩
  obtain ⟨i, j, rfl, rfl, e⟩ := gI_some e
  exact ⟨i, j, repm_int s ra, repm_int s rb, k _ F H (.refl s) (hg i j d e F)⟩
abbrev gAddI : D → D → Option D := gI fun i j => some (.int (i + j))
abbrev gSub : D → D → Option D := gI fun i j => some (.int (i - j))
abbrev gMul : D → D → Option D := gI fun i j => if (-(2 ^ 64) < i ∧ i < 2 ^ 64) ∨ (-(2 ^ 64) < j ∧ j < 2 ^ 64) then some (.int (i * j)) else none
abbrev gMod : D → D → Option D := gI fun i j => if 0 < j then some (.int (i % j)) else none
abbrev gFdiv : D → D → Option D := gI fun i j => if 0 < j ∧ j < 1073741824 then some (.int (i / j)) else none
abbrev gPow : D → D → Option D := gI fun i j => if 0 ≤ j ∧ j ≤ 1000000 ∧ i.natAbs < 2 ^ 64 then some (.int (i ^ j.toNat)) else none
abbrev gLt : D → D → Option D := gI fun i j => some (.bl (decide (i < j)))
abbrev gLe : D → D → Option D := gI fun i j => some (.bl (decide (i ≤ j)))
abbrev gGt : D → D → Option D := gI fun i j => some (.bl (decide (j < i)))
abbrev gGe : D → D → Option D := gI fun i j => some (.bl (decide (j ≤ i)))
theorem some_rep {d d' : D} {K : PySem.W.Frag} {F : Hp} {v : V} (e : some d' = some d) (h : Rep K F d' v) : Rep K F d v := by cases e; exact h
theorem o_addI : OpF X (binaryOp .Add) m1 m2 gAddI := opf_I0 op_add fun i j d e F => some_rep e (by simp [Rep])
theorem o_sub : OpF X (binaryOp .Sub) m1 m2 gSub := opf_I0 op_sub fun i j d e F => some_rep e (by simp [Rep])
theorem o_mul : OpF X (binaryOp .Mult) m1 m2 gMul := opf_I op_mul fun i j d e => by
  split at e
  · rename_i c; exact ⟨c, fun F => some_rep e (by simp [Rep])⟩
  · cases e
theorem o_mod : OpF X (binaryOp .Mod) m1 m2 gMod := opf_I op_mod fun i j d e => by
  split at e
  · rename_i c; exact ⟨c, fun F => some_rep e (by simp [Rep])⟩
  · cases e
theorem o_fdiv : OpF X (binaryOp .FloorDiv) m1 m2 gFdiv := opf_I op_fdiv fun i j d e => by
  split at e
  · rename_i c; exact ⟨c, fun F => some_rep e (by simp [Rep])⟩
  · cases e
theorem o_pow : OpF X (binaryOp .Pow) m1 m2 gPow := opf_I op_pow fun i j d e => by
  split at e
  · rename_i c; exact ⟨c, fun F => some_rep e (by simp [Rep])⟩
  · cases e
theorem o_lt : OpF X (compareOp .Lt) m1 m2 gLt := opf_I0 op_lt fun i j d e F => some_rep e (by simp [Rep])
theorem o_le : OpF X (compareOp .LtE) m1 m2 gLe := opf_I0 op_le fun i j d e F => some_rep e (by simp [Rep])
theorem o_gt : OpF X (compareOp .Gt) m1 m2 gGt := opf_I0 op_gt fun i j d e F => some_rep e (by simp [Rep])
theorem o_ge : OpF X (compareOp .GtE) m1 m2 gGe := opf_I0 op_ge fun i j d e F => some_rep e (by simp [Rep])
def gOr (g g' : D → D → Option D) : D → D → Option D := fun x y => match g x y with
  | some d => some d
  | none => g' x y
theorem OpF.or {h : Value → Value → Sem Value} {g g' : D → D → Option D} (a : OpF X h m1 m2 g) (b : OpF X h m1 m2 g') : OpF X h m1 m2 (gOr g g') := by
  obtain ⟨r, hr, w⟩ := a
  obtain ⟨r', hr', w'⟩ := b
  refine ⟨_, hr.or hr', fun F H x y a b d Q s ra rb e k => ?_⟩
  unfold gOr at e
  split at e
  · rename_i e1; cases e; exact .inl (w F H x y a b d Q s ra rb e1 k)
  · exact .inr (w' F H x y a b d Q s ra rb e k)
/-- lists, tuples, one behind another -/
def gCatL : D → D → Option D
  | .lst ds, .lst es => if ds.length + es.length ≤ lim then some (.lst (ds ++ es)) else none
  | _, _ => none
def gCatT : D → D → Option D
  | .tup ds, .tup es => if ds.length + es.length ≤ lim then some (.tup (ds ++ es)) else none
  | _, _ => none
theorem o_catL : OpF X (binaryOp .Add) .q .q gCatL := by
  refine ⟨_, op_catL, fun F H x y a b d Q s ra rb e k => ?_⟩
  cases a <;> cases b <;> simp only [gCatL] at e <;> try (cases e; done)
  obtain ⟨c, e⟩ := Option.ite_none_right_eq_some.mp e
  cases e
  obtain ⟨p, vs, rfl, h1, r1⟩ := ra
  obtain ⟨p2, ws, rfl, h2, r2⟩ := rb
  refine ⟨p, p2, vs, ws, rfl, rfl, h1, h2, by rw [← r1.length, ← r2.length]; exact lim_ok c, fun n hn => ?_⟩
  have g := (Grow.refl s).share (o := .lst (vs ++ ws)) hn
  exact k _ _ _ g ⟨n, _, rfl, .inl (.inl upd_same), (r1.append r2).mono g.f⟩
theorem o_catT : OpF X (binaryOp .Add) .q .q gCatT := by
  refine ⟨_, op_catA, fun F H x y a b d Q s ra rb e k => ?_⟩
  cases a <;> cases b <;> simp only [gCatT] at e <;> try (cases e; done)
  rename_i ds es
  obtain ⟨c, e⟩ := Option.ite_none_right_eq_some.mp e
  cases e
  obtain ⟨p, vs, rfl, h1, r1⟩ := (show Rep X.K F (.tup ds) x from ra)
  obtain ⟨p2, ws, rfl, h2, r2⟩ := (show Rep X.K F (.tup es) y from rb)
  have n1 := r1.length
  have n2 := r2.length
  refine ⟨p, p2, vs, ws, rfl, rfl, s.seqT h1, s.seqT h2, by rw [← n1, ← n2]; exact lim_ok c, fun e0 => ?_, fun _ e0 => ?_, fun _ _ n hn => ?_⟩
  · subst e0
    have : ds = [] := List.length_eq_zero_iff.mp (by simpa using n1)
    subst this
    exact k _ F H (.refl s) ⟨p2, ws, rfl, h2, r2⟩
  · subst e0
    have : es = [] := List.length_eq_zero_iff.mp (by simpa using n2)
    subst this
    exact k _ F H (.refl s) (by rw [List.append_nil]; exact ⟨p, vs, rfl, h1, r1⟩)
  · have g := (Grow.refl s).share (o := .tup (vs ++ ws)) hn
    exact k _ _ _ g ⟨n, _, rfl, .inl (.inl upd_same), (r1.append r2).mono g.f⟩
abbrev gAdd : D → D → Option D := gOr gAddI (gOr gCatL gCatT)
theorem o_add : OpF X (binaryOp .Add) .q .q gAdd := o_addI.or (o_catL.or o_catT)
/-- ==, != of data at any depth -/
def gEq (a b : D) : Option D := a.py.bind fun p => b.py.bind fun q => if SeqAt.shaped p = true ∧ SeqAt.shaped q = true then some (.bl (PyData.eqv p q)) else none
def gNe (a b : D) : Option D := a.py.bind fun p => b.py.bind fun q => if SeqAt.shaped p = true ∧ SeqAt.shaped q = true then some (.bl (!PyData.eqv p q)) else none
theorem o_eq (hu : X.A.units + 64 < cLine) : OpF X (compareOp .Eq) m1 m2 gEq := by
  refine ⟨_, op_eqD hu, fun F H x y a b d Q s ra rb e k => ?_⟩
  obtain ⟨p, ep, e⟩ := Option.bind_eq_some_iff.mp e
  obtain ⟨q, eq, e⟩ := Option.bind_eq_some_iff.mp e
  obtain ⟨c, e⟩ := Option.ite_none_right_eq_some.mp e
  exact ⟨p, q, rep_dp (ra.dn s) ep, rep_dp (rb.dn s) eq, c.1, c.2, k _ F H (.refl s) (some_rep e (by simp [Rep]))⟩
theorem o_ne (hu : X.A.units + 64 < cLine) : OpF X (compareOp .NotEq) m1 m2 gNe := by
  refine ⟨_, op_neD hu, fun F H x y a b d Q s ra rb e k => ?_⟩
  obtain ⟨p, ep, e⟩ := Option.bind_eq_some_iff.mp e
  obtain ⟨q, eq, e⟩ := Option.bind_eq_some_iff.mp e
  obtain ⟨c, e⟩ := Option.ite_none_right_eq_some.mp e
  exact ⟨p, q, rep_dp (ra.dn s) ep, rep_dp (rb.dn s) eq, c.1, c.2, k _ F H (.refl s) (some_rep e (by simp [Rep]))⟩
/-- in, not in: flat things in a list or tuple of flat things; a sign in a text -/
def D.seq : D → Option (List D)
  | .lst ds => some ds
  | .tup ds => some ds
  | _ => none
def gIn (a b : D) : Option D := b.seq.bind fun ds => a.fv.bind fun v => (D.fvs ds).map fun vs => .bl (inV v vs)
def gNotIn (a b : D) : Option D := b.seq.bind fun ds => a.fv.bind fun v => (D.fvs ds).map fun vs => .bl (!inV v vs)
theorem seq_of {K : PySem.W.Frag} {H : Hp} {d : D} {ds : List D} {v : V} (h : Rep K H d v) (e : d.seq = some ds) : ∃ a vs, v = .ref a ∧ (SqL K H a vs ∨ SqT K H a vs) ∧ Reps K H ds vs := by
  cases d <;> simp [D.seq] at e
  · subst e; obtain ⟨a, vs, e, h, r⟩ := h; exact ⟨a, vs, e, .inr h, r⟩
  · subst e; obtain ⟨a, vs, e, h, r⟩ := h; exact ⟨a, vs, e, .inl h, r⟩
theorem o_in : OpF X (compareOp .In) m1 m2 gIn := by
  refine ⟨_, op_in_seq, fun F H x y a b d Q s ra rb e k => ?_⟩
  obtain ⟨ds, eds, e⟩ := Option.bind_eq_some_iff.mp e
  obtain ⟨v, ev, e⟩ := Option.bind_eq_some_iff.mp e
  obtain ⟨vs, evs, rfl⟩ := Option.map_eq_some_iff.mp e
  obtain ⟨p, ws, rfl, h, r⟩ := seq_of (rb.dn s) eds
  obtain ⟨rfl, f1⟩ := fv_of (ra.dn s) ev
  obtain ⟨rfl, f2⟩ := fvs_of r evs
  exact ⟨p, ws, rfl, h, f1, f2, k _ F H (.refl s) (by simp [Rep])⟩
theorem o_notIn : OpF X (compareOp .NotIn) m1 m2 gNotIn := by
  refine ⟨_, op_notIn_seq, fun F H x y a b d Q s ra rb e k => ?_⟩
  obtain ⟨ds, eds, e⟩ := Option.bind_eq_some_iff.mp e
  obtain ⟨v, ev, e⟩ := Option.bind_eq_some_iff.mp e
  obtain ⟨vs, evs, rfl⟩ := Option.map_eq_some_iff.mp e
  obtain ⟨p, ws, rfl, h, r⟩ := seq_of (rb.dn s) eds
  obtain ⟨rfl, f1⟩ := fv_of (ra.dn s) ev
  obtain ⟨rfl, f2⟩ := fvs_of r evs
  exact ⟨p, ws, rfl, h, f1, f2, k _ F H (.refl s) (by simp [Rep])⟩
def gInS : D → D → Option D
  | .str x, .str z => match x.cps.toList with
    | [c] => some (.bl (decide (c ∈ z.cps.toList)))
    | _ => none
  | _, _ => none
def gNotInS : D → D → Option D
  | .str x, .str z => match x.cps.toList with
    | [c] => some (.bl (!decide (c ∈ z.cps.toList)))
    | _ => none
  | _, _ => none
theorem str_one {x : Str} {c : Nat} (h : x.cps.toList = [c]) : x = ⟨#[c]⟩ := by
  obtain ⟨a⟩ := x
  have : a = #[c] := by apply Array.toList_inj.mp; simpa using h
  rw [this]
theorem o_inS : OpF X (compareOp .In) m1 m2 gInS := by
  refine ⟨_, op_in_sign, fun F H x y a b d Q s ra rb e k => ?_⟩
  cases a <;> cases b <;> simp only [gInS] at e <;> try (cases e; done)
  split at e
  · rename_i c h
    cases e
    refine ⟨c, _, ?_, repm_str s rb, k _ F H (.refl s) (by simp [Rep])⟩
    rw [repm_str s ra, str_one h]
  · cases e
theorem o_notInS : OpF X (compareOp .NotIn) m1 m2 gNotInS := by
  refine ⟨_, op_notIn_sign, fun F H x y a b d Q s ra rb e k => ?_⟩
  cases a <;> cases b <;> simp only [gNotInS] at e <;> try (cases e; done)
  split at e
  · rename_i c h
    cases e
    refine ⟨c, _, ?_, repm_str s rb, k _ F H (.refl s) (by simp [Rep])⟩
    rw [repm_str s ra, str_one h]
  · cases e
/-- is None, is True .. -/
def D.isNon : D → Bool
  | .non => true
  | _ => false
def gIsN : D → D → Option D
  | a, .non => some (.bl a.isNon)
  | _, _ => none
def gNotN : D → D → Option D
  | a, .non => some (.bl (!a.isNon))
  | _, _ => none
theorem isNon_of {K : PySem.W.Frag} {H : Hp} {d : D} {v : V} (h : Rep K H d v) : decide (v = .non) = d.isNon := by
  cases d <;> simp only [D.isNon]
  · have h : v = .non := h
    simp [h]
  · have h : v = .bl _ := h
    simp [h]
  · have h : v = .int _ := h
    simp [h]
  · have h : v = .str _ := h
    simp [h]
  · obtain ⟨a, _, h, _⟩ := h; simp [h]
  · obtain ⟨a, _, h, _⟩ := h; simp [h]
  · obtain ⟨a, _, h, _⟩ := h; simp [h]
  · obtain ⟨a, _, _, h, _⟩ := h; simp [h]
theorem o_isN : OpF X (compareOp .Is) m1 m2 gIsN := by
  refine ⟨_, op_isN, fun F H x y a b d Q s ra rb e k => ?_⟩
  cases b <;> simp only [gIsN] at e <;> try (cases e; done)
  refine ⟨repm_non s rb, ?_⟩
  rw [isNon_of (ra.dn s)]
  exact k _ F H (.refl s) (some_rep e (by simp [Rep]))
theorem o_notN : OpF X (compareOp .IsNot) m1 m2 gNotN := by
  refine ⟨_, op_notN, fun F H x y a b d Q s ra rb e k => ?_⟩
  cases b <;> simp only [gNotN] at e <;> try (cases e; done)
  refine ⟨repm_non s rb, ?_⟩
  rw [isNon_of (ra.dn s)]
  exact k _ F H (.refl s) (some_rep e (by simp [Rep]))
/-- is True, is False of a flat thing -/
def rIsTF : R2 := fun x y H Q => ∃ b : Bool, flatV x = true ∧ y = .bl b ∧ Q (.bl (decide (x = .bl b))) H
theorem op_isTF : OpR X (compareOp .Is) rIsTF := by
  intro pins s σ H x y v u Q I rx ry h
  obtain ⟨b, hf, rfl, q⟩ := h
  cases (show u = Value.bool b from ry)
  cases x with
  | bl a =>
    cases (show v = Value.bool a from rx)
    by_cases e : a = b
    · subst e
      exact wpAny_is_self rfl ⟨.bl true, H, I, rfl, by simpa using q⟩
    · exact wpAny_is_other rfl (fun z => e (Value.bool.inj z)) ⟨.bl false, H, I, rfl, by simpa [e] using q⟩
  | non =>
    cases (show v = Value.none from rx)
    exact wpAny_is_other rfl (fun z => nomatch z) ⟨.bl false, H, I, rfl, by simpa using q⟩
  | int i =>
    obtain ⟨t, rfl⟩ := rx
    exact wpAny_is_other rfl (fun z => nomatch z) ⟨.bl false, H, I, rfl, by simpa using q⟩
  | str i =>
    obtain ⟨t, rfl⟩ := rx
    exact wpAny_is_other rfl (fun z => nomatch z) ⟨.bl false, H, I, rfl, by simpa using q⟩
  | _ => cases hf
def gIsTF : D → D → Option D
  | .bl a, .bl b => some (.bl (a == b))
  | .int _, .bl _ => some (.bl false)
  | .str _, .bl _ => some (.bl false)
  | .non, .bl _ => some (.bl false)
  | _, _ => none
theorem o_isTF : OpF X (compareOp .Is) m1 m2 gIsTF := by
  refine ⟨_, op_isTF, fun F H x y a b d Q s ra rb e k => ?_⟩
  cases a <;> cases b <;> simp only [gIsTF] at e <;> try (cases e; done)
  · have h := repm_non s ra
    subst h
    exact ⟨_, rfl, repm_bl s rb, k _ F H (.refl s) (some_rep e (by simp [Rep]))⟩
  · have h := repm_bl s ra
    subst h
    exact ⟨_, rfl, repm_bl s rb, k _ F H (.refl s) (some_rep e (by simp [Rep]; rw [Bool.beq_eq_decide_eq]))⟩
  · have h := repm_int s ra
    subst h
    exact ⟨_, rfl, repm_bl s rb, k _ F H (.refl s) (some_rep e (by simp [Rep]))⟩
  · have h := repm_str s ra
    subst h
    exact ⟨_, rfl, repm_bl s rb, k _ F H (.refl s) (some_rep e (by simp [Rep]))⟩
end

/-! ### -a -/
section
variable {X : Cx} {m m1 : Md} {e a : Expr} {f fa : FX} {pos : Pos}
def gNeg : D → Option D
  | .int i => some (.int (-i))
  | _ => none
theorem x_neg (ha : PX X m1 a fa) : PX X m (.UnaryOp .USub a pos) (f1 gNeg fa) := px_up ⟨fun E => pe_imp (pe_un un_neg (ha.pe E)) fun σ H Q ⟨F, ρ, d, A, ef, k⟩ => by
  obtain ⟨x, ex, ef⟩ := Option.bind_eq_some_iff.mp ef
  refine ⟨F, ρ, x, A, ex, fun v F1 H1 g1 r1 => ?_⟩
  cases x <;> simp only [gNeg] at ef <;> try (cases ef; done)
  exact ⟨_, repm_int g1.fh r1, k _ F1 H1 g1 (some_rep ef (by simp [Rep]))⟩⟩

/-! ### subscripts -/
def atD (ds : List D) (i : Int) : Option D := atI ds i
theorem at_rep {K : PySem.W.Frag} {F : Hp} {ds : List D} {vs : List V} {i : Int} {d : D} (r : Reps K F ds vs) (e : atI ds i = some d) : ∃ v, atI vs i = some v ∧ Rep K F d v := by
  unfold atI at e ⊢
  rw [← r.length]
  obtain ⟨j, ej, e⟩ := Option.bind_eq_some_iff.mp e
  obtain ⟨v, ev, rv⟩ := r.get e
  exact ⟨v, by rw [ej]; exact ev, rv⟩
def gIx : D → D → Option D
  | .lst ds, .int i => atI ds i
  | .tup ds, .int i => atI ds i
  | .str x, .int i => if x.length ≤ lim then (atI x.cps.toList i).map fun c => .str ⟨#[c]⟩ else none
  | _, _ => none
/-- c[i]: the item as shared data, where the sequence is known as s or q; as it stands where it is known as w -/
def Md.item : Md → Md
  | .w => .w
  | _ => .s
theorem x_ix {mc : Md} {b : Expr} {fb : FX} (ha : PX X mc a fa) (hb : PX X m1 b fb) (hs : PlainIx b := by first | exact fun _ _ => rfl | exact fun _ _ _ => rfl) : PX X mc.item (.Subscript a b pos) (f2 gIx fa fb) := ⟨fun E => pe_imp (pe_ix ix_seq (ha.pe E) (hb.pe E) hs) fun σ H Q ⟨F, ρ, d, A, ef, k⟩ => by
  obtain ⟨x, ex, ef⟩ := Option.bind_eq_some_iff.mp ef
  obtain ⟨y, ey, ef⟩ := Option.bind_eq_some_iff.mp ef
  refine ⟨F, ρ, x, A, ex, fun v F1 H1 g1 r1 => ?_⟩
  refine ⟨F1, ρ, y, A.grow g1, ey, fun u F2 H2 g2 r2 => ?_⟩
  have r1 := r1.grow g2
  have g := g1.trans g2
  cases y with
  | int i =>
    have e2 := repm_int g.fh r2
    subst e2
    cases x with
    | str x =>
      obtain ⟨c, ef⟩ := Option.ite_none_right_eq_some.mp ef
      obtain ⟨n, en, rfl⟩ := Option.map_eq_some_iff.mp ef
      exact .inr (.inr ⟨_, _, n, repm_str g.fh r1, rfl, lim_ok c, en, k _ F2 H2 g (RepM.up g.fh (by simp [Rep]))⟩)
    | tup ds =>
      have ef : atI ds i = some d := ef
      cases mc with
      | w =>
        obtain ⟨p, vs, rfl, h, r⟩ := (show Rep X.K H2 (.tup ds) v from r1)
        obtain ⟨z, ez, rz⟩ := at_rep r ef
        exact .inr (.inl ⟨p, vs, i, z, rfl, rfl, h, ez, k z F2 H2 g rz⟩)
      | s =>
        obtain ⟨p, vs, rfl, h, r⟩ := (show Rep X.K F2 (.tup ds) v from r1)
        obtain ⟨z, ez, rz⟩ := at_rep r ef
        exact .inr (.inl ⟨p, vs, i, z, rfl, rfl, g.fh.seqT h, ez, k z F2 H2 g rz⟩)
      | q =>
        obtain ⟨p, vs, rfl, h, r⟩ := (show Rep X.K F2 (.tup ds) v from r1)
        obtain ⟨z, ez, rz⟩ := at_rep r ef
        exact .inr (.inl ⟨p, vs, i, z, rfl, rfl, g.fh.seqT h, ez, k z F2 H2 g rz⟩)
    | lst ds =>
      have ef : atI ds i = some d := ef
      cases mc with
      | w =>
        obtain ⟨p, vs, rfl, h, r⟩ := (show Rep X.K H2 (.lst ds) v from r1)
        obtain ⟨z, ez, rz⟩ := at_rep r ef
        exact .inl ⟨p, vs, i, z, rfl, rfl, h, ez, k z F2 H2 g rz⟩
      | s =>
        obtain ⟨p, vs, rfl, h, r⟩ := (show Rep X.K F2 (.lst ds) v from r1)
        obtain ⟨z, ez, rz⟩ := at_rep r ef
        exact .inl ⟨p, vs, i, z, rfl, rfl, g.fh.seqL h, ez, k z F2 H2 g rz⟩
      | q =>
        obtain ⟨p, vs, rfl, h, r⟩ := r1
        obtain ⟨z, ez, rz⟩ := at_rep r ef
        exact .inl ⟨p, vs, i, z, rfl, rfl, h, ez, k z F2 H2 g rz⟩
    | _ => cases ef
  | _ => cases x <;> cases ef⟩
/-! ### a field of an object -/
def fldOf (f : Str) : List Str → List D → Option D
  | n :: ns, d :: ds => if f = n then some d else fldOf f ns ds
  | _, _ => none
theorem fld_rep {K : PySem.W.Frag} {F : Hp} {f : Str} : ∀ {ns : List Str} {ds : List D} {vs : List V} {d : D}, Reps K F ds vs → ns.length = vs.length → fldOf f ns ds = some d → ∃ v, (ns.zip vs).lookup f = some v ∧ Rep K F d v
  | [], ds, vs, d, _, _, e => by cases ds <;> simp [fldOf] at e
  | n :: ns, [], vs, d, _, _, e => by simp [fldOf] at e
  | n :: ns, x :: ds, _, d, ⟨v, r, rfl, h, t⟩, hl, e => by
    unfold fldOf at e
    rw [List.zip_cons_cons, List.lookup_cons]
    by_cases q : f = n
    · rw [if_pos q] at e; cases e
      simp [q]
      exact h
    · rw [if_neg q] at e
      have : (f == n) = false := beq_eq_false_iff_ne.mpr q
      rw [this]
      exact fld_rep t (by simpa using hl) e
def gFld (c f : Str) : D → Option D
  | .obj c' ns ds => if c' = c then fldOf f ns ds else none
  | _ => none
structure FldOk (K : PySem.W.Frag) (c f : Str) : Prop where
  cls : Cls K (He.ga K c)
  no : NoAttr K (He.ga K c) f
theorem x_fld {mc : Md} {c fl : Str} (hf : FldOk X.K c fl) (ha : PX X mc a fa) (hb : attributeBase a fl X.env (eval a X.env) = eval a X.env := by rfl) : PX X mc.item (.Attribute a fl pos) (f1 (gFld c fl) fa) := ⟨fun E => pe_imp (pe_fld (ha.pe E) hb) fun σ H Q ⟨F, ρ, d, A, ef, k⟩ => by
  obtain ⟨x, ex, ef⟩ := Option.bind_eq_some_iff.mp ef
  refine ⟨F, ρ, x, A, ex, fun v F1 H1 g r1 => ?_⟩
  cases x <;> simp only [gFld] at ef <;> try (cases ef; done)
  rename_i c' ns ds
  obtain ⟨e0, ef2⟩ := Option.ite_none_right_eq_some.mp ef
  subst e0
  cases mc with
  | w =>
    obtain ⟨p, dx, vs, rfl, h, l, r⟩ := (show Rep X.K H1 (.obj c' ns ds) v from r1)
    obtain ⟨z, ez, rz⟩ := fld_rep r l ef2
    exact ⟨p, _, dx, _, z, rfl, h, hf.cls, hf.no, ez, k z F1 H1 g rz⟩
  | s =>
    obtain ⟨p, dx, vs, rfl, h, l, r⟩ := (show Rep X.K F1 (.obj c' ns ds) v from r1)
    obtain ⟨z, ez, rz⟩ := fld_rep r l ef2
    exact ⟨p, _, dx, _, z, rfl, g.fh _ _ h, hf.cls, hf.no, ez, k z F1 H1 g rz⟩
  | q =>
    obtain ⟨p, dx, vs, rfl, h, l, r⟩ := (show Rep X.K F1 (.obj c' ns ds) v from r1)
    obtain ⟨z, ez, rz⟩ := fld_rep r l ef2
    exact ⟨p, _, dx, _, z, rfl, g.fh _ _ h, hf.cls, hf.no, ez, k z F1 H1 g rz⟩⟩
end
end FL

/-! FLLoop: targets, what is walked, comprehensions, statements, loops. -/
namespace FL
open L2 PyProof.Rows PySem.Spec PySem

/-! ### targets -/
def SameOut (is : List Nat) (σ σ' : L2.St) : Prop := σ'.length = σ.length ∧ ∀ j, j ∉ is → σ'[j]? = σ[j]?
theorem SameOut.refl {is : List Nat} {σ : L2.St} : SameOut is σ σ := ⟨rfl, fun _ _ => rfl⟩
theorem SameOut.trans {is : List Nat} {σ σ1 σ2 : L2.St} (a : SameOut is σ σ1) (b : SameOut is σ1 σ2) : SameOut is σ σ2 := ⟨b.1.trans a.1, fun j h => (b.2 j h).trans (a.2 j h)⟩
theorem SameOut.mono {is js : List Nat} {σ σ' : L2.St} (a : SameOut is σ σ') (h : ∀ i ∈ is, i ∈ js) : SameOut js σ σ' := ⟨a.1, fun j hj => a.2 j fun z => hj (h j z)⟩
theorem wipe_get (σ : L2.St) : ∀ (vs : List Nat) (j : Nat), (wipe σ vs)[j]? = if j ∈ vs ∧ j < σ.length then some none else σ[j]?
  | [], j => by simp [wipe]
  | v :: vs, j => by
    unfold wipe
    rw [List.getElem?_set, wipe_get σ vs j, wipe_length]
    by_cases h : v = j
    · subst h
      by_cases hl : v < σ.length <;> simp [hl]
    · have h' : ¬ j = v := fun e => h e.symm
      simp [h, h']
theorem wipe_same {vs : List Nat} {σ σ' : L2.St} (h : SameOut vs σ σ') : wipe σ' vs = wipe σ vs := by
  apply List.ext_getElem?
  intro j
  rw [wipe_get, wipe_get, h.1]
  by_cases hj : j ∈ vs
  · by_cases hl : j < σ.length
    · simp [hj, hl]
    · have h1 : σ[j]? = none := List.getElem?_eq_none_iff.mpr (by omega)
      have h2 : σ'[j]? = none := List.getElem?_eq_none_iff.mpr (by rw [h.1]; omega)
      simp [hj, hl, h1, h2]
  · simp [hj, h.2 j hj]
theorem wipe_out' {vs : List Nat} {σ : L2.St} : SameOut vs σ (wipe σ vs) := ⟨wipe_length σ vs, fun j hj => by rw [wipe_get]; simp [hj]⟩
def wipeR (ρ : Rho) : List Nat → Rho
  | [] => ρ
  | v :: vs => (wipeR ρ vs).set v .no
theorem Abs.wipe {K : PySem.W.Frag} {E : En} {F H : Hp} {σ : L2.St} {ρ : Rho} (A : Abs K E F σ H ρ) : ∀ vs : List Nat, Abs K E F (wipe σ vs) H (wipeR ρ vs)
  | [] => A
  | v :: vs => (A.wipe vs).drop

abbrev FG := D → Rho → Option Rho
def tTg (K : PySem.W.Frag) (E : En) (is : List Nat) (f : FG) : TG := fun v σ H Q => ∃ F ρ d ρ', Abs K E F σ H ρ ∧ Rep K F d v ∧ f d ρ = some ρ' ∧ ∀ σ', Abs K E F σ' H ρ' → SameOut is σ σ' → Q σ' H
abbrev FGs := List D → Rho → Option Rho
def tTgs (K : PySem.W.Frag) (E : En) (is : List Nat) (f : FGs) : TGs := fun vs σ H Q => ∃ F ρ ds ρ', Abs K E F σ H ρ ∧ Reps K F ds vs ∧ f ds ρ = some ρ' ∧ ∀ σ', Abs K E F σ' H ρ' → SameOut is σ σ' → Q σ' H
structure PTg (X : Cx) (tg : Expr) (is : List Nat) (f : FG) : Prop where
  pg : ∀ E, PG X tg (tTg X.K E is f)
structure PTgs (X : Cx) (tgs : List Expr) (is : List Nat) (f : FGs) : Prop where
  pg : ∀ E, PGs X tgs (tTgs X.K E is f)
section
variable {X : Cx} {pos : Pos} {is js : List Nat}
theorem pg_imp {tg : Expr} {t t' : TG} (h : PG X tg t) (w : ∀ v σ H Q, t' v σ H Q → t v σ H Q) : PG X tg t' := ⟨fun pins s σ H v u Q I r q => h.run pins s σ H v u Q I r (w v σ H Q q)⟩
theorem pgs_imp {tg : List Expr} {t t' : TGs} (h : PGs X tg t) (w : ∀ v σ H Q, t' v σ H Q → t v σ H Q) : PGs X tg t' := ⟨fun pins s σ H v u Q I r q => h.run pins s σ H v u Q I r (w v σ H Q q)⟩
def gNm (i : Nat) : FG := fun d ρ => some (ρ.set i (.sh d))
theorem g_nm {i : Nat} {x : Str} (hN : X.N.Nodup) (hi : X.N[i]? = some x) (hx : Loc X.env.scope x) (hf : X.fn x = true ∨ X.env.scope.names.lookup x = some .local := by first | exact .inl rfl | exact .inr rfl | assumption) : PTg X (.Name x pos) [i] (gNm i) := ⟨fun E => pg_imp (pg_name hN hi hx hf) fun v σ H Q ⟨F, ρ, d, ρ', A, r, e, k⟩ => by
  cases e
  exact k _ (A.setS r A.grow0) ⟨by simp, fun j hj => by rw [List.getElem?_set_ne (by simpa using fun e : i = j => hj (by simp [e]))]⟩⟩
def gsNil : FGs := fun ds ρ => match ds with
  | [] => some ρ
  | _ => none
def gsCons (f : FG) (fs : FGs) : FGs := fun ds ρ => match ds with
  | d :: r => (f d ρ).bind fun ρ1 => fs r ρ1
  | [] => none
theorem gs_nil : PTgs X [] [] gsNil := ⟨fun E => pgs_imp pgs_nil fun vs σ H Q ⟨F, ρ, ds, ρ', A, r, e, k⟩ => by
  cases ds with
  | nil => cases e; exact ⟨r, k σ A .refl⟩
  | cons => cases e⟩
theorem gs_cons {e : Expr} {es : List Expr} {f : FG} {fs : FGs} (h1 : PTg X e is f) (h2 : PTgs X es js fs)
    (hs : (assignEach (e :: es) X.env).map (·.2) = assign e X.env :: (assignEach es X.env).map (·.2) := by rfl) : PTgs X (e :: es) (is ++ js) (gsCons f fs) := ⟨fun E => pgs_imp (pgs_cons (h1.pg E) (h2.pg E) hs) fun vs σ H Q ⟨F, ρ, ds, ρ', A, r, e, k⟩ => by
  cases ds with
  | nil => cases e
  | cons d ds =>
    obtain ⟨v, vr, ev, rv, rr⟩ := r
    obtain ⟨ρ1, e1, e⟩ := Option.bind_eq_some_iff.mp e
    exact ⟨v, vr, ev, F, ρ, d, ρ1, A, rv, e1, fun σ1 A1 s1 => ⟨F, ρ1, ds, ρ', A1, rr, e, fun σ2 A2 s2 => k σ2 A2 ((s1.mono (by simp; intro i h; exact .inl h)).trans (s2.mono (by simp; intro i h; exact .inr h)))⟩⟩⟩
def gTupD (n : Nat) (fs : FGs) : FG := fun d ρ => match d with
  | .tup ds => if ds.length = n then fs ds ρ else none
  | _ => none
theorem g_tup {es : List Expr} {k : Nat} {fs : FGs} {n : Nat} (hc : X.calm = true) (h : PTgs X es is fs)
    (hn : (assignEach es X.env).length = n := by rfl) (hst : (assignEach es X.env).findIdx? (·.1) = none := by rfl) : PTg X (.Tuple es k pos) is (gTupD n fs) := ⟨fun E => pg_imp (pg_tup hc (h.pg E) hn hst) fun v σ H Q ⟨F, ρ, d, ρ', A, r, e, k⟩ => by
  cases d <;> simp only [gTupD] at e <;> try (cases e; done)
  rename_i ds
  obtain ⟨hl, e⟩ := Option.ite_none_right_eq_some.mp e
  obtain ⟨a, vs, ev, hq, rr⟩ := r
  exact ⟨a, vs, ev, A.fh.seqT hq, by rw [← rr.length]; exact hl, F, ρ, ds, ρ', A, rr, e, k⟩⟩
end

/-! ### what is walked -/
structure WalksD (K : PySem.W.Frag) (J : It) (G F : Hp) (ds : List D) : Prop where
  go : ∀ i H, Sub G H → i < ds.length → J.go i H
  yld : ∀ i H x H', Sub G H → i < ds.length → J.yld i H x H' → H' = H ∧ ∃ d, ds[i]? = some d ∧ Rep K F d x
  stop : ∀ i H, Sub G H → ds.length ≤ i → J.stop i H
/-- st: what is walked is shared, so that it stands whatever the body does -/
def tIt (K : PySem.W.Frag) (E : En) (st : Bool) (f : Rho → Option (List D)) : TI := fun σ H R => ∃ F ρ ds, Abs K E F σ H ρ ∧ f ρ = some ds ∧ ∀ J F' H', Grow F H F' H' → WalksD K J (if st then F' else H') F' ds → R J H'
structure PIt (X : Cx) (st : Bool) (tg e : Expr) (f : Rho → Option (List D)) : Prop where
  pi : ∀ E, PI X tg e (tIt X.K E st f)
section
variable {X : Cx} {tg e a b : Expr} {f fa fb : FX} {m m1 m2 : Md} {pos p : Pos}
theorem pi_imp {t t' : TI} (h : PI X tg e t) (w : ∀ σ H Q, t' σ H Q → t σ H Q) : PI X tg e t' := ⟨fun pins s σ H R I q => h.run pins s σ H R I (w σ H R q)⟩
theorem pi_or {t t' : TI} (h : PI X tg e t) (h' : PI X tg e t') : PI X tg e (fun σ H R => t σ H R ∨ t' σ H R) := ⟨fun pins s σ H R I q => q.elim (h.run pins s σ H R I) (h'.run pins s σ H R I)⟩
theorem walks_l {K : PySem.W.Frag} {G F : Hp} {a : Addr} {vs : List V} {ds : List D} (h : SqL K G a vs) (r : Reps K F ds vs) : WalksD K (Itl K a) G F ds where
  go := fun i H s hi => ⟨vs, vs[i]'(by rw [← r.length]; exact hi), s.seqL h, List.getElem?_eq_getElem _⟩
  yld := fun i H x H' s _ ⟨e1, e2⟩ => ⟨e1, r.get' (e2 vs (s.seqL h))⟩
  stop := fun i H s hi => ⟨vs, s.seqL h, by rw [← r.length]; exact hi⟩
theorem walks_t {K : PySem.W.Frag} {G F : Hp} {a : Addr} {vs : List V} {ds : List D} (h : SqT K G a vs) (r : Reps K F ds vs) : WalksD K (Itt K a) G F ds where
  go := fun i H s hi => ⟨vs, vs[i]'(by rw [← r.length]; exact hi), s.seqT h, List.getElem?_eq_getElem _⟩
  yld := fun i H x H' s _ ⟨e1, e2⟩ => ⟨e1, r.get' (e2 vs (s.seqT h))⟩
  stop := fun i H s hi => ⟨vs, s.seqT h, by rw [← r.length]; exact hi⟩
def D.lstOf : D → Option (List D)
  | .lst ds => some ds
  | _ => none
def D.tupOf : D → Option (List D)
  | .tup ds => some ds
  | _ => none
def D.strOf : D → Option (List D)
  | .str x => some (x.cps.toList.map fun c => .str ⟨#[c]⟩)
  | _ => none
def fSeq (g : D → Option (List D)) (f : FX) : Rho → Option (List D) := fun ρ => (f ρ).bind g
/-- a list, a tuple, a text that is shared -/
theorem it_lst (h : PX X .s e f) : PIt X true tg e (fSeq D.lstOf f) := ⟨fun E => pi_imp (pi_list (h.pe E)) fun σ H R ⟨F, ρ, ds, A, ef, k⟩ => by
  obtain ⟨d, ed, ef⟩ := Option.bind_eq_some_iff.mp ef
  refine ⟨F, ρ, d, A, ed, fun v F' H' g r => ?_⟩
  cases d <;> simp only [D.lstOf] at ef <;> try (cases ef; done)
  cases ef
  obtain ⟨q, vs, rfl, hq, rr⟩ := r
  exact ⟨q, rfl, ⟨vs, g.fh.seqL hq⟩, k _ F' H' g (walks_l hq rr)⟩⟩
theorem it_tup (h : PX X .s e f) : PIt X true tg e (fSeq D.tupOf f) := ⟨fun E => pi_imp (pi_tup (h.pe E)) fun σ H R ⟨F, ρ, ds, A, ef, k⟩ => by
  obtain ⟨d, ed, ef⟩ := Option.bind_eq_some_iff.mp ef
  refine ⟨F, ρ, d, A, ed, fun v F' H' g r => ?_⟩
  cases d <;> simp only [D.tupOf] at ef <;> try (cases ef; done)
  cases ef
  obtain ⟨q, vs, rfl, hq, rr⟩ := r
  exact ⟨q, rfl, ⟨vs, g.fh.seqT hq⟩, k _ F' H' g (walks_t hq rr)⟩⟩
/-- a list whose items are shared (within a comprehension nothing changes) -/
theorem it_lstQ (h : PX X .q e f) : PIt X false tg e (fSeq D.lstOf f) := ⟨fun E => pi_imp (pi_list (h.pe E)) fun σ H R ⟨F, ρ, ds, A, ef, k⟩ => by
  obtain ⟨d, ed, ef⟩ := Option.bind_eq_some_iff.mp ef
  refine ⟨F, ρ, d, A, ed, fun v F' H' g r => ?_⟩
  cases d <;> simp only [D.lstOf] at ef <;> try (cases ef; done)
  cases ef
  obtain ⟨q, vs, rfl, hq, rr⟩ := r
  exact ⟨q, rfl, ⟨vs, hq⟩, k _ F' H' g (walks_l hq rr)⟩⟩
/-- a list of flat things, as it stands -/
theorem fvs_rep {K : PySem.W.Frag} {F H : Hp} : ∀ {ds : List D} {vs ws : List V}, Reps K H ds vs → D.fvs ds = some ws → Reps K F ds vs
  | [], _, _, h, _ => h
  | d :: ds, _, _, ⟨v, r, rfl, h, t⟩, e => by
    simp only [D.fvs, Option.bind_eq_some_iff, Option.map_eq_some_iff] at e
    obtain ⟨w, e1, ws, e2, _⟩ := e
    refine ⟨v, r, rfl, ?_, fvs_rep t e2⟩
    cases d <;> simp [D.fv] at e1 <;> exact h
def D.lstFl : D → Option (List D)
  | .lst ds => (D.fvs ds).map fun _ => ds
  | _ => none
theorem it_lstW (h : PX X m e f) : PIt X false tg e (fSeq D.lstFl f) := ⟨fun E => pi_imp (pi_list (h.pe E)) fun σ H R ⟨F, ρ, ds, A, ef, k⟩ => by
  obtain ⟨d, ed, ef⟩ := Option.bind_eq_some_iff.mp ef
  refine ⟨F, ρ, d, A, ed, fun v F' H' g r => ?_⟩
  have r := r.dn g.fh
  cases d <;> simp only [D.lstFl] at ef <;> try (cases ef; done)
  obtain ⟨ws, ew, rfl⟩ := Option.map_eq_some_iff.mp ef
  obtain ⟨q, vs, rfl, hq, rr⟩ := r
  exact ⟨q, rfl, ⟨vs, hq⟩, k _ F' H' g (walks_l hq (fvs_rep rr ew))⟩⟩
theorem it_str {st : Bool} (h : PX X m e f) : PIt X st tg e (fSeq D.strOf f) := ⟨fun E => pi_imp (pi_str (h.pe E)) fun σ H R ⟨F, ρ, ds, A, ef, k⟩ => by
  obtain ⟨d, ed, ef⟩ := Option.bind_eq_some_iff.mp ef
  refine ⟨F, ρ, d, A, ed, fun v F' H' g r => ?_⟩
  cases d <;> simp only [D.strOf] at ef <;> try (cases ef; done)
  cases ef
  rename_i x
  refine ⟨x, repm_str g.fh r, k _ F' H' g ⟨fun i H _ hi => by simpa [Its] using hi, fun i H y H' _ _ ⟨e1, c, e2, e3⟩ => ⟨e1, .str ⟨#[c]⟩, ?_, by simp [Rep, e3]⟩, fun i H _ hi => by simpa [Its] using hi⟩⟩
  rw [List.getElem?_map]; simp [e2]⟩
theorem PIt.dn {st : Bool} {f : Rho → Option (List D)} (h : PIt X true tg e f) : PIt X st tg e f := ⟨fun E => pi_imp (h.pi E) fun σ H R ⟨F, ρ, ds, A, ef, k⟩ => ⟨F, ρ, ds, A, ef, fun J F' H' g w => k J F' H' g (by
  cases st with
  | true => exact w
  | false => exact ⟨fun i H s => w.go i H (g.fh.trans s), fun i H x H2 s hi => w.yld i H x H2 (g.fh.trans s) hi, fun i H s => w.stop i H (g.fh.trans s)⟩)⟩⟩
/-- either of two -/
theorem PIt.or {st : Bool} {g g' : D → Option (List D)} (h : PIt X st tg e (fSeq g f)) (h' : PIt X st tg e (fSeq g' f)) : PIt X st tg e (fSeq (fun d => (g d).or (g' d)) f) := ⟨fun E => pi_imp (pi_or (h.pi E) (h'.pi E)) fun σ H R ⟨F, ρ, ds, A, ef, k⟩ => by
  obtain ⟨d, ed, ef⟩ := Option.bind_eq_some_iff.mp ef
  cases q : g d with
  | some x =>
    simp only [q, Option.or] at ef
    cases ef
    exact .inl ⟨F, ρ, ds, A, by simp [fSeq, ed, q], k⟩
  | none =>
    simp only [q, Option.or] at ef
    exact .inr ⟨F, ρ, ds, A, by simp [fSeq, ed, ef], k⟩⟩
def D.lt (d : D) : Option (List D) := (D.lstOf d).or (D.tupOf d)
theorem it_seq (h : PX X .s e f) : PIt X true tg e (fSeq D.lt f) := (it_lst h).or (it_tup h)
/-- range -/
def rangeD (lo : Int) (n : Nat) : List D := (List.range n).map fun (i : Nat) => .int (lo + (i : Int))
def fRg1 (fa : FX) : Rho → Option (List D) := fun ρ => (fa ρ).bind fun d => match d with
  | .int j => if j ≤ 2 ^ 61 ∧ -(2 ^ 61) ≤ j then some (rangeD 0 j.toNat) else none
  | _ => none
def fRg2 (fa fb : FX) : Rho → Option (List D) := fun ρ => (fa ρ).bind fun c => (fb ρ).bind fun d => match c, d with
  | .int i, .int j => if (j ≤ 2 ^ 61 ∧ -(2 ^ 61) ≤ j) ∧ (i ≤ 2 ^ 61 ∧ -(2 ^ 61) ≤ i) then some (rangeD i (j - i).toNat) else none
  | _, _ => none
theorem walks_r {K : PySem.W.Frag} {G F : Hp} {lo : Int} {n : Nat} : WalksD K (Itr lo n) G F (rangeD lo n) where
  go := fun i H _ hi => by simpa [rangeD, Itr] using hi
  yld := fun i H x H' _ hi ⟨e1, e2⟩ => ⟨e1, .int (lo + (i : Int)), by
    have h : i < n := by simpa [rangeD] using hi
    simp [rangeD, h], e2⟩
  stop := fun i H _ hi => by simpa [rangeD, Itr] using hi
theorem it_rg1 {st : Bool} (hg : Gl X "range") (hm : X.mg "range" = none) (ha : PX X m a fa) (hs : starEach [a] X.env = (false, eval a X.env) :: starEach [] X.env := by rfl) : PIt X st tg (.Call (.Name "range" p) [a] [] pos) (fRg1 fa) := ⟨fun E => pi_imp (pi_range1 hg hm (pa_cons (ha.pe E) pa_nil hs) hs) fun σ H R ⟨F, ρ, ds, A, ef, k⟩ => by
  obtain ⟨x, ex, ef⟩ := Option.bind_eq_some_iff.mp ef
  refine ⟨F, ρ, x, A, ex, fun v F' H' g r => ?_⟩
  cases x <;> simp only at ef <;> try (cases ef; done)
  rename_i j
  obtain ⟨c, ef⟩ := Option.ite_none_right_eq_some.mp ef
  cases ef
  have e := repm_int g.fh r
  subst e
  exact ⟨j, rfl, by omega, by omega, k _ F' H' g walks_r⟩⟩
theorem it_rg2 {st : Bool} (hg : Gl X "range") (hm : X.mg "range" = none) (ha : PX X m1 a fa) (hb : PX X m2 b fb) (hs : starEach [a, b] X.env = (false, eval a X.env) :: starEach [b] X.env := by rfl) (hs2 : starEach [b] X.env = (false, eval b X.env) :: starEach [] X.env := by rfl) :
    PIt X st tg (.Call (.Name "range" p) [a, b] [] pos) (fRg2 fa fb) := ⟨fun E => pi_imp (pi_range2 hg hm (pa_cons (ha.pe E) (pa_cons (hb.pe E) pa_nil hs2) hs) (hs.trans (by rw [hs2]; rfl)) hs2) fun σ H R ⟨F, ρ, ds, A, ef, k⟩ => by
  obtain ⟨x, ex, ef⟩ := Option.bind_eq_some_iff.mp ef
  obtain ⟨y, ey, ef⟩ := Option.bind_eq_some_iff.mp ef
  refine ⟨F, ρ, x, A, ex, fun v F1 H1 g1 r1 => ?_⟩
  refine ⟨F1, ρ, y, A.grow g1, ey, fun u F2 H2 g2 r2 => ?_⟩
  have g := g1.trans g2
  cases x <;> cases y <;> simp only at ef <;> try (cases ef; done)
  rename_i i _ j
  obtain ⟨c, ef⟩ := Option.ite_none_right_eq_some.mp ef
  cases ef
  have e := repm_int g.fh (r1.grow g2)
  subst e
  have e := repm_int g.fh r2
  subst e
  exact ⟨i, j, rfl, ⟨by omega, by omega, by omega, by omega⟩, k _ F2 H2 g walks_r⟩⟩
end

/-! ### a list comprehension -/
def lcGo (bind : FG) (test : Rho → Option Bool) (elt : FX) (ρ : Rho) : List D → Option (List D)
  | [] => some []
  | d :: ds => (bind d ρ).bind fun ρ1 => (test ρ1).bind fun b => match b with
    | true => (elt ρ1).bind fun y => (lcGo bind test elt ρ ds).map fun ys => y :: ys
    | false => lcGo bind test elt ρ ds
def fLc (it : Rho → Option (List D)) (bind : FG) (test : Rho → Option Bool) (elt : FX) (own : List Nat) : Rho → Option T := fun ρ => (it ρ).bind fun ds => if ds.length ≤ lim then (lcGo bind test elt (wipeR ρ own) ds).map fun ys => .ls (ys.map T.sh) else none
structure PTsF (X : Cx) (ifs : List Expr) (f : Rho → Option Bool) : Prop where
  pt : ∀ E, PTs X ifs (tBo X.K E f)
theorem pts_imp {X : Cx} {ifs : List Expr} {t t' : TT} (h : PTs X ifs t) (w : ∀ σ H Q, t' σ H Q → t σ H Q) : PTs X ifs t' := ⟨fun pins s σ H Q I q => h.run pins s σ H Q I (w σ H Q q)⟩
def tYesF : Rho → Option Bool := fun _ => some true
theorem ts_nil {X : Cx} : PTsF X [] tYesF := ⟨fun E => pts_imp pts_nil fun σ H Q ⟨F, ρ, b, A, ef, k⟩ => by
  cases ef
  exact k F H A.grow0⟩
theorem ts_one {X : Cx} {c : Expr} {f : Rho → Option Bool} (h : PB X c f) : PTsF X [c] f := ⟨fun E => pts_one (h.pt E)⟩
section
variable {K : PySem.W.Frag} {E : En}
theorem lc_D {st : Bool} {itf : Rho → Option (List D)} {bind : FG} {is : List Nat} {test : Rho → Option Bool} {elt : FX} {own : List Nat} (hsub : ∀ i ∈ is, i ∈ own) {σ : L2.St} {H : Hp} {Q : VK} (h : tO K E (fLc itf bind test elt own) σ H Q) :
    tLc (tIt K E st itf) (tTg K E is bind) (tBo K E test) (tX K E .s elt) own σ H Q := by
  obtain ⟨F, ρ, t, A, ef, k⟩ := h
  obtain ⟨ds, eds, ef⟩ := Option.bind_eq_some_iff.mp ef
  obtain ⟨hlim, ef⟩ := Option.ite_none_right_eq_some.mp ef
  obtain ⟨ys, eys, rfl⟩ := Option.map_eq_some_iff.mp ef
  refine ⟨F, ρ, ds, A, eds, fun J F1 H1 g1 w => fun L hL => ?_⟩
  have w' : WalksD K J H1 F1 ds := by
    cases st with
    | true => exact ⟨fun i H s => w.go i H (g1.fh.trans s), fun i H x H2 s => w.yld i H x H2 (g1.fh.trans s), fun i H s => w.stop i H (g1.fh.trans s)⟩
    | false => exact w
  refine ⟨fun i m H2 => m = ds.length - i ∧ i ≤ ds.length ∧ ∃ F2 acc done rest, Grow F1 H1 F2 H2 ∧ H2 L = some (.lst acc) ∧ F2 L = none ∧ Reps K F2 done acc ∧ lcGo bind test elt (wipeR ρ own) (ds.drop i) = some rest ∧ done ++ rest = ys ∧ done.length ≤ i,
    ⟨ds.length, by simp, Nat.zero_le _, F1, [], [], ys, (Grow.refl g1.fh).lay hL, upd_same, g1.fh.free hL, rfl, by simpa using eys, rfl, Nat.le_refl _⟩, ?_⟩
  rintro i m H2 ⟨rfl, hi, F2, acc, done, rest, g2, e1, e2, rd, eg, ey, hd⟩
  by_cases hlt : i < ds.length
  · refine .inr ⟨w'.go i H2 g2.h hlt, fun H3 => ∃ F3 acc done rest, Grow F1 H1 F3 H3 ∧ H3 L = some (.lst acc) ∧ F3 L = none ∧ Reps K F3 done acc ∧ lcGo bind test elt (wipeR ρ own) (ds.drop (i + 1)) = some rest ∧ done ++ rest = ys ∧ done.length ≤ i + 1,
      fun H3 q => ⟨ds.length - (i + 1), by omega, rfl, hlt, q⟩, fun x H3 hy => ?_⟩
    obtain ⟨e3, d, ed, rx⟩ := w'.yld i H2 x H3 g2.h hlt hy
    subst e3
    rw [List.drop_eq_getElem_cons hlt] at eg
    have ed' : ds[i] = d := by rw [List.getElem?_eq_getElem hlt] at ed; exact Option.some.inj ed
    rw [ed'] at eg
    unfold lcGo at eg
    obtain ⟨ρ1, eb, eg⟩ := Option.bind_eq_some_iff.mp eg
    obtain ⟨b, et, eg⟩ := Option.bind_eq_some_iff.mp eg
    have A2 : Abs K E F2 (wipe σ own) H3 (wipeR ρ own) := ((A.grow g1).grow g2).wipe own
    refine ⟨F2, wipeR ρ own, d, ρ1, A2, Rep.mono g2.f rx, eb, fun σ2 A3 so => ⟨?_, F2, ρ1, b, A3, et, fun F3 H4 g3 => ?_⟩⟩
    · have h1 := wipe_same (so.mono hsub)
      rw [h1]
      exact wipe_same (wipe_out' (vs := own))
    have g12 := g2.trans g3
    have h4 : H4 L = some (.lst acc) := g3.h _ _ e1
    have f3 : F3 L = none := by
      cases q : F3 L with
      | none => rfl
      | some u =>
        rcases g3.nw L u q with z | z
        · rw [e2] at z; cases z
        · rw [e1] at z; cases z
    cases b with
    | true =>
      refine iteT ?_
      obtain ⟨y, ey1, eg⟩ := Option.bind_eq_some_iff.mp eg
      obtain ⟨r, er, rfl⟩ := Option.map_eq_some_iff.mp eg
      refine ⟨F3, ρ1, y, A3.grow g3, ey1, fun v F4 H5 g4 r4 => ?_⟩
      have h5 : H5 L = some (.lst acc) := g4.h _ _ h4
      have f4 : F4 L = none := by
        cases q : F4 L with
        | none => rfl
        | some u =>
          rcases g4.nw L u q with z | z
          · rw [f3] at z; cases z
          · rw [h4] at z; cases z
      have gg := g12.trans g4
      refine ⟨acc, h5, ?_, F4, acc ++ [v], done ++ [y], r, ⟨gg.f, fun a o e => ?_, fun a o e => ?_, gg.nw⟩, upd_same, f4, (Reps.mono (g3.f.trans g4.f) rd).append ⟨v, [], rfl, r4, rfl⟩, er, by simpa using ey, by simp; omega⟩
      · rw [← rd.length]; exact lim_lt (by omega)
      · rw [upd_ne (ne_of_none e hL)]; exact gg.h a o e
      · rw [upd_ne (ne_of_none e f4)]; exact gg.fh a o e
    | false =>
      refine iteF ?_
      exact ⟨F3, acc, done, rest, g12, h4, f3, Reps.mono g3.f rd, eg, ey, by omega⟩
  · have e : i = ds.length := by omega
    subst e
    refine .inl ⟨w'.stop _ H2 g2.h (Nat.le_refl _), ?_⟩
    rw [List.drop_length] at eg
    cases eg
    rw [List.append_nil] at ey
    subst ey
    refine k (.ref L) [L] F2 H2 (g1.trans g2) ⟨L, acc, [], rfl, rfl, e1, A.base.bh.free (g1.h.free hL), e2, Owns.shared rd⟩ (by simp) (by simp [g1.h.free hL])
end
section
variable {X : Cx} {elt tg iter : Expr} {ifs : List Expr} {scope : Scope} {own : List (Str × Nat)} {pos : Pos} {st : Bool} {itf : Rho → Option (List D)} {bind : FG} {is : List Nat} {test : Rho → Option Bool} {fe : FX}
theorem o_lc (hc : X.calm = true) (hN : X.N.Nodup) (hi : PIt X st tg iter itf) (ok : BlkOk X.N X.env.scope scope own)
    (hg : ∀ (s : Shared) (H : Hp) (C : Addr) (cl : List (Str × Addr)) (fp : List Addr), PTg (X.blk s H scope (compEnvC scope cl C X.env) fp) tg is bind)
    (ht : ∀ (s : Shared) (H : Hp) (C : Addr) (cl : List (Str × Addr)) (fp : List Addr), PTsF (X.blk s H scope (compEnvC scope cl C X.env) fp) ifs test)
    (he : ∀ (s : Shared) (H : Hp) (C : Addr) (cl : List (Str × Addr)) (fp : List Addr), PX (X.blk s H scope (compEnvC scope cl C X.env) fp) .s elt fe)
    (hsub : ∀ i ∈ is, i ∈ own.map (·.2)) (hs : ∀ x, foldedSetIterable iter X.env x = pure x := by intro _; rfl) :
    PO X (.ListComp elt [⟨tg, iter, ifs, 0⟩] scope pos) (fLc itf bind test fe (own.map (·.2))) := ⟨fun E => pe_imp (pe_lc hc hN (hi.pi E) ok (fun s H C cl fp => (hg s H C cl fp).pg E) (fun s H C cl fp => (ht s H C cl fp).pt E) (fun s H C cl fp => (he s H C cl fp).pe E) hs) fun σ H Q h => lc_D hsub h⟩
end
end FL

/-! FLStmt: statements as functions; changes of owned trees; loops; defs. -/
namespace FL
open L2 PyProof.Rows PySem.Spec PySem

/-! ### places in a tree -/
def T.kids : T → Option (List T)
  | .ls ts => some ts
  | .ob _ _ _ ts => some ts
  | _ => none
def T.withKids : T → List T → T
  | .ls _, ts => .ls ts
  | .ob mk c ns _, ts => .ob mk c ns ts
  | t, _ => t
def T.at : List Nat → T → Option T
  | [], t => some t
  | n :: p, .ls ts => (ts[n]?).bind (T.at p)
  | n :: p, .ob _ _ _ ts => (ts[n]?).bind (T.at p)
  | _ :: _, _ => none
def T.put : List Nat → T → T → T
  | [], x, _ => x
  | n :: p, x, .ls ts => match ts[n]? with
    | some t => .ls (ts.set n (T.put p x t))
    | none => .ls ts
  | n :: p, x, .ob mk c ns ts => match ts[n]? with
    | some t => .ob mk c ns (ts.set n (T.put p x t))
    | none => .ob mk c ns ts
  | _ :: _, _, t => t
def Child (H : Hp) (a : Addr) (n : Nat) (w : V) : Prop :=
  (∃ vs, H a = some (.lst vs) ∧ vs[n]? = some w) ∨ ∃ C dx ns vs, H a = some (.ins C dx (List.zip ns vs)) ∧ ns.length = vs.length ∧ vs[n]? = some w
def Nav (H : Hp) : List Nat → V → V → Prop
  | [], u, v => u = v
  | n :: p, u, v => ∃ a w, u = .ref a ∧ Child H a n w ∧ Nav H p w v
theorem Child.mono {H H' : Hp} (s : Sub H H') {a : Addr} {n : Nat} {w : V} (h : Child H a n w) : Child H' a n w := by
  rcases h with ⟨vs, h, e⟩ | ⟨C, dx, ns, vs, h, l, e⟩
  · exact .inl ⟨vs, s _ _ h, e⟩
  · exact .inr ⟨C, dx, ns, vs, s _ _ h, l, e⟩
theorem Nav.mono {H H' : Hp} (s : Sub H H') : ∀ {p : List Nat} {u v : V}, Nav H p u v → Nav H' p u v
  | [], _, _, h => h
  | n :: p, _, _, ⟨a, w, e, c, h⟩ => ⟨a, w, e, c.mono s, Nav.mono s h⟩
theorem Nav.snoc {H : Hp} {n : Nat} {a : Addr} {w : V} (c : Child H a n w) : ∀ {p : List Nat} {u : V}, Nav H p u (.ref a) → Nav H (p ++ [n]) u w
  | [], _, h => by
    have h : _ = _ := h
    subst h
    exact ⟨a, w, rfl, c, rfl⟩
  | m :: p, _, ⟨b, z, e, c', h⟩ => ⟨b, z, e, c', Nav.snoc c h⟩
theorem zip_inj {α β : Type} : ∀ {ns ms : List α} {vs ws : List β}, ns.length = vs.length → ms.length = ws.length → ns.zip vs = ms.zip ws → ns = ms ∧ vs = ws
  | [], [], [], [], _, _, _ => ⟨rfl, rfl⟩
  | [], [], [], _ :: _, _, h, _ => by simp at h
  | [], [], _ :: _, _, h, _, _ => by simp at h
  | [], _ :: _, [], [], _, h, _ => by simp at h
  | [], _ :: _, [], _ :: _, _, _, e => by simp at e
  | [], _ :: _, _ :: _, _, h, _, _ => by simp at h
  | _ :: _, [], [], _, h, _, _ => by simp at h
  | _ :: _, [], _ :: _, _, _, _, e => by simp at e
  | _ :: _, _ :: _, [], _, h, _, _ => by simp at h
  | _ :: _, _ :: _, _ :: _, [], _, h, _ => by simp at h
  | n :: ns, m :: ms, v :: vs, w :: ws, h1, h2, e => by
    simp only [List.zip_cons_cons, List.cons.injEq, Prod.mk.injEq] at e
    obtain ⟨⟨rfl, rfl⟩, e⟩ := e
    obtain ⟨rfl, rfl⟩ := zip_inj (by simpa using h1) (by simpa using h2) e
    exact ⟨rfl, rfl⟩
section
variable {K : PySem.W.Frag} {B : En} {F H : Hp}
theorem child_l {a : Addr} {vs : List V} {n : Nat} {w : V} (h : H a = some (.lst vs)) (c : Child H a n w) : vs[n]? = some w := by
  rcases c with ⟨ws, h', e⟩ | ⟨C, dx, ns, ws, h', l, e⟩
  · rw [h] at h'; cases h'; exact e
  · rw [h] at h'; cases h'
theorem child_o {a C dx : Addr} {ns : List Str} {vs : List V} {n : Nat} {w : V} (h : H a = some (.ins C dx (ns.zip vs))) (hl : ns.length = vs.length) (c : Child H a n w) : vs[n]? = some w := by
  rcases c with ⟨ws, h', e⟩ | ⟨C, dx, ms, ws, h', l, e⟩
  · rw [h] at h'; cases h'
  · rw [h] at h'
    injection h' with h'
    injection h' with h1 h2 h3
    obtain ⟨_, rfl⟩ := zip_inj hl l h3
    exact e
theorem Own.zip : ∀ (p : List Nat) {t t1 : T} {u v : V} {fp : List Addr}, Own K B F H t (some u) fp → t.at p = some t1 → Nav H p u v →
    ∃ fl fa fr, fp = fl ++ fa ++ fr ∧ Own K B F H t1 (some v) fa ∧
      ∀ (F' H' : Hp) (t1' : T) (fa' : List Addr), Sub F F' → (∀ a ∈ fl, H' a = H a ∧ F' a = none) → (∀ a ∈ fr, H' a = H a ∧ F' a = none) → Own K B F' H' t1' (some v) fa' → Own K B F' H' (T.put p t1' t) (some u) (fl ++ fa' ++ fr)
  | [], t, t1, u, v, fp, o, e, nv => by
    have nv : u = v := nv
    have e : t = t1 := Option.some.inj e
    subst nv e
    exact ⟨[], fp, [], by simp, o, fun F' H' t1' fa' _ _ _ o' => by simpa [T.put] using o'⟩
  | n :: p, .ls ts, t1, u, v, fp, ⟨a, vs, fq, e0, e1, h, b, f, r⟩, e, ⟨a', w, eu, c, nv⟩ => by
    cases e0
    cases eu
    subst e1
    obtain ⟨t, et, e⟩ := Option.bind_eq_some_iff.mp (show (ts[n]?).bind (T.at p) = some t1 from e)
    have ew := child_l h c
    obtain ⟨ov, fl, fa, fr, g1, g2, g3, g4⟩ := r.get et
    rw [List.getElem?_map, ew] at g1
    cases g1
    obtain ⟨fl2, fa2, fr2, k1, k2, k3⟩ := Own.zip p g3 e nv
    subst g2 k1
    refine ⟨a :: (fl ++ fl2), fa2, fr2 ++ fr, by simp, k2, fun F' H' t1' fa' s kl kr o' => ?_⟩
    have q := k3 F' H' t1' fa' s (fun x hx => kl x (by simp [hx])) (fun x hx => kr x (by simp [hx])) o'
    have q2 := g4 F' H' _ _ _ s (fun x hx => kl x (by simp [hx])) (fun x hx => kr x (by simp [hx])) q
    have hset : (vs.map some).set n (some w) = vs.map some := by
      rw [← List.map_set]
      congr 1
      obtain ⟨h1, h2⟩ := List.getElem?_eq_some_iff.mp ew
      rw [← h2]; exact List.set_getElem_self h1
    rw [hset] at q2
    simp only [T.put, et]
    exact ⟨a, vs, _, rfl, by simp, (kl a (by simp)).1.trans h, b, (kl a (by simp)).2, q2⟩
  | n :: p, .ob mk c0 ns ts, t1, u, v, fp, ⟨a, dx, vs, fq, e0, e1, em, h, l, b, f, r⟩, e, ⟨a', w, eu, c, nv⟩ => by
    cases e0
    cases eu
    subst e1
    obtain ⟨t, et, e⟩ := Option.bind_eq_some_iff.mp (show (ts[n]?).bind (T.at p) = some t1 from e)
    have ew := child_o h l c
    obtain ⟨ov, fl, fa, fr, g1, g2, g3, g4⟩ := r.get et
    rw [List.getElem?_map, ew] at g1
    cases g1
    obtain ⟨fl2, fa2, fr2, k1, k2, k3⟩ := Own.zip p g3 e nv
    subst g2 k1
    refine ⟨a :: (fl ++ fl2), fa2, fr2 ++ fr, by simp, k2, fun F' H' t1' fa' s kl kr o' => ?_⟩
    have q := k3 F' H' t1' fa' s (fun x hx => kl x (by simp [hx])) (fun x hx => kr x (by simp [hx])) o'
    have q2 := g4 F' H' _ _ _ s (fun x hx => kl x (by simp [hx])) (fun x hx => kr x (by simp [hx])) q
    have hset : (vs.map some).set n (some w) = vs.map some := by
      rw [← List.map_set]
      congr 1
      obtain ⟨h1, h2⟩ := List.getElem?_eq_some_iff.mp ew
      rw [← h2]; exact List.set_getElem_self h1
    rw [hset] at q2
    simp only [T.put, et]
    exact ⟨a, dx, vs, _, rfl, by simp, em, (kl a (by simp)).1.trans h, l, b, (kl a (by simp)).2, q2⟩
  | _ :: _, .no, _, _, _, _, _, e, _ => by simp [T.at] at e
  | _ :: _, .sh _, _, _, _, _, _, e, _ => by simp [T.at] at e
  | _ :: _, .di _ _, _, _, _, _, _, e, _ => by simp [T.at] at e
/-- a node of a slot's tree is changed in its place -/
theorem Abs.mut {E : En} {F1 H1 H2 : Hp} {σ : L2.St} {ρ : Rho} {i : Nat} {p : List Nat} {t t1 t1' : T} {u v : V} (A : Abs K E F σ H ρ) (g : Grow F H F1 H1) (e : ρ[i]? = some t) (es : σ[i]? = some (some u)) (ea : t.at p = some t1) (nv : Nav H1 p u v)
    (w : ∀ fa, Own K E F1 H1 t1 (some v) fa → fa.Nodup → (∀ x ∈ fa, H x ≠ none) → ∃ a o fa', a ∈ fa ∧ H2 = upd H1 a o ∧ Own K E F1 H2 t1' (some v) fa' ∧ fa'.Nodup ∧ ∀ x ∈ fa', x ∈ fa ∨ H x = none) :
    Abs K E F1 σ H2 (ρ.set i (T.put p t1' t)) := by
  have A1 := A.grow g
  obtain ⟨b1, _⟩ := A1
  obtain ⟨b, fp, nd, ow⟩ := A
  have old : ∀ x ∈ fp, (∃ o, H x = some o) ∧ H1 x = H x ∧ F1 x = none ∧ E.B x = none := fun x hx => by
    obtain ⟨⟨o, e⟩, eb, f⟩ := ow.at x hx
    refine ⟨⟨o, e⟩, by rw [e]; exact g.h x o e, ?_, eb⟩
    cases z : F1 x with
    | none => rfl
    | some u =>
      rcases g.nw x u z with z | z
      · rw [f] at z; cases z
      · rw [e] at z; cases z
  have ow1 : Owns K E F1 H1 ρ σ fp := ow.mono g.f (fun x hx => (old x hx).2.1) fun x hx => (old x hx).2.2.1
  obtain ⟨ov, fl, fm, fr, k1, k2, k3, k4⟩ := ow1.get e
  rw [es] at k1
  cases k1
  obtain ⟨fl2, fa, fr2, q1, q2, q3⟩ := Own.zip p k3 ea nv
  subst k2 q1
  have nd' := nd
  simp only [List.nodup_append, List.mem_append] at nd'
  obtain ⟨a, o, fa', ha, rfl, ho, nd2, hin⟩ := w fa q2 nd'.1.2.1.1.2.1 (fun x hx => by
    obtain ⟨o, eo⟩ := (old x (by simp [hx])).1
    rw [eo]; simp)
  have ne : ∀ x, x ∈ fl ∨ x ∈ fl2 ∨ x ∈ fr2 ∨ x ∈ fr → x ≠ a := by
    intro x hx e; subst e
    rcases hx with hx | hx | hx | hx
    · exact nd'.1.2.2 x hx x (.inl (.inr ha)) rfl
    · exact nd'.1.2.1.1.2.2 x hx x ha rfl
    · exact nd'.1.2.1.2.2 x (.inr ha) x hx rfl
    · exact nd'.2.2 x (.inr (.inl (.inr ha))) x hx rfl
  have r1 := q3 F1 (upd H1 a o) t1' fa' (Sub.refl _) (fun x hx => ⟨upd_ne (ne x (by simp [hx])), (old x (by simp [hx])).2.2.1⟩) (fun x hx => ⟨upd_ne (ne x (by simp [hx])), (old x (by simp [hx])).2.2.1⟩) ho
  have r2 := k4 F1 (upd H1 a o) _ (some u) _ (Sub.refl _) (fun x hx => ⟨upd_ne (ne x (by simp [hx])), (old x (by simp [hx])).2.2.1⟩) (fun x hx => ⟨upd_ne (ne x (by simp [hx])), (old x (by simp [hx])).2.2.1⟩) r1
  have hσ : σ.set i (some u) = σ := by
    obtain ⟨h1, h2⟩ := List.getElem?_eq_some_iff.mp es
    rw [← h2]; exact List.set_getElem_self h1
  rw [hσ] at r2
  have hB : E.B a = none := (old a (by simp [ha])).2.2.2
  have hF : F1 a = none := (old a (by simp [ha])).2.2.1
  refine ⟨⟨fun x o' ex => ?_, b1.ff, fun x o' ex => ?_, b1.nw⟩, _, ?_, r2⟩
  · rw [upd_ne (ne_of_none ex hB)]; exact b1.bh x o' ex
  · rw [upd_ne (ne_of_none ex hF)]; exact b1.fh x o' ex
  · have inn : ∀ x ∈ fa', x ∉ fl ∧ x ∉ fl2 ∧ x ∉ fr2 ∧ x ∉ fr := fun x hx => by
      rcases hin x hx with h | h
      · exact ⟨fun z => nd'.1.2.2 x z x (.inl (.inr h)) rfl, fun z => nd'.1.2.1.1.2.2 x z x h rfl, fun z => nd'.1.2.1.2.2 x (.inr h) x z rfl, fun z => nd'.2.2 x (.inr (.inl (.inr h))) x z rfl⟩
      · have : ∀ z, z ∈ fl ++ (fl2 ++ fa ++ fr2) ++ fr → z ≠ x := fun z hz e => by
          subst e
          obtain ⟨o, eo⟩ := (old z hz).1
          rw [h] at eo; cases eo
        exact ⟨fun z => this x (by simp [z]) rfl, fun z => this x (by simp [z]) rfl, fun z => this x (by simp [z]) rfl, fun z => this x (by simp [z]) rfl⟩
    simp only [List.nodup_append, List.mem_append]
    refine ⟨⟨nd'.1.1, ⟨⟨nd'.1.2.1.1.1, nd2, fun x hx y hy e => by subst e; exact (inn x hy).2.1 hx⟩, nd'.1.2.1.2.1, fun x hx y hy e => ?_⟩, fun x hx y hy e => ?_⟩, nd'.2.1, fun x hx y hy e => ?_⟩
    · subst e
      rcases hx with hx | hx
      · exact nd'.1.2.1.2.2 x (.inl hx) x hy rfl
      · exact (inn x hx).2.2.1 hy
    · subst e
      rcases hy with (hy | hy) | hy
      · exact nd'.1.2.2 x hx x (.inl (.inl hy)) rfl
      · exact (inn x hy).1 hx
      · exact nd'.1.2.2 x hx x (.inr hy) rfl
    · subst e
      rcases hx with hx | (hx | hx) | hx
      · exact nd'.2.2 x (.inl hx) x hy rfl
      · exact nd'.2.2 x (.inr (.inl (.inl hx))) x hy rfl
      · exact (inn x hx).2.2.2 hy
      · exact nd'.2.2 x (.inr (.inr hx)) x hy rfl
end
end FL

/-! FLRun: statements, blocks, loops. -/
namespace FL
open L2 PyProof.Rows PySem.Spec PySem

inductive Out where
  | nx (ρ : Rho) | rt (d : D) | bk (ρ : Rho) | ct (ρ : Rho)
abbrev FS := Rho → Option Out
def OutOk (K : PySem.W.Frag) (E : En) (F : Hp) (W : Ends) : Out → Prop
  | .nx ρ => ∀ σ F' H', Sub F F' → Abs K E F' σ H' ρ → W.nx σ H'
  | .bk ρ => ∀ σ F' H', Sub F F' → Abs K E F' σ H' ρ → W.bk σ H'
  | .ct ρ => ∀ σ F' H', Sub F F' → Abs K E F' σ H' ρ → W.ct σ H'
  | .rt d => ∀ v F' H', Sub F F' → Base E F' H' → Rep K F' d v → W.rt v H'
def tSt (K : PySem.W.Frag) (E : En) (g : FS) : TS := fun W σ H => ∃ F ρ o, Abs K E F σ H ρ ∧ g ρ = some o ∧ OutOk K E F W o
structure PSt (X : Cx) (st : Stmt) (g : FS) : Prop where
  ps : ∀ E, PS X st (tSt X.K E g)
structure PBk (X : Cx) (sts : List Stmt) (g : FS) : Prop where
  ps : ∀ E, PSs X sts (tSt X.K E g)
theorem OutOk.mono {K : PySem.W.Frag} {E : En} {F F' : Hp} {W : Ends} (s : Sub F F') : ∀ {o : Out}, OutOk K E F W o → OutOk K E F' W o
  | .nx _, h => fun σ F2 H2 s2 => h σ F2 H2 (s.trans s2)
  | .bk _, h => fun σ F2 H2 s2 => h σ F2 H2 (s.trans s2)
  | .ct _, h => fun σ F2 H2 s2 => h σ F2 H2 (s.trans s2)
  | .rt _, h => fun σ F2 H2 s2 => h σ F2 H2 (s.trans s2)
section
variable {X : Cx} {st : Stmt} {rest sts : List Stmt} {g h : FS} {e o a : Expr} {f : FX} {m : Md} {pos pos' : Pos}
def gSeq (g h : FS) : FS := fun ρ => (g ρ).bind fun o => match o with
  | .nx ρ' => h ρ'
  | .rt d => some (.rt d)
  | .bk ρ' => some (.bk ρ')
  | .ct ρ' => some (.ct ρ')
theorem k_nil : PBk X [] (fun ρ => some (.nx ρ)) := ⟨fun E => pss_imp pss_nil fun W σ H ⟨F, ρ, o, A, e, k⟩ => by
  cases e
  exact k σ F H (Sub.refl _) A⟩
theorem k_one (h : PSt X st g) : PBk X [st] g := ⟨fun E => pss_one (h.ps E)⟩
theorem k_cons (h1 : PSt X st g) (h2 : PBk X rest h) : PBk X (st :: rest) (gSeq g h) := ⟨fun E => pss_imp (pss_cons (h1.ps E) (h2.ps E)) fun W σ H ⟨F, ρ, o, A, e, k⟩ => by
  obtain ⟨o1, e1, e⟩ := Option.bind_eq_some_iff.mp e
  refine ⟨F, ρ, o1, A, e1, ?_⟩
  cases o1 with
  | nx ρ' => exact fun σ' F' H' s A' => ⟨F', ρ', o, A', e, k.mono s⟩
  | rt d => cases e; exact k
  | bk ρ' => cases e; exact k
  | ct ρ' => cases e; exact k⟩
def gPass : FS := fun ρ => some (.nx ρ)
theorem s_pass : PSt X (.Pass pos) gPass := ⟨fun E => ps_imp ps_pass fun W σ H ⟨F, ρ, o, A, e, k⟩ => by
  cases e
  exact k σ F H (Sub.refl _) A⟩
theorem s_doc {x j pos pos'} : PSt X (.Expr (.Constant (.str x) j pos) pos') gPass := ⟨fun E => ps_imp ps_doc fun W σ H ⟨F, ρ, o, A, e, k⟩ => by
  cases e
  exact k σ F H (Sub.refl _) A⟩
theorem s_break : PSt X (.Break pos) (fun ρ => some (.bk ρ)) := ⟨fun E => ps_imp ps_break fun W σ H ⟨F, ρ, o, A, e, k⟩ => by
  cases e
  exact k σ F H (Sub.refl _) A⟩
theorem s_continue : PSt X (.Continue pos) (fun ρ => some (.ct ρ)) := ⟨fun E => ps_imp ps_continue fun W σ H ⟨F, ρ, o, A, e, k⟩ => by
  cases e
  exact k σ F H (Sub.refl _) A⟩
def gNever : FS := fun _ => none
theorem s_never : PSt X st gNever := ⟨fun E => ps_imp ps_never fun W σ H ⟨F, ρ, o, A, e, k⟩ => by cases e⟩
theorem k_never : PBk X sts gNever := ⟨fun E => pss_imp pss_never fun W σ H ⟨F, ρ, o, A, e, k⟩ => by cases e⟩
def gDrop (f : FX) : FS := fun ρ => (f ρ).map fun _ => .nx ρ
theorem s_expr (he : PX X m e f) (hs : swapsWith e none pos.line X.env = pure false := by rfl) : PSt X (.Expr e pos) (gDrop f) := ⟨fun E => ps_imp (ps_expr (he.pe E) hs) fun W σ H ⟨F, ρ, o, A, e, k⟩ => by
  obtain ⟨d, ed, rfl⟩ := Option.map_eq_some_iff.mp e
  exact ⟨F, ρ, d, A, ed, fun v F' H' g _ => k σ F' H' g.f (A.grow g)⟩⟩
def gRet (f : FX) : FS := fun ρ => (f ρ).map fun d => .rt d
theorem s_ret (he : PX X .s e f) : PSt X (.Return (some e) pos) (gRet f) := ⟨fun E => ps_imp (ps_ret (he.pe E)) fun W σ H ⟨F, ρ, o, A, e, k⟩ => by
  obtain ⟨d, ed, rfl⟩ := Option.map_eq_some_iff.mp e
  exact ⟨F, ρ, d, A, ed, fun v F' H' g r => k v F' H' g.f (A.base.grow g) r⟩⟩
theorem s_retN : PSt X (.Return none pos) (fun _ => some (.rt .non)) := ⟨fun E => ps_imp ps_retN fun W σ H ⟨F, ρ, o, A, e, k⟩ => by
  cases e
  exact k .non F H (Sub.refl _) A.base (by simp [Rep])⟩
def gIf (t : Rho → Option Bool) (g h : FS) : FS := fun ρ => (t ρ).bind fun b => match b with
  | true => g ρ
  | false => h ρ
theorem s_if {c : Expr} {as bs : List Stmt} {t : Rho → Option Bool} (hc : PB X c t) (ha : PBk X as g) (hb : PBk X bs h) : PSt X (.If c as bs pos) (gIf t g h) := ⟨fun E => ps_imp (ps_if (hc.pt E) (ha.ps E) (hb.ps E)) fun W σ H ⟨F, ρ, o, A, e, k⟩ => by
  obtain ⟨b, eb, e⟩ := Option.bind_eq_some_iff.mp e
  refine ⟨F, ρ, b, A, eb, fun F' H' g => ?_⟩
  cases b with
  | true => exact iteT ⟨F', ρ, o, A.grow g, e, k.mono g.f⟩
  | false => exact iteF ⟨F', ρ, o, A.grow g, e, k.mono g.f⟩⟩
/-- name = value: shared, owned -/
def gSet (i : Nat) (f : FX) : FS := fun ρ => (f ρ).map fun d => .nx (ρ.set i (.sh d))
def gOwn (i : Nat) (f : Rho → Option T) : FS := fun ρ => (f ρ).map fun t => .nx (ρ.set i t)
theorem s_set {i : Nat} {x : Str} (hN : X.N.Nodup) (hi : X.N[i]? = some x) (hx : Loc X.env.scope x) (he : PX X .s e f) (hs : swapsWith e (some (.Name x pos')) pos.line X.env = pure false := by rfl) (hf : X.fn x = true ∨ X.env.scope.names.lookup x = some .local := by first | exact .inl rfl | exact .inr rfl | assumption) :
    PSt X (.Assign [.Name x pos'] e pos) (gSet i f) := ⟨fun E => ps_imp (ps_set hN hi hx (he.pe E) hs hf) fun W σ H ⟨F, ρ, o, A, e, k⟩ => by
  obtain ⟨d, ed, rfl⟩ := Option.map_eq_some_iff.mp e
  exact ⟨F, ρ, d, A, ed, fun v F' H' g r => k _ F' H' g.f (A.setS r g)⟩⟩
theorem s_own {i : Nat} {x : Str} {f : Rho → Option T} (hN : X.N.Nodup) (hi : X.N[i]? = some x) (hx : Loc X.env.scope x) (he : PO X e f) (hs : swapsWith e (some (.Name x pos')) pos.line X.env = pure false := by rfl) (hf : X.fn x = true ∨ X.env.scope.names.lookup x = some .local := by first | exact .inl rfl | exact .inr rfl | assumption) :
    PSt X (.Assign [.Name x pos'] e pos) (gOwn i f) := ⟨fun E => ps_imp (ps_set hN hi hx (he.pe E) hs hf) fun W σ H ⟨F, ρ, o, A, e, k⟩ => by
  obtain ⟨t, et, rfl⟩ := Option.map_eq_some_iff.mp e
  exact ⟨F, ρ, t, A, et, fun v fa F' H' g r nd nw => k _ F' H' g.f (A.set r g nd nw)⟩⟩
/-- a slot's tree becomes shared ahead of a statement -/
def gFrz (i : Nat) (g : FS) : FS := fun ρ => (ρ[i]?).bind fun t => (T.toD t).bind fun d => g (ρ.set i (.sh d))
theorem s_frz (i : Nat) (h : PSt X st g) : PSt X st (gFrz i g) := ⟨fun E => ps_imp (h.ps E) fun W σ H ⟨F, ρ, o, A, e, k⟩ => by
  obtain ⟨t, et, e⟩ := Option.bind_eq_some_iff.mp e
  obtain ⟨d, ed, e⟩ := Option.bind_eq_some_iff.mp e
  obtain ⟨F', s, A'⟩ := A.freeze et ed
  exact ⟨F', _, o, A', e, k.mono s⟩⟩
theorem k_frz (i : Nat) (h : PBk X sts g) : PBk X sts (gFrz i g) := ⟨fun E => pss_imp (h.ps E) fun W σ H ⟨F, ρ, o, A, e, k⟩ => by
  obtain ⟨t, et, e⟩ := Option.bind_eq_some_iff.mp e
  obtain ⟨d, ed, e⟩ := Option.bind_eq_some_iff.mp e
  obtain ⟨F', s, A'⟩ := A.freeze et ed
  exact ⟨F', _, o, A', e, k.mono s⟩⟩
/-- target = value, the target of names -/
def gUnp (f : FX) (b : FG) : FS := fun ρ => (f ρ).bind fun d => (b d ρ).map fun ρ' => .nx ρ'
theorem s_unp {tg : Expr} {is : List Nat} {b : FG} (he : PX X .s e f) (hg : PTg X tg is b) (hs : swapsWithSole [tg] e pos.line X.env = pure false := by rfl) (hw : swappedStores [tg] e X.env = pure none := by rfl)
    (h1 : (assignEach [tg] X.env).map (·.2) = [assign tg X.env] := by rfl) : PSt X (.Assign [tg] e pos) (gUnp f b) := ⟨fun E => ps_imp (ps_asg (he.pe E) (hg.pg E) hs hw h1) fun W σ H ⟨F, ρ, o, A, e, k⟩ => by
  obtain ⟨d, ed, e⟩ := Option.bind_eq_some_iff.mp e
  obtain ⟨ρ', eb, rfl⟩ := Option.map_eq_some_iff.mp e
  exact ⟨F, ρ, d, A, ed, fun v F' H' g r => ⟨F', ρ, d, ρ', A.grow g, r, eb, fun σ' A' _ => k σ' F' H' g.f A'⟩⟩⟩
/-- name op= value, of ints -/
def gAug (i : Nat) (op : Int → Int → Int) (f : FX) : FS := fun ρ => match ρ[i]? with
  | some (.sh (.int a)) => (f ρ).bind fun d => match d with
    | .int b => some (.nx (ρ.set i (.sh (.int (op a b)))))
    | _ => none
  | _ => none
theorem s_aug {i : Nat} {x : Str} {op : Operator} {fo : Int → Int → Int} (hN : X.N.Nodup) (hi : X.N[i]? = some x) (hx : Loc X.env.scope x) (he : PX X m e f) (ho : PIp X op (ipI fo)) (hf : X.fn x = true ∨ X.env.scope.names.lookup x = some .local := by first | exact .inl rfl | exact .inr rfl | assumption) :
    PSt X (.AugAssign (.Name x pos') op e pos) (gAug i fo f) := ⟨fun E => ps_imp (ps_aug hN hi hx (he.pe E) ho hf) fun W σ H ⟨F, ρ, o, A, e, k⟩ => by
  unfold gAug at e
  split at e
  · rename_i a ei
    obtain ⟨d, ed, e⟩ := Option.bind_eq_some_iff.mp e
    cases d <;> simp only at e <;> try (cases e; done)
    cases e
    rename_i b
    obtain ⟨v, ev, rv⟩ := A.sh ei
    have rv : v = .int a := rv
    subst rv
    exact ⟨_, ev, F, ρ, _, A, ed, fun w F' H' g r => ⟨a, b, rfl, repm_int g.fh r, k _ F' H' g.f (A.setS (d := .int (fo a b)) (by simp [Rep]) g)⟩⟩
  · cases e⟩

/-! ### changes in place -/
/-- where an expression leads: a slot and a place in its tree -/
def tPa (K : PySem.W.Frag) (E : En) (f : Rho → Option (Nat × List Nat)) : TE := fun σ H Q => ∃ F ρ ip, Abs K E F σ H ρ ∧ f ρ = some ip ∧ ∀ v F' H', Grow F H F' H' → (∃ u, σ[ip.1]? = some (some u) ∧ Nav H' ip.2 u v) → Q v H'
structure PPa (X : Cx) (e : Expr) (f : Rho → Option (Nat × List Nat)) : Prop where
  pe : ∀ E, PE X e (tPa X.K E f)
def pNm (i : Nat) : Rho → Option (Nat × List Nat) := fun ρ => match ρ[i]? with
  | some (.sh _) => none
  | some .no => none
  | some _ => some (i, [])
  | none => none
theorem p_nm (i : Nat) {x : Str} (hN : X.N[i]? = some x := by rfl) (hv : Vis X.env.scope x := by first | exact Or.inl rfl | exact Or.inr (Or.inl rfl) | exact Or.inr (Or.inr rfl)) (hd : (x == ("__debug__" : Str)) = false := by decide)
    (hcd : (x == ("__classdict__" : Str)) = false := by decide) : PPa X (.Name x pos) (pNm i) := ⟨fun E => pe_imp (pe_var hN hv hd hcd) fun σ H Q ⟨F, ρ, ip, A, ef, k⟩ => by
  obtain ⟨b, fp, nd, ow⟩ := id A
  cases e : ρ[i]? with
  | none => simp [pNm, e] at ef
  | some t =>
    obtain ⟨ov, fl, fa, fr, g1, g2, g3, g4⟩ := ow.get e
    have : ∃ u, ov = some u ∧ ip = (i, []) := by
      cases t with
      | no => simp [pNm, e] at ef
      | sh d => simp [pNm, e] at ef
      | ls ts => simp [pNm, e] at ef; obtain ⟨a, _, _, h, _⟩ := g3; exact ⟨_, h, ef.symm⟩
      | di ks ts => simp [pNm, e] at ef; obtain ⟨a, _, _, h, _⟩ := g3; exact ⟨_, h, ef.symm⟩
      | ob mk c ns ts => simp [pNm, e] at ef; obtain ⟨a, _, _, _, h, _⟩ := g3; exact ⟨_, h, ef.symm⟩
    obtain ⟨u, rfl, rfl⟩ := this
    exact ⟨u, g1, k u F H A.grow0 ⟨u, g1, rfl⟩⟩⟩
def T.node (ρ : Rho) (ip : Nat × List Nat) : Option T := (ρ[ip.1]?).bind (T.at ip.2)
/-- what stands at such a place -/
theorem node_of {K : PySem.W.Frag} {E : En} {F H F' H' : Hp} {σ : L2.St} {ρ : Rho} {ip : Nat × List Nat} {t1 : T} {u v : V} (A : Abs K E F σ H ρ) (g : Grow F H F' H') (en : T.node ρ ip = some t1) (es : σ[ip.1]? = some (some u)) (nv : Nav H' ip.2 u v) :
    ∃ fa, Own K E F' H' t1 (some v) fa := by
  obtain ⟨b, fp, nd, ow⟩ := A.grow g
  obtain ⟨t, et, ea⟩ := Option.bind_eq_some_iff.mp en
  obtain ⟨ov, fl, fa, fr, g1, g2, g3, g4⟩ := ow.get et
  rw [es] at g1
  cases g1
  obtain ⟨fl2, fa2, fr2, k1, k2, k3⟩ := Own.zip ip.2 g3 ea nv
  exact ⟨fa2, k2⟩
def pIx (fp : Rho → Option (Nat × List Nat)) (fi : FX) : Rho → Option (Nat × List Nat) := fun ρ => (fp ρ).bind fun ip => (fi ρ).bind fun d => match T.node ρ ip, d with
  | some (.ls ts), .int n => (ixN ts.length n).map fun j => (ip.1, ip.2 ++ [j])
  | _, _ => none
theorem p_ix {i : Expr} {fp : Rho → Option (Nat × List Nat)} {fi : FX} (hp : PPa X a fp) (hi : PX X m i fi) (hs : PlainIx i := by exact fun _ _ => rfl) : PPa X (.Subscript a i pos) (pIx fp fi) := ⟨fun E => pe_imp (pe_ix ix_list (hp.pe E) (hi.pe E) hs) fun σ H Q ⟨F, ρ, ip, A, ef, k⟩ => by
  obtain ⟨ip1, e1, ef⟩ := Option.bind_eq_some_iff.mp ef
  obtain ⟨d, ed, ef⟩ := Option.bind_eq_some_iff.mp ef
  refine ⟨F, ρ, ip1, A, e1, fun v F1 H1 g1 ⟨u, es, nv⟩ => ?_⟩
  refine ⟨F1, ρ, d, A.grow g1, ed, fun w F2 H2 g2 r2 => ?_⟩
  cases en : T.node ρ ip1 with
  | none => simp [en] at ef
  | some t1 =>
    cases t1 <;> cases d <;> simp only [en] at ef <;> try (cases ef; done)
    rename_i ts n
    obtain ⟨j, ej, rfl⟩ := Option.map_eq_some_iff.mp ef
    obtain ⟨fa, c, vs, fq, h0, h1, h2, h3, h4, h5⟩ := node_of A g1 en es nv
    cases h0
    have hl := h5.length
    rw [List.length_map] at hl
    have hj := (ixN_seq ej).2.1
    obtain ⟨w0, ev⟩ : ∃ w0, vs[j]? = some w0 := ⟨_, List.getElem?_eq_getElem (by omega)⟩
    have ej' : ixN vs.length n = some j := by rw [← hl]; exact ej
    have h2' := g2.h _ _ h2
    have e := repm_int g2.fh r2
    subst e
    exact ⟨c, vs, n, w0, rfl, rfl, .inl (.inl h2'), by unfold atI; rw [ej']; exact ev, k _ F2 H2 (g1.trans g2) ⟨u, es, Nav.snoc (.inl ⟨vs, h2', ev⟩) (nv.mono g2.h)⟩⟩⟩
/-- xs.append(e): xs a list of this frame -/
def gUpd (fp : Rho → Option (Nat × List Nat)) (ft : Rho → Option T) (h : T → T → Option T) : FS := fun ρ => (fp ρ).bind fun ip => (ft ρ).bind fun x => (T.node ρ ip).bind fun t1 => (h t1 x).bind fun t2 => (ρ[ip.1]?).map fun t => .nx (ρ.set ip.1 (T.put ip.2 t2 t))
def hApp : T → T → Option T
  | .ls ts, x => if ts.length ≤ lim then some (.ls (ts ++ [x])) else none
  | _, _ => none
theorem s_append {o : Expr} {apos cpos : Pos} {fp : Rho → Option (Nat × List Nat)} {ft : Rho → Option T} (ho : PPa X o fp) (he : PO X e ft)
    (hbase : attributeBase o "append" X.env (eval o X.env) = eval o X.env := by rfl)
    (hfew : ((backTo cpos (starEach [e] X.env)).all (fun x => !x.1) && (backToKw cpos (keywordEach [] X.env)).all (fun x => x.1.isSome)
      && decide ([e].length + ([] : List Keyword).length + (if ([] : List Keyword).isEmpty then 0 else 1) < 30)) = true := by rfl)
    (hline : (apos.endLine == cpos.line) = true := by rfl) (hs : starEach [e] X.env = (false, eval e X.env) :: starEach [] X.env := by rfl) (hplain : (backTo cpos (starEach [] X.env)).any (·.1) = false := by rfl)
    (hsw : swapsWith (.Call (.Attribute o "append" apos) [e] [] cpos) none pos.line X.env = pure false := by rfl) :
    PSt X (.Expr (.Call (.Attribute o "append" apos) [e] [] cpos) pos) (gUpd fp ft hApp) := ⟨fun E => ps_imp (ps_expr (pe_bm PySem.F.plainAttrs_list PySem.F.slot_list_append PySem.F.type_list_append mt_append (ho.pe E) (pa_cons (he.pe E) pa_nil hs) hbase hfew hline hs hplain) hsw) fun W σ H ⟨F, ρ, o, A, ef, k⟩ => by
  obtain ⟨ip, eip, ef⟩ := Option.bind_eq_some_iff.mp ef
  obtain ⟨x, ex, ef⟩ := Option.bind_eq_some_iff.mp ef
  obtain ⟨t1, en, ef⟩ := Option.bind_eq_some_iff.mp ef
  obtain ⟨t2, eh, ef⟩ := Option.bind_eq_some_iff.mp ef
  obtain ⟨t, et, rfl⟩ := Option.map_eq_some_iff.mp ef
  cases t1 <;> simp only [hApp] at eh <;> try (cases eh; done)
  rename_i ts
  obtain ⟨hlim, eh⟩ := Option.ite_none_right_eq_some.mp eh
  cases eh
  refine ⟨F, ρ, ip, A, eip, fun v F1 H1 g1 ⟨u, es, nv⟩ => ?_⟩
  obtain ⟨fa0, c, vs, fq, h0, h1, h2, h3, h4, h5⟩ := node_of A g1 en es nv
  cases h0
  refine ⟨.inl ⟨rfl, vs, .inl (.inl h2)⟩, F1, ρ, x, A.grow g1, ex, fun y fy F2 H2 g2 oy ny wy => ?_⟩
  have h2' := g2.h _ _ h2
  have hl := h5.length
  rw [List.length_map] at hl
  refine ⟨c, vs, y, rfl, rfl, h2', by rw [← hl]; exact lim_lt hlim, ?_⟩
  have g := g1.trans g2
  have et2 : t.at ip.2 = some (.ls ts) := by
    obtain ⟨t', e1, e2⟩ := Option.bind_eq_some_iff.mp en
    rw [et] at e1; cases e1; exact e2
  refine k σ F2 _ g.f ((A.grow g1).mut g2 et es et2 (nv.mono g2.h) fun fa oa nd hin => ?_)
  obtain ⟨c', vs', fq', q0, q1, q2, q3, q4, q5⟩ := oa
  cases q0
  rw [h2'] at q2; cases q2
  subst q1
  have hc : c ∉ fq' := (List.nodup_cons.mp nd).1
  have hcy : c ∉ fy := fun hx => hin c (by simp) (wy c hx)
  refine ⟨c, .lst (vs ++ [y]), c :: (fq' ++ fy), by simp, rfl, ⟨c, vs ++ [y], fq' ++ fy, rfl, rfl, upd_same, q3, q4, ?_⟩, ?_, fun z hz => ?_⟩
  · rw [List.map_append]
    refine Owns.append (q5.mono (Sub.refl _) (fun z hz => upd_ne fun e => hc (e ▸ hz)) fun z hz => (q5.at z hz).2.2) ⟨some y, [], fy, [], rfl, by simp, oy.mono (Sub.refl _) (fun z hz => upd_ne fun e => hcy (e ▸ hz)) (fun z hz => (oy.at z hz).2.2), rfl, rfl⟩
  · simp only [List.nodup_cons, List.nodup_append, List.mem_append, not_or]
    refine ⟨⟨hc, hcy⟩, (List.nodup_cons.mp nd).2, ny, fun a ha b hb e => ?_⟩
    subst e
    exact hin a (by simp [ha]) (wy a hb)
  · simp only [List.mem_cons, List.mem_append] at hz ⊢
    rcases hz with hz | hz | hz
    · exact .inl (.inl hz)
    · exact .inl (.inr hz)
    · exact .inr (wy z hz)⟩
end
end FL

/-! FLMut: stores into lists, dicts, objects of this frame; extend, clear; for, while. -/
namespace FL
open L2 PyProof.Rows PySem.Spec PySem

section
variable {K : PySem.W.Frag} {E : En} {F F' H H' : Hp} {B : En}
/-- a tree that was made stays while the heap grows -/
theorem Own.grow (g : Grow F H F' H') {t : T} {ov : Option V} {fa : List Addr} (o : Own K B F H t ov fa) : Own K B F' H' t ov fa := o.mono g.f (fun x hx => by
  obtain ⟨⟨u, e⟩, _, _⟩ := o.at x hx
  rw [e]; exact g.h x u e) fun x hx => by
  obtain ⟨⟨u, e⟩, _, f⟩ := o.at x hx
  cases q : F' x with
  | none => rfl
  | some w =>
    rcases g.nw x w q with z | z
    · rw [f] at z; cases z
    · rw [e] at z; cases z
end
section
variable {X : Cx} {e o a : Expr} {f : FX} {m : Md} {pos pos' : Pos}
def hSet (n : Int) : T → T → Option T
  | .ls ts, x => (ixN ts.length n).map fun j => .ls (ts.set j x)
  | _, _ => none
/-- xs[i] = e -/
def gSetI (fp : Rho → Option (Nat × List Nat)) (fi : FX) (ft : Rho → Option T) : FS := fun ρ => (fi ρ).bind fun d => match d with
  | .int n => gUpd fp ft (hSet n) ρ
  | _ => none
theorem s_setI {i : Expr} {fp : Rho → Option (Nat × List Nat)} {ft : Rho → Option T} {fi : FX} (ho : PPa X o fp) (hi : PX X m i fi) (he : PO X e ft)
    (hsub : ∀ v, assign (.Subscript o i pos') X.env v = (do
      let ov ← holding [v] (eval o X.env)
      let iv ← holding [v, ov] (eval i X.env)
      standAt pos'
      holding [v, ov, iv] (setItem ov iv v)
      release [v, ov, iv] []) := by intro _; rfl)
    (hs : swapsWithSole [.Subscript o i pos'] e pos.line X.env = pure false := by rfl) (hw : swappedStores [.Subscript o i pos'] e X.env = pure none := by rfl)
    (h1 : (assignEach [.Subscript o i pos'] X.env).map (·.2) = [assign (.Subscript o i pos') X.env] := by rfl) :
    PSt X (.Assign [.Subscript o i pos'] e pos) (gSetI fp fi ft) := ⟨fun E => ps_imp (ps_asg (he.pe E) (pg_sub (ho.pe E) (hi.pe E) set_list hsub) hs hw h1) fun W σ H ⟨F, ρ, o, A, ef, k⟩ => by
  obtain ⟨d, ed, ef⟩ := Option.bind_eq_some_iff.mp ef
  cases d <;> simp only at ef <;> try (cases ef; done)
  rename_i n
  obtain ⟨ip, eip, ef⟩ := Option.bind_eq_some_iff.mp ef
  obtain ⟨x, ex, ef⟩ := Option.bind_eq_some_iff.mp ef
  obtain ⟨t1, en, ef⟩ := Option.bind_eq_some_iff.mp ef
  obtain ⟨t2, eh, ef⟩ := Option.bind_eq_some_iff.mp ef
  obtain ⟨t, et, rfl⟩ := Option.map_eq_some_iff.mp ef
  cases t1 <;> simp only [hSet] at eh <;> try (cases eh; done)
  rename_i ts
  obtain ⟨j, ej, rfl⟩ := Option.map_eq_some_iff.mp eh
  refine ⟨F, ρ, x, A, ex, fun y fy F1 H1 g1 oy ny wy => ?_⟩
  refine ⟨F1, ρ, ip, A.grow g1, eip, fun v F2 H2 g2 ⟨u, es, nv⟩ => ?_⟩
  refine ⟨F2, ρ, .int n, (A.grow g1).grow g2, ed, fun w F3 H3 g3 r3 => ?_⟩
  have g := (g1.trans g2).trans g3
  obtain ⟨fa0, c, vs, fq, h0, h1, h2, h3, h4, h5⟩ := node_of (A.grow g1) g2 en es nv
  cases h0
  have h2' := g3.h _ _ h2
  have hl := h5.length
  rw [List.length_map] at hl
  refine ⟨c, vs, n, j, rfl, repm_int g3.fh r3, h2', by rw [← hl]; exact ej, ?_⟩
  have et2 : t.at ip.2 = some (.ls ts) := by
    obtain ⟨t', e1, e2⟩ := Option.bind_eq_some_iff.mp en
    rw [et] at e1; cases e1; exact e2
  have oy3 := (oy.grow g2).grow g3
  refine k σ F3 _ g.f (A.mut g et es et2 (nv.mono g3.h) fun fa oa nd hin => ?_)
  obtain ⟨c', vs', fq', q0, q1, q2, q3, q4, q5⟩ := oa
  cases q0
  rw [h2'] at q2; cases q2
  subst q1
  have hc : c ∉ fq' := (List.nodup_cons.mp nd).1
  have hcy : c ∉ fy := fun hx => hin c (by simp) (wy c hx)
  have hj := (ixN_seq ej).2.1
  obtain ⟨ov, fl, fm, fr, k1, k2, k3, k4⟩ := q5.get (List.getElem?_eq_getElem hj)
  subst k2
  simp only [List.mem_append, not_or] at hc
  have old : ∀ z ∈ fl ++ fm ++ fr, F3 z = none := fun z hz => (q5.at z hz).2.2
  have nd2 := (List.nodup_cons.mp nd).2
  simp only [List.nodup_append, List.mem_append] at nd2
  refine ⟨c, .lst (vs.set j y), c :: (fl ++ fy ++ fr), by simp, rfl, ⟨c, vs.set j y, fl ++ fy ++ fr, rfl, rfl, upd_same, q3, q4, ?_⟩, ?_, fun z hz => ?_⟩
  · have := k4 F3 (upd H3 c (.lst (vs.set j y))) x (some y) fy (Sub.refl _) (fun z hz => ⟨upd_ne fun e => hc.1.1 (e ▸ hz), old z (by simp [hz])⟩) (fun z hz => ⟨upd_ne fun e => hc.2 (e ▸ hz), old z (by simp [hz])⟩)
      (oy3.mono (Sub.refl _) (fun z hz => upd_ne fun e => hcy (e ▸ hz)) fun z hz => (oy3.at z hz).2.2)
    rw [← List.map_set] at this
    exact this
  · simp only [List.nodup_cons, List.nodup_append, List.mem_append, not_or]
    refine ⟨⟨⟨hc.1.1, hcy⟩, hc.2⟩, ⟨nd2.1.1, ny, fun p hp q hq e => ?_⟩, nd2.2.1, fun p hp q hq e => ?_⟩
    · subst e; exact hin p (by simp [hp]) (wy p hq)
    · subst e
      rcases hp with hp | hp
      · exact nd2.2.2 p (.inl hp) p hq rfl
      · exact hin p (by simp [hq]) (wy p hp)
  · simp only [List.mem_cons, List.mem_append] at hz ⊢
    rcases hz with hz | (hz | hz) | hz
    · exact .inl (.inl hz)
    · exact .inl (.inr (.inl (.inl hz)))
    · exact .inr (wy z hz)
    · exact .inl (.inr (.inr hz))⟩
/-- o.f = e -/
def hFld (c f : Str) : T → T → Option T
  | .ob mk c' ns ts, x => if c' = c ∧ f ∉ ns ∧ ns.length < 100 then some (.ob mk c' (ns ++ [f]) (ts ++ [x])) else none
  | _, _ => none
theorem putF_new {f : Str} {y : V} : ∀ {ns : List Str} {vs : List V}, ns.length = vs.length → f ∉ ns → putF f y (ns.zip vs) = (ns ++ [f]).zip (vs ++ [y])
  | [], [], _, _ => rfl
  | n :: ns, v :: vs, hl, hn => by
    simp only [List.mem_cons, not_or] at hn
    have ih := putF_new (f := f) (y := y) (ns := ns) (vs := vs) (by simpa using hl) hn.2
    simp only [List.zip_cons_cons, List.cons_append]
    unfold putF
    rw [if_neg (fun e => hn.1 e.symm), ih]
theorem s_setA {c fl : Str} {fp : Rho → Option (Nat × List Nat)} {ft : Rho → Option T} (hf : FldOk X.K c fl) (ho : PPa X o fp) (he : PO X e ft) (hs : swapsWith e (some (.Attribute o fl pos')) pos.line X.env = pure false := by rfl) :
    PSt X (.Assign [.Attribute o fl pos'] e pos) (gUpd fp ft (hFld c fl)) := ⟨fun E => ps_imp (ps_fld (ho.pe E) (he.pe E) hs) fun W σ H ⟨F, ρ, o, A, ef, k⟩ => by
  obtain ⟨ip, eip, ef⟩ := Option.bind_eq_some_iff.mp ef
  obtain ⟨x, ex, ef⟩ := Option.bind_eq_some_iff.mp ef
  obtain ⟨t1, en, ef⟩ := Option.bind_eq_some_iff.mp ef
  obtain ⟨t2, eh, ef⟩ := Option.bind_eq_some_iff.mp ef
  obtain ⟨t, et, rfl⟩ := Option.map_eq_some_iff.mp ef
  cases t1 <;> simp only [hFld] at eh <;> try (cases eh; done)
  rename_i mk c0 ns ts
  obtain ⟨⟨ec, hn, hlen⟩, eh2⟩ := Option.ite_none_right_eq_some.mp eh
  subst ec
  cases eh2
  refine ⟨F, ρ, x, A, ex, fun y fy F1 H1 g1 oy ny wy => ?_⟩
  refine ⟨F1, ρ, ip, A.grow g1, eip, fun v F2 H2 g2 ⟨u, es, nv⟩ => ?_⟩
  have g := g1.trans g2
  obtain ⟨fa0, p, dx, vs, fq, h0, h1, hmk, h2, hl0, h3, h4, h5⟩ := node_of (A.grow g1) g2 en es nv
  cases h0
  refine ⟨p, _, dx, ns.zip vs, rfl, h2, hf.cls, hf.no, by simp; omega, ?_⟩
  have et2 : t.at ip.2 = some (.ob mk c0 ns ts) := by
    obtain ⟨t', e1, e2⟩ := Option.bind_eq_some_iff.mp en
    rw [et] at e1; cases e1; exact e2
  have oy3 := oy.grow g2
  refine k σ F2 _ g.f (A.mut g et es et2 nv fun fa oa nd hin => ?_)
  obtain ⟨c', dx', vs', fq', q0, q1, qm, q2, q2', q3, q4, q5⟩ := oa
  cases q0
  rw [h2] at q2
  injection q2 with q2
  injection q2 with e1 e2 e3
  subst e2
  obtain ⟨_, rfl⟩ := zip_inj hl0 q2' e3
  subst q1
  have hc : p ∉ fq' := (List.nodup_cons.mp nd).1
  have hcy : p ∉ fy := fun hx => hin p (by simp) (wy p hx)
  refine ⟨p, _, p :: (fq' ++ fy), by simp, rfl, ⟨p, dx, vs ++ [y], fq' ++ fy, rfl, rfl, qm, ?_, by simp [hl0], q3, q4, ?_⟩, ?_, fun z hz => ?_⟩
  · rw [putF_new hl0 hn]; exact upd_same
  · rw [List.map_append]
    refine Owns.append (q5.mono (Sub.refl _) (fun z hz => upd_ne fun e => hc (e ▸ hz)) fun z hz => (q5.at z hz).2.2) ⟨some y, [], fy, [], rfl, by simp, oy3.mono (Sub.refl _) (fun z hz => upd_ne fun e => hcy (e ▸ hz)) (fun z hz => (oy3.at z hz).2.2), rfl, rfl⟩
  · simp only [List.nodup_cons, List.nodup_append, List.mem_append, not_or]
    refine ⟨⟨hc, hcy⟩, (List.nodup_cons.mp nd).2, ny, fun a ha b hb e => ?_⟩
    subst e
    exact hin a (by simp [ha]) (wy a hb)
  · simp only [List.mem_cons, List.mem_append] at hz ⊢
    rcases hz with hz | hz | hz
    · exact .inl (.inl hz)
    · exact .inl (.inr hz)
    · exact .inr (wy z hz)⟩
/-! ### dicts with int and text keys -/
def D.key : D → Option Key
  | .int i => some (.inl i)
  | .str x => some (.inr x)
  | _ => none
theorem key_of {K : PySem.W.Frag} {H : Hp} {d : D} {k : Key} {v : V} (h : Rep K H d v) (e : d.key = some k) : v = kV k := by
  cases d <;> simp [D.key] at e
  · subst e; exact h
  · subst e; exact h
def lookD (k : Key) : List Key → List D → Option D
  | k' :: ks, d :: ds => if k' = k then some d else lookD k ks ds
  | _, _ => none
theorem look_rep {K : PySem.W.Frag} {F : Hp} {k : Key} : ∀ {ks : List Key} {ds : List D} {vs : List V}, Reps K F ds vs → ks.length = vs.length →
    match lookD k ks ds with
    | some d => ∃ v, valV (ks.zip vs) k = some v ∧ Rep K F d v
    | none => valV (ks.zip vs) k = none
  | [], ds, vs, r, hl => by
    have : vs = [] := List.length_eq_zero_iff.mp (by simpa using hl.symm)
    subst this
    cases ds <;> simp [lookD, valV]
  | k' :: ks, [], vs, r, hl => by
    have : vs = [] := r
    subst this; simp at hl
  | k' :: ks, d :: ds, _, ⟨v, r, rfl, h, t⟩, hl => by
    unfold lookD
    by_cases e : k' = k
    · rw [if_pos e]
      exact ⟨v, by rw [List.zip_cons_cons]; exact valV_pos e, h⟩
    · rw [if_neg e, List.zip_cons_cons, valV_neg (p := (k', v)) e]
      exact look_rep t (by simpa using hl)
/-- putting at a key -/
def putDs (k : Key) (x : D) : List Key → List D → List D
  | k' :: ks, d :: ds => (if k' = k then x else d) :: putDs k x ks ds
  | _, _ => []
theorem put_in {K : PySem.W.Frag} {F : Hp} {k : Key} {x : D} {y : V} (rx : Rep K F x y) : ∀ {ks : List Key} {ds : List D} {vs : List V}, Reps K F ds vs → ks.length = vs.length →
    ∃ ws, (ks.zip vs).map (fun kv => if kv.1 = k then (kv.1, y) else kv) = ks.zip ws ∧ ks.length = ws.length ∧ Reps K F (putDs k x ks ds) ws
  | [], ds, vs, r, hl => ⟨[], by simp, rfl, by cases ds <;> simp [putDs, Reps]⟩
  | k' :: ks, [], vs, r, hl => by
    have : vs = [] := r
    subst this; simp at hl
  | k' :: ks, d :: ds, _, ⟨v, r, rfl, h, t⟩, hl => by
    obtain ⟨ws, e1, e2, e3⟩ := put_in rx t (by simpa using hl)
    by_cases e : k' = k
    · exact ⟨y :: ws, by simp [e1, e], by simp [e2], y, ws, rfl, by simpa [e] using rx, e3⟩
    · exact ⟨v :: ws, by simp [e1, e], by simp [e2], v, ws, rfl, by simpa [e] using h, e3⟩
def hasKey (k : Key) (ks : List Key) : Bool := ks.any fun k' => decide (k' = k)
theorem any_key {k : Key} : ∀ {ks : List Key} {vs : List V}, ks.length = vs.length → ((ks.zip vs).any fun kv => decide (kv.1 = k)) = hasKey k ks
  | [], [], _ => by simp [hasKey]
  | k' :: ks, v :: vs, hl => by
    have ih := any_key (k := k) (ks := ks) (vs := vs) (by simpa using hl)
    unfold hasKey at ih ⊢
    simp only [List.zip_cons_cons, List.any_cons, ih]
def hPut (k : Key) : T → D → Option T
  | .di ks ts, x => (shAll ts).bind fun ds => if ks.length ≤ lim then (if hasKey k ks = true then some (.di ks ((putDs k x ks ds).map T.sh)) else some (.di (ks ++ [k]) ((ds ++ [x]).map T.sh))) else none
  | _, _ => none
/-- d[k] = e -/
def gPutD (fp : Rho → Option (Nat × List Nat)) (fi fe : FX) : FS := fun ρ => (fp ρ).bind fun ip => (fi ρ).bind fun kd => (D.key kd).bind fun k => (fe ρ).bind fun x => (T.node ρ ip).bind fun t1 => (hPut k t1 x).bind fun t2 => (ρ[ip.1]?).map fun t => .nx (ρ.set ip.1 (T.put ip.2 t2 t))
theorem s_putD {i : Expr} {fp : Rho → Option (Nat × List Nat)} {fi fe : FX} (hu : X.A.units + 1 < cLine) (ho : PPa X o fp) (hi : PX X m i fi) (he : PX X .s e fe) (hs : swapsWith e (some (.Subscript o i pos')) pos.line X.env = pure false := by rfl) :
    PSt X (.Assign [.Subscript o i pos'] e pos) (gPutD fp fi fe) := ⟨fun E => ps_imp (ps_dput hu (ho.pe E) (hi.pe E) (he.pe E) hs) fun W σ H ⟨F, ρ, o, A, ef, k⟩ => by
  obtain ⟨ip, eip, ef⟩ := Option.bind_eq_some_iff.mp ef
  obtain ⟨kd, ekd, ef⟩ := Option.bind_eq_some_iff.mp ef
  obtain ⟨ky, ek, ef⟩ := Option.bind_eq_some_iff.mp ef
  obtain ⟨x, ex, ef⟩ := Option.bind_eq_some_iff.mp ef
  obtain ⟨t1, en, ef⟩ := Option.bind_eq_some_iff.mp ef
  obtain ⟨t2, eh, ef⟩ := Option.bind_eq_some_iff.mp ef
  obtain ⟨t, et, rfl⟩ := Option.map_eq_some_iff.mp ef
  cases t1 <;> simp only [hPut] at eh <;> try (cases eh; done)
  rename_i ks ts
  obtain ⟨ds, eds, eh2⟩ := Option.bind_eq_some_iff.mp eh
  obtain ⟨hlim, eh3⟩ := Option.ite_none_right_eq_some.mp eh2
  clear eh eh2
  have ets := shAll_map eds
  subst ets
  refine ⟨F, ρ, x, A, ex, fun y F1 H1 g1 ry => ?_⟩
  refine ⟨F1, ρ, ip, A.grow g1, eip, fun v F2 H2 g2 ⟨u, es, nv⟩ => ?_⟩
  refine ⟨F2, ρ, kd, (A.grow g1).grow g2, ekd, fun w F3 H3 g3 rk => ?_⟩
  have g := (g1.trans g2).trans g3
  obtain ⟨fa0, c, vs, fq, h0, h1, h2, hl0, h3, h4, h5⟩ := node_of (A.grow g1) g2 en es nv
  cases h0
  have h2' := g3.h _ _ h2
  obtain ⟨rfl, vs', evs, rds⟩ := h5.unshared
  have evs : vs = vs' := by simpa using (List.map_inj_right (f := (some : V → Option V)) (fun _ _ z => Option.some.inj z)).mp evs
  subst evs
  have ew := key_of (rk.dn g3.fh) ek
  subst ew
  refine ⟨c, _, rfl, DPut.k h2' (by simp only [List.length_zip, ← hl0, Nat.min_self]; exact lim_lt hlim), ?_⟩
  have et2 : t.at ip.2 = some (.di ks (ds.map T.sh)) := by
    obtain ⟨t', e1, e2⟩ := Option.bind_eq_some_iff.mp en
    rw [et] at e1; cases e1; exact e2
  have rds3 : Reps X.K F3 ds vs := Reps.mono g3.f rds
  have ry3 : Rep X.K F3 x y := Rep.mono (g2.f.trans g3.f) ry
  have hany := any_key (k := ky) hl0
  refine k σ F3 _ g.f (A.mut g et es et2 (nv.mono g3.h) fun fa oa nd hin => ?_)
  obtain ⟨c', vs2, fq', q0, q1, q2, q2', q3, q4, q5⟩ := oa
  cases q0
  rw [h2'] at q2
  injection q2 with q2
  injection q2 with q2
  obtain ⟨_, rfl⟩ := zip_inj hl0 q2' q2
  obtain ⟨rfl, _⟩ := q5.unshared
  subst q1
  refine ⟨c, _, [c], by simp, rfl, ?_, by simp, fun z hz => .inl hz⟩
  by_cases hk : hasKey ky ks = true
  · rw [if_pos hk] at eh3
    cases eh3
    obtain ⟨ws, e1, e2, e3⟩ := put_in ry3 rds3 hl0 (k := ky)
    refine ⟨c, ws, [], rfl, rfl, ?_, e2, q3, q4, Owns.shared e3⟩
    rw [upd_same]
    unfold putK
    rw [hany, if_pos hk, e1]
  · rw [if_neg hk] at eh3
    cases eh3
    refine ⟨c, vs ++ [y], [], rfl, rfl, ?_, by simp [hl0], q3, q4, Owns.shared (rds3.append ⟨y, [], rfl, ry3, rfl⟩)⟩
    rw [upd_same]
    unfold putK
    rw [hany, if_neg hk, List.zip_append hl0]
    rfl⟩
/-- {} -/
theorem o_dict {pos : Pos} : PO X (.Dict [] [] pos) (fun _ => some (.di [] [])) := ⟨fun E => pe_imp pe_dnewK fun σ H Q ⟨F, ρ, t, A, ef, k⟩ => by
  cases ef
  exact fun p hp => k (.ref p) [p] F _ ((Grow.refl A.fh).lay hp) ⟨p, [], [], rfl, rfl, upd_same, rfl, A.base.bh.free hp, A.fh.free hp, rfl, rfl⟩ (by simp) (by simp [hp])⟩
/-- k in d -/
def gInD (a b : D) : Option D := match b with
  | .dic ks ds => (D.key a).map fun k => .bl (lookD k ks ds).isSome
  | _ => none
def gNotInD (a b : D) : Option D := match b with
  | .dic ks ds => (D.key a).map fun k => .bl (!(lookD k ks ds).isSome)
  | _ => none
theorem dget_of {K : PySem.W.Frag} {H : Hp} {a : D} {ks : List Key} {ds : List D} {k : Key} {x y : V} (ra : Rep K H a y) (ek : a.key = some k) (rb : Rep K H (.dic ks ds) x) : ∃ p o, x = .ref p ∧ DGet H p y o ∧ o.isSome = (lookD k ks ds).isSome ∧ ∀ d, lookD k ks ds = some d → ∃ v, o = some v ∧ Rep K H d v := by
  obtain ⟨p, vs, rfl, h, hl, r⟩ := rb
  have ey := key_of ra ek
  subst ey
  refine ⟨p, _, rfl, DGet.k h, ?_, fun d ed => ?_⟩
  · have := look_rep (k := k) r hl
    cases q : lookD k ks ds with
    | none => rw [q] at this; simp only at this; rw [this]; rfl
    | some d => rw [q] at this; obtain ⟨v, e, _⟩ := this; rw [e]; rfl
  · have := look_rep (k := k) r hl
    rw [ed] at this
    exact this
theorem x_inD {m1 m2 : Md} {fa fb : FX} {b : Expr} (hu : X.A.units + 1 < cLine) (ha : PX X m1 a fa) (hb : PX X m2 b fb) (h1 : behindInMarks .In b = false := by rfl) : PX X m (.Compare a [.In] [b] pos) (f2 gInD fa fb) := px_up ⟨fun E => pe_imp (pe_cmp (pc_din hu (ha.pe E) (hb.pe E)) h1) fun σ H Q ⟨F, ρ, d, A, ef, k⟩ => by
  obtain ⟨x, ex, ef⟩ := Option.bind_eq_some_iff.mp ef
  obtain ⟨y, ey, ef⟩ := Option.bind_eq_some_iff.mp ef
  refine ⟨F, ρ, x, A, ex, fun v F1 H1 g1 r1 => ?_⟩
  refine ⟨F1, ρ, y, A.grow g1, ey, fun w F2 H2 g2 r2 => ?_⟩
  cases y <;> simp only [gInD] at ef <;> try (cases ef; done)
  obtain ⟨ky, ek, rfl⟩ := Option.map_eq_some_iff.mp ef
  obtain ⟨p, o, rfl, hg, hs, _⟩ := dget_of ((r1.grow g2).dn g2.fh) ek (r2.dn g2.fh)
  exact ⟨p, o, rfl, hg, k _ F2 H2 (g1.trans g2) (by simp [RepM, Rep, hs])⟩⟩
theorem x_notInD {m1 m2 : Md} {fa fb : FX} {b : Expr} (hu : X.A.units + 1 < cLine) (ha : PX X m1 a fa) (hb : PX X m2 b fb) (h1 : behindInMarks .NotIn b = false := by rfl) : PX X m (.Compare a [.NotIn] [b] pos) (f2 gNotInD fa fb) := px_up ⟨fun E => pe_imp (pe_cmp (pc_dnotin hu (ha.pe E) (hb.pe E)) h1) fun σ H Q ⟨F, ρ, d, A, ef, k⟩ => by
  obtain ⟨x, ex, ef⟩ := Option.bind_eq_some_iff.mp ef
  obtain ⟨y, ey, ef⟩ := Option.bind_eq_some_iff.mp ef
  refine ⟨F, ρ, x, A, ex, fun v F1 H1 g1 r1 => ?_⟩
  refine ⟨F1, ρ, y, A.grow g1, ey, fun w F2 H2 g2 r2 => ?_⟩
  cases y <;> simp only [gNotInD] at ef <;> try (cases ef; done)
  obtain ⟨ky, ek, rfl⟩ := Option.map_eq_some_iff.mp ef
  obtain ⟨p, o, rfl, hg, hs, _⟩ := dget_of ((r1.grow g2).dn g2.fh) ek (r2.dn g2.fh)
  exact ⟨p, o, rfl, hg, k _ F2 H2 (g1.trans g2) (by simp [RepM, Rep, hs])⟩⟩

/-! ### for, while -/
def forGo (bind : FG) (body : FS) : List D → FS
  | [], ρ => some (.nx ρ)
  | d :: ds, ρ => (bind d ρ).bind fun ρ1 => (body ρ1).bind fun o => match o with
    | .nx ρ2 => forGo bind body ds ρ2
    | .ct ρ2 => forGo bind body ds ρ2
    | .bk ρ2 => some (.nx ρ2)
    | .rt d => some (.rt d)
def gFor (it : Rho → Option (List D)) (bind : FG) (body : FS) : FS := fun ρ => (it ρ).bind fun ds => forGo bind body ds ρ
theorem s_for {tg iter : Expr} {body : List Stmt} {is : List Nat} {itf : Rho → Option (List D)} {bind : FG} {gb : FS} (hp : PassesOwn (model X.prog X.w) X.A X.env X.xe) (hc : X.calm = true) (hi : PIt X true tg iter itf) (hg : PTg X tg is bind) (hb : PBk X body gb)
    (hs : ∀ x, foldedSetIterable iter X.env x = pure x := by intro _; rfl) : PSt X (.For tg iter body [] pos) (gFor itf bind gb) := ⟨fun E => ps_imp (ps_for hp hc (hi.pi E) (hg.pg E) (hb.ps E) hs) fun W σ H ⟨F, ρ, o, A, ef, k⟩ => by
  obtain ⟨ds, eds, ef⟩ := Option.bind_eq_some_iff.mp ef
  refine ⟨F, ρ, ds, A, eds, fun J F1 H1 g1 w => ?_⟩
  refine ⟨fun i n σ H => n = ds.length - i ∧ i ≤ ds.length ∧ ∃ F2 ρ2, Sub F1 F2 ∧ Abs X.K E F2 σ H ρ2 ∧ forGo bind gb (ds.drop i) ρ2 = some o, ⟨ds.length, by simp, Nat.zero_le _, F1, ρ, Sub.refl _, A.grow g1, by simpa using ef⟩, ?_⟩
  rintro i n σ H2 ⟨rfl, hi, F2, ρ2, s2, A2, eg⟩
  have k2 := (k.mono g1.f).mono s2
  by_cases hlt : i < ds.length
  · refine .inr ⟨w.go i H2 (s2.trans A2.fh) hlt, fun σ H => ∃ F3 ρ3, Sub F1 F3 ∧ Abs X.K E F3 σ H ρ3 ∧ forGo bind gb (ds.drop (i + 1)) ρ3 = some o, fun σ' H' q => ⟨ds.length - (i + 1), by omega, rfl, hlt, q⟩, fun x H3 hy => ?_⟩
    obtain ⟨e3, d, ed, rx⟩ := w.yld i H2 x H3 (s2.trans A2.fh) hlt hy
    subst e3
    rw [List.drop_eq_getElem_cons hlt] at eg
    have ed' : ds[i] = d := by rw [List.getElem?_eq_getElem hlt] at ed; exact Option.some.inj ed
    rw [ed'] at eg
    unfold forGo at eg
    obtain ⟨ρ1, eb, eg⟩ := Option.bind_eq_some_iff.mp eg
    obtain ⟨o1, e1, eg⟩ := Option.bind_eq_some_iff.mp eg
    refine ⟨F2, ρ2, d, ρ1, A2, Rep.mono s2 rx, eb, fun σ1 A1 _ => ⟨F2, ρ1, o1, A1, e1, ?_⟩⟩
    cases o1 with
    | nx ρ3 => exact fun σ' F' H' s A' => ⟨F', ρ3, s2.trans s, A', eg⟩
    | ct ρ3 => exact fun σ' F' H' s A' => ⟨F', ρ3, s2.trans s, A', eg⟩
    | bk ρ3 => cases eg; exact k2
    | rt d => cases eg; exact k2
  · have e : i = ds.length := by omega
    subst e
    refine .inl ⟨w.stop _ H2 (s2.trans A2.fh) (Nat.le_refl _), ?_⟩
    rw [List.drop_length] at eg
    cases eg
    exact k2 σ F2 H2 (Sub.refl _) A2⟩
/-- while, with a bound of its turns -/
def whileGo (t : Rho → Option Bool) (body : FS) : Nat → FS
  | 0, _ => none
  | n + 1, ρ => (t ρ).bind fun b => match b with
    | false => some (.nx ρ)
    | true => (body ρ).bind fun o => match o with
      | .nx ρ2 => whileGo t body n ρ2
      | .ct ρ2 => whileGo t body n ρ2
      | .bk ρ2 => some (.nx ρ2)
      | .rt d => some (.rt d)
theorem s_while (N : Nat) {c : Expr} {body : List Stmt} {t : Rho → Option Bool} {gb : FS} (hp : PassesOwn (model X.prog X.w) X.A X.env X.xe) (hc : PB X c t) (hb : PBk X body gb) : PSt X (.While c body [] pos) (whileGo t gb N) := ⟨fun E => ps_imp (ps_while hp (hc.pt E) (hb.ps E)) fun W σ H ⟨F, ρ, o, A, ef, k⟩ => by
  refine ⟨fun n σ H => ∃ F2 ρ2, Sub F F2 ∧ Abs X.K E F2 σ H ρ2 ∧ whileGo t gb n ρ2 = some o, ⟨N, F, ρ, Sub.refl _, A, ef⟩, ?_⟩
  rintro n σ H2 ⟨F2, ρ2, s2, A2, eg⟩
  have k2 := k.mono s2
  cases n with
  | zero => cases eg
  | succ n =>
    unfold whileGo at eg
    obtain ⟨b, eb, eg⟩ := Option.bind_eq_some_iff.mp eg
    refine ⟨F2, ρ2, b, A2, eb, fun F3 H3 g3 => ?_⟩
    cases b with
    | true =>
      refine iteT ⟨fun σ H => ∃ F4 ρ4, Sub F F4 ∧ Abs X.K E F4 σ H ρ4 ∧ whileGo t gb n ρ4 = some o, fun σ' H' q => ⟨n, Nat.lt_succ_self n, q⟩, ?_⟩
      obtain ⟨o1, e1, eg⟩ := Option.bind_eq_some_iff.mp eg
      refine ⟨F3, ρ2, o1, A2.grow g3, e1, ?_⟩
      have s3 := s2.trans g3.f
      cases o1 with
      | nx ρ3 => exact fun σ' F' H' s A' => ⟨F', ρ3, s3.trans s, A', eg⟩
      | ct ρ3 => exact fun σ' F' H' s A' => ⟨F', ρ3, s3.trans s, A', eg⟩
      | bk ρ3 => cases eg; exact k2.mono g3.f
      | rt d => cases eg; exact k2.mono g3.f
    | false =>
      cases eg
      exact iteF (k2 σ F3 H3 g3.f (A2.grow g3))⟩
end
end FL

/-! FLCall: built-ins, displays, slices, calls of defs and methods, defs themselves. -/
namespace FL
open L2 PyProof.Rows PySem.Spec PySem

/-! ### built-ins of one argument -/
def Call1 (X : Cx) (h : Value) (mc : Md) (g : D → Option D) : Prop :=
  ∃ r : List V → Hp → VK → Prop, CallR X h r ∧ ∀ (F H : Hp) (x : V) (a d : D) (Q : VK), Sub F H → RepM X.K F H mc a x → g a = some d → (∀ v F' H', Grow F H F' H' → Rep X.K F' d v → Q v H') → r [x] H Q
def CallO1 (X : Cx) (h : Value) (mc : Md) (g : D → Option T) : Prop :=
  ∃ r : List V → Hp → VK → Prop, CallR X h r ∧ ∀ (B : En) (F H : Hp) (x : V) (a : D) (t : T) (Q : VK), Sub F H → Sub B.B H → RepM X.K F H mc a x → g a = some t → (∀ v fa F' H', Grow F H F' H' → Own X.K B F' H' t (some v) fa → fa.Nodup → (∀ x ∈ fa, H x = none) → Q v H') → r [x] H Q
section
variable {X : Cx} {e a b : Expr} {f fa fb : FX} {m mc m1 m2 : Md} {x : Str} {p pos : Pos} {id Tn : String} {g : D → Option D} {gt : D → Option T}
theorem x_b1 (ho : Call1 X (.builtin id) mc g) (hg : Gl X x) (hm : X.mg x = none) (hv : bootBuiltins x = some (.builtin id)) (ha : PX X mc a fa) (hs : starEach [a] X.env = (false, eval a X.env) :: starEach [] X.env := by rfl)
    (hn : x ≠ "__name__" := by decide) (hdb : (x == ("__debug__" : Str)) = false := by decide) (hpl : (backTo pos (starEach [] X.env)).any (·.1) = false := by rfl) :
    PX X m (.Call (.Name x p) [a] [] pos) (f1 g fa) := by
  obtain ⟨r, hr, w⟩ := ho
  refine px_up ⟨fun E => pe_imp (pe_callB hr hg hm hv (pa_cons (ha.pe E) pa_nil hs) hn hdb hs hpl) fun σ H Q ⟨F, ρ, d, A, ef, k⟩ => ?_⟩
  obtain ⟨y, ey, ef⟩ := Option.bind_eq_some_iff.mp ef
  exact ⟨F, ρ, y, A, ey, fun v F' H' g1 r1 => w F' H' v y d Q g1.fh r1 ef fun z F2 H2 g2 r2 => k z F2 H2 (g1.trans g2) r2⟩
theorem x_t1 (ho : Call1 X (.type Tn) mc g) (hg : Gl X x) (hm : X.mg x = none) (hv : bootBuiltins x = some (.type Tn)) (ha : PX X mc a fa) (hs : starEach [a] X.env = (false, eval a X.env) :: starEach [] X.env := by rfl)
    (hn : x ≠ "__name__" := by decide) (hdb : (x == ("__debug__" : Str)) = false := by decide) (hpl : (backTo pos (starEach [] X.env)).any (·.1) = false := by rfl) :
    PX X m (.Call (.Name x p) [a] [] pos) (f1 g fa) := by
  obtain ⟨r, hr, w⟩ := ho
  refine px_up ⟨fun E => pe_imp (pe_callTy hr hg hm hv (pa_cons (ha.pe E) pa_nil hs) hn hdb hs hpl) fun σ H Q ⟨F, ρ, d, A, ef, k⟩ => ?_⟩
  obtain ⟨y, ey, ef⟩ := Option.bind_eq_some_iff.mp ef
  exact ⟨F, ρ, y, A, ey, fun v F' H' g1 r1 => w F' H' v y d Q g1.fh r1 ef fun z F2 H2 g2 r2 => k z F2 H2 (g1.trans g2) r2⟩
def fO1 (g : D → Option T) (f : FX) : Rho → Option T := fun ρ => (f ρ).bind g
theorem o_b1 (ho : CallO1 X (.builtin id) mc gt) (hg : Gl X x) (hm : X.mg x = none) (hv : bootBuiltins x = some (.builtin id)) (ha : PX X mc a fa) (hs : starEach [a] X.env = (false, eval a X.env) :: starEach [] X.env := by rfl)
    (hn : x ≠ "__name__" := by decide) (hdb : (x == ("__debug__" : Str)) = false := by decide) (hpl : (backTo pos (starEach [] X.env)).any (·.1) = false := by rfl) :
    PO X (.Call (.Name x p) [a] [] pos) (fO1 gt fa) := by
  obtain ⟨r, hr, w⟩ := ho
  refine ⟨fun E => pe_imp (pe_callB hr hg hm hv (pa_cons (ha.pe E) pa_nil hs) hn hdb hs hpl) fun σ H Q ⟨F, ρ, d, A, ef, k⟩ => ?_⟩
  obtain ⟨y, ey, ef⟩ := Option.bind_eq_some_iff.mp ef
  exact ⟨F, ρ, y, A, ey, fun v F' H' g1 r1 => w E F' H' v y d Q g1.fh (A.base.bh.trans g1.h) r1 ef fun z fa F2 H2 g2 o nd nw => k z fa F2 H2 (g1.trans g2) o nd fun c hc => g1.h.free (nw c hc)⟩
theorem o_t1 (ho : CallO1 X (.type Tn) mc gt) (hg : Gl X x) (hm : X.mg x = none) (hv : bootBuiltins x = some (.type Tn)) (ha : PX X mc a fa) (hs : starEach [a] X.env = (false, eval a X.env) :: starEach [] X.env := by rfl)
    (hn : x ≠ "__name__" := by decide) (hdb : (x == ("__debug__" : Str)) = false := by decide) (hpl : (backTo pos (starEach [] X.env)).any (·.1) = false := by rfl) :
    PO X (.Call (.Name x p) [a] [] pos) (fO1 gt fa) := by
  obtain ⟨r, hr, w⟩ := ho
  refine ⟨fun E => pe_imp (pe_callTy hr hg hm hv (pa_cons (ha.pe E) pa_nil hs) hn hdb hs hpl) fun σ H Q ⟨F, ρ, d, A, ef, k⟩ => ?_⟩
  obtain ⟨y, ey, ef⟩ := Option.bind_eq_some_iff.mp ef
  exact ⟨F, ρ, y, A, ey, fun v F' H' g1 r1 => w E F' H' v y d Q g1.fh (A.base.bh.trans g1.h) r1 ef fun z fa F2 H2 g2 o nd nw => k z fa F2 H2 (g1.trans g2) o nd fun c hc => g1.h.free (nw c hc)⟩
/-- len -/
def gLen : D → Option D
  | .lst ds => some (.int (ds.length : Int))
  | .tup ds => some (.int (ds.length : Int))
  | .str x => if x.length ≤ lim then some (.int (x.length : Int)) else none
  | .dic ks _ => some (.int (ks.length : Int))
  | _ => none
theorem c_len : Call1 X (.builtin "len") mc gLen := by
  refine ⟨_, (call_len_seq.or call_len_str).or call_lenD, fun F H x a d Q s ra e k => ?_⟩
  have r := ra.dn s
  cases a <;> simp only [gLen] at e <;> try (cases e; done)
  · obtain ⟨c, e⟩ := Option.ite_none_right_eq_some.mp e
    have ex : x = .str _ := r
    exact .inl (.inr ⟨_, by rw [ex], lim_ok c, k _ F H (.refl s) (some_rep e (by simp [Rep]))⟩)
  · obtain ⟨p, vs, rfl, h, rr⟩ := r
    exact .inl (.inl ⟨p, vs, rfl, .inr h, k _ F H (.refl s) (some_rep e (by simp [Rep, rr.length]))⟩)
  · obtain ⟨p, vs, rfl, h, rr⟩ := r
    exact .inl (.inl ⟨p, vs, rfl, .inl h, k _ F H (.refl s) (some_rep e (by simp [Rep, rr.length]))⟩)
  · obtain ⟨p, vs, rfl, h, hl, rr⟩ := r
    exact .inr ⟨p, _, rfl, h, k _ F H (.refl s) (some_rep e (by simp [Rep, hl]))⟩
/-- sum, max, min of a list of ints -/
def D.listInts : D → Option (List Int)
  | .lst ds => D.ints ds
  | _ => none
theorem listInts_of {K : PySem.W.Frag} {H : Hp} {d : D} {ns : List Int} {v : V} (h : Rep K H d v) (e : d.listInts = some ns) : ∃ p, v = .ref p ∧ SqL K H p (ns.map V.int) := by
  cases d <;> simp only [D.listInts] at e <;> try (cases e; done)
  obtain ⟨p, vs, rfl, h, r⟩ := h
  have := ints_eq e
  subst this
  rw [reps_ints' r] at h
  exact ⟨p, rfl, h⟩
def gSum (d : D) : Option D := d.listInts.map fun ns => .int ns.sum
theorem c_sum (hc : X.calm = true) : Call1 X (.builtin "sum") mc gSum := by
  refine ⟨_, cr_sum hc, fun F H x a d Q s ra e k => ?_⟩
  obtain ⟨ns, en, rfl⟩ := Option.map_eq_some_iff.mp e
  obtain ⟨p, rfl, h⟩ := listInts_of (ra.dn s) en
  exact ⟨p, ns, rfl, h, k _ F H (.refl s) (by simp [Rep])⟩
def maxI : List Int → Int
  | [] => 0
  | n :: ns => ns.foldl max n
def minI : List Int → Int
  | [] => 0
  | n :: ns => ns.foldl min n
theorem foldl_max_ge : ∀ (ns : List Int) (a : Int), a ≤ ns.foldl max a ∧ (∀ y ∈ ns, y ≤ ns.foldl max a) ∧ (ns.foldl max a = a ∨ ns.foldl max a ∈ ns)
  | [], a => by simp
  | n :: ns, a => by
    obtain ⟨h1, h2, h3⟩ := foldl_max_ge ns (max a n)
    simp only [List.foldl_cons]
    refine ⟨by omega, fun y hy => ?_, ?_⟩
    · rcases List.mem_cons.mp hy with rfl | hy
      · omega
      · exact h2 y hy
    · rcases h3 with h3 | h3
      · rw [h3]
        by_cases h : a ≤ n
        · right; rw [Int.max_eq_right h]; simp
        · left; exact Int.max_eq_left (by omega)
      · right; simp [h3]
theorem foldl_min_le : ∀ (ns : List Int) (a : Int), ns.foldl min a ≤ a ∧ (∀ y ∈ ns, ns.foldl min a ≤ y) ∧ (ns.foldl min a = a ∨ ns.foldl min a ∈ ns)
  | [], a => by simp
  | n :: ns, a => by
    obtain ⟨h1, h2, h3⟩ := foldl_min_le ns (min a n)
    simp only [List.foldl_cons]
    refine ⟨by omega, fun y hy => ?_, ?_⟩
    · rcases List.mem_cons.mp hy with rfl | hy
      · omega
      · exact h2 y hy
    · rcases h3 with h3 | h3
      · rw [h3]
        by_cases h : a ≤ n
        · left; exact Int.min_eq_left h
        · right; rw [Int.min_eq_right (by omega)]; simp
      · right; simp [h3]
theorem maxI_ge {ns : List Int} : ∀ y ∈ ns, y ≤ maxI ns := by
  cases ns with
  | nil => simp
  | cons n ns =>
    intro y hy
    obtain ⟨h1, h2, _⟩ := foldl_max_ge ns n
    rcases List.mem_cons.mp hy with rfl | hy
    · exact h1
    · exact h2 y hy
theorem maxI_mem {ns : List Int} (h : ns ≠ []) : maxI ns ∈ ns := by
  cases ns with
  | nil => exact absurd rfl h
  | cons n ns =>
    obtain ⟨_, _, h3⟩ := foldl_max_ge ns n
    rcases h3 with h3 | h3
    · show ns.foldl max n ∈ _; rw [h3]; simp
    · exact List.mem_cons_of_mem _ h3
theorem minI_le {ns : List Int} : ∀ y ∈ ns, minI ns ≤ y := by
  cases ns with
  | nil => simp
  | cons n ns =>
    intro y hy
    obtain ⟨h1, h2, _⟩ := foldl_min_le ns n
    rcases List.mem_cons.mp hy with rfl | hy
    · exact h1
    · exact h2 y hy
theorem minI_mem {ns : List Int} (h : ns ≠ []) : minI ns ∈ ns := by
  cases ns with
  | nil => exact absurd rfl h
  | cons n ns =>
    obtain ⟨_, _, h3⟩ := foldl_min_le ns n
    rcases h3 with h3 | h3
    · show ns.foldl min n ∈ _; rw [h3]; simp
    · exact List.mem_cons_of_mem _ h3
def gMaxL (d : D) : Option D := d.listInts.bind fun ns => if ns ≠ [] then some (.int (maxI ns)) else none
def gMinL (d : D) : Option D := d.listInts.bind fun ns => if ns ≠ [] then some (.int (minI ns)) else none
theorem c_maxL (hc : X.calm = true) : Call1 X (.builtin "max") mc gMaxL := by
  refine ⟨_, cr_max hc, fun F H x a d Q s ra e k => ?_⟩
  obtain ⟨ns, en, e⟩ := Option.bind_eq_some_iff.mp e
  obtain ⟨c, e⟩ := Option.ite_none_right_eq_some.mp e
  obtain ⟨p, rfl, h⟩ := listInts_of (ra.dn s) en
  refine ⟨p, ns, rfl, h, List.length_pos_iff.mpr c, fun n hn hle => k _ F H (.refl s) (some_rep e ?_)⟩
  have h1 := maxI_ge n hn
  have h2 := hle _ (maxI_mem c)
  simp [Rep]; omega
theorem c_minL (hc : X.calm = true) : Call1 X (.builtin "min") mc gMinL := by
  refine ⟨_, cr_min hc, fun F H x a d Q s ra e k => ?_⟩
  obtain ⟨ns, en, e⟩ := Option.bind_eq_some_iff.mp e
  obtain ⟨c, e⟩ := Option.ite_none_right_eq_some.mp e
  obtain ⟨p, rfl, h⟩ := listInts_of (ra.dn s) en
  refine ⟨p, ns, rfl, h, List.length_pos_iff.mpr c, fun n hn hle => k _ F H (.refl s) (some_rep e ?_)⟩
  have h1 := minI_le n hn
  have h2 := hle _ (minI_mem c)
  simp [Rep]; omega
/-- int, bool -/
def gInt : D → Option D
  | .int i => some (.int i)
  | .bl k => some (.int (if k then 1 else 0))
  | _ => none
theorem c_int : Call1 X (.type "int") mc gInt := by
  refine ⟨_, call_int1, fun F H x a d Q s ra e k => ?_⟩
  cases a <;> simp only [gInt] at e <;> try (cases e; done)
  · exact .inr ⟨_, by rw [repm_bl s ra], k _ F H (.refl s) (some_rep e (by simp [Rep]))⟩
  · exact .inl ⟨_, by rw [repm_int s ra], k _ F H (.refl s) (some_rep e (by simp [Rep]))⟩
def gBool : D → Option D
  | .int i => some (.bl (i != 0))
  | .bl k => some (.bl k)
  | _ => none
theorem c_bool : Call1 X (.type "bool") mc gBool := by
  refine ⟨_, call_bool1, fun F H x a d Q s ra e k => ?_⟩
  cases a <;> simp only [gBool] at e <;> try (cases e; done)
  · exact .inr ⟨_, by rw [repm_bl s ra], k _ F H (.refl s) (some_rep e (by simp [Rep]))⟩
  · exact .inl ⟨_, by rw [repm_int s ra], k _ F H (.refl s) (some_rep e (by simp [Rep]))⟩
/-- tuple(x), list(x), sorted(x) -/
def gTuple : D → Option D
  | .lst ds => some (.tup ds)
  | .tup ds => some (.tup ds)
  | _ => none
theorem c_tuple : Call1 X (.type "tuple") .q gTuple := by
  refine ⟨_, call_tuple_of, fun F H x a d Q s ra e k => ?_⟩
  cases a <;> simp only [gTuple] at e <;> try (cases e; done)
  · obtain ⟨p, vs, rfl, h, r⟩ := (show Rep X.K F (.tup _) x from ra)
    exact ⟨p, vs, rfl, .inr ⟨s.seqT h, k _ F H (.refl s) (some_rep e ⟨p, vs, rfl, h, r⟩)⟩⟩
  · obtain ⟨p, vs, rfl, h, r⟩ := ra
    refine ⟨p, vs, rfl, .inl ⟨h, fun l hl => ?_⟩⟩
    have g := (Grow.refl s).share (o := .tup vs) hl
    exact k _ _ _ g (some_rep e ⟨l, vs, rfl, .inl (.inl upd_same), r.mono g.f⟩)
def gList : D → Option T
  | .lst ds => some (.ls (ds.map T.sh))
  | .tup ds => some (.ls (ds.map T.sh))
  | _ => none
theorem own_new {K : PySem.W.Frag} {B : En} {F H : Hp} {vs : List V} {ds : List D} {l : Addr} (s : Sub F H) (sb : Sub B.B H) (hl : H l = none) (r : Reps K F ds vs) : Own K B F (upd H l (.lst vs)) (.ls (ds.map T.sh)) (some (.ref l)) [l] :=
  ⟨l, vs, [], rfl, rfl, upd_same, sb.free hl, s.free hl, Owns.shared r⟩
theorem c_list : CallO1 X (.type "list") .q gList := by
  refine ⟨_, call_list_of, fun B F H x a d Q s sb ra e k => ?_⟩
  cases a <;> simp only [gList] at e <;> try (cases e; done)
  · obtain ⟨p, vs, rfl, h, r⟩ := (show Rep X.K F (.tup _) x from ra)
    cases e
    exact ⟨p, vs, rfl, .inr (s.seqT h), fun l hl => k _ [l] F _ ((Grow.refl s).lay hl) (own_new s sb hl r) (by simp) (by simp [hl])⟩
  · obtain ⟨p, vs, rfl, h, r⟩ := ra
    cases e
    exact ⟨p, vs, rfl, .inl h, fun l hl => k _ [l] F _ ((Grow.refl s).lay hl) (own_new s sb hl r) (by simp) (by simp [hl])⟩
def sortI (ns : List Int) : List Int := ns.mergeSort fun a b => decide (a ≤ b)
theorem sortI_perm (ns : List Int) : (sortI ns).Perm ns := List.mergeSort_perm ns _
theorem sortI_le (ns : List Int) : (sortI ns).Pairwise (· ≤ ·) := by
  have := List.pairwise_mergeSort (le := fun (a b : Int) => decide (a ≤ b)) (fun a b c h1 h2 => by simp at *; omega) (fun a b => by simp; omega) ns
  simpa [sortI] using this
def gSortI (d : D) : Option T := d.listInts.map fun ns => .ls (((sortI ns).map D.int).map T.sh)
theorem c_sortI : CallO1 X (.builtin "sorted") mc gSortI := by
  refine ⟨_, cr_sortedI, fun B F H x a d Q s sb ra e k => ?_⟩
  obtain ⟨ns, en, rfl⟩ := Option.map_eq_some_iff.mp e
  obtain ⟨p, rfl, h⟩ := listInts_of (ra.dn s) en
  refine ⟨p, ns, rfl, h, fun ns' l hp ho hl => ?_⟩
  have : ns' = sortI ns := PySem.W.ksm_same (hp.trans (sortI_perm ns).symm) ho (sortI_le ns)
  subst this
  exact k _ [l] F _ ((Grow.refl s).lay hl) (own_new s sb hl (reps_ints _)) (by simp) (by simp [hl])
/-- abs -/
def gAbs : D → Option D
  | .int i => some (.int (if i < 0 then -i else i))
  | _ => none
theorem c_abs : Call1 X (.builtin "abs") mc gAbs := by
  refine ⟨_, call_abs, fun F H x a d Q s ra e k => ?_⟩
  cases a <;> simp only [gAbs] at e <;> try (cases e; done)
  exact ⟨_, by rw [repm_int s ra], k _ F H (.refl s) (some_rep e (by simp [Rep]))⟩
/-- max, min of two ints -/
def gMax2 : D → D → Option D := gI fun i j => some (.int (if j > i then j else i))
def gMin2 : D → D → Option D := gI fun i j => some (.int (if j < i then j else i))
theorem x_max2 (hc : X.calm = true) (hg : Gl X "max") (hm : X.mg "max" = none) (ha : PX X m1 a fa) (hb : PX X m2 b fb) (hs : starEach [a, b] X.env = (false, eval a X.env) :: starEach [b] X.env := by rfl) (hs2 : starEach [b] X.env = (false, eval b X.env) :: starEach [] X.env := by rfl)
    (hpl : (backTo pos (starEach [b] X.env)).any (·.1) = false := by rfl) : PX X m (.Call (.Name "max" p) [a, b] [] pos) (f2 gMax2 fa fb) := px_up ⟨fun E => pe_imp (pe_callB (call_max2 hc) hg hm (by decide +kernel) (pa_cons (ha.pe E) (pa_cons (hb.pe E) pa_nil hs2) hs) (by decide) (by decide) hs hpl) fun σ H Q h =>
  two_of (m1 := m1) (m2 := m2) (ta := tX X.K E m1 fa) (tb := tX X.K E m2 fb) (R := fun x y H Q => ∃ i j, [x, y] = [V.int i, V.int j] ∧ Q (.int (if j > i then j else i)) H) (fun _ q => q) (fun _ _ q => q) (fun F H x y a b d Q s ra rb e k => by
    obtain ⟨i, j, rfl, rfl, e⟩ := gI_some e
    rw [repm_int s ra, repm_int s rb]
    exact ⟨i, j, rfl, k _ F H (.refl s) (some_rep e (by simp [Rep]))⟩) h⟩
theorem x_min2 (hc : X.calm = true) (hg : Gl X "min") (hm : X.mg "min" = none) (ha : PX X m1 a fa) (hb : PX X m2 b fb) (hs : starEach [a, b] X.env = (false, eval a X.env) :: starEach [b] X.env := by rfl) (hs2 : starEach [b] X.env = (false, eval b X.env) :: starEach [] X.env := by rfl)
    (hpl : (backTo pos (starEach [b] X.env)).any (·.1) = false := by rfl) : PX X m (.Call (.Name "min" p) [a, b] [] pos) (f2 gMin2 fa fb) := px_up ⟨fun E => pe_imp (pe_callB (call_min2 hc) hg hm (by decide +kernel) (pa_cons (ha.pe E) (pa_cons (hb.pe E) pa_nil hs2) hs) (by decide) (by decide) hs hpl) fun σ H Q h =>
  two_of (m1 := m1) (m2 := m2) (ta := tX X.K E m1 fa) (tb := tX X.K E m2 fb) (R := fun x y H Q => ∃ i j, [x, y] = [V.int i, V.int j] ∧ Q (.int (if j < i then j else i)) H) (fun _ q => q) (fun _ _ q => q) (fun F H x y a b d Q s ra rb e k => by
    obtain ⟨i, j, rfl, rfl, e⟩ := gI_some e
    rw [repm_int s ra, repm_int s rb]
    exact ⟨i, j, rfl, k _ F H (.refl s) (some_rep e (by simp [Rep]))⟩) h⟩
/-- isinstance(e, T) of a built-in class -/
def D.tyN : D → Option String
  | .non => some "NoneType"
  | .bl _ => some "bool"
  | .int _ => some "int"
  | .str _ => some "str"
  | .tup _ => some "tuple"
  | .lst _ => some "list"
  | .dic _ _ => some "dict"
  | .obj _ _ _ => none
theorem ty_of {K : PySem.W.Frag} {H : Hp} {d : D} {v : V} {t : String} (h : Rep K H d v) (e : d.tyN = some t) : TyX K H v (.type t) := by
  cases d <;> simp [D.tyN] at e <;> subst e
  · have h : v = .non := h
    subst h; exact .base .non
  · have h : v = .bl _ := h
    subst h; exact .base (.bl _)
  · have h : v = .int _ := h
    subst h; exact .base (.int _)
  · have h : v = .str _ := h
    subst h; exact .base (.str _)
  · obtain ⟨a, vs, rfl, h, _⟩ := h
    rcases h with (h | ⟨o, h⟩) | ⟨o, its, n, hk, hc, _⟩
    · exact .base (.tup h)
    · exact .fTuple h
    · exact .kTuple hk hc
  · obtain ⟨a, vs, rfl, h, _⟩ := h
    rcases h with (h | ⟨o, h⟩) | ⟨o, its, n, hk, hc, _⟩
    · exact .base (.lst h)
    · exact .base (.frz h)
    · exact .kList hk hc
  · obtain ⟨a, vs, rfl, h, _⟩ := h
    exact .base (.dK h)
def gIsi (T : String) (d : D) : Option D := d.tyN.bind fun t => (kitB t T).map D.bl
theorem x_isi {T : Str} {c : String} {pT : Pos} (hg : Gl X "isinstance") (hm : X.mg "isinstance" = none) (hgT : Gl X T) (hmT : X.mg T = none) (hvT : bootBuiltins T = some (.type c)) (ha : PX X m1 a fa) (hs : starEach [a, .Name T pT] X.env = (false, eval a X.env) :: starEach [.Name T pT] X.env := by rfl)
    (hs2 : starEach [.Name T pT] X.env = (false, eval (.Name T pT) X.env) :: starEach [] X.env := by rfl) (hpl : (backTo pos (starEach [.Name T pT] X.env)).any (·.1) = false := by rfl) (hn : T ≠ "__name__" := by decide) (hd : (T == ("__debug__" : Str)) = false := by decide) :
    PX X m (.Call (.Name "isinstance" p) [a, .Name T pT] [] pos) (f1 (gIsi c) fa) := px_up ⟨fun E => pe_imp (pe_callB call_isi hg hm (by decide +kernel) (pa_cons (ha.pe E) (pa_cons (pe_bltn hgT hmT hvT (v := .ty c) rfl hn hd) pa_nil hs2) hs) (by decide) (by decide) hs hpl) fun σ H Q ⟨F, ρ, d, A, ef, k⟩ => by
  obtain ⟨y, ey, ef⟩ := Option.bind_eq_some_iff.mp ef
  obtain ⟨t, et, ef⟩ := Option.bind_eq_some_iff.mp ef
  obtain ⟨b, eb, rfl⟩ := Option.map_eq_some_iff.mp ef
  exact ⟨F, ρ, y, A, ey, fun v F' H' g r => ⟨v, .ty c, .type t, .type c, b, rfl, .ty c, ty_of (r.dn g.fh) et, kit_ty eb, k _ F' H' g (by simp [RepM, Rep])⟩⟩⟩
end
end FL

/-! FLFn: displays, slices, calls of defs and methods, defs. -/
namespace FL
open L2 PyProof.Rows PySem.Spec PySem

/-! ### displays -/
/-- new trees, one behind another -/
def tAo (K : PySem.W.Frag) (E : En) (f : Rho → Option (List T)) : TA := fun σ H Q => ∃ F ρ ts, Abs K E F σ H ρ ∧ f ρ = some ts ∧ ∀ vs fa F' H', Grow F H F' H' → Owns K E F' H' ts (vs.map some) fa → fa.Nodup → (∀ x ∈ fa, H x = none) → Q vs H'
structure PAo (X : Cx) (es : List Expr) (f : Rho → Option (List T)) : Prop where
  pa : ∀ E, PA X es (tAo X.K E f)
section
variable {X : Cx} {e a b : Expr} {es : List Expr} {f fa fb : FX} {ft : Rho → Option T} {fts : Rho → Option (List T)} {fs : Rho → Option (List D)} {m mc m1 m2 : Md} {x : Str} {p pos : Pos}
def aoNil : Rho → Option (List T) := fun _ => some []
def aoCons (f : Rho → Option T) (fs : Rho → Option (List T)) : Rho → Option (List T) := fun ρ => (f ρ).bind fun d => (fs ρ).map fun ds => d :: ds
theorem ao_nil : PAo X [] aoNil := ⟨fun E => pa_imp pa_nil fun σ H Q ⟨F, ρ, ds, A, ef, k⟩ => by
  cases ef
  exact k [] [] F H A.grow0 ⟨rfl, rfl⟩ .nil (by simp)⟩
theorem ao_cons (ha : PO X e ft) (hr : PAo X es fts) (hs : starEach (e :: es) X.env = (false, eval e X.env) :: starEach es X.env := by rfl) : PAo X (e :: es) (aoCons ft fts) := ⟨fun E => pa_imp (pa_cons (ha.pe E) (hr.pa E) hs) fun σ H Q ⟨F, ρ, ds, A, ef, k⟩ => by
  obtain ⟨x, ex, ef⟩ := Option.bind_eq_some_iff.mp ef
  obtain ⟨r, er, rfl⟩ := Option.map_eq_some_iff.mp ef
  refine ⟨F, ρ, x, A, ex, fun v fa F1 H1 g1 o1 n1 w1 => ?_⟩
  refine ⟨F1, ρ, r, A.grow g1, er, fun vs fb F2 H2 g2 o2 n2 w2 => k (v :: vs) (fa ++ fb) F2 H2 (g1.trans g2) ⟨some v, vs.map some, fa, fb, rfl, rfl, o1.grow g2, o2⟩ ?_ fun z hz => ?_⟩
  · refine List.nodup_append.mpr ⟨n1, n2, fun c hc d hd e => ?_⟩
    subst e
    obtain ⟨⟨o, eo⟩, _⟩ := o1.at c hc
    rw [w2 c hd] at eo; cases eo
  · rcases List.mem_append.mp hz with hz | hz
    · exact w1 z hz
    · exact g1.h.free (w2 z hz)⟩
def fLst (f : Rho → Option (List T)) : Rho → Option T := fun ρ => (f ρ).bind fun ts => if ts.length ≤ lim then some (.ls ts) else none
theorem o_lst (h : PAo X es fts) : PO X (.List es pos) (fLst fts) := ⟨fun E => pe_imp (pe_lst (h.pa E)) fun σ H Q ⟨F, ρ, t, A, ef, k⟩ => by
  obtain ⟨ts, ets, ef⟩ := Option.bind_eq_some_iff.mp ef
  obtain ⟨c, ef⟩ := Option.ite_none_right_eq_some.mp ef
  cases ef
  refine ⟨F, ρ, ts, A, ets, fun vs fa F1 H1 g1 o n w => ?_⟩
  have hl := o.length
  rw [List.length_map] at hl
  refine ⟨by rw [← hl]; exact lim_ok c, fun l hl => ?_⟩
  have nl : ∀ z ∈ fa, z ≠ l := fun z hz e => by
    subst e
    obtain ⟨⟨u, eu⟩, _⟩ := o.at z hz
    rw [hl] at eu; cases eu
  refine k (.ref l) (l :: fa) F1 _ (g1.lay hl) ⟨l, vs, fa, rfl, rfl, upd_same, (A.base.bh.trans g1.h).free hl, g1.fh.free hl, o.mono (Sub.refl _) (fun z hz => upd_ne (nl z hz)) fun z hz => (o.at z hz).2.2⟩ (List.nodup_cons.mpr ⟨fun h => nl l h rfl, n⟩) fun z hz => ?_
  rcases List.mem_cons.mp hz with rfl | hz
  · exact g1.h.free hl
  · exact w z hz⟩
def fTup (f : Rho → Option (List D)) : FX := fun ρ => (f ρ).bind fun ds => if ds.length ≤ lim then some (.tup ds) else none
theorem x_tup {c : Nat} (h : PAs X .s es fs) : PX X m (.Tuple es c pos) (fTup fs) := px_up ⟨fun E => pe_imp (pe_tup (h.pa E)) fun σ H Q ⟨F, ρ, d, A, ef, k⟩ => by
  obtain ⟨ds, eds, ef⟩ := Option.bind_eq_some_iff.mp ef
  obtain ⟨c, ef⟩ := Option.ite_none_right_eq_some.mp ef
  cases ef
  refine ⟨F, ρ, ds, A, eds, fun vs F1 H1 g1 r => ⟨by rw [← Reps.length r]; exact lim_ok c, fun l hl => ?_⟩⟩
  have g := (Grow.refl g1.fh).share (o := .tup vs) hl
  exact k _ _ _ (g1.trans g) ⟨l, vs, rfl, .inl (.inl upd_same), Reps.mono g.f r⟩⟩
/-- [e, ..] * n -/
def gRep (t : T) (d : D) : Option T := match t, d with
  | .ls ts, .int k => (shAll ts).bind fun ds => if k ≤ lim ∧ -lim ≤ k ∧ ds.length * k.toNat ≤ lim then some (.ls (((List.replicate k.toNat ds).flatten).map T.sh)) else none
  | _, _ => none
theorem reps_rep {K : PySem.W.Frag} {F : Hp} {ds : List D} {vs : List V} (r : Reps K F ds vs) : ∀ n : Nat, Reps K F ((List.replicate n ds).flatten) ((List.replicate n vs).flatten)
  | 0 => rfl
  | n + 1 => by rw [List.replicate_succ, List.replicate_succ, List.flatten_cons, List.flatten_cons]; exact r.append (reps_rep r n)
theorem o_rep (ha : PO X a ft) (hb : PX X m1 b fb) : PO X (.BinOp a .Mult b pos) (fun ρ => (ft ρ).bind fun t => (fb ρ).bind fun d => gRep t d) := ⟨fun E => pe_imp (pe_op op_rep (ha.pe E) (hb.pe E)) fun σ H Q ⟨F, ρ, t, A, ef, k⟩ => by
  obtain ⟨t0, et, ef⟩ := Option.bind_eq_some_iff.mp ef
  obtain ⟨d, ed, ef⟩ := Option.bind_eq_some_iff.mp ef
  refine ⟨F, ρ, t0, A, et, fun v fa F1 H1 g1 o n w => ?_⟩
  refine ⟨F1, ρ, d, A.grow g1, ed, fun u F2 H2 g2 r2 => ?_⟩
  cases t0 <;> cases d <;> simp only [gRep] at ef <;> try (cases ef; done)
  rename_i ts _ i
  obtain ⟨ds, eds, ef⟩ := Option.bind_eq_some_iff.mp ef
  obtain ⟨⟨c1, c2, c3⟩, ef⟩ := Option.ite_none_right_eq_some.mp ef
  cases ef
  have e := repm_int g2.fh r2
  subst e
  have ets := shAll_map eds
  subst ets
  obtain ⟨l, vs, fq, e0, e1, h, hB, hF, ow⟩ := o
  cases e0
  obtain ⟨rfl, ws, ew, r⟩ := ow.unshared
  have ew : vs = ws := by simpa using (List.map_inj_right (f := (some : V → Option V)) (fun _ _ z => Option.some.inj z)).mp ew
  subst ew
  have g := g1.trans g2
  refine ⟨l, i, vs, rfl, rfl, g2.h _ _ h, ?_, ?_, by rw [← r.length]; exact lim_ok c3, fun q hq => ?_⟩
  · have : (lim : Int) = 1000000 := rfl
    omega
  · have : (lim : Int) = 1000000 := rfl
    omega
  · exact k _ [q] F2 _ (g.lay hq) (own_new g2.fh ((A.base.bh.trans g1.h).trans g2.h) hq (reps_rep (Reps.mono g2.f r) _)) (by simp) (by simp [g.h.free hq])⟩
/-- list(range(..)) -/
def fRgL (f : Rho → Option (List D)) : Rho → Option T := fun ρ => (f ρ).bind fun ds => if ds.length ≤ lim then some (.ls (ds.map T.sh)) else none
theorem o_listRg1 {p1 p2 pos1 : Pos} (hc : X.calm = true) (hg : Gl X "list") (hm : X.mg "list" = none) (hg2 : Gl X "range") (hm2 : X.mg "range" = none) (ha : PX X m1 a fa) (na : starEach [a] X.env = (false, eval a X.env) :: starEach [] X.env := by rfl)
    (nb : starEach [.Call (.Name "range" p2) [a] [] pos1] X.env = (false, eval (.Call (.Name "range" p2) [a] [] pos1) X.env) :: starEach [] X.env := by rfl) :
    PO X (.Call (.Name "list" p1) [.Call (.Name "range" p2) [a] [] pos1] [] pos) (fRgL (fRg1 fa)) := ⟨fun E => pe_imp (pe_listRg hc hg hm (prg_1 hg2 hm2 (ha.pe E) na) nb) fun σ H Q ⟨F, ρ, t, A, ef, k⟩ => by
  obtain ⟨ds, eds, ef⟩ := Option.bind_eq_some_iff.mp ef
  obtain ⟨c, ef⟩ := Option.ite_none_right_eq_some.mp ef
  cases ef
  obtain ⟨d, ed, ef⟩ := Option.bind_eq_some_iff.mp eds
  refine ⟨F, ρ, d, A, ed, fun v F1 H1 g1 r1 => ?_⟩
  cases d <;> simp only at ef <;> try (cases ef; done)
  rename_i j
  obtain ⟨c2, ef⟩ := Option.ite_none_right_eq_some.mp ef
  cases ef
  have e := repm_int g1.fh r1
  subst e
  have hl : (rangeD 0 j.toNat).length = j.toNat := by simp [rangeD]
  rw [hl] at c
  refine ⟨j, rfl, ⟨by omega, by omega, by omega, by omega, by simp; have : (lim : Nat) = 1000000 := rfl; omega⟩, fun q hq => ?_⟩
  refine k _ [q] F1 _ (g1.lay hq) (own_new g1.fh (A.base.bh.trans g1.h) hq ?_) (by simp) (by simp [g1.h.free hq])
  have : rgV 0 j = (List.range j.toNat).map fun i => V.int (0 + (i : Nat)) := by unfold rgV; simp
  rw [this]
  unfold rangeD
  exact reps_map (f := fun (i : Nat) => D.int (0 + (i : Int))) (g := fun (i : Nat) => V.int (0 + (i : Int))) (fun _ => by simp [Rep]) _⟩
/-- slices of lists and tuples -/
def cutD (ds : List D) (lo hi : Option Int) : List D := (ds.drop (HT.sIx ds.length 0 lo)).take (HT.sIx ds.length ds.length hi - HT.sIx ds.length 0 lo)
theorem cut_rep {K : PySem.W.Frag} {F : Hp} {ds : List D} {vs : List V} (r : Reps K F ds vs) (lo hi : Option Int) : Reps K F (cutD ds lo hi) (cutV vs lo hi) := by
  unfold cutD cutV
  rw [r.length]
  exact (r.drop _).take _
def fPart (f : FX) : Rho → Option (Option Int) := fun ρ => (f ρ).bind fun d => match d with
  | .int i => some (some i)
  | _ => none
def fNoPart : Rho → Option (Option Int) := fun _ => some none
def tPart' (K : PySem.W.Frag) (E : En) (f : Rho → Option (Option Int)) : L2.TO := fun σ H Q => ∃ F ρ o, Abs K E F σ H ρ ∧ f ρ = some o ∧ ∀ F' H', Grow F H F' H' → Q o H'
structure PPt (X : Cx) (e : Option Expr) (f : Rho → Option (Option Int)) : Prop where
  po : ∀ E, L2.PO X e (tPart' X.K E f)
theorem po_imp {o : Option Expr} {t t' : L2.TO} (h : L2.PO X o t) (w : ∀ σ H Q, t' σ H Q → t σ H Q) : L2.PO X o t' := ⟨fun pins s σ H Q I q => h.run pins s σ H Q I (w σ H Q q)⟩
theorem pt_none : PPt X none fNoPart := ⟨fun E => po_imp po_none fun σ H Q ⟨F, ρ, o, A, ef, k⟩ => by
  cases ef
  exact k F H A.grow0⟩
theorem pt_some (h : PX X m1 a fa) : PPt X (some a) (fPart fa) := ⟨fun E => po_imp (po_some (h.pe E)) fun σ H Q ⟨F, ρ, o, A, ef, k⟩ => by
  obtain ⟨d, ed, ef⟩ := Option.bind_eq_some_iff.mp ef
  refine ⟨F, ρ, d, A, ed, fun v F1 H1 g1 r1 => ?_⟩
  cases d <;> simp only at ef <;> try (cases ef; done)
  cases ef
  exact ⟨_, repm_int g1.fh r1, k F1 H1 g1⟩⟩
def fSlL (f : FX) (fl fh : Rho → Option (Option Int)) : Rho → Option T := fun ρ => (f ρ).bind fun d => (fl ρ).bind fun lo => (fh ρ).bind fun hi => match d with
  | .lst ds => some (.ls ((cutD ds lo hi).map T.sh))
  | _ => none
theorem o_slL {lo hi : Option Expr} {fl fh : Rho → Option (Option Int)} {p2 : Pos} (ha : PX X .q a fa) (hl : PPt X lo fl) (hh : PPt X hi fh) : PO X (.Subscript a (.Slice lo hi none p2) pos) (fSlL fa fl fh) := ⟨fun E => pe_imp (pe_slice sl_list (ha.pe E) (hl.po E) (hh.po E)) fun σ H Q ⟨F, ρ, t, A, ef, k⟩ => by
  obtain ⟨d, ed, ef⟩ := Option.bind_eq_some_iff.mp ef
  obtain ⟨l, el, ef⟩ := Option.bind_eq_some_iff.mp ef
  obtain ⟨h, eh, ef⟩ := Option.bind_eq_some_iff.mp ef
  refine ⟨F, ρ, d, A, ed, fun v F1 H1 g1 r1 => ?_⟩
  refine ⟨F1, ρ, l, A.grow g1, el, fun F2 H2 g2 => ?_⟩
  refine ⟨F2, ρ, h, (A.grow g1).grow g2, eh, fun F3 H3 g3 => ?_⟩
  have g := (g1.trans g2).trans g3
  have r3 := (r1.grow g2).grow g3
  cases d <;> simp only at ef <;> try (cases ef; done)
  cases ef
  obtain ⟨q, vs, rfl, hq, r⟩ := r3
  exact ⟨q, vs, rfl, hq, fun z hz => k _ [z] F3 _ (g.lay hz) (own_new g3.fh (A.base.bh.trans g.h) hz (cut_rep r l h)) (by simp) (by simp [g.h.free hz])⟩⟩
def fSlT (f : FX) (fl fh : Rho → Option (Option Int)) : FX := fun ρ => (f ρ).bind fun d => (fl ρ).bind fun lo => (fh ρ).bind fun hi => match d with
  | .tup ds => some (.tup (cutD ds lo hi))
  | _ => none
theorem x_slT {lo hi : Option Expr} {fl fh : Rho → Option (Option Int)} {p2 : Pos} (ha : PX X .s a fa) (hl : PPt X lo fl) (hh : PPt X hi fh) : PX X m (.Subscript a (.Slice lo hi none p2) pos) (fSlT fa fl fh) := px_up ⟨fun E => pe_imp (pe_slice sl_tupA (ha.pe E) (hl.po E) (hh.po E)) fun σ H Q ⟨F, ρ, t, A, ef, k⟩ => by
  obtain ⟨d, ed, ef⟩ := Option.bind_eq_some_iff.mp ef
  obtain ⟨l, el, ef⟩ := Option.bind_eq_some_iff.mp ef
  obtain ⟨h, eh, ef⟩ := Option.bind_eq_some_iff.mp ef
  refine ⟨F, ρ, d, A, ed, fun v F1 H1 g1 r1 => ?_⟩
  refine ⟨F1, ρ, l, A.grow g1, el, fun F2 H2 g2 => ?_⟩
  refine ⟨F2, ρ, h, (A.grow g1).grow g2, eh, fun F3 H3 g3 => ?_⟩
  have g := (g1.trans g2).trans g3
  have r3 := (r1.grow g2).grow g3
  cases d with
  | tup ds =>
    cases ef
    obtain ⟨q, vs, rfl, hq, r⟩ := (show Rep X.K F3 (.tup ds) v from r3)
    refine ⟨q, vs, rfl, g3.fh.seqT hq, fun ⟨w1, w2⟩ => ?_, fun _ z hz => ?_⟩
    · have e : cutD ds l h = ds := by
        unfold cutD
        rw [r.length, w1, w2, ← r.length]; simp
      exact k _ F3 H3 g (by rw [e]; exact ⟨q, vs, rfl, hq, r⟩)
    · have gg := (Grow.refl g3.fh).share (o := .tup (cutV vs l h)) hz
      exact k _ _ _ (g.trans gg) ⟨z, _, rfl, .inl (.inl upd_same), Reps.mono gg.f (cut_rep r l h)⟩
  | _ => cases ef⟩
end

/-! ### defs -/
/-- what a def of n parameters promises that hands back m of its arguments and changes nothing that stood -/
def spF (K : PySem.W.Frag) (n : Nat) (m : List D → Option D) : Sp := fun vs H Q _ => ∃ F ds d, ds.length = n ∧ Sub F H ∧ Reps K F ds vs ∧ m ds = some d ∧ ∀ v F' H', Grow F H F' H' → Rep K F' d v → Q v H'
/-- a body as a function of the arguments; n: the number of slots -/
def mir (n : Nat) (g : FS) : List D → Option D := fun ds => (g (ds.map T.sh ++ List.replicate (n - ds.length) .no)).bind fun o => match o with
  | .rt d => some d
  | .nx _ => some .non
  | _ => none
theorem owns_no {K : PySem.W.Frag} {B : En} {F H : Hp} : ∀ n : Nat, Owns K B F H (List.replicate n .no) (List.replicate n none) []
  | 0 => ⟨rfl, rfl⟩
  | n + 1 => ⟨none, _, [], [], rfl, rfl, rfl, owns_no n⟩
theorem abs_start {K : PySem.W.Frag} {F H : Hp} {ds : List D} {vs : List V} (N : List Str) (s : Sub F H) (r : Reps K F ds vs) : Abs K ⟨H, F, 0⟩ F (L2.start N vs) H (ds.map T.sh ++ List.replicate (N.length - ds.length) .no) := by
  refine ⟨⟨Sub.refl _, Sub.refl _, s, fun a o e => .inl e⟩, [], .nil, ?_⟩
  unfold L2.start
  rw [r.length]
  exact (Owns.shared r).append (owns_no _)
section
variable {P : Program} {w : World} {K : PySem.W.Frag} {mg : Str → Option Value} {base : Heap} {x qual : Str} {params : Arguments} {body : List Stmt} {scope : Scope} {dvs : List V} {kws : List (Str × V)} {f : Addr} {fd : FuncData} {N ps : List Str} {k : Nat} {g : FS}
theorem f_ok (F : FunD K x qual params body scope dvs kws f fd) (S : FnScope N ps scope)
    (hb : ∀ (cdv : Value) (A : Around) (outer : List Env) (s : Shared) (H : Hp) (E : XK), Room k (A.deeper (envOfC qual scope s.heap.objs.size f cdv)) → PBk (cxOf C8.CX0 P w K mg base N qual scope f cdv A outer s H E).nox body g) :
    FnOk P w K mg base C8.CX0 (k + 1) f fd ps (spF K ps.length (mir N.length g)) := by
  refine F.ok S (fun vs H Q E ⟨F, ds, d, hl, _, r, _⟩ => by rw [← r.length]; exact hl) fun cdv A outer s H vs Q E hr ⟨F0, ds, d, hl, hs, r, em, kk⟩ => ?_
  obtain ⟨o, eo, em⟩ := Option.bind_eq_some_iff.mp em
  refine ⟨tSt K ⟨H, F0, 0⟩ g, PSs.nox ((hb cdv A outer s H E hr).ps ⟨H, F0, 0⟩), F0, _, o, abs_start N hs r, eo, ?_⟩
  cases o with
  | rt d' =>
    cases em
    exact fun v F' H' s' b r' => kk v F' H' ⟨b.ff, b.bh, b.fh, b.nw⟩ r'
  | nx ρ' =>
    cases em
    exact fun σ' F' H' s' A' => kk .non F' H' ⟨A'.base.ff, A'.base.bh, A'.base.fh, A'.base.nw⟩ (by simp [Rep])
  | bk ρ' => cases em
  | ct ρ' => cases em
/-- an __init__: the fields that it gives -/
def mirI (n : Nat) (c : Str) (g : FS) : List D → Option (List Str × List D) := fun ds => (g (.ob true c [] [] :: ds.map T.sh ++ List.replicate (n - (ds.length + 1)) .no)).bind fun o => match o with
  | .nx ρ => match (ρ[0]? : Option T) with
    | some (.ob true c' ns ts) => if c' = c then (T.toDs ts).map fun es => (ns, es) else none
    | _ => none
  | _ => none
def spI (K : PySem.W.Frag) (c : Str) (n : Nat) (m : List D → Option (List Str × List D)) : Sp := fun vs H Q _ => ∃ x dx B F ds ws nd, vs = V.ref x :: ws ∧ ds.length + 1 = n ∧ H = upd (upd B dx (.own x)) x (.ins (He.ga K c) dx []) ∧ B x = none ∧ B dx = none ∧ dx ≠ x ∧ Sub F B ∧ Reps K F ds ws ∧ m ds = some nd ∧
  ∀ F' H', Grow F B F' H' → Rep K F' (.obj c nd.1 nd.2) (.ref x) → Q .non H'
theorem i_ok {c : Str} (F : FunD K x qual params body scope dvs kws f fd) (S : FnScope N ps scope)
    (hb : ∀ (cdv : Value) (A : Around) (outer : List Env) (s : Shared) (H : Hp) (E : XK), Room k (A.deeper (envOfC qual scope s.heap.objs.size f cdv)) → PBk (cxOf C8.CX0 P w K mg base N qual scope f cdv A outer s H E).nox body g) :
    FnOk P w K mg base C8.CX0 (k + 1) f fd ps (spI K c ps.length (mirI N.length c g)) := by
  refine F.ok S (fun vs H Q E ⟨x, dx, B, F, ds, ws, nd, ev, hl, _, _, _, _, _, r, _⟩ => by rw [ev, List.length_cons, ← r.length]; exact hl) fun cdv A outer s H vs Q E hr ⟨x, dx, B, F0, ds, ws, nd, ev, hl, eH, bx, bdx, ne, hs, r, em, kk⟩ => ?_
  subst ev eH
  obtain ⟨o, eo, em⟩ := Option.bind_eq_some_iff.mp em
  have fx := hs.free bx
  have sB : Sub B (upd (upd B dx (.own x)) x (.ins (He.ga K c) dx [])) := fun a o e => by
    rw [upd_ne (ne_of_none e bx), upd_ne (ne_of_none e bdx)]; exact e
  have A0 : Abs K ⟨B, F0, x⟩ F0 (L2.start N (V.ref x :: ws)) (upd (upd B dx (.own x)) x (.ins (He.ga K c) dx [])) (.ob true c [] [] :: ds.map T.sh ++ List.replicate (N.length - (ds.length + 1)) .no) := by
    refine ⟨⟨sB, Sub.refl _, hs.trans sB, fun a o e => .inl e⟩, [x], by simp, ?_⟩
    unfold L2.start
    have e1 : (V.ref x :: ws).length = ds.length + 1 := by rw [List.length_cons, r.length]
    rw [e1]
    refine ⟨some (.ref x), ws.map some ++ List.replicate (N.length - (ds.length + 1)) none, [x], [], rfl, rfl, ⟨x, dx, [], [], rfl, rfl, fun _ => rfl, upd_same, rfl, bx, fx, rfl, rfl⟩, (Owns.shared r).append (owns_no _)⟩
  refine ⟨tSt K ⟨B, F0, x⟩ g, PSs.nox ((hb cdv A outer s _ E hr).ps ⟨B, F0, x⟩), F0, _, o, A0, eo, ?_⟩
  cases o with
  | nx ρ' =>
    refine fun σ' F' H' s' A' => ?_
    cases q : ρ'[0]? with
    | none => simp [q] at em
    | some t =>
      cases t with
      | ob mk c' ns ts =>
        cases mk with
        | false => simp [q] at em
        | true =>
          simp only [q] at em
          obtain ⟨ec, em2⟩ := Option.ite_none_right_eq_some.mp em
          subst ec
          obtain ⟨es, ees, rfl⟩ := Option.map_eq_some_iff.mp em2
          obtain ⟨F2, s2, A2⟩ := A'.freeze q (d := .obj c' ns es) (by simp [T.toD, ees])
          have hlen : 0 < ρ'.length := (List.getElem?_eq_some_iff.mp q).1
          obtain ⟨v, ev, rv⟩ := A2.sh (i := 0) (d := .obj c' ns es) (by simp [hlen])
          have e0 : v = .ref x := by
            obtain ⟨_, fp, _, ow⟩ := A'
            obtain ⟨ov, _, fa, _, k1, _, ⟨a, _, _, _, k2, _, k3, _⟩, _⟩ := ow.get q
            rw [ev] at k1
            cases k1
            cases k2
            rw [k3 rfl]
          subst e0
          exact kk F2 H' ⟨A2.base.ff, A2.base.bh, A2.base.fh, A2.base.nw⟩ rv
      | _ => simp [q] at em
  | rt d' => cases em
  | bk ρ' => cases em
  | ct ρ' => cases em
end
end FL

/-! FLApp: calls of defs, classes, methods. -/
namespace FL
open L2 PyProof.Rows PySem.Spec PySem SX C8

/-- a def of the module that keeps the promise of m; dds: the data of the parameters that the call leaves out (all of them behind those that are written) -/
structure CalF (P : Program) (w : World) (K : PySem.W.Frag) (mg : Str → Option Value) (base : Heap) (k : Nat) (x : Str) (n : Nat) (m : List D → Option D) (dds : List D) : Prop where
  ex : ∃ dvs, Cal P w K mg base k x (spF K n m) dvs ∧ ∀ F, Reps K F dds dvs
structure MakF (P : Program) (w : World) (K : PySem.W.Frag) (mg : Str → Option Value) (base : Heap) (k : Nat) (x : Str) (n : Nat) (m : List D → Option (List Str × List D)) (dds : List D) : Prop where
  ex : ∃ dvs, Mak P w K mg base k x (He.ga K x) (spI K x n m) dvs ∧ ∀ F, Reps K F dds dvs
structure MetF (P : Program) (w : World) (K : PySem.W.Frag) (mg : Str → Option Value) (base : Heap) (k : Nat) (c x : Str) (n : Nat) (m : List D → Option D) (dds : List D) : Prop where
  ex : ∃ dvs, Met P w K mg base k (He.ga K c) x (spF K n m) dvs ∧ ∀ F, Reps K F dds dvs
section
variable {X : Cx} {e a : Expr} {es : List Expr} {f fa : FX} {fs : Rho → Option (List D)} {md m1 : Md} {x c : Str} {p pos apos : Pos} {j k n : Nat} {m : List D → Option D} {dds : List D}
def fCall (n : Nat) (m : List D → Option D) (fs : Rho → Option (List D)) (dds : List D) : FX := fun ρ => (fs ρ).bind fun ds => if (ds ++ dds).length = n then m (ds ++ dds) else none
theorem x_call (c : CalF X.prog X.w X.K X.mg X.base k x n m dds) (hr : Room j X.A) (hk : k ≤ j) (hg : Gl X x) (ha : PAs X .s (e :: es) fs)
    (hdb : (x == ("__debug__" : Str)) = false := by decide) (he : starEach (e :: es) X.env = (false, eval e X.env) :: starEach es X.env := by rfl) (hpl : (backTo pos (starEach es X.env)).any (·.1) = false := by rfl) :
    PX X md (.Call (.Name x p) (e :: es) [] pos) (fCall n m fs dds) := by
  obtain ⟨dvs, cc, rd⟩ := c.ex
  refine px_up ⟨fun E => pe_imp (pe_c cc hr hk hg (ha.pa E) hdb he hpl) fun σ H Q ⟨F, ρ, d, A, ef, k⟩ => ?_⟩
  obtain ⟨ds, eds, ef⟩ := Option.bind_eq_some_iff.mp ef
  obtain ⟨hl, ef⟩ := Option.ite_none_right_eq_some.mp ef
  exact ⟨F, ρ, ds, A, eds, fun vs F1 H1 g1 r => ⟨F1, ds ++ dds, d, hl, g1.fh, Reps.append r (rd F1), ef, fun v F2 H2 g2 r2 => k v F2 H2 (g1.trans g2) r2⟩⟩
/-- a callee that only reads what it gets, its answer flat -/
def D.flatD (d : D) : Option D := d.fv.map fun _ => d
def fCallW (n : Nat) (m : List D → Option D) (fs : Rho → Option (List D)) (dds : List D) : FX := fun ρ => (fs ρ).bind fun ds => if (ds ++ dds).length = n then (m (ds ++ dds)).bind D.flatD else none
theorem flat_rep {K : PySem.W.Frag} {F G : Hp} {d d' : D} {v : V} (h : Rep K F d v) (e : d.flatD = some d') : d = d' ∧ Rep K G d v := by
  unfold D.flatD at e
  obtain ⟨w, e1, e2⟩ := Option.map_eq_some_iff.mp e
  refine ⟨e2, ?_⟩
  cases d <;> simp [D.fv] at e1 <;> exact h
theorem x_callW (c : CalF X.prog X.w X.K X.mg X.base k x n m dds) (hr : Room j X.A) (hk : k ≤ j) (hg : Gl X x) (ha : PAs X .w (e :: es) fs)
    (hdb : (x == ("__debug__" : Str)) = false := by decide) (he : starEach (e :: es) X.env = (false, eval e X.env) :: starEach es X.env := by rfl) (hpl : (backTo pos (starEach es X.env)).any (·.1) = false := by rfl) :
    PX X md (.Call (.Name x p) (e :: es) [] pos) (fCallW n m fs dds) := by
  obtain ⟨dvs, cc, rd⟩ := c.ex
  refine px_up ⟨fun E => pe_imp (pe_c cc hr hk hg (ha.pa E) hdb he hpl) fun σ H Q ⟨F, ρ, d, A, ef, k⟩ => ?_⟩
  obtain ⟨ds, eds, ef⟩ := Option.bind_eq_some_iff.mp ef
  obtain ⟨hl, ef⟩ := Option.ite_none_right_eq_some.mp ef
  obtain ⟨d0, ed, ef⟩ := Option.bind_eq_some_iff.mp ef
  refine ⟨F, ρ, ds, A, eds, fun vs F1 H1 g1 r => ⟨H1, ds ++ dds, d0, hl, Sub.refl _, Reps.append r (rd H1), ed, fun v F2 H2 g2 r2 => ?_⟩⟩
  obtain ⟨rfl, r3⟩ := flat_rep (G := F1) r2 ef
  exact k v F1 H2 (g1.trans ⟨Sub.refl _, g2.h, g1.fh.trans g2.h, fun _ _ e => .inl e⟩) r3
/-- C(..) -/
def fMake (c : Str) (n : Nat) (m : List D → Option (List Str × List D)) (fs : Rho → Option (List D)) (dds : List D) : FX := fun ρ => (fs ρ).bind fun ds => if (ds ++ dds).length + 1 = n then (m (ds ++ dds)).map fun nd => .obj c nd.1 nd.2 else none
theorem x_make {mi : List D → Option (List Str × List D)} (c : MakF X.prog X.w X.K X.mg X.base k x n mi dds) (hr : Room j X.A) (hk : k + 1 ≤ j) (hg : Gl X x) (ha : PAs X .s (e :: es) fs)
    (hdb : (x == ("__debug__" : Str)) = false := by decide) (he : starEach (e :: es) X.env = (false, eval e X.env) :: starEach es X.env := by rfl) (hpl : (backTo pos (starEach es X.env)).any (·.1) = false := by rfl) :
    PX X md (.Call (.Name x p) (e :: es) [] pos) (fMake x n mi fs dds) := by
  obtain ⟨dvs, cc, rd⟩ := c.ex
  refine px_up ⟨fun E => pe_imp (pe_mk cc hr hk hg (ha.pa E) hdb he hpl) fun σ H Q ⟨F, ρ, d, A, ef, k⟩ => ?_⟩
  obtain ⟨ds, eds, ef⟩ := Option.bind_eq_some_iff.mp ef
  obtain ⟨hl, ef⟩ := Option.ite_none_right_eq_some.mp ef
  obtain ⟨nd, en, rfl⟩ := Option.map_eq_some_iff.mp ef
  refine ⟨F, ρ, ds, A, eds, fun vs F1 H1 g1 r => fun z dz hz hdz ne => ?_⟩
  exact ⟨z, dz, H1, F1, ds ++ dds, vs ++ dvs, nd, rfl, hl, rfl, hz, hdz, ne, g1.fh, Reps.append r (rd F1), en, fun F2 H2 g2 r2 => ⟨rfl, k _ F2 H2 (g1.trans g2) r2⟩⟩
/-- o.m(..) -/
def objOf (c mth : Str) : D → Option D
  | .obj c' ns ds => if c' = c ∧ mth ∉ ns then some (.obj c' ns ds) else none
  | _ => none
def fMeth (c mth : Str) (n : Nat) (m : List D → Option D) (fo : FX) (fs : Rho → Option (List D)) (dds : List D) : FX := fun ρ => (fo ρ).bind fun o => (objOf c mth o).bind fun o => (fs ρ).bind fun ds => if (o :: (ds ++ dds)).length = n then m (o :: (ds ++ dds)) else none
theorem zip_lookup_none {f : Str} : ∀ {ns : List Str} {vs : List V}, f ∉ ns → (ns.zip vs).lookup f = none
  | [], _, _ => by simp
  | n :: ns, [], _ => by simp
  | n :: ns, v :: vs, h => by
    simp only [List.mem_cons, not_or] at h
    rw [List.zip_cons_cons, List.lookup_cons, beq_eq_false_iff_ne.mpr h.1]
    exact zip_lookup_none h.2
theorem x_meth {pl : Sem Bool} {o : Expr} {fo : FX} {mth : Str} (c' : MetF X.prog X.w X.K X.mg X.base k c mth n m dds) (hr : Room j X.A) (hk : k ≤ j) (ho : PX X .s o fo) (ha : PAs X .s (e :: es) fs)
    (hst : starEach (e :: es) X.env = (false, eval e X.env) :: starEach es X.env := by rfl) (hpl : (backTo pos (starEach es X.env)).any (·.1) = false := by rfl)
    (ht : eval (.Call (.Attribute o mth apos) (e :: es) [] pos) X.env = (do
      let ov ← eval o X.env
      standAt apos.atName
      let (f, first) ← holding [ov] (getMethod ov mth pl)
      callWith pos f first (backTo pos (starEach (e :: es) X.env)) (backToKw pos (keywordEach [] X.env))) := by rfl) :
    PX X md (.Call (.Attribute o mth apos) (e :: es) [] pos) (fMeth c mth n m fo fs dds) := by
  obtain ⟨dvs, cc, rd⟩ := c'.ex
  refine px_up ⟨fun E => pe_imp (pe_mt (pl := pl) cc hr hk (ho.pe E) (ha.pa E) hst hpl ht) fun σ H Q ⟨F, ρ, d, A, ef, k⟩ => ?_⟩
  obtain ⟨o1, e1, ef⟩ := Option.bind_eq_some_iff.mp ef
  obtain ⟨o2, e2, ef⟩ := Option.bind_eq_some_iff.mp ef
  obtain ⟨ds, eds, ef⟩ := Option.bind_eq_some_iff.mp ef
  obtain ⟨hl, ef⟩ := Option.ite_none_right_eq_some.mp ef
  refine ⟨F, ρ, o1, A, e1, fun v F1 H1 g1 r1 => ?_⟩
  cases o1 with
  | obj c1 ns os =>
    obtain ⟨⟨ec, hm⟩, e2'⟩ := Option.ite_none_right_eq_some.mp (show (if c1 = c ∧ mth ∉ ns then some (D.obj c1 ns os) else none) = some o2 from e2)
    subst ec
    cases e2'
    have r1 : Rep X.K F1 (.obj c1 ns os) v := r1
    obtain ⟨q, dx, vs, rfl, h, hl2, rr⟩ := id r1
    exact ⟨q, dx, _, rfl, g1.fh _ _ h, zip_lookup_none hm, F1, ρ, ds, A.grow g1, eds, fun ws F2 H2 g2 r2 => ⟨F2, _, d, hl, g2.fh, ⟨_, _, rfl, Rep.mono g2.f r1, Reps.append r2 (rd F2)⟩, ef, fun v F3 H3 g3 r3 => k v F3 H3 ((g1.trans g2).trans g3) r3⟩⟩
  | _ => cases e2
theorem x_meth0 {pl : Sem Bool} {o : Expr} {fo : FX} {mth : Str} (c' : MetF X.prog X.w X.K X.mg X.base k c mth n m dds) (hr : Room j X.A) (hk : k ≤ j) (ho : PX X .s o fo)
    (ht : eval (.Call (.Attribute o mth apos) [] [] pos) X.env = (do
      let ov ← eval o X.env
      standAt apos.atName
      let (f, first) ← holding [ov] (getMethod ov mth pl)
      callWith pos f first (backTo pos (starEach [] X.env)) (backToKw pos (keywordEach [] X.env))) := by rfl) :
    PX X md (.Call (.Attribute o mth apos) [] [] pos) (fMeth c mth n m fo aNil dds) := by
  obtain ⟨dvs, cc, rd⟩ := c'.ex
  refine px_up ⟨fun E => pe_imp (pe_mt0 (pl := pl) cc hr hk (ho.pe E) ht) fun σ H Q ⟨F, ρ, d, A, ef, k⟩ => ?_⟩
  obtain ⟨o1, e1, ef⟩ := Option.bind_eq_some_iff.mp ef
  obtain ⟨o2, e2, ef⟩ := Option.bind_eq_some_iff.mp ef
  obtain ⟨ds, eds, ef⟩ := Option.bind_eq_some_iff.mp ef
  cases eds
  obtain ⟨hl, ef⟩ := Option.ite_none_right_eq_some.mp ef
  refine ⟨F, ρ, o1, A, e1, fun v F1 H1 g1 r1 => ?_⟩
  cases o1 with
  | obj c1 ns os =>
    obtain ⟨⟨ec, hm⟩, e2'⟩ := Option.ite_none_right_eq_some.mp (show (if c1 = c ∧ mth ∉ ns then some (D.obj c1 ns os) else none) = some o2 from e2)
    subst ec
    cases e2'
    have r1 : Rep X.K F1 (.obj c1 ns os) v := r1
    obtain ⟨q, dx, vs, rfl, h, hl2, rr⟩ := id r1
    exact ⟨q, dx, _, rfl, g1.fh _ _ h, zip_lookup_none hm, F1, _, d, hl, g1.fh, ⟨_, _, rfl, r1, rd F1⟩, ef, fun v F3 H3 g3 r3 => k v F3 H3 (g1.trans g3) r3⟩
  | _ => cases e2
/-- len(o) of an instance with its own __len__ -/
def rLenO (K : PySem.W.Frag) (C : Addr) (sp : Sp) : List V → Hp → VK → Prop := fun xs H Q => ∃ a dx fs, xs = [V.ref a] ∧ H a = some (.ins C dx fs) ∧ sp [V.ref a] H (fun v H' => ∃ n : Int, v = .int n ∧ 0 ≤ n ∧ n < 2 ^ 63 ∧ Q v H') C8.E0
theorem call_lenO {C : Addr} {k j : Nat} {sp : Sp} (c : Met X.prog X.w X.K X.mg X.base k C "__len__" sp []) (hr : Room j X.A) (hk : k + 1 ≤ j) : CallR X (.builtin "len") (rLenO X.K C sp) := by
  intro pins s σ H xs us Q I r h
  obtain ⟨a, dx, fs, rfl, ha, hsp⟩ := h
  obtain ⟨u1, rfl, r1⟩ := vals1 r
  cases r1
  obtain ⟨f, fd, ps, ds, hcls, hm, F, b, hd⟩ := c.ex
  obtain ⟨mA, O, _⟩ := ins_get I.hok ha
  obtain ⟨od, J, _⟩ := O.look
  have hr1 : Room k X.A.in1 := (hr.mono hk).in1
  have r2 : Vals ([V.ref a] ++ []) ([Value.ref a] ++ ds) := by
    rw [List.append_nil]
    cases hd
    exact .cons rfl .nil
  have hl : ([Value.ref a] ++ ds).length = ps.length := by rw [← r2.length]; exact F.len _ _ _ _ hsp
  refine Calls.call_function_entry kind_len plain_len entry_len (args_len1 _) ?_
  unfold Builtin.«len»
  refine wpAny_bind (m := oneArg "len" _) (wpAny_pure ?_)
  refine wpAny_bind (m := callSpecial? (.ref a) (Str.ofString "__len__")) (PySem.W.special_fn I.kIn J hm.at_ (beq_iff_eq.mp hm.fn) ?_)
  refine wpAny_call (codeAny_mono (F.run X.A.in1 X.stack s H ⟨[.ref a], []⟩ ([.ref a] ++ ds) ([V.ref a] ++ []) _ C8.E0 hr1 I.env0.in1 (b s [.ref a] I.kIn hl) r2 hsp) fun r s' hq => ?_)
  cases r with
  | error e => exact False.elim hq
  | ok fl =>
    cases fl with
    | next => exact False.elim hq
    | brk => exact False.elim hq
    | cont => exact False.elim hq
    | ret u =>
      obtain ⟨v, H', I', r', n, rfl, h0, h1, q⟩ := I.after hq
      obtain ⟨tk, rfl⟩ := r'
      refine wpAny_bind (wpAny_holding (wpAny_pure ?_))
      refine wpAny_bind (wpAny_letGo ?_)
      show wpAny _ _ (if n < 0 then _ else _) _ _ _
      rw [if_neg (by omega)]
      show wpAny _ _ (if n ≥ 2 ^ 63 then _ else _) _ _ _
      rw [if_neg (by omega)]
      exact wpAny_bind (wpAny_mkInt (wpAny_pure ⟨_, rfl, .int n, H', I'.tok _, ⟨_, rfl⟩, q⟩))
end
end FL

/-! FLMax: max(xs, default=d) of a list of ints. -/
namespace FL
open L2 PyProof.Rows PySem.Spec PySem SX C8

def mxB (num : Nat → Int) : Nat → Option Int
  | 0 => none
  | j + 1 => match mxB num j with
    | none => some (num j)
    | some m => if num j > m then some (num j) else some m
def BestIs (o : Option Int) (b : Array Value) : Prop := match o with
  | none => b = #[]
  | some m => ∃ t, b = #[.int m t, .int m t]
def MxOut (dv : Value) (o : Option Int) (v : Value) : Prop := match o with
  | none => v = dv
  | some m => ∃ t, v = .int m t
section
variable {prog : Program} {w : World} {A : Around} {R : Result → Shared → Prop} {I S : Addr} {fp wr : List Addr} {n : Nat} {P : Nat → Value → Prop} {St : Nat → Heap → Prop} {dv : Value} {num : Nat → Int}
theorem int_gt_at (op : CmpOp) (ho : op = .Gt) {a b : Int} {t u : Tok} {s : Shared} {Q : Value → Shared → Prop} {E : Value → Shared → Prop} (h : Q (.bool (decide (a > b))) s) : wpAny (model prog w) A (richCompare op (.int a t) (.int b u)) Q E s := by
  subst ho
  have := CmpOf.ints_gt (prog := prog) (w := w) (A := A) (P := fun i v => (i = 0 ∧ v = .int a t) ∨ (i = 1 ∧ v = .int b u)) (fun i => if i = 0 then a else b) (fun i v q => by
    rcases q with ⟨rfl, rfl⟩ | ⟨rfl, rfl⟩
    · exact ⟨t, rfl⟩
    · exact ⟨u, rfl⟩)
  exact this 0 1 _ _ s Q E (.inl ⟨rfl, rfl⟩) (.inr ⟨rfl, rfl⟩) (by simpa using h)
theorem mx_loop (W : Walks prog w A.in1 I fp wr n P St) (hnum : ∀ i v, P i v → ∃ t, v = .int (num i) t) (hSf : S ∉ fp) : ∀ (k j : Nat) (s : Shared) (b : Array Value) (c : Nat), n - j = k → j ≤ n → St j s.heap →
    s.heap.get? S = some { cls := .type "list", dict := none, data := .seq b c, slots := #[] } → BestIs (mxB num j) b →
    (∀ v h' tk, MxOut dv (mxB num n) v → (∀ a o, a ∉ wr → a ≠ S → s.heap.get? a = some o → h'.get? a = some o) → R (.ok (.ret v)) { s with heap := h', toks := tk }) →
    codeAny (model prog w) A (.builtin "max.loop" ⟨[.ref I, .none, .ref S], [(Str.ofString "default", dv)]⟩) R s := by
  have hSw : S ∉ wr := fun h => hSf (W.sub _ h)
  have nm : (toString "max" ++ toString ".loop" : String) = "max.loop" := by decide
  intro k
  induction k with
  | zero =>
    intro j s b c hk hj hst hS hb hR
    obtain rfl : j = n := by omega
    refine codeAny_builtin F.entry_max_loop ?_
    rw [Around.under_plainId F.plain_max_loop _]
    cases hm : mxB num j with
    | none =>
      rw [hm] at hb
      have hb : b = #[] := hb
      subst hb
      refine wpAny_bind (m := seqItems? (.ref S)) (wpAny_seqItems hS rfl ?_)
      refine wpAny_bind (m := tryCatch (pyNext (.ref I)) _) (wpAny_tryCatch (W.done s _ _ hst fun h' tk hk' => ?_))
      refine wpAny_bind (m := rule _) (wpAny_rule ?_)
      exact wpAny_pure (hR dv h' tk (by rw [hm]; exact rfl) fun a o ha _ e => hk' a o ha e)
    | some m =>
      rw [hm] at hb
      obtain ⟨t, rfl⟩ := (show ∃ t, b = #[.int m t, .int m t] from hb)
      refine wpAny_bind (m := seqItems? (.ref S)) (wpAny_seqItems hS rfl ?_)
      refine wpAny_bind (m := tryCatch (pyNext (.ref I)) _) (wpAny_tryCatch (W.done s _ _ hst fun h' tk hk' => ?_))
      refine wpAny_bind (m := updateSeq S _) (wpAny_updateSeq (hk' S _ hSw hS) rfl (wpAny_bind (wpAny_letGo (wpAny_pure ?_))))
      exact hR _ _ tk (by rw [hm]; exact ⟨t, rfl⟩) fun a o ha hne e => (Heap.get?_update_other _ _ (Ne.symm hne)).trans (hk' a o ha e)
  | succ k ih =>
    intro j s b c hk hj hst hS hb hR
    have hlt : j < n := by omega
    refine codeAny_builtin F.entry_max_loop ?_
    rw [Around.under_plainId F.plain_max_loop _]
    have step : ∀ (v : Value) (b' : Array Value) (c' : Nat) (s' : Shared) (h' : Heap) (tk : Nat), s' = { s with heap := h', toks := tk } → St (j + 1) h' → h'.get? S = some { cls := .type "list", dict := none, data := .seq b' c', slots := #[] } → BestIs (mxB num (j + 1)) b' →
        (∀ a o, a ∉ wr → a ≠ S → s.heap.get? a = some o → h'.get? a = some o) → codeAny (model prog w) A (.builtin "max.loop" ⟨[.ref I, .none, .ref S], [(Str.ofString "default", dv)]⟩) R s' := by
      intro v b' c' s' h' tk es hst' hS' hb' hk'
      subst es
      exact ih (j + 1) _ b' c' (by omega) hlt hst' hS' hb' fun v h'' tk'' ho hk'' => hR v h'' tk'' ho fun a o ha hne e => hk'' a o ha hne (hk' a o ha hne e)
    cases hm : mxB num j with
    | none =>
      rw [hm] at hb
      have hb : b = #[] := hb
      subst hb
      refine wpAny_bind (m := seqItems? (.ref S)) (wpAny_seqItems hS rfl ?_)
      refine wpAny_bind (m := tryCatch (pyNext (.ref I)) _) (wpAny_tryCatch (W.item j s _ _ hlt hst fun v h' tk hP hst' hk' => ?_))
      obtain ⟨t, rfl⟩ := hnum j v hP
      have hS' := hk' S _ hSw hS
      refine wpAny_bind (m := updateSeq S _) (wpAny_updateSeq hS' rfl ?_)
      rw [nm]
      refine wpAny_pure ⟨plainId_quiet F.plain_max_loop _, step (.int (num j) t) _ _ _ _ _ rfl (W.frame _ _ _ hst' fun a haf o e => ?_) (Heap.get?_update_self _ hS' rfl) (by simp only [mxB, hm]; exact ⟨t, rfl⟩) fun a o ha hne e => ?_⟩
      · exact (Heap.get?_update_other _ _ (fun h : S = a => hSf (by rw [h]; exact haf))).trans e
      · exact (Heap.get?_update_other _ _ (Ne.symm hne)).trans (hk' a o ha e)
    | some m =>
      rw [hm] at hb
      obtain ⟨t, rfl⟩ := (show ∃ t, b = #[.int m t, .int m t] from hb)
      refine wpAny_bind (m := seqItems? (.ref S)) (wpAny_seqItems hS rfl ?_)
      refine wpAny_bind (m := tryCatch (pyNext (.ref I)) _) (wpAny_tryCatch (W.item j s _ _ hlt hst fun v h' tk hP hst' hk' => ?_))
      obtain ⟨u, rfl⟩ := hnum j v hP
      have hS' := hk' S _ hSw hS
      refine wpAny_bind (m := tryCatch (holding [.int (num j) u, .int (num j) u] _) _) (wpAny_tryCatch (wpAny_holding (wpAny_bind (int_gt_at _ rfl ?_))))
      refine wpAny_bind (wpAny_holding (wpAny_truthy_bool ?_))
      refine wpAny_bind (wpAny_letGo (wpAny_pure ?_))
      by_cases hc : num j > m
      · rw [decide_eq_true hc, if_pos rfl]
        refine wpAny_bind (m := updateSeq S _) (wpAny_updateSeq hS' rfl (wpAny_bind (wpAny_letGo ?_)))
        rw [nm]
        refine wpAny_pure ⟨plainId_quiet F.plain_max_loop _, step (.int (num j) u) _ _ _ _ _ rfl (W.frame _ _ _ hst' fun a haf o e => ?_) (Heap.get?_update_self _ hS' rfl) (by simp only [mxB, hm, if_pos hc]; exact ⟨u, rfl⟩) fun a o ha hne e => ?_⟩
        · exact (Heap.get?_update_other _ _ (fun h : S = a => hSf (by rw [h]; exact haf))).trans e
        · exact (Heap.get?_update_other _ _ (Ne.symm hne)).trans (hk' a o ha e)
      · rw [decide_eq_false hc, if_neg Bool.false_ne_true]
        refine wpAny_bind (wpAny_letGo ?_)
        rw [nm]
        exact wpAny_pure ⟨plainId_quiet F.plain_max_loop _, step (.int m t) _ _ _ _ _ rfl hst' hS' (by simp only [mxB, hm, if_neg hc]; exact ⟨t, rfl⟩) fun a o ha hne e => hk' a o ha e⟩
end
theorem args_maxD (a d : Value) : argsOk "max" ⟨[a], [(Str.ofString "default", d)]⟩ := by unfold argsOk; kernel_rfl
section
variable {prog : Program} {w : World} {A : Around} {E : Value → Shared → Prop} {s : Shared}
theorem call_maxD {l : Addr} {xs : Array (Int × Tok)} {dv : Value} {Q : Value → Shared → Prop} (hh : A.handled = none) (hl : s.heap.IsList l (intItems xs))
    (h : ∀ v h' tk, MxOut dv (mxB (numAt xs) xs.size) v → (∀ b o, s.heap.get? b = some o → h'.get? b = some o) → Q v { s with heap := h', toks := tk }) :
    wpAny (model prog w) A (call (.builtin "max") [.ref l] [(Str.ofString "default", dv)]) Q E s := by
  have nm : (toString "max" ++ toString ".loop" : String) = "max.loop" := by decide
  refine wpAny_call (codeAny_call_builtin F.plain_max F.entry_max ?_)
  simp only [checkBuiltinCall, F.kind_max]
  have ha := args_maxD (.ref l) dv
  have goal : wpAny (model prog w) A.in1 (Builtin.«max» ⟨[.ref l], [(Str.ofString "default", dv)]⟩) (fun fin s' => match fin with
      | .done f => (match (Except.ok f : Result) with | .ok (.ret v) => Q v s' | .ok _ => False | .error e => E e s')
      | .again c' => c'.quiet = true ∧ codeAny (model prog w) A c' (fun r s' => match r with | .ok (.ret v) => Q v s' | .ok _ => False | .error e => E e s') s') E s := by
    refine wpAny_bind (m := Builtin.Builtins.bindParams "max" ["key", "default"] 0 _) (wpAny_of_eq (show Builtin.Builtins.bindParams "max" ["key", "default"] 0 ⟨[], [(Str.ofString "default", dv)]⟩ = pure [none, some dv] from rfl) ?_)
    refine wpAny_bind (wpAny_pure ?_)
    refine wpAny_bind (iter_intList hl fun s₂ e st hfp hlI => ?_)
    refine wpAny_bind (wpAny_newObj_type ?_)
    have hSf : s₂.heap.objs.size ∉ [s.heap.objs.size, l] := fun hm => Nat.lt_irrefl _ (hfp _ hm)
    rw [nm]
    have W := Walks.list (prog := prog) (w := w) (A := A.in1) hh s.heap.objs.size l hlI (intItems xs)
    have hz : (intItems xs).size = xs.size := by simp [intItems]
    refine wpAny_pure ⟨plainId_quiet F.plain_max_loop _, mx_loop W (num := numAt xs) (fun i v q => intItems_at q) hSf _ 0 _ #[] _ rfl (Nat.zero_le _) (W.frame _ _ _ st fun b _ o e => Heap.get?_push_of_some _ e) (Heap.get?_push_size _ rfl) rfl fun v h' tk ho hk => ?_⟩
    subst e
    refine h v h' tk (by rw [← hz]; exact ho) fun b o e => ?_
    have h1 : b ≠ s.heap.objs.size := Nat.ne_of_lt (Heap.lt_size e)
    have e2 := Heap.get?_push_of_some { cls := .type "list_iterator", data := .fields #[.ref l, .int 0 0] } e
    exact hk b o (by simpa using h1) (Nat.ne_of_lt (Heap.lt_size e2)) (Heap.get?_push_of_some _ e2)
  cases hsig : Manifest.signature? "max" with
  | none => exact wpAny_pure goal
  | some sig =>
    simp only [argsOk, hsig] at ha
    have h2 : Bind.checkArgs "max" sig ⟨[.ref l], [(Str.ofString "default", dv)]⟩ = pure () := ha
    simp only [h2]
    exact wpAny_pure goal
end
end FL

/-! FLKw: keywords; max with a default; len of an instance; extend, clear; a list comprehension given a name on its own line. -/
namespace FL
open L2 PyProof.Rows PySem.Spec PySem SX C8

structure PKs (X : Cx) (kws : List Keyword) (f : Rho → Option (List D)) : Prop where
  pk : ∀ E, PK X kws (tAs X.K E .s f)
theorem pk_imp {X : Cx} {es : List Keyword} {t t' : TA} (h : PK X es t) (w : ∀ σ H Q, t' σ H Q → t σ H Q) : PK X es t' := ⟨fun p pins s σ H Q I q => h.run p pins s σ H Q I (w σ H Q q)⟩
section
variable {X : Cx} {e a o : Expr} {es : List Expr} {kws : List Keyword} {f fa fb : FX} {fs fk : Rho → Option (List D)} {md m1 m2 : Md} {x c : Str} {p pos apos kp : Pos} {j k n nk : Nat} {m : List D → Option D} {dds : List D}
theorem ks_nil : PKs X [] aNil := ⟨fun E => pk_imp pk_nil fun σ H Q ⟨F, ρ, ds, A, ef, k⟩ => by
  cases ef
  exact k [] F H A.grow0 rfl⟩
theorem ks_cons (ha : PX X .s e f) (hr : PKs X kws fk) : PKs X (⟨some x, e, kp⟩ :: kws) (aCons f fk) := ⟨fun E => pk_imp (pk_cons (ha.pe E) (hr.pk E)) fun σ H Q ⟨F, ρ, ds, A, ef, k⟩ => by
  obtain ⟨x, ex, ef⟩ := Option.bind_eq_some_iff.mp ef
  obtain ⟨r, er, rfl⟩ := Option.map_eq_some_iff.mp ef
  refine ⟨F, ρ, x, A, ex, fun v F1 H1 g1 r1 => ?_⟩
  exact ⟨F1, ρ, r, A.grow g1, er, fun vs F2 H2 g2 r2 => k (v :: vs) F2 H2 (g1.trans g2) ⟨v, vs, rfl, Rep.mono g2.f r1, r2⟩⟩⟩
/-- a def called with keywords: pn positional values, the keywords ks; arr: the parameters in order -/
structure CalK (P : Program) (w : World) (K : PySem.W.Frag) (mg : Str → Option Value) (base : Heap) (k : Nat) (x : Str) (pn : Nat) (ks : List Str) (n : Nat) (arr : List D → List D → List D) (m : List D → Option D) : Prop where
  ex : ∃ (f : Addr) (fd : FuncData) (ps : List Str) (g : List Value → List Value → List Value) (gV : List V → List V → List V), FnOk P w K mg base C8.CX0 k f fd ps (spF K n m) ∧ mg x = some (.ref f) ∧ PySem.W.keepIn K (.ref f) = true ∧ KBn K fd ps pn ks g gV ∧
    ∀ F ds zs vs ws, ds.length = pn → zs.length = ks.length → Reps K F ds vs → Reps K F zs ws → Reps K F (arr ds zs) (gV vs ws)
theorem CalK.mono {P : Program} {w : World} {K : PySem.W.Frag} {mg : Str → Option Value} {base : Heap} {i j : Nat} {pn : Nat} {ks : List Str} {arr : List D → List D → List D} (c : CalK P w K mg base i x pn ks n arr m) (h : i ≤ j) : CalK P w K mg base j x pn ks n arr m := by
  obtain ⟨f, fd, ps, g, gV, F, r⟩ := c.ex
  exact ⟨f, fd, ps, g, gV, F.mono h, r⟩
def fCallK (pn kn n : Nat) (arr : List D → List D → List D) (m : List D → Option D) (fs fk : Rho → Option (List D)) : FX := fun ρ => (fs ρ).bind fun ds => (fk ρ).bind fun zs => if ds.length = pn ∧ zs.length = kn ∧ (arr ds zs).length = n then m (arr ds zs) else none
theorem x_callK {pn : Nat} {ks : List Str} {arr : List D → List D → List D} (c : CalK X.prog X.w X.K X.mg X.base k x pn ks n arr m) (hr : Room j X.A) (hk : k ≤ j) (hg : Gl X x) (ha : PAs X .s (e :: es) fs) (hkw : PKs X kws fk)
    (hall : (backToKw pos (keywordEach kws X.env)).all (·.1.isSome) = true := by rfl) (hks : (backToKw pos (keywordEach kws X.env)).filterMap (·.1) = ks := by rfl)
    (hdb : (x == ("__debug__" : Str)) = false := by decide) (he : starEach (e :: es) X.env = (false, eval e X.env) :: starEach es X.env := by rfl)
    (hpl : ((backTo pos (starEach (e :: es) X.env)).any (·.1) || (backToKw pos (keywordEach kws X.env)).any (·.1.isNone)) = false := by rfl) :
    PX X md (.Call (.Name x p) (e :: es) kws pos) (fCallK pn ks.length n arr m fs fk) := by
  obtain ⟨f, fd, ps, g, gV, F, hm, kp, b, ar⟩ := c.ex
  refine px_up ⟨fun E => pe_imp (pe_callN F (hr.mono hk) hg hm kp b (C8.pass0 (E := C8.E0)) (ha.pa E) (hkw.pk E) hall hks hdb he hpl) fun σ H Q ⟨F, ρ, d, A, ef, k⟩ => ?_⟩
  obtain ⟨ds, eds, ef⟩ := Option.bind_eq_some_iff.mp ef
  obtain ⟨zs, ezs, ef⟩ := Option.bind_eq_some_iff.mp ef
  obtain ⟨⟨l1, l2, l3⟩, ef⟩ := Option.ite_none_right_eq_some.mp ef
  refine ⟨F, ρ, ds, A, eds, fun vs F1 H1 g1 r1 => ⟨F1, ρ, zs, A.grow g1, ezs, fun ws F2 H2 g2 r2 => ?_⟩⟩
  have r1 : Reps X.K F1 ds vs := r1
  have r2 : Reps X.K F2 zs ws := r2
  refine ⟨by rw [← r1.length]; exact l1, by rw [← r2.length]; exact l2, F2, arr ds zs, d, l3, g2.fh, ar F2 ds zs vs ws l1 l2 (Reps.mono g2.f r1) r2, ef, fun v F3 H3 g3 r3 => k v F3 H3 ((g1.trans g2).trans g3) r3⟩

/-! ### max(xs, default=d) -/
theorem foldl_mx (m : Int) : ∀ ns : List Int, ns.foldl (fun o x => match o with | none => some x | some y => if x > y then some x else some y) (some m) = some (ns.foldl max m)
  | [] => rfl
  | n :: ns => by
    simp only [List.foldl_cons]
    have : (if n > m then some n else some m) = some (max m n) := by
      by_cases h : n > m
      · rw [if_pos h, Int.max_eq_right (by omega)]
      · rw [if_neg h, Int.max_eq_left (by omega)]
    rw [this]
    exact foldl_mx _ ns
theorem mxB_fold (num : Nat → Int) : ∀ j, mxB num j = ((List.range j).map num).foldl (fun o x => match o with | none => some x | some y => if x > y then some x else some y) none
  | 0 => rfl
  | j + 1 => by
    rw [List.range_succ, List.map_append, List.foldl_append, ← mxB_fold num j]
    rfl
def maxO : List Int → Option Int
  | [] => none
  | n :: ns => some (maxI (n :: ns))
theorem mxB_maxO (xs : Array (Int × Tok)) : mxB (numAt xs) xs.size = maxO (xs.toList.map (·.1)) := by
  rw [mxB_fold]
  have : (List.range xs.size).map (numAt xs) = xs.toList.map (·.1) := by
    apply List.ext_getElem?
    intro i
    simp only [List.getElem?_map]
    by_cases h : i < xs.size
    · simp [List.getElem?_range h, numAt, h]
    · rw [List.getElem?_eq_none (by simp; omega), Array.getElem?_toList, Array.getElem?_eq_none (by omega)]
      rfl
  rw [this]
  cases q : xs.toList.map (·.1) with
  | nil => rfl
  | cons n ns => exact foldl_mx n ns
def rMaxDf (K : PySem.W.Frag) : List V → List V → Hp → VK → Prop := fun vs zs H Q => ∃ a ns d, vs = [V.ref a] ∧ zs = [d] ∧ SqL K H a (ns.map V.int) ∧ Q (match maxO ns with | none => d | some m => .int m) H
theorem cr_maxDf (hc : X.calm = true) : CallRK X (.builtin "max") ["default"] (rMaxDf X.K) := by
  intro pins s σ H xs zs us ws Q I r rz h
  obtain ⟨a, ns, d, rfl, rfl, hs, q⟩ := h
  obtain ⟨its, rv, hl, _⟩ := I.list hs
  rw [Vals.ref1 r]
  obtain ⟨dv, rfl, rd⟩ := vals1 rz
  obtain ⟨ys, e⟩ := rv.ints.allInts.items
  have hns : ns = ys.toList.map (·.1) := by rw [← rv.ints.numsOf, ← nums_intItems, ← e]
  have hl' := hl.isList
  rw [e] at hl'
  refine call_maxD (dv := dv) (I.ok.hd hc) hl' fun v h' tk ho hk => ?_
  rw [mxB_maxO, ← hns] at ho
  refine ⟨_, H, I.kept hk, ?_, q⟩
  cases e2 : maxO ns with
  | none => rw [e2] at ho; have ho : v = dv := ho; subst ho; exact rd
  | some m => rw [e2] at ho; obtain ⟨t, rfl⟩ := (show ∃ t, v = .int m t from ho); exact ⟨t, rfl⟩
def gMaxDf (a d : D) : Option D := a.listInts.map fun ns => match maxO ns with
  | none => d
  | some m => .int m
theorem x_maxDf (hc : X.calm = true) (hg : Gl X "max") (hm : X.mg "max" = none) (ha : PX X m1 a fa) (hb : PX X .s e fb) (hs : starEach [a] X.env = (false, eval a X.env) :: starEach [] X.env := by rfl)
    (he : backTo pos (starEach [a] X.env) = (false, eval a X.env) :: backTo pos (starEach [] X.env) := by rfl) (hpl : (backTo pos (starEach [a] X.env)).any (·.1) = false := by rfl)
    (hall : (backToKw pos (keywordEach [⟨some "default", e, kp⟩] X.env)).all (·.1.isSome) = true := by rfl) (hnone : (backToKw pos (keywordEach [⟨some "default", e, kp⟩] X.env)).any (·.1.isNone) = false := by rfl) (hks : (backToKw pos (keywordEach [⟨some "default", e, kp⟩] X.env)).filterMap (·.1) = [Str.ofString "default"] := by rfl) :
    PX X md (.Call (.Name "max" p) [a] [⟨some "default", e, kp⟩] pos) (f2 gMaxDf fa fb) := px_up ⟨fun E => pe_imp (pe_callBK (cr_maxDf hc) hg hm (by decide +kernel) (pa_cons (ha.pe E) pa_nil hs) (pk_cons (hb.pe E) pk_nil) (by decide) (by decide) he hpl hall hnone hks) fun σ H Q ⟨F, ρ, d, A, ef, k⟩ => by
  obtain ⟨y, ey, ef⟩ := Option.bind_eq_some_iff.mp ef
  obtain ⟨z, ez, ef⟩ := Option.bind_eq_some_iff.mp ef
  obtain ⟨ns, en, rfl⟩ := Option.map_eq_some_iff.mp ef
  refine ⟨F, ρ, y, A, ey, fun v F1 H1 g1 r1 => ?_⟩
  refine ⟨F1, ρ, z, A.grow g1, ez, fun w F2 H2 g2 r2 => ?_⟩
  obtain ⟨p, rfl, h⟩ := listInts_of ((r1.grow g2).dn g2.fh) en
  refine ⟨p, ns, w, rfl, rfl, h, k _ F2 H2 (g1.trans g2) ?_⟩
  cases maxO ns with
  | none => exact r2
  | some m => simp [RepM, Rep]⟩

/-! ### len(o), o an instance with its own __len__ -/
def gLenO (c : Str) (m : List D → Option D) : D → Option D := fun o => (objOf c "__len__" o).bind fun o => (m [o]).bind fun d => match d with
  | .int n => if 0 ≤ n ∧ n ≤ 1000000 then some (.int n) else none
  | _ => none
theorem x_lenO (c' : MetF X.prog X.w X.K X.mg X.base k c "__len__" 1 m []) (hr : Room j X.A) (hk : k + 1 ≤ j) (hg : Gl X "len") (hm : X.mg "len" = none) (ha : PX X .s a fa) (hs : starEach [a] X.env = (false, eval a X.env) :: starEach [] X.env := by rfl)
    (hpl : (backTo pos (starEach [] X.env)).any (·.1) = false := by rfl) : PX X md (.Call (.Name "len" p) [a] [] pos) (f1 (gLenO c m) fa) := by
  obtain ⟨dvs, cc, rd⟩ := c'.ex
  have ed : dvs = [] := by have := rd (fun _ => none); exact this
  subst ed
  refine px_up ⟨fun E => pe_imp (pe_callB (call_lenO cc hr hk) hg hm (by decide +kernel) (pa_cons (ha.pe E) pa_nil hs) (by decide) (by decide) hs hpl) fun σ H Q ⟨F, ρ, d, A, ef, k⟩ => ?_⟩
  obtain ⟨o1, e1, ef⟩ := Option.bind_eq_some_iff.mp ef
  obtain ⟨o2, e2, ef⟩ := Option.bind_eq_some_iff.mp ef
  obtain ⟨d0, ed, ef⟩ := Option.bind_eq_some_iff.mp ef
  refine ⟨F, ρ, o1, A, e1, fun v F1 H1 g1 r1 => ?_⟩
  cases o1 with
  | obj c1 ns os =>
    obtain ⟨⟨ec, hm⟩, e2'⟩ := Option.ite_none_right_eq_some.mp (show (if c1 = c ∧ Str.ofString "__len__" ∉ ns then some (D.obj c1 ns os) else none) = some o2 from e2)
    subst ec
    cases e2'
    have r1 : Rep X.K F1 (.obj c1 ns os) v := r1
    obtain ⟨q, dx, vs, rfl, h, hl2, rr⟩ := id r1
    cases d0 <;> simp only at ef <;> try (cases ef; done)
    obtain ⟨⟨b1, b2⟩, ef⟩ := Option.ite_none_right_eq_some.mp ef
    cases ef
    exact ⟨q, dx, _, rfl, g1.fh _ _ h, F1, [.obj c1 ns os], _, rfl, g1.fh, ⟨_, _, rfl, r1, rfl⟩, ed, fun v F2 H2 g2 r2 => ⟨_, r2, b1, by omega, k v F2 H2 (g1.trans g2) r2⟩⟩
  | _ => cases e2
end
end FL

/-! FLMore: extend, clear; a list comprehension given a name on its own line; recursion. -/
namespace FL
open L2 PyProof.Rows PySem.Spec PySem SX C8
section
variable {X : Cx} {e a o : Expr} {f fa fb : FX} {md m1 m2 : Md} {x c : Str} {p pos apos cpos kp : Pos} {j k n : Nat}
def hExt : T → T → Option T
  | .ls ts, .ls us => if ts.length + us.length ≤ lim then some (.ls (ts ++ us)) else none
  | _, _ => none
theorem s_extend {fp : Rho → Option (Nat × List Nat)} {ft : Rho → Option T} (ho : PPa X o fp) (he : PO X e ft)
    (hbase : attributeBase o "extend" X.env (eval o X.env) = eval o X.env := by rfl)
    (hfew : ((backTo cpos (starEach [e] X.env)).all (fun x => !x.1) && (backToKw cpos (keywordEach [] X.env)).all (fun x => x.1.isSome)
      && decide ([e].length + ([] : List Keyword).length + (if ([] : List Keyword).isEmpty then 0 else 1) < 30)) = true := by rfl)
    (hline : (apos.endLine == cpos.line) = true := by rfl) (hs : starEach [e] X.env = (false, eval e X.env) :: starEach [] X.env := by rfl) (hplain : (backTo cpos (starEach [] X.env)).any (·.1) = false := by rfl)
    (hsw : swapsWith (.Call (.Attribute o "extend" apos) [e] [] cpos) none pos.line X.env = pure false := by rfl) :
    PSt X (.Expr (.Call (.Attribute o "extend" apos) [e] [] cpos) pos) (gUpd fp ft hExt) := ⟨fun E => ps_imp (ps_expr (pe_bm PySem.F.plainAttrs_list PySem.F.slot_list_extend PySem.F.type_list_extend mt_extend (ho.pe E) (pa_cons (he.pe E) pa_nil hs) hbase hfew hline hs hplain) hsw) fun W σ H ⟨F, ρ, o, A, ef, k⟩ => by
  obtain ⟨ip, eip, ef⟩ := Option.bind_eq_some_iff.mp ef
  obtain ⟨x, ex, ef⟩ := Option.bind_eq_some_iff.mp ef
  obtain ⟨t1, en, ef⟩ := Option.bind_eq_some_iff.mp ef
  obtain ⟨t2, eh, ef⟩ := Option.bind_eq_some_iff.mp ef
  obtain ⟨t, et, rfl⟩ := Option.map_eq_some_iff.mp ef
  obtain ⟨ts, us, rfl, rfl, hlim, rfl⟩ : ∃ ts us, t1 = .ls ts ∧ x = .ls us ∧ ts.length + us.length ≤ lim ∧ t2 = .ls (ts ++ us) := by
    cases t1 <;> cases x <;> simp only [hExt] at eh <;> try (cases eh; done)
    obtain ⟨hlim, eh⟩ := Option.ite_none_right_eq_some.mp eh
    cases eh
    exact ⟨_, _, rfl, rfl, hlim, rfl⟩
  refine ⟨F, ρ, ip, A, eip, fun v F1 H1 g1 ⟨u, es, nv⟩ => ?_⟩
  obtain ⟨fa0, c, vs, fq, h0, h1, h2, h3, h4, h5⟩ := node_of A g1 en es nv
  cases h0
  refine ⟨.inl ⟨rfl, vs, .inl (.inl h2)⟩, F1, ρ, _, A.grow g1, ex, fun y fy F2 H2 g2 oy ny wy => ?_⟩
  have h2' := g2.h _ _ h2
  have hl := h5.length
  rw [List.length_map] at hl
  obtain ⟨c2, ws, fz, k0, k1, k2, k3, k4, k5⟩ := oy
  cases k0
  subst k1
  have hl2 := k5.length
  rw [List.length_map] at hl2
  refine ⟨c, c2, vs, ws, rfl, rfl, h2', k2, by rw [← hl, ← hl2]; have e1 := lim_ok (n := ts.length + us.length) hlim; exact e1, ?_⟩
  have g := g1.trans g2
  have et2 : t.at ip.2 = some (.ls ts) := by
    obtain ⟨t', e1, e2⟩ := Option.bind_eq_some_iff.mp en
    rw [et] at e1; cases e1; exact e2
  refine k σ F2 _ g.f ((A.grow g1).mut g2 et es et2 (nv.mono g2.h) fun fa oa nd hin => ?_)
  obtain ⟨c', vs', fq', q0, q1, q2, q3, q4, q5⟩ := oa
  cases q0
  rw [h2'] at q2; cases q2
  subst q1
  have hc : c ∉ fq' := (List.nodup_cons.mp nd).1
  have hcz : c ∉ fz := fun hx => hin c (by simp) (wy c (by simp [hx]))
  refine ⟨c, .lst (vs ++ ws), c :: (fq' ++ fz), by simp, rfl, ⟨c, vs ++ ws, fq' ++ fz, rfl, rfl, upd_same, q3, q4, ?_⟩, ?_, fun z hz => ?_⟩
  · rw [List.map_append]
    exact Owns.append (q5.mono (Sub.refl _) (fun z hz => upd_ne fun e => hc (e ▸ hz)) fun z hz => (q5.at z hz).2.2) (k5.mono (Sub.refl _) (fun z hz => upd_ne fun e => hcz (e ▸ hz)) fun z hz => (k5.at z hz).2.2)
  · simp only [List.nodup_cons, List.nodup_append, List.mem_append, not_or]
    refine ⟨⟨hc, hcz⟩, (List.nodup_cons.mp nd).2, (List.nodup_cons.mp ny).2, fun a ha b hb e => ?_⟩
    subst e
    exact hin a (by simp [ha]) (wy a (by simp [hb]))
  · simp only [List.mem_cons, List.mem_append] at hz ⊢
    rcases hz with hz | hz | hz
    · exact .inl (.inl hz)
    · exact .inl (.inr hz)
    · exact .inr (wy z (by simp [hz]))⟩
/-- xs.clear() -/
def gClr (fp : Rho → Option (Nat × List Nat)) : FS := fun ρ => (fp ρ).bind fun ip => (T.node ρ ip).bind fun t1 => match t1 with
  | .ls _ => (ρ[ip.1]?).map fun t => .nx (ρ.set ip.1 (T.put ip.2 (.ls []) t))
  | _ => none
theorem s_clear {fp : Rho → Option (Nat × List Nat)} (ho : PPa X o fp)
    (hbase : attributeBase o "clear" X.env (eval o X.env) = eval o X.env := by rfl)
    (hline : (apos.endLine == cpos.line) = true := by rfl)
    (hsw : swapsWith (.Call (.Attribute o "clear" apos) [] [] cpos) none pos.line X.env = pure false := by rfl) :
    PSt X (.Expr (.Call (.Attribute o "clear" apos) [] [] cpos) pos) (gClr fp) := ⟨fun E => ps_imp (ps_expr (pe_bm0 PySem.F.plainAttrs_list PySem.F.slot_list_clear PySem.F.type_list_clear mt_clear (ho.pe E) hbase hline) hsw) fun W σ H ⟨F, ρ, o, A, ef, k⟩ => by
  obtain ⟨ip, eip, ef⟩ := Option.bind_eq_some_iff.mp ef
  obtain ⟨t1, en, ef⟩ := Option.bind_eq_some_iff.mp ef
  cases t1 <;> simp only at ef <;> try (cases ef; done)
  rename_i ts
  obtain ⟨t, et, rfl⟩ := Option.map_eq_some_iff.mp ef
  refine ⟨F, ρ, ip, A, eip, fun v F1 H1 g1 ⟨u, es, nv⟩ => ?_⟩
  obtain ⟨fa0, c, vs, fq, h0, h1, h2, h3, h4, h5⟩ := node_of A g1 en es nv
  cases h0
  refine ⟨.inl ⟨rfl, vs, .inl (.inl h2)⟩, c, vs, rfl, rfl, h2, ?_⟩
  have et2 : t.at ip.2 = some (.ls ts) := by
    obtain ⟨t', e1, e2⟩ := Option.bind_eq_some_iff.mp en
    rw [et] at e1; cases e1; exact e2
  refine k σ F1 _ g1.f (A.mut g1 et es et2 nv fun fa oa nd hin => ?_)
  obtain ⟨c', vs', fq', q0, q1, q2, q3, q4, q5⟩ := oa
  cases q0
  subst q1
  exact ⟨c, .lst [], [c], by simp, rfl, ⟨c, [], [], rfl, rfl, upd_same, q3, q4, rfl, rfl⟩, by simp, fun z hz => .inl (by simp at hz; simp [hz])⟩⟩
/-- y = [.. for .. in ..] on one line -/
theorem s_setLc {i : Nat} {y : Str} {py : Pos} {elt tg iter : Expr} {ifs : List Expr} {scope : Scope} {own : List (Str × Nat)} {spos : Pos} {st : Bool} {itf : Rho → Option (List D)} {bind : FG} {is : List Nat} {test : Rho → Option Bool} {fe : FX}
    (hc : X.calm = true) (hN : X.N.Nodup) (hy : X.N[i]? = some y) (hyl : X.env.scope.names.lookup y = some .local)
    (hsw : swapsWith (.ListComp elt [⟨tg, iter, ifs, 0⟩] scope pos) (some (.Name y py)) spos.line X.env = pure true) (hi : PIt X st tg iter itf) (ok : BlkOk X.N X.env.scope scope own)
    (hg : ∀ (s : Shared) (H : Hp) (C : Addr) (cl : List (Str × Addr)) (fp : List Addr), PTg (X.blk s H scope (compEnvC scope cl C X.env) fp) tg is bind)
    (ht : ∀ (s : Shared) (H : Hp) (C : Addr) (cl : List (Str × Addr)) (fp : List Addr), PTsF (X.blk s H scope (compEnvC scope cl C X.env) fp) ifs test)
    (he : ∀ (s : Shared) (H : Hp) (C : Addr) (cl : List (Str × Addr)) (fp : List Addr), PX (X.blk s H scope (compEnvC scope cl C X.env) fp) .s elt fe)
    (hsub : ∀ i ∈ is, i ∈ own.map (·.2)) (hs : ∀ x, foldedSetIterable iter X.env x = pure x := by intro _; rfl) :
    PSt X (.Assign [.Name y py] (.ListComp elt [⟨tg, iter, ifs, 0⟩] scope pos) spos) (gOwn i (fLc itf bind test fe (own.map (·.2)))) := ⟨fun E => ps_imp (ps_setLc hc hN hy hyl hsw (hi.pi E) ok (fun s H C cl fp => (hg s H C cl fp).pg E) (fun s H C cl fp => (ht s H C cl fp).pt E) (fun s H C cl fp => (he s H C cl fp).pe E) hs) fun W σ H ⟨F, ρ, o, A, ef, k⟩ => by
  obtain ⟨t, et, rfl⟩ := Option.map_eq_some_iff.mp ef
  exact lc_D hsub ⟨F, ρ, t, A, et, fun v fa F' H' g r nd nw => k _ F' H' g.f (A.set r g nd nw)⟩⟩
/-- a shared field of an object of this frame -/
def fldT (f : Str) : List Str → List T → Option D
  | n :: ns, t :: ts => if f = n then (match t with
    | .sh d => some d
    | _ => none) else fldT f ns ts
  | _, _ => none
theorem fldT_own {K : PySem.W.Frag} {B : En} {F H : Hp} {f : Str} {d : D} : ∀ {ns : List Str} {ts : List T} {vs : List V} {fp : List Addr}, Owns K B F H ts (vs.map some) fp → ns.length = vs.length → fldT f ns ts = some d → ∃ v, (ns.zip vs).lookup f = some v ∧ Rep K F d v
  | [], ts, vs, fp, _, _, e => by cases ts <;> simp [fldT] at e
  | n :: ns, [], vs, fp, _, _, e => by simp [fldT] at e
  | n :: ns, t :: ts, [], fp, _, hl, _ => by simp at hl
  | n :: ns, t :: ts, v :: vs, fp, ⟨ov, r, fa, fb, e0, e1, h, q⟩, hl, e => by
    rw [List.map_cons] at e0
    cases e0
    unfold fldT at e
    rw [List.zip_cons_cons, List.lookup_cons]
    by_cases z : f = n
    · rw [if_pos z] at e
      cases t <;> simp only at e <;> try (cases e; done)
      cases e
      obtain ⟨_, v', ev, rv⟩ := h
      cases ev
      simp [z]
      exact rv
    · rw [if_neg z] at e
      have : (f == n) = false := beq_eq_false_iff_ne.mpr z
      rw [this]
      exact fldT_own q (by simpa using hl) e
def fFldO (c f : Str) (fp : Rho → Option (Nat × List Nat)) : FX := fun ρ => (fp ρ).bind fun ip => (T.node ρ ip).bind fun t => match t with
  | .ob _ c' ns ts => if c' = c then fldT f ns ts else none
  | _ => none
theorem x_fldO {fp : Rho → Option (Nat × List Nat)} {c fl : Str} (hf : FldOk X.K c fl) (ho : PPa X a fp) (hb : attributeBase a fl X.env (eval a X.env) = eval a X.env := by rfl) : PX X md (.Attribute a fl pos) (fFldO c fl fp) := px_up ⟨fun E => pe_imp (pe_fld (ho.pe E) hb) fun σ H Q ⟨F, ρ, d, A, ef, k⟩ => by
  obtain ⟨ip, eip, ef⟩ := Option.bind_eq_some_iff.mp ef
  obtain ⟨t1, en, ef⟩ := Option.bind_eq_some_iff.mp ef
  refine ⟨F, ρ, ip, A, eip, fun v F1 H1 g1 ⟨u, es, nv⟩ => ?_⟩
  cases t1 <;> simp only at ef <;> try (cases ef; done)
  obtain ⟨ec, ef2⟩ := Option.ite_none_right_eq_some.mp ef
  clear ef
  subst ec
  obtain ⟨fa0, p, dx, vs, fq, h0, h1, hmk, h2, hl0, h3, h4, h5⟩ := node_of A g1 en es nv
  cases h0
  obtain ⟨z, ez, rz⟩ := fldT_own h5 hl0 ef2
  exact ⟨p, _, dx, _, z, rfl, h2, hf.cls, hf.no, ez, k z F1 H1 g1 rz⟩⟩
/-- a constant of the module -/
def GV (K : PySem.W.Frag) (mg : Str → Option Value) (x : Str) (d : D) : Prop := ∃ u v, mg x = some u ∧ RelV v u ∧ ∀ F, Rep K F d v
theorem x_gv {d : D} (h : GV X.K X.mg x d) (hg : Gl X x) (hd : (x == ("__debug__" : Str)) = false := by decide) : PX X md (.Name x pos) (cst d) := by
  obtain ⟨u, v, h1, h2, h3⟩ := h
  exact x_glob hg h1 h2 h3 hd
theorem room_u1 {k : Nat} {A : Around} (r : Room k A) : A.units + 1 < cLine := by have := r.units; omega
/-- a def that promises nothing -/
theorem ok_zero {P : Program} {w : World} {K : PySem.W.Frag} {mg : Str → Option Value} {base : Heap} {CX : CXT} {f : Addr} {fd : FuncData} {ps : List Str} {n : Nat} (hn : ps.length = n) : FnOk P w K mg base CX k f fd ps (spF K n fun _ => none) :=
  ⟨fun vs H Q E ⟨_, _, _, _, _, _, e, _⟩ => (nomatch e), fun A outer s H args us vs Q E _ _ _ _ ⟨_, _, _, _, _, _, e, _⟩ => (nomatch e)⟩
theorem cal_of {P : Program} {w : World} {K : PySem.W.Frag} {mg : Str → Option Value} {base : Heap} {f : Addr} {fd : FuncData} {ps : List Str} {m : List D → Option D} (F : FnOk P w K mg base C8.CX0 k f fd ps (spF K n m)) (hm : mg x = some (.ref f)) (kp : PySem.W.keepIn K (.ref f) = true) (b : Binds K fd ps []) : CalF P w K mg base k x n m [] :=
  ⟨[], ⟨f, fd, ps, [], F, hm, kp, b, .nil⟩, fun _ => rfl⟩
theorem atW (h : PX X .w a fa) : PX X .w a fa := h
theorem atQ (h : PX X .q a fa) : PX X .q a fa := h
theorem b_inD {b : Expr} (hu : X.A.units + 1 < cLine) (ha : PX X m1 a fa) (hb : PX X m2 b fb) (h1 : behindInMarks .In b = false := by rfl) : PB X (.Compare a [.In] [b] pos) (tBl (f2 gInD fa fb)) := ⟨fun E => pt_imp (pt_cmp (pc_din hu (ha.pe E) (hb.pe E)) h1) fun σ H Q ⟨F, ρ, d, A, ef, k⟩ => by
  have ef := tBl_some ef
  obtain ⟨x, ex, ef⟩ := Option.bind_eq_some_iff.mp ef
  obtain ⟨y, ey, ef⟩ := Option.bind_eq_some_iff.mp ef
  refine ⟨F, ρ, x, A, ex, fun v F1 H1 g1 r1 => ?_⟩
  refine ⟨F1, ρ, y, A.grow g1, ey, fun w F2 H2 g2 r2 => ?_⟩
  cases y <;> simp only [gInD] at ef <;> try (cases ef; done)
  obtain ⟨ky, ek, e2⟩ := Option.map_eq_some_iff.mp ef
  cases e2
  obtain ⟨p, o, rfl, hg, hs, _⟩ := dget_of ((r1.grow g2).dn g2.fh) ek (r2.dn g2.fh)
  exact ⟨p, o, rfl, hg, _, by rw [hs], k F2 H2 (g1.trans g2)⟩⟩
theorem b_notInD {b : Expr} (hu : X.A.units + 1 < cLine) (ha : PX X m1 a fa) (hb : PX X m2 b fb) (h1 : behindInMarks .NotIn b = false := by rfl) : PB X (.Compare a [.NotIn] [b] pos) (tBl (f2 gNotInD fa fb)) := ⟨fun E => pt_imp (pt_cmp (pc_dnotin hu (ha.pe E) (hb.pe E)) h1) fun σ H Q ⟨F, ρ, d, A, ef, k⟩ => by
  have ef := tBl_some ef
  obtain ⟨x, ex, ef⟩ := Option.bind_eq_some_iff.mp ef
  obtain ⟨y, ey, ef⟩ := Option.bind_eq_some_iff.mp ef
  refine ⟨F, ρ, x, A, ex, fun v F1 H1 g1 r1 => ?_⟩
  refine ⟨F1, ρ, y, A.grow g1, ey, fun w F2 H2 g2 r2 => ?_⟩
  cases y <;> simp only [gNotInD] at ef <;> try (cases ef; done)
  obtain ⟨ky, ek, e2⟩ := Option.map_eq_some_iff.mp ef
  cases e2
  obtain ⟨p, o, rfl, hg, hs, _⟩ := dget_of ((r1.grow g2).dn g2.fh) ek (r2.dn g2.fh)
  exact ⟨p, o, rfl, hg, _, by rw [hs], k F2 H2 (g1.trans g2)⟩⟩
def fRep (ft : Rho → Option T) (fb : FX) : Rho → Option T := fun ρ => (ft ρ).bind fun t => (fb ρ).bind fun d => gRep t d
end
end FL

/-! FLSort: sorted(set(xs)) of a list of ints. -/
namespace FL
open L2 PyProof.Rows PySem.Spec PySem SX C8
/-- a set that was just laid -/
abbrev nSet (w : World) : Obj := { cls := .type "set", dict := none, data := .set #[] 0 (.fresh 0 0 (!w.params.followText "set-order")) }
section
variable {P : Program} {w : World} {A : Around} {E : Value → Shared → Prop} {s : Shared}
/-- what the set's __init__ does with a list of ints -/
theorem set_init_lst {l : Addr} {xs : Array Value} (ns : List Int) (hh : A.handled = none) (hl : s.heap.IsList l xs) (hi : IntsAre xs.toList ns) (hb : ns.length + 1 < scanBound) :
    codeAny (model P w) A (.call (.builtin "set.__init__") ⟨[.ref s.heap.objs.size, .ref l], []⟩) (wants (fun r s₂ => r = .none ∧ ∃ h' tk c, s₂ = { s with heap := h', toks := tk } ∧ SetR w h' s.heap.objs.size (fun j => decide (j ∈ ns)) c ∧ c ≤ ns.length ∧
      (∀ b o, s.heap.get? b = some o → h'.get? b = some o)) E) { s with heap := s.heap.push (nSet w) } := by
  have hS : (s.heap.push (nSet w)).get? s.heap.objs.size = some (nSet w) := Heap.get?_push_size _ rfl
  have hT : Shared.TypeIs { s with heap := s.heap.push (nSet w) } (.ref s.heap.objs.size) "set" := ⟨_, hS, rfl⟩
  have hz : xs.size = ns.length := by rw [← IntsAre.length hi, Array.length_toList]
  refine codeAny_call_builtin F.called_set.init.plain F.entry_set_init (check_set_init_1 hT ?_)
  obtain ⟨ol, hol, hcl, nl, hdl⟩ := hl
  obtain ⟨c0, d0, dt0, sl0⟩ := ol
  simp only at hcl hdl
  subst hcl hdl
  have hol2 : (s.heap.push (nSet w)).get? l = some { cls := .type "list", dict := d0, data := .seq xs nl, slots := sl0 } := Heap.get?_push_of_some _ hol
  have t1 := F.sub_list_set
  have t2 := F.sub_list_frozenset
  have t3 : (Value.type "list" == Value.type "dict") = false := by decide
  have hl1 : (s.heap.push (nSet w)).IsList l xs := ⟨_, hol2, rfl, nl, rfl⟩
  have hlS : l < s.heap.objs.size := Heap.lt_size hol
  have hzp : (s.heap.push (nSet w)).objs.size = s.heap.objs.size + 1 := Heap.size_push ..
  unfold Builtin.«set.__init__» noKeywords Builtin.Frozenset.updateFrom
  generalize hPI : pyIter = PI
  wp_walk
  subst hPI
  refine wpAny_pyIter_list hl1 (wpAny_bind (wpAny_runValue ?_))
  have h3 : A.in1.in1.handled = none := by simp [hh]
  have hne : l ≠ (s.heap.push (nSet w)).objs.size := by
    rw [hzp]
    exact Nat.ne_of_lt (Nat.lt_succ_of_lt hlS)
  have hSf : s.heap.objs.size ∉ [(s.heap.push (nSet w)).objs.size, l] := by
    rw [hzp]
    intro hm
    rcases List.mem_cons.mp hm with e | hm
    · exact Nat.ne_of_lt (Nat.lt_succ_self _) e
    · exact Nat.ne_of_gt hlS (List.mem_singleton.mp hm)
  have hval : ∀ (i : Nat) (v : Value), xs[i]? = some v → ∃ k t, ns[i]? = some k ∧ v = .int k t := fun i v hv => by
    have hlt : i < ns.length := by rw [← hz]; exact (Array.getElem?_eq_some_iff.mp hv).1
    obtain ⟨t, e⟩ := PyProof.Rows.IntsAre.int_at hi i v (by rw [Array.getElem?_toList]; exact hv)
    exact ⟨ns[i], t, List.getElem?_eq_getElem hlt, by rw [e, List.getD_eq_getElem?_getD, List.getElem?_eq_getElem hlt]; rfl⟩
  refine set_update_ints ((Walks.list h3 _ l hne xs).toS) s.heap.objs.size hSf ns hz hb hval (xs.size - 0) 0 _ (by omega) (Nat.zero_le _) ?st1 ?st0 ?fin
  case st1 => exact ⟨⟨_, Heap.get?_push_size _ rfl, rfl, rfl⟩, hl1.push _⟩
  case st0 =>
    have hget := Heap.get?_push_of_some { cls := .type "list_iterator", data := .fields #[.ref l, .int 0 0] } hS
    exact ⟨0, Nat.le_refl 0, setR_new_at hget⟩
  intro s' c hm hc hS'
  obtain ⟨h', g2, d2, tk, os2⟩ := s'
  obtain rfl : g2 = s.gens := hm.gens
  obtain rfl : d2 = s.drawn := hm.drawn
  obtain rfl : os2 = s.os := hm.os
  refine wpAny_pure (wpAny_pure ⟨rfl, h', tk, c, rfl, hS', by rw [← hz]; exact hc, fun b o e => ?_⟩)
  have hb0 : b < s.heap.objs.size := Heap.lt_size e
  refine hm.heap b o ?_ (Heap.get?_push_of_some _ (Heap.get?_push_of_some _ e))
  rw [hzp]
  intro hm2
  rcases List.mem_cons.mp hm2 with e2 | hm2
  · exact Nat.ne_of_lt hb0 e2
  · exact Nat.ne_of_lt (Nat.lt_succ_of_lt hb0) (List.mem_singleton.mp hm2)
theorem set_of_lst {l : Addr} {xs : Array Value} (ns : List Int) {Q : Value → Shared → Prop} (hh : A.handled = none) (hl : s.heap.IsList l xs) (hi : IntsAre xs.toList ns) (hb : ns.length + 1 < scanBound)
    (h : ∀ (h' : Heap) (tk c : Nat), SetR w h' s.heap.objs.size (fun j => decide (j ∈ ns)) c → c ≤ ns.length → (∀ b o, s.heap.get? b = some o → h'.get? b = some o) → Q (.ref s.heap.objs.size) { s with heap := h', toks := tk }) :
    wpAny (model P w) A (call (.type "set") [.ref l]) Q E s := by
  obtain ⟨c, tl, hmro⟩ := F.called_set.mro
  have hmade := F.called_set.made
  have hsub := F.called_set.sub
  refine wpAny_call (codeAny_of_tree (show wpAny _ _ (callAny (.type "set") _) _ _ _ from wpAny_pure ⟨Code.quiet_builtin _ (by decide +kernel), codeAny_builtin F.entry_type_call ?_⟩))
  rw [Around.under_plain (weight_type_call_type "set" [.ref l] []) rfl]
  have n1 := F.called_set.notType
  have n2 := F.called_set.canCreate
  have n3 := F.typeCall_set_1 (.ref l)
  repeat (any_goals (first | assumption | wp_step))
  refine codeAny_mono (code_set_led1 (.ref l) (E := E) (Q₁ := fun obj s₁ => obj = .ref s.heap.objs.size ∧ s₁ = { s with heap := s.heap.push (nSet w) }) ⟨rfl, rfl⟩) fun r s₁ hr => ?_
  cases r with
  | error e => exact hr
  | ok fl =>
    cases fl with
    | ret obj =>
      obtain ⟨rfl, rfl⟩ := hr
      have hS : (s.heap.push (nSet w)).get? s.heap.objs.size = some (nSet w) := Heap.get?_push_size _ rfl
      have hT : Shared.TypeIs { s with heap := s.heap.push (nSet w) } (.ref s.heap.objs.size) "set" := ⟨_, hS, rfl⟩
      have hli := F.called_set.init.lookup
      have hbi := F.called_set.init.bind (.ref s.heap.objs.size)
      repeat (any_goals (first | assumption | wp_step))
      refine codeAny_mono (set_init_lst (P := P) (E := E) ns (by simpa using hh) hl hi hb) fun r₂ s₂ hr₂ => ?_
      cases r₂ with
      | error e => exact hr₂
      | ok f2 =>
        cases f2 with
        | ret r =>
          obtain ⟨rfl, h', tk, c', rfl, hS', hc', hk'⟩ := hr₂
          repeat (any_goals (first | assumption | wp_step))
          exact h _ _ _ hS' hc' hk'
        | _ => exact hr₂.elim
    | _ => exact hr.elim
end
section
variable {X : Cx} {e a : Expr} {fa : FX} {mc : Md} {p p2 pos pos1 : Pos}
def rSetL (w : World) (K : PySem.W.Frag) : List V → Hp → VK → Prop := fun vs H Q => ∃ (a : Addr) (ns : List Int), vs = [V.ref a] ∧ SqL K H a (ns.map V.int) ∧ ns.length + 1 < scanBound ∧ ∀ q c, H q = none → c ≤ ns.length → Q (.ref q) (upd H q (SetO w q (fun j => decide (j ∈ ns)) c))
theorem cr_setL (hc : X.calm = true) : CallR X (.type "set") (rSetL X.w X.K) := by
  intro pins s σ H vs us Q I r h
  obtain ⟨a, ns, rfl, hs, hb, q⟩ := h
  obtain ⟨its, rv, hl, _⟩ := I.list hs
  rw [Vals.ref1 r]
  refine set_of_lst ns (I.ok.hd hc) hl.isList (by simpa using rv.ints) hb fun h' tk c R hcn k => ?_
  exact ⟨.ref s.heap.objs.size, _, I.laid k (Nat.le_refl _) (setO_new R), rfl, q _ c (I.hok.fresh (Nat.le_refl _)) hcn⟩
/-- the members, ascending, each once -/
def ded : List Int → List Int
  | [] => []
  | x :: l => if x ∈ l then ded l else x :: ded l
theorem mem_ded {k : Int} : ∀ {l : List Int}, k ∈ ded l ↔ k ∈ l
  | [] => Iff.rfl
  | x :: l => by
    unfold ded
    by_cases h : x ∈ l
    · rw [if_pos h, mem_ded, List.mem_cons]
      exact ⟨.inr, fun q => q.elim (fun e => e ▸ h) id⟩
    · rw [if_neg h, List.mem_cons, List.mem_cons, mem_ded]
theorem ded_sub : ∀ l : List Int, (ded l).Sublist l
  | [] => .slnil
  | x :: l => by
    unfold ded
    by_cases h : x ∈ l
    · rw [if_pos h]; exact (ded_sub l).cons _
    · rw [if_neg h]; exact (ded_sub l).cons_cons _
theorem ded_nodup : ∀ l : List Int, (ded l).Nodup
  | [] => .nil
  | x :: l => by
    unfold ded
    by_cases h : x ∈ l
    · rw [if_pos h]; exact ded_nodup l
    · rw [if_neg h]; exact List.nodup_cons.mpr ⟨fun q => h (mem_ded.mp q), ded_nodup l⟩
def sortSet (ns : List Int) : List Int := ded (sortI ns)
theorem pairwise_lt_of {l : List Int} (h : l.Pairwise (· ≤ ·)) (d : l.Nodup) : l.Pairwise (· < ·) := by
  refine (h.and d).imp fun ⟨h1, h2⟩ => by omega
theorem sorted_unique : ∀ {l m : List Int}, l.Pairwise (· < ·) → m.Pairwise (· < ·) → (∀ k, k ∈ l ↔ k ∈ m) → l = m
  | [], [], _, _, _ => rfl
  | [], y :: m, _, _, h => absurd ((h y).mpr (by simp)) (by simp)
  | x :: l, [], _, _, h => absurd ((h x).mp (by simp)) (by simp)
  | x :: l, y :: m, hl, hm, h => by
    obtain ⟨l1, l2⟩ := List.pairwise_cons.mp hl
    obtain ⟨m1, m2⟩ := List.pairwise_cons.mp hm
    have e : x = y := by
      rcases List.mem_cons.mp ((h x).mp (by simp)) with e | e
      · exact e
      · rcases List.mem_cons.mp ((h y).mpr (by simp)) with e2 | e2
        · exact e2.symm
        · have := m1 x e; have := l1 y e2; omega
    subst e
    rw [sorted_unique l2 m2 fun k => ⟨fun hk => ?_, fun hk => ?_⟩]
    · rcases List.mem_cons.mp ((h k).mp (List.mem_cons_of_mem _ hk)) with e | e
      · have := l1 k hk; omega
      · exact e
    · rcases List.mem_cons.mp ((h k).mpr (List.mem_cons_of_mem _ hk)) with e | e
      · have := m1 k hk; omega
      · exact e
theorem sortSet_lt (ns : List Int) : (sortSet ns).Pairwise (· < ·) :=
  pairwise_lt_of (List.Pairwise.sublist (ded_sub _) (sortI_le ns)) (ded_nodup _)
theorem mem_sortSet {ns : List Int} {k : Int} : k ∈ sortSet ns ↔ k ∈ ns := by
  unfold sortSet
  rw [mem_ded]
  exact (sortI_perm ns).mem_iff
def gSortSet (d : D) : Option T := d.listInts.bind fun ns => if ns.length ≤ 62 then some (.ls (((sortSet ns).map D.int).map T.sh)) else none
theorem o_sortSet (hc : X.calm = true) (hg : Gl X "sorted") (hm : X.mg "sorted" = none) (hg2 : Gl X "set") (hm2 : X.mg "set" = none) (ha : PX X mc a fa) (na : starEach [a] X.env = (false, eval a X.env) :: starEach [] X.env := by rfl)
    (nb : starEach [.Call (.Name "set" p2) [a] [] pos1] X.env = (false, eval (.Call (.Name "set" p2) [a] [] pos1) X.env) :: starEach [] X.env := by rfl)
    (hpl : (backTo pos (starEach [] X.env)).any (·.1) = false := by rfl) (hpl1 : (backTo pos1 (starEach [] X.env)).any (·.1) = false := by rfl) :
    PO X (.Call (.Name "sorted" p) [.Call (.Name "set" p2) [a] [] pos1] [] pos) (fO1 gSortSet fa) :=
  ⟨fun E => pe_imp (pe_callB (cr_sortedSet hc) hg hm (by decide +kernel) (pa_cons (pe_callTy (cr_setL hc) hg2 hm2 (by decide +kernel) (pa_cons (ha.pe E) pa_nil na) (by decide) (by decide) na hpl1) pa_nil nb) (by decide) (by decide) nb hpl) fun σ H Q ⟨F, ρ, t, A, ef, k⟩ => by
  obtain ⟨d, ed, ef⟩ := Option.bind_eq_some_iff.mp ef
  obtain ⟨ns, en, ef⟩ := Option.bind_eq_some_iff.mp ef
  obtain ⟨c, ef⟩ := Option.ite_none_right_eq_some.mp ef
  cases ef
  refine ⟨F, ρ, d, A, ed, fun v F1 H1 g1 r1 => ?_⟩
  obtain ⟨q, rfl, h⟩ := listInts_of (r1.dn g1.fh) en
  refine ⟨q, ns, rfl, h, by unfold scanBound; omega, fun l c hl hcn => ?_⟩
  refine ⟨l, _, c, rfl, upd_same, by omega, fun ns' z hp hm hlen hz => ?_⟩
  have e : ns' = sortSet ns := sorted_unique hp (sortSet_lt ns) fun k => by rw [hm k, mem_sortSet]; simp
  subst e
  have g2 := g1.lay (o := SetO X.w l (fun j => decide (j ∈ ns)) c) hl
  exact k _ [z] F1 _ (g2.lay hz) (own_new g2.fh (A.base.bh.trans g2.h) hz (reps_ints _)) (by simp) (by simp [g2.h.free hz])⟩
end
end FL

/-! FLHead: a head's Hook that also tells tuples; packages of defs by the head's facts. -/
namespace FL
open L2 PyProof.Rows PySem.Spec PySem SX C8
/-- tuples of the module, by name -/
abbrev Tbs : Type := List (Str × List He.Dv)
def tbB (tb : Tbs) (K : PySem.W.Frag) : Bool := tb.all fun p => He.tupB K p.1 p.2
def obsT (n : Nat) (fa : List He.Fa) (fn : List He.DefD) (tb : Tbs) (g : Addr → Option Obj) : Bool × He.AlD := (tbB tb (He.frG g (He.asD g n)), He.obsD fa fn (He.frG g (He.asD g n)))
def SaysT (fa : List He.Fa) (fn : List He.DefD) (tb : Tbs) (K : PySem.W.Frag) : Prop := tbB tb K = true ∧ He.SaysD fa fn K
def hookT (n : Nat) (fa : List He.Fa) (fn : List He.DefD) (tb : Tbs) : PySem.W.Hook where
  α := Bool × He.AlD
  obs := fun s => obsT n fa fn tb s.heap.get?
  val := fun _ => (true, He.valD fn)
  says := fun _ h => ∃ K : PySem.W.Frag, K.In h ∧ SaysT fa fn tb K
  of := fun _ _ e => ⟨_, He.frG_in, congrArg (fun z : Bool × He.AlD => z.1) e, congrArg (fun z : Bool × He.AlD => z.2) e⟩
  keeps := fun _ _ _ ⟨K, hK, c⟩ k => ⟨K, PySem.W.Frag.In.keeps hK k, c⟩
theorem obsT_eq {n : Nat} {fa : List He.Fa} {fn : List He.DefD} {tb : Tbs} {g : Addr → Option Obj} {s : Shared} (h : ∀ a, g a = s.heap.get? a) : obsT n fa fn tb g = (hookT n fa fn tb).obs s := by
  have e : g = s.heap.get? := funext h
  rw [e]
  rfl
section
variable {P : Program} {w : World} {K : PySem.W.Frag} {mg : Str → Option Value} {base h : Heap} {fa : List He.Fa} {fn : List He.DefD} {tb : Tbs}
theorem gv_int (X : K.In h) (G : h.Ns mainGlobals mg) {x : Str} {i : Int} (c : (He.Fa.int x i).ok K = true) : GV K mg x (.int i) := by
  obtain ⟨t, e⟩ := He.int_ok X G c
  exact ⟨_, .int i, e, ⟨t, rfl⟩, fun F => by simp [Rep]⟩
theorem gv_str (X : K.In h) (G : h.Ns mainGlobals mg) {x z : Str} (c : (He.Fa.str x z).ok K = true) : GV K mg x (.str z) := by
  obtain ⟨t, e⟩ := He.str_ok X G c
  exact ⟨_, .str z, e, ⟨t, rfl⟩, fun F => by simp [Rep]⟩
theorem gv_tup (X : K.In h) (G : h.Ns mainGlobals mg) {x : Str} {xs : List Str} (c : (He.Fa.glo x).ok K = true) (t : tbB tb K = true) (m : (x, xs.map He.Dv.str) ∈ tb) : GV K mg x (.tup (xs.map D.str)) := by
  have e := He.glo_ok X G c
  have q := List.all_eq_true.mp t _ m
  refine ⟨_, .ref (He.ga K x), e, rfl, fun F => ⟨_, _, rfl, He.tupB_ok q F, ?_⟩⟩
  rw [List.map_map]
  exact reps_map (f := D.str) (g := fun z => He.Dv.v K (He.Dv.str z)) (fun _ => by simp [Rep, He.Dv.v]) xs
theorem cal_dflt {f : Addr} {fd : FuncData} {ps : List Str} {x : Str} {k n : Nat} {m : List D → Option D} {dds : List D} {dvs : List V} (F : FnOk P w K mg base C8.CX0 k f fd ps (spF K n m)) (hm : mg x = some (.ref f)) (kp : PySem.W.keepIn K (.ref f) = true) (b : ∃ ds, Vals dvs ds ∧ Binds K fd ps ds) (r : ∀ F, Reps K F dds dvs) : CalF P w K mg base k x n m dds := by
  obtain ⟨ds, v, b⟩ := b
  exact ⟨dvs, ⟨f, fd, ps, ds, F, hm, kp, b, v⟩, r⟩
theorem mak_of {f : Addr} {fd : FuncData} {ps : List Str} {x : Str} {k n : Nat} {m : List D → Option (List Str × List D)} (M : Mk K (He.ga K x) f) (F : FnOk P w K mg base C8.CX0 k f fd ps (spI K x n m)) (hm : mg x = some (.ref (He.ga K x))) (b : Binds K fd ps []) : MakF P w K mg base k x n m [] :=
  ⟨[], ⟨f, fd, ps, [], M, F, hm, b, .nil⟩, fun _ => rfl⟩
theorem met_of {f : Addr} {fd : FuncData} {ps : List Str} {c x : Str} {k n : Nat} {m : List D → Option D} (C : Cls K (He.ga K c)) (M : Meth K (He.ga K c) x f) (F : FnOk P w K mg base C8.CX0 k f fd ps (spF K n m)) (b : Binds K fd ps []) : MetF P w K mg base k c x n m [] :=
  ⟨[], ⟨f, fd, ps, [], C, M, F, b, .nil⟩, fun _ => rfl⟩
/-- the keyword-only parameters all written: no defaults of the others -/
theorem calk_of {x qual : Str} {params : Arguments} {body : List Stmt} {scope : Scope} {kws : List (Str × V)} {f : Addr} {fd : FuncData} {ps ks : List Str} {k n pn : Nat} {m : List D → Option D} (Fd : FunD K x qual params body scope [] kws f fd) (F : FnOk P w K mg base C8.CX0 k f fd ps (spF K n m)) (hm : mg x = some (.ref f))
    (h : ∀ (kV doc pm : Value) (an : Option Addr) (cdv ct : Value) (us ws : List Value), us.length = pn → ws.length = ks.length → bindArgs (PySem.W.fnOf x qual params body scope .none kV doc pm an cdv ct) ⟨us, ks.zip ws⟩ = pure (ps.zip (us ++ ws))) :
    CalK P w K mg base k x pn ks n (fun x y => x ++ y) m := by
  refine ⟨f, fd, ps, fun us ws => us ++ ws, fun vs zs => vs ++ zs, F, hm, Fd.kp, ⟨fun s us ws X l1 l2 => ?_, fun r1 r2 => r1.append r2⟩, fun F ds zs vs ws _ _ r1 r2 => r1.append r2⟩
  obtain ⟨oc, od, dV, kV, doc, pm, an, cdv, ct, osl, rfl, lk, hcd, hD, hK⟩ := Fd.ex
  rcases hD with ⟨_, rfl⟩ | ⟨e, _⟩
  · exact .of_eq (h kV doc pm an cdv ct us ws l1 l2)
  · exact absurd rfl e
end
end FL

/-! the defs of the law waysleft_k52_freest_bags: mirrors and derivations (printed by gen.py) -/
namespace G
open L2 PyProof.Rows PySem.Spec PySem SX C8 FL
def top (i : Nat) : Stmt := PySem.Challenge.pw_waysleft_k52_freest_bags.main.body.getD i (.Pass ⟨0, 0, 0, 0⟩)
theorem bo_len : bootBuiltins "len" = some (.builtin "len") := by decide +kernel
theorem bo_sum : bootBuiltins "sum" = some (.builtin "sum") := by decide +kernel
theorem bo_max : bootBuiltins "max" = some (.builtin "max") := by decide +kernel
theorem bo_min : bootBuiltins "min" = some (.builtin "min") := by decide +kernel
theorem bo_sorted : bootBuiltins "sorted" = some (.builtin "sorted") := by decide +kernel
theorem bo_abs : bootBuiltins "abs" = some (.builtin "abs") := by decide +kernel
theorem bo_isinstance : bootBuiltins "isinstance" = some (.builtin "isinstance") := by decide +kernel
theorem bo_list : bootBuiltins "list" = some (.type "list") := by decide +kernel
theorem bo_tuple : bootBuiltins "tuple" = some (.type "tuple") := by decide +kernel
theorem bo_int : bootBuiltins "int" = some (.type "int") := by decide +kernel
theorem bo_bool : bootBuiltins "bool" = some (.type "bool") := by decide +kernel
theorem bo_range : bootBuiltins "range" = some (.type "range") := by decide +kernel
theorem bo_set : bootBuiltins "set" = some (.type "set") := by decide +kernel
theorem bo_str : bootBuiltins "str" = some (.type "str") := by decide +kernel
def dRES : D := .tup [.str "each", .str "if", .str "or", .str "and", .str "not", .str "always", .str "never", .str "free", .str "letters", .str "rest", .str "size", .str "least"]
/-- what the walk asks of the module's names -/
structure Gx (K : PySem.W.Frag) (mg : Str → Option Value) : Prop where
  DIGITS : GV K mg "DIGITS" (.str "0123456789")
  KINDS : GV K mg "KINDS" (.int 6)
  LETTERS : GV K mg "LETTERS" (.str "abcdefghijklmnopqrstuvwxyz")
  RESERVED : GV K mg "RESERVED" (dRES)
  bool : mg "bool" = none
  f_names : FldOk K "Book" "names"
  f_nexts : FldOk K "Book" "nexts"
  f_sizes : FldOk K "Book" "sizes"
  int : mg "int" = none
  isinstance : mg "isinstance" = none
  len : mg "len" = none
  list : mg "list" = none
  max : mg "max" = none
  min : mg "min" = none
  range : mg "range" = none
  set : mg "set" = none
  sorted : mg "sorted" = none
  str : mg "str" = none
  sum : mg "sum" = none
  tuple : mg "tuple" = none
section
variable {P : Program} {w : World} {K : PySem.W.Frag} {mg : Str → Option Value} {base : Heap} {f : Addr} {fd : FuncData}
def homeward_kinds_1 : FS := gOwn 1 (fun _ => some (.di [] []))
def homeward_kinds_4t : Rho → Option Bool := tBl (f2 gInD (nm 4) (nmW 1))
def homeward_kinds_4e : FX := nm 4
def homeward_kinds_5 : FS := gPutD (pNm 1) (nm 3) (cst (.bl true))
def homeward_kinds_4 : FS := gIf (tOrF (tBl (f2 gEq (f1 gLen (f2 gIx (nm 0) (nm 3))) (cst (.int 0)))) (tBl (f2 gGt (f1 gLen (fGive (fLc (fSeq D.lt (f2 gIx (nm 0) (nm 3))) (gNm 4) homeward_kinds_4t homeward_kinds_4e [4]))) (cst (.int 0))))) homeward_kinds_5 (fun ρ => some (.nx ρ))
def homeward_kinds_3b : FS := homeward_kinds_4
def homeward_kinds_3 : FS := gFor (fRg1 (f1 gLen (nm 0))) (gNm 3) homeward_kinds_3b
def homeward_kinds_2b : FS := homeward_kinds_3
def homeward_kinds_2 : FS := gFor (fRg1 (f2 gAddI (f1 gLen (nm 0)) (cst (.int 1)))) (gNm 2) homeward_kinds_2b
def homeward_kinds_6 : FS := gFrz 1 (gRet (nm 1))
def homeward_kinds_g : FS := gSeq homeward_kinds_1 (gSeq homeward_kinds_2 homeward_kinds_6)
theorem nd_homeward_kinds : (["nexts", "homeward", "turn", "kind", "one"] : List Str).Nodup := by decide +kernel
def m_homeward_kinds : List D → Option D := mir 5 homeward_kinds_g
theorem ok_homeward_kinds (G : Gx K mg) (F : FunD K "homeward_kinds" "homeward_kinds" (defArgs (top 26)) (defBody (top 26)) (defScope (top 26)) [] [] f fd)  : FnOk P w K mg base C8.CX0 1 f fd ["nexts"] (spF K 1 m_homeward_kinds) :=
  have nd := nd_homeward_kinds
  f_ok (N := ["nexts", "homeward", "turn", "kind", "one"]) F ⟨rfl, rfl, rfl, nd, rfl, by decide +kernel, by decide +kernel⟩ fun cdv A outer s H E hr =>
    (k_cons (s_own nd rfl (.inr rfl) o_dict)
    (k_cons (s_for PassesOwn.never rfl (it_rg1 (st := true) (by rfl) G.range (atW (x_bin o_addI (atW (x_b1 c_len (by rfl) G.len bo_len (atW (x_nm 0)))) (atW x_int)))) (g_nm nd rfl (.inl rfl)) (k_one (s_for PassesOwn.never rfl (it_rg1 (st := true) (by rfl) G.range (atW (x_b1 c_len (by rfl) G.len bo_len (atW (x_nm 0))))) (g_nm nd rfl (.inl rfl)) (k_one (s_if (b_w (bw_or (b_cmp (o_eq hr.units) (atW (x_b1 c_len (by rfl) G.len bo_len (x_ix (mc := .s) (x_nm 0) (atW (x_nm 3))))) (atW x_int) (by rfl)) (bw_or1 (b_cmp o_gt (atW (x_b1 c_len (by rfl) G.len bo_len (atW (po_px (o_lc rfl nd (PIt.dn (st := false) (it_seq (x_ix (mc := .s) (x_nm 0) (atW (x_nm 3))))) (blkOk_by (own := [("one", 4)]) (by rfl)) (fun _ _ _ _ _ => (g_nm nd rfl (.inl rfl))) (fun _ _ _ _ _ => (ts_one (b_inD (room_u1 hr) (atW (x_nm 4)) (x_nmW 1)))) (fun _ _ _ _ _ => (x_nm 4)) (by decide)))))) (atW x_int) (by rfl))))) (k_one (s_putD (room_u1 hr) (p_nm 1) (atW (x_nm 3)) x_bl)) k_nil)))))
    (k_one (s_frz 1 (s_ret (x_nm 1))))))
def is_name_2 : FS := gRet (cst (.bl false))
def is_name_1 : FS := gIf (tOrF (tNotF (tBl (fChain gLe gLe (cst (.int 1)) (f1 gLen (nm 0)) (cst (.int 8))))) (tOrF (tBl (f2 gNotInS (f2 gIx (nm 0) (cst (.int 0))) (cst (.str "abcdefghijklmnopqrstuvwxyz")))) (tBl (f2 gIn (nm 0) (cst (dRES)))))) is_name_2 (fun ρ => some (.nx ρ))
def is_name_5 : FS := gRet (cst (.bl false))
def is_name_4 : FS := gIf (tAndF (tBl (f2 gNotInS (nm 1) (cst (.str "abcdefghijklmnopqrstuvwxyz")))) (tBl (f2 gNotInS (nm 1) (cst (.str "0123456789"))))) is_name_5 (fun ρ => some (.nx ρ))
def is_name_3b : FS := is_name_4
def is_name_3 : FS := gFor (fSeq D.strOf (nm 0)) (gNm 1) is_name_3b
def is_name_6 : FS := gRet (cst (.bl true))
def is_name_g : FS := gSeq is_name_1 (gSeq is_name_3 is_name_6)
theorem nd_is_name : (["text", "char"] : List Str).Nodup := by decide +kernel
def m_is_name : List D → Option D := mir 2 is_name_g
theorem ok_is_name (G : Gx K mg) (F : FunD K "is_name" "is_name" (defArgs (top 24)) (defBody (top 24)) (defScope (top 24)) [] [] f fd)  : FnOk P w K mg base C8.CX0 1 f fd ["text"] (spF K 1 m_is_name) :=
  have nd := nd_is_name
  f_ok (N := ["text", "char"]) F ⟨rfl, rfl, rfl, nd, rfl, by decide +kernel, by decide +kernel⟩ fun cdv A outer s H E hr =>
    (k_cons (s_if (b_w (bw_or (b_not (b_chain o_le o_le (atW x_int) (atW (x_b1 c_len (by rfl) G.len bo_len (atW (x_nm 0)))) (atW x_int))) (bw_or (b_cmp o_notInS (x_ix (mc := .s) (x_nm 0) (atW x_int)) (atW (x_gv G.LETTERS (by rfl))) (by rfl)) (bw_or1 (b_cmp o_in (atW (x_nm 0)) (atW (x_gv G.RESERVED (by rfl))) (by rfl)))))) (k_one (s_ret x_bl)) k_nil)
    (k_cons (s_for PassesOwn.never rfl (it_str (st := true) (atW (x_nm 0))) (g_nm nd rfl (.inl rfl)) (k_one (s_if (b_w (bw_and (b_cmp o_notInS (atW (x_nm 1)) (atW (x_gv G.LETTERS (by rfl))) (by rfl)) (bw_and1 (b_cmp o_notInS (atW (x_nm 1)) (atW (x_gv G.DIGITS (by rfl))) (by rfl))))) (k_one (s_ret x_bl)) k_nil)))
    (k_one (s_ret x_bl))))
def is_right_kind_1 : FS := gUnp (f2 gIx (nm 0) (nm 1)) (gTupD 3 (gsCons (gNm 2) (gsCons (gNm 3) (gsCons (gNm 4) gsNil))))
def is_right_kind_2e : FX := f2 gIx (f2 gIx (nm 0) (nm 7)) (cst (.int 0))
def is_right_kind_3 : FS := gRet (cst (.bl false))
def is_right_kind_2 : FS := gIf (tOrF (tNotF (tBl (fCall 1 m_is_name (aCons (nm 2) aNil) []))) (tBl (f2 gIn (nm 2) (fGive (fLc (fRg1 (nm 1)) (gNm 7) tYesF is_right_kind_2e [7]))))) is_right_kind_3 (fun ρ => some (.nx ρ))
def is_right_kind_5 : FS := gRet (cst (.bl false))
def is_right_kind_4 : FS := gIf (tNotF (tBl (fChain gLe gLe (cst (.int 1)) (nm 3) (cst (.int 3))))) is_right_kind_5 (fun ρ => some (.nx ρ))
def is_right_kind_6 : FS := gSet 5 (fGive (fO1 gList (nm 4)))
def is_right_kind_9 : FS := gRet (cst (.bl false))
def is_right_kind_8 : FS := gIf (tOrF (tNotF (tBl (fChain gLe gLt (cst (.int 0)) (f2 gIx (nm 5) (nm 6)) (f1 gLen (nm 0))))) (tBl (f2 gIn (f2 gIx (nm 5) (nm 6)) (fGive (fSlL (nm 5) fNoPart (fPart (nm 6))))))) is_right_kind_9 (fun ρ => some (.nx ρ))
def is_right_kind_7b : FS := is_right_kind_8
def is_right_kind_7 : FS := gFor (fRg1 (f1 gLen (nm 5))) (gNm 6) is_right_kind_7b
def is_right_kind_10 : FS := gRet (cst (.bl true))
def is_right_kind_g : FS := gSeq is_right_kind_1 (gSeq is_right_kind_2 (gSeq is_right_kind_4 (gSeq is_right_kind_6 (gSeq is_right_kind_7 is_right_kind_10))))
theorem nd_is_right_kind : (["kinds", "index", "name", "size", "nexts", "numbers", "place", "earlier"] : List Str).Nodup := by decide +kernel
def m_is_right_kind : List D → Option D := mir 8 is_right_kind_g
theorem ok_is_right_kind (G : Gx K mg) (F : FunD K "is_right_kind" "is_right_kind" (defArgs (top 25)) (defBody (top 25)) (defScope (top 25)) [] [] f fd) (c_is_name : CalF P w K mg base 1 "is_name" 1 m_is_name []) : FnOk P w K mg base C8.CX0 2 f fd ["kinds", "index"] (spF K 2 m_is_right_kind) :=
  have nd := nd_is_right_kind
  f_ok (N := ["kinds", "index", "name", "size", "nexts", "numbers", "place", "earlier"]) F ⟨rfl, rfl, rfl, nd, rfl, by decide +kernel, by decide +kernel⟩ fun cdv A outer s H E hr =>
    (k_cons (s_unp (x_ix (mc := .s) (x_nm 0) (atW (x_nm 1))) (g_tup rfl (gs_cons (g_nm nd rfl (.inl rfl)) (gs_cons (g_nm nd rfl (.inl rfl)) (gs_cons (g_nm nd rfl (.inl rfl)) gs_nil)))))
    (k_cons (s_if (b_w (bw_or (b_not (b_val (atW (x_call c_is_name hr (by decide) (by rfl) (as_cons (x_nm 2) as_nil))))) (bw_or1 (b_cmp o_in (atW (x_nm 2)) (atW (po_px (o_lc rfl nd (it_rg1 (st := false) (by rfl) G.range (atW (x_nm 1))) (blkOk_by (own := [("earlier", 7)]) (by rfl)) (fun _ _ _ _ _ => (g_nm nd rfl (.inl rfl))) (fun _ _ _ _ _ => ts_nil) (fun _ _ _ _ _ => (x_ix (mc := .s) (x_ix (mc := .s) (x_nm 0) (atW (x_nm 7))) (atW x_int))) (by decide)))) (by rfl))))) (k_one (s_ret x_bl)) k_nil)
    (k_cons (s_if (b_not (b_chain o_le o_le (atW x_int) (atW (x_nm 3)) (atW x_int))) (k_one (s_ret x_bl)) k_nil)
    (k_cons (s_set nd rfl (.inl rfl) (po_px (o_t1 c_list (by rfl) G.list bo_list (x_nm 4))))
    (k_cons (s_for PassesOwn.never rfl (it_rg1 (st := true) (by rfl) G.range (atW (x_b1 c_len (by rfl) G.len bo_len (atW (x_nm 5))))) (g_nm nd rfl (.inl rfl)) (k_one (s_if (b_w (bw_or (b_not (b_chain o_le o_lt (atW x_int) (x_ix (mc := .s) (x_nm 5) (atW (x_nm 6))) (atW (x_b1 c_len (by rfl) G.len bo_len (atW (x_nm 0)))))) (bw_or1 (b_cmp o_in (x_ix (mc := .s) (x_nm 5) (atW (x_nm 6))) (atW (po_px (o_slL (x_nm 5) pt_none (pt_some (atW (x_nm 6)))))) (by rfl))))) (k_one (s_ret x_bl)) k_nil)))
    (k_one (s_ret x_bl)))))))
def Book_init_1e : FX := f1 gTuple (nm 6)
def Book_init_1 : FS := gOwn 2 (fLc (fSeq D.lt (nm 1)) (gNm 6) tYesF Book_init_1e [6])
def Book_init_4 : FS := gNever
def Book_init_4a : FS := gNever
def Book_init_3 : FS := gFrz 2 (gIf (tNotF (tBl (fCall 2 m_is_right_kind (aCons (nm 2) (aCons (nm 3) aNil)) []))) Book_init_4a (fun ρ => some (.nx ρ)))
def Book_init_2b : FS := Book_init_3
def Book_init_2 : FS := gFor (fRg1 (f1 gLen (nmQ 2))) (gNm 3) Book_init_2b
def Book_init_5e : FX := nm 7
def Book_init_5 : FS := gUpd (pNm 0) (fSh (f1 gTuple (fGive (fLc (fSeq D.lt (nm 2)) (gTupD 3 (gsCons (gNm 7) (gsCons (gNm 8) (gsCons (gNm 9) gsNil)))) tYesF Book_init_5e [7, 8, 9])))) (hFld "Book" "names")
def Book_init_6e : FX := nm 8
def Book_init_6 : FS := gUpd (pNm 0) (fSh (f1 gTuple (fGive (fLc (fSeq D.lt (nm 2)) (gTupD 3 (gsCons (gNm 7) (gsCons (gNm 8) (gsCons (gNm 9) gsNil)))) tYesF Book_init_6e [7, 8, 9])))) (hFld "Book" "sizes")
def Book_init_7e : FX := f1 gTuple (fGive (fO1 gSortI (fGive (fO1 gList (nm 9)))))
def Book_init_7 : FS := gUpd (pNm 0) (fSh (f1 gTuple (fGive (fLc (fSeq D.lt (nm 2)) (gTupD 3 (gsCons (gNm 7) (gsCons (gNm 8) (gsCons (gNm 9) gsNil)))) tYesF Book_init_7e [7, 8, 9])))) (hFld "Book" "nexts")
def Book_init_8 : FS := gSet 4 (fCall 1 m_homeward_kinds (aCons (fFldO "Book" "nexts" (pNm 0)) aNil) [])
def Book_init_11 : FS := gNever
def Book_init_10 : FS := gIf (tBl (f2 gNotInD (nm 5) (nm 4))) Book_init_11 (fun ρ => some (.nx ρ))
def Book_init_9b : FS := Book_init_10
def Book_init_9 : FS := gFor (fRg1 (f1 gLen (nm 2))) (gNm 5) Book_init_9b
def Book_init_g : FS := gSeq Book_init_1 (gSeq Book_init_2 (gSeq Book_init_5 (gSeq Book_init_6 (gSeq Book_init_7 (gSeq Book_init_8 Book_init_9)))))
theorem nd_Book_init : (["self", "kinds", "rows", "index", "homeward", "kind", "triple", "name", "size", "nexts"] : List Str).Nodup := by decide +kernel
def m_Book_init : List D → Option (List Str × List D) := mirI 10 "Book" Book_init_g
theorem ok_Book_init (G : Gx K mg) (F : FunD K "__init__" "Book.__init__" (defArgs (inClass (top 27) 0)) (defBody (inClass (top 27) 0)) (defScope (inClass (top 27) 0)) [] [] f fd) (c_homeward_kinds : CalF P w K mg base 1 "homeward_kinds" 1 m_homeward_kinds []) (c_is_right_kind : CalF P w K mg base 2 "is_right_kind" 2 m_is_right_kind []) : FnOk P w K mg base C8.CX0 3 f fd ["self", "kinds"] (spI K "Book" 2 m_Book_init) :=
  have nd := nd_Book_init
  i_ok (N := ["self", "kinds", "rows", "index", "homeward", "kind", "triple", "name", "size", "nexts"]) F ⟨rfl, rfl, rfl, nd, rfl, by decide +kernel, by decide +kernel⟩ fun cdv A outer s H E hr =>
    (k_cons (s_setLc rfl nd rfl rfl (sw_true rfl rfl rfl rfl) (PIt.dn (st := false) (it_seq (x_nm 1))) (blkOk_by (own := [("triple", 6)]) (by rfl)) (fun _ _ _ _ _ => (g_nm nd rfl (.inl rfl))) (fun _ _ _ _ _ => ts_nil) (fun _ _ _ _ _ => (x_t1 c_tuple (by rfl) G.tuple bo_tuple (x_nm 6))) (by decide))
    (k_cons (s_for PassesOwn.never rfl (it_rg1 (st := true) (by rfl) G.range (atW (x_b1 c_len (by rfl) G.len bo_len (x_nmQ 2)))) (g_nm nd rfl (.inl rfl)) (k_one (s_frz 2 (s_if (b_not (b_val (atW (x_call c_is_right_kind hr (by decide) (by rfl) (as_cons (x_nm 2) (as_cons (x_nm 3) as_nil)))))) (k_one s_never) k_nil))))
    (k_cons (s_setA G.f_names (p_nm 0) (px_po (x_t1 c_tuple (by rfl) G.tuple bo_tuple (po_px (o_lc rfl nd (PIt.dn (st := false) (it_seq (x_nm 2))) (blkOk_by (own := [("name", 7), ("size", 8), ("nexts", 9)]) (by rfl)) (fun _ _ _ _ _ => (g_tup rfl (gs_cons (g_nm nd rfl (.inl rfl)) (gs_cons (g_nm nd rfl (.inl rfl)) (gs_cons (g_nm nd rfl (.inl rfl)) gs_nil))))) (fun _ _ _ _ _ => ts_nil) (fun _ _ _ _ _ => (x_nm 7)) (by decide))))))
    (k_cons (s_setA G.f_sizes (p_nm 0) (px_po (x_t1 c_tuple (by rfl) G.tuple bo_tuple (po_px (o_lc rfl nd (PIt.dn (st := false) (it_seq (x_nm 2))) (blkOk_by (own := [("name", 7), ("size", 8), ("nexts", 9)]) (by rfl)) (fun _ _ _ _ _ => (g_tup rfl (gs_cons (g_nm nd rfl (.inl rfl)) (gs_cons (g_nm nd rfl (.inl rfl)) (gs_cons (g_nm nd rfl (.inl rfl)) gs_nil))))) (fun _ _ _ _ _ => ts_nil) (fun _ _ _ _ _ => (x_nm 8)) (by decide))))))
    (k_cons (s_setA G.f_nexts (p_nm 0) (px_po (x_t1 c_tuple (by rfl) G.tuple bo_tuple (po_px (o_lc rfl nd (PIt.dn (st := false) (it_seq (x_nm 2))) (blkOk_by (own := [("name", 7), ("size", 8), ("nexts", 9)]) (by rfl)) (fun _ _ _ _ _ => (g_tup rfl (gs_cons (g_nm nd rfl (.inl rfl)) (gs_cons (g_nm nd rfl (.inl rfl)) (gs_cons (g_nm nd rfl (.inl rfl)) gs_nil))))) (fun _ _ _ _ _ => ts_nil) (fun _ _ _ _ _ => (x_t1 c_tuple (by rfl) G.tuple bo_tuple (po_px (o_b1 c_sortI (by rfl) G.sorted bo_sorted (atW (po_px (o_t1 c_list (by rfl) G.list bo_list (x_nm 9)))))))) (by decide))))))
    (k_cons (s_set nd rfl (.inl rfl) (x_call c_homeward_kinds hr (by decide) (by rfl) (as_cons (x_fldO G.f_nexts (p_nm 0)) as_nil)))
    (k_one (s_for PassesOwn.never rfl (it_rg1 (st := true) (by rfl) G.range (atW (x_b1 c_len (by rfl) G.len bo_len (atW (x_nm 2))))) (g_nm nd rfl (.inl rfl)) (k_one (s_if (b_notInD (room_u1 hr) (atW (x_nm 5)) (atW (x_nm 4))) (k_one s_never) k_nil))))))))))
def law_bag_1 : FS := gOwn 2 (fLst aoNil)
def law_bag_4 : FS := gUpd (pNm 2) (fSh (f2 gIx (nmQ 2) (f2 gSub (nm 3) (cst (.int 1))))) hApp
def law_bag_6 : FS := gUpd (pNm 2) (fSh (f2 gMod (f1 gInt (f2 gIx (nm 1) (f2 gAddI (cst (.int 2)) (nm 3)))) (f1 gLen (nm 0)))) hApp
def law_bag_3 : FS := gIf (tAndF (tBl (f2 gEq (f2 gIx (nm 1) (cst (.int 1))) (cst (.int 0)))) (tBl (f2 gEq (f2 gMod (f1 gInt (nm 3)) (cst (.int 2))) (cst (.int 1))))) law_bag_4 law_bag_6
def law_bag_2b : FS := law_bag_3
def law_bag_2 : FS := gFor (fRg1 (f2 gIx (fGive (fLst (aoCons (fSh (cst (.int 2))) (aoCons (fSh (cst (.int 3))) (aoCons (fSh (cst (.int 1))) (aoCons (fSh (cst (.int 4))) (aoCons (fSh (cst (.int 5))) (aoCons (fSh (cst (.int 2))) (aoCons (fSh (cst (.int 3))) (aoCons (fSh (cst (.int 6))) (aoCons (fSh (cst (.int 0))) (aoCons (fSh (cst (.int 8))) (aoCons (fSh (cst (.int 12))) (aoCons (fSh (cst (.int 4))) aoNil)))))))))))))) (f2 gIx (nm 1) (cst (.int 0))))) (gNm 3) law_bag_2b
def law_bag_7 : FS := gRet (f1 gTuple (fGive (fO1 gSortI (nmQ 2))))
def law_bag_g : FS := gSeq law_bag_1 (gSeq law_bag_2 law_bag_7)
theorem nd_law_bag : (["kinds", "row", "items", "k"] : List Str).Nodup := by decide +kernel
def m_law_bag : List D → Option D := mir 4 law_bag_g
theorem ok_law_bag (G : Gx K mg) (F : FunD K "_law_bag" "_law_bag" (defArgs (top 42)) (defBody (top 42)) (defScope (top 42)) [] [] f fd)  : FnOk P w K mg base C8.CX0 1 f fd ["kinds", "row"] (spF K 2 m_law_bag) :=
  have nd := nd_law_bag
  f_ok (N := ["kinds", "row", "items", "k"]) F ⟨rfl, rfl, rfl, nd, rfl, by decide +kernel, by decide +kernel⟩ fun cdv A outer s H E hr =>
    (k_cons (s_own nd rfl (.inl rfl) (o_lst ao_nil))
    (k_cons (s_for PassesOwn.never rfl (it_rg1 (st := true) (by rfl) G.range (x_ix (mc := .s) (po_px (o_lst (ao_cons (px_po x_int) (ao_cons (px_po x_int) (ao_cons (px_po x_int) (ao_cons (px_po x_int) (ao_cons (px_po x_int) (ao_cons (px_po x_int) (ao_cons (px_po x_int) (ao_cons (px_po x_int) (ao_cons (px_po x_int) (ao_cons (px_po x_int) (ao_cons (px_po x_int) (ao_cons (px_po x_int) ao_nil)))))))))))))) (x_ix (mc := .s) (x_nm 1) (atW x_int)))) (g_nm nd rfl (.inl rfl)) (k_one (s_if (b_w (bw_and (b_cmp (o_eq hr.units) (x_ix (mc := .s) (x_nm 1) (atW x_int)) (atW x_int) (by rfl)) (bw_and1 (b_cmp (o_eq hr.units) (atW (x_bin o_mod (atW (x_t1 c_int (by rfl) G.int bo_int (atW (x_nm 3)))) (atW x_int))) (atW x_int) (by rfl))))) (k_one (s_append (p_nm 2) (px_po (x_ix (mc := .q) (x_nmQ 2) (atW (x_bin o_sub (atW (x_nm 3)) (atW x_int))))))) (k_one (s_append (p_nm 2) (px_po (x_bin o_mod (atW (x_t1 c_int (by rfl) G.int bo_int (x_ix (mc := .s) (x_nm 1) (atW (x_bin o_addI (atW x_int) (atW (x_nm 3))))))) (atW (x_b1 c_len (by rfl) G.len bo_len (atW (x_nm 0)))))))))))
    (k_one (s_ret (x_t1 c_tuple (by rfl) G.tuple bo_tuple (po_px (o_b1 c_sortI (by rfl) G.sorted bo_sorted (x_nmQ 2))))))))
def law_cell_2 : FS := gRet (f2 gIx (nm 0) (nm 1))
def law_cell_1 : FS := gIf (tBl (f2 gLt (nm 1) (f1 gLen (nm 0)))) law_cell_2 (fun ρ => some (.nx ρ))
def law_cell_3 : FS := gSet 2 (cst (.int 17))
def law_cell_5 : FS := gSet 2 (f2 gMod (f1 gInt (f2 gAddI (f2 gMul (nm 2) (cst (.int 31))) (f2 gMod (f1 gInt (nm 3)) (cst (.int 1000003))))) (cst (.int 1000003)))
def law_cell_4b : FS := law_cell_5
def law_cell_4 : FS := gFor (fSeq D.lt (nm 0)) (gNm 3) law_cell_4b
def law_cell_6 : FS := gRet (f2 gMod (f1 gInt (f2 gMul (f2 gMul (f2 gAddI (nm 2) (cst (.int 7))) (f2 gAddI (nm 1) (cst (.int 3)))) (cst (.int 69621)))) (cst (.int 2147483647)))
def law_cell_g : FS := gSeq law_cell_1 (gSeq law_cell_3 (gSeq law_cell_4 law_cell_6))
theorem nd_law_cell : (["script", "k", "seed", "cell"] : List Str).Nodup := by decide +kernel
def m_law_cell : List D → Option D := mir 4 law_cell_g
theorem ok_law_cell (G : Gx K mg) (F : FunD K "_law_cell" "_law_cell" (defArgs (top 31)) (defBody (top 31)) (defScope (top 31)) [] [] f fd)  : FnOk P w K mg base C8.CX0 1 f fd ["script", "k"] (spF K 2 m_law_cell) :=
  have nd := nd_law_cell
  f_ok (N := ["script", "k", "seed", "cell"]) F ⟨rfl, rfl, rfl, nd, rfl, by decide +kernel, by decide +kernel⟩ fun cdv A outer s H E hr =>
    (k_cons (s_if (b_cmp o_lt (atW (x_nm 1)) (atW (x_b1 c_len (by rfl) G.len bo_len (atW (x_nm 0)))) (by rfl)) (k_one (s_ret (x_ix (mc := .s) (x_nm 0) (atW (x_nm 1))))) k_nil)
    (k_cons (s_set nd rfl (.inl rfl) x_int)
    (k_cons (s_for PassesOwn.never rfl (it_seq (x_nm 0)) (g_nm nd rfl (.inl rfl)) (k_one (s_set nd rfl (.inl rfl) (x_bin o_mod (atW (x_t1 c_int (by rfl) G.int bo_int (atW (x_bin o_addI (atW (x_bin o_mul (atW (x_nm 2)) (atW x_int))) (atW (x_bin o_mod (atW (x_t1 c_int (by rfl) G.int bo_int (atW (x_nm 3)))) (atW x_int))))))) (atW x_int)))))
    (k_one (s_ret (x_bin o_mod (atW (x_t1 c_int (by rfl) G.int bo_int (atW (x_bin o_mul (atW (x_bin o_mul (atW (x_bin o_addI (atW (x_nm 2)) (atW x_int))) (atW (x_bin o_addI (atW (x_nm 1)) (atW x_int))))) (atW x_int))))) (atW x_int)))))))
def law_digits_1 : FS := gOwn 2 (fLst aoNil)
def law_digits_2 : FS := gSet 3 (f1 gInt (nm 0))
def law_digits_4 : FS := gSet 3 (f2 gSub (nm 3) (f2 gPow (cst (.int 10)) (cst (.int 18))))
def law_digits_6 : FS := gUpd (pNm 2) (fSh (f2 gMod (f1 gInt (nm 3)) (nm 4))) hApp
def law_digits_7 : FS := gSet 3 (f2 gFdiv (f1 gInt (nm 3)) (nm 4))
def law_digits_5b : FS := gSeq law_digits_6 law_digits_7
def law_digits_5 : FS := gFor (fSeq D.lt (nm 1)) (gNm 4) law_digits_5b
def law_digits_8 : FS := gFrz 2 (gRet (nm 2))
def law_digits_3 : FS := gIf (tBl (f2 gGe (nm 3) (f2 gPow (cst (.int 10)) (cst (.int 18))))) (gSeq law_digits_4 (gSeq law_digits_5 law_digits_8)) (fun ρ => some (.nx ρ))
def law_digits_9 : FS := gSet 5 (f2 gMod (f1 gInt (nm 3)) (cst (.int 2147483629)))
def law_digits_11 : FS := gSet 5 (f2 gMod (f1 gInt (f2 gAddI (f2 gAddI (f2 gMul (nm 5) (cst (.int 48271))) (f2 gMul (cst (.int 974711)) (nm 6))) (cst (.int 12345)))) (cst (.int 2147483647)))
def law_digits_12 : FS := gSet 7 (f2 gMod (f1 gInt (f2 gMul (nm 5) (f2 gAddI (f2 gFdiv (nm 5) (cst (.int 65537))) (cst (.int 3))))) (cst (.int 2147483629)))
def law_digits_13 : FS := gUpd (pNm 2) (fSh (f2 gMod (f2 gFdiv (nm 7) (cst (.int 19))) (f2 gIx (nm 1) (nm 6)))) hApp
def law_digits_10b : FS := gSeq law_digits_11 (gSeq law_digits_12 law_digits_13)
def law_digits_10 : FS := gFor (fRg1 (f1 gLen (nm 1))) (gNm 6) law_digits_10b
def law_digits_14 : FS := gFrz 2 (gRet (nm 2))
def law_digits_g : FS := gSeq law_digits_1 (gSeq law_digits_2 (gSeq law_digits_3 (gSeq law_digits_9 (gSeq law_digits_10 law_digits_14))))
theorem nd_law_digits : (["cell", "sizes", "row", "rest", "size", "seed", "k", "twice"] : List Str).Nodup := by decide +kernel
def m_law_digits : List D → Option D := mir 8 law_digits_g
theorem ok_law_digits (G : Gx K mg) (F : FunD K "_law_digits" "_law_digits" (defArgs (top 32)) (defBody (top 32)) (defScope (top 32)) [] [] f fd)  : FnOk P w K mg base C8.CX0 1 f fd ["cell", "sizes"] (spF K 2 m_law_digits) :=
  have nd := nd_law_digits
  f_ok (N := ["cell", "sizes", "row", "rest", "size", "seed", "k", "twice"]) F ⟨rfl, rfl, rfl, nd, rfl, by decide +kernel, by decide +kernel⟩ fun cdv A outer s H E hr =>
    (k_cons (s_own nd rfl (.inl rfl) (o_lst ao_nil))
    (k_cons (s_set nd rfl (.inl rfl) (x_t1 c_int (by rfl) G.int bo_int (atW (x_nm 0))))
    (k_cons (s_if (b_cmp o_ge (atW (x_nm 3)) (atW (x_bin o_pow (atW x_int) (atW x_int))) (by rfl)) (k_cons (s_set nd rfl (.inl rfl) (x_bin o_sub (atW (x_nm 3)) (atW (x_bin o_pow (atW x_int) (atW x_int)))))
    (k_cons (s_for PassesOwn.never rfl (it_seq (x_nm 1)) (g_nm nd rfl (.inl rfl)) (k_cons (s_append (p_nm 2) (px_po (x_bin o_mod (atW (x_t1 c_int (by rfl) G.int bo_int (atW (x_nm 3)))) (atW (x_nm 4)))))
    (k_one (s_set nd rfl (.inl rfl) (x_bin o_fdiv (atW (x_t1 c_int (by rfl) G.int bo_int (atW (x_nm 3)))) (atW (x_nm 4)))))))
    (k_one (s_frz 2 (s_ret (x_nm 2)))))) k_nil)
    (k_cons (s_set nd rfl (.inl rfl) (x_bin o_mod (atW (x_t1 c_int (by rfl) G.int bo_int (atW (x_nm 3)))) (atW x_int)))
    (k_cons (s_for PassesOwn.never rfl (it_rg1 (st := true) (by rfl) G.range (atW (x_b1 c_len (by rfl) G.len bo_len (atW (x_nm 1))))) (g_nm nd rfl (.inl rfl)) (k_cons (s_set nd rfl (.inl rfl) (x_bin o_mod (atW (x_t1 c_int (by rfl) G.int bo_int (atW (x_bin o_addI (atW (x_bin o_addI (atW (x_bin o_mul (atW (x_nm 5)) (atW x_int))) (atW (x_bin o_mul (atW x_int) (atW (x_nm 6)))))) (atW x_int))))) (atW x_int)))
    (k_cons (s_set nd rfl (.inl rfl) (x_bin o_mod (atW (x_t1 c_int (by rfl) G.int bo_int (atW (x_bin o_mul (atW (x_nm 5)) (atW (x_bin o_addI (atW (x_bin o_fdiv (atW (x_nm 5)) (atW x_int))) (atW x_int))))))) (atW x_int)))
    (k_one (s_append (p_nm 2) (px_po (x_bin o_mod (atW (x_bin o_fdiv (atW (x_nm 7)) (atW x_int))) (x_ix (mc := .s) (x_nm 1) (atW (x_nm 6))))))))))
    (k_one (s_frz 2 (s_ret (x_nm 2)))))))))
def law_kinds_1 : FS := gSet 3 (f2 gMin2 (nm 2) (f2 gIx (fGive (fLst (aoCons (fSh (cst (.int 3))) (aoCons (fSh (cst (.int 2))) (aoCons (fSh (cst (.int 3))) (aoCons (fSh (cst (.int 4))) (aoCons (fSh (cst (.int 2))) (aoCons (fSh (cst (.int 4))) (aoCons (fSh (cst (.int 5))) (aoCons (fSh (cst (.int 3))) (aoCons (fSh (cst (.int 1))) (aoCons (fSh (cst (.int 6))) aoNil)))))))))))) (f2 gIx (nm 0) (cst (.int 0)))))
def law_kinds_2 : FS := gOwn 4 (fLst aoNil)
def law_kinds_4 : FS := gSet 6 (f2 gIx (fGive (fLst (aoCons (fSh (cst (.int 1))) (aoCons (fSh (cst (.int 1))) (aoCons (fSh (cst (.int 2))) (aoCons (fSh (cst (.int 1))) (aoCons (fSh (cst (.int 1))) (aoCons (fSh (cst (.int 3))) aoNil)))))))) (f2 gIx (nm 0) (f2 gAddI (cst (.int 5)) (f2 gMul (cst (.int 2)) (nm 5)))))
def law_kinds_6 : FS := gSet 6 (cst (.int 1))
def law_kinds_5 : FS := gIf (tBl (nm 1)) law_kinds_6 (fun ρ => some (.nx ρ))
def law_kinds_7 : FS := gSet 7 (cst (.int 0))
def law_kinds_9 : FS := gSet 7 (f2 gAddI (cst (.int 1)) (f2 gMod (f1 gInt (f2 gIx (nm 0) (f2 gAddI (cst (.int 6)) (f2 gMul (cst (.int 2)) (nm 5))))) (f2 gSub (f2 gIx (fGive (fLst (aoCons (fSh (cst (.int 1))) (aoCons (fSh (cst (.int 2))) (aoCons (fSh (cst (.int 4))) (aoCons (fSh (cst (.int 8))) (aoCons (fSh (cst (.int 16))) (aoCons (fSh (cst (.int 32))) aoNil)))))))) (nm 5)) (cst (.int 1)))))
def law_kinds_8 : FS := gIf (tAndF (tBl (f2 gGt (nm 5) (cst (.int 0)))) (tNotF (tAndF (tBl (f2 gEq (nm 5) (cst (.int 1)))) (tAndF (tBl (f2 gEq (f2 gIx (nm 0) (cst (.int 4))) (cst (.int 0)))) (tBl (f2 gGt (nm 3) (cst (.int 2)))))))) law_kinds_9 (fun ρ => some (.nx ρ))
def law_kinds_10t : Rho → Option Bool := tBl (f2 gEq (f2 gMod (f2 gFdiv (nm 7) (f2 gIx (fGive (fLst (aoCons (fSh (cst (.int 1))) (aoCons (fSh (cst (.int 2))) (aoCons (fSh (cst (.int 4))) (aoCons (fSh (cst (.int 8))) (aoCons (fSh (cst (.int 16))) (aoCons (fSh (cst (.int 32))) aoNil)))))))) (nm 11))) (cst (.int 2))) (cst (.int 1)))
def law_kinds_10e : FX := nm 11
def law_kinds_10 : FS := gUpd (pNm 4) (fLst (aoCons (fSh (nm 6)) (aoCons (fLc (fRg1 (nm 5)) (gNm 11) law_kinds_10t law_kinds_10e [11]) aoNil))) hApp
def law_kinds_3b : FS := gSeq law_kinds_4 (gSeq law_kinds_5 (gSeq law_kinds_7 (gSeq law_kinds_8 law_kinds_10)))
def law_kinds_3 : FS := gFor (fRg1 (nm 3)) (gNm 5) law_kinds_3b
def law_kinds_12 : FS := gUpd (pIx (pIx (pNm 4) (f2 gSub (nm 3) (cst (.int 1)))) (cst (.int 1))) (fSh (f2 gSub (nm 3) (cst (.int 1)))) hApp
def law_kinds_11 : FS := gIf (tAndF (tBl (f2 gEq (f2 gIx (nm 0) (cst (.int 3))) (cst (.int 0)))) (tAndF (tBl (f2 gGt (nm 3) (cst (.int 1)))) (tBl (f2 gGt (f1 gLen (f2 gIx (f2 gIx (nmW 4) (f2 gSub (nm 3) (cst (.int 1)))) (cst (.int 1)))) (cst (.int 0)))))) law_kinds_12 (fun ρ => some (.nx ρ))
def law_kinds_14 : FS := gUpd (pIx (pIx (pNm 4) (f2 gSub (nm 3) (cst (.int 2)))) (cst (.int 1))) (fSh (f2 gSub (nm 3) (cst (.int 1)))) hApp
def law_kinds_15t : Rho → Option Bool := tBl (f2 gNe (nm 11) (f2 gSub (nm 3) (cst (.int 2))))
def law_kinds_15e : FX := nm 11
def law_kinds_15 : FS := gSetI (pIx (pNm 4) (f2 gSub (nm 3) (cst (.int 1)))) (cst (.int 1)) (fO1 gSortI (f2 gCatL (fGive (fLc (fSeq D.lstFl (f2 gIx (f2 gIx (nmW 4) (f2 gSub (nm 3) (cst (.int 1)))) (cst (.int 1)))) (gNm 11) law_kinds_15t law_kinds_15e [11])) (fGive (fLst (aoCons (fSh (f2 gSub (nm 3) (cst (.int 2)))) aoNil)))))
def law_kinds_13 : FS := gIf (tAndF (tBl (f2 gEq (f2 gIx (nm 0) (cst (.int 3))) (cst (.int 1)))) (tAndF (tBl (f2 gGt (nm 3) (cst (.int 2)))) (tBl (f2 gGt (f1 gLen (f2 gIx (f2 gIx (nmW 4) (f2 gSub (nm 3) (cst (.int 2)))) (cst (.int 1)))) (cst (.int 0)))))) (gSeq law_kinds_14 law_kinds_15) (fun ρ => some (.nx ρ))
def law_kinds_16e : FX := f2 gMod (f1 gInt (f2 gAddI (f2 gIx (nm 0) (cst (.int 1))) (nm 5))) (nm 3)
def law_kinds_16 : FS := gOwn 8 (fLc (fRg1 (nm 3)) (gNm 5) tYesF law_kinds_16e [5])
def law_kinds_18e : FX := f2 gSub (f2 gSub (nm 3) (cst (.int 1))) (nm 11)
def law_kinds_18 : FS := gOwn 8 (fLc (fSeq D.lstOf (nmQ 8)) (gNm 11) tYesF law_kinds_18e [11])
def law_kinds_17 : FS := gIf (tBl (f2 gEq (f2 gIx (nm 0) (cst (.int 2))) (cst (.int 1)))) law_kinds_18 (fun ρ => some (.nx ρ))
def law_kinds_19e : FX := fGive (fLst (aoCons (fSh (cst (.int 1))) (aoCons (fLst aoNil) aoNil)))
def law_kinds_19 : FS := gFrz 4 (gOwn 9 (fLc (fSeq D.lt (nm 4)) (gNm 10) tYesF law_kinds_19e [10]))
def law_kinds_21e : FX := f2 gIx (nmQ 8) (nm 11)
def law_kinds_21 : FS := gSetI (pNm 9) (f2 gIx (nmQ 8) (nm 5)) (fSh (fGive (fLst (aoCons (fSh (f2 gIx (f2 gIx (nm 4) (nm 5)) (cst (.int 0)))) (aoCons (fSh (fGive (fO1 gSortI (fGive (fLc (fSeq D.lt (f2 gIx (f2 gIx (nm 4) (nm 5)) (cst (.int 1)))) (gNm 11) tYesF law_kinds_21e [11]))))) aoNil)))))
def law_kinds_20b : FS := law_kinds_21
def law_kinds_20 : FS := gFor (fRg1 (nm 3)) (gNm 5) law_kinds_20b
def law_kinds_22 : FS := gFrz 9 (gRet (nm 9))
def law_kinds_g : FS := gSeq law_kinds_1 (gSeq law_kinds_2 (gSeq law_kinds_3 (gSeq law_kinds_11 (gSeq law_kinds_13 (gSeq law_kinds_16 (gSeq law_kinds_17 (gSeq law_kinds_19 (gSeq law_kinds_20 law_kinds_22))))))))
theorem nd_law_kinds : (["row", "unit", "upto", "many", "plain", "j", "size", "mask", "place", "kinds", "pair", "k"] : List Str).Nodup := by decide +kernel
def m_law_kinds : List D → Option D := mir 12 law_kinds_g
theorem ok_law_kinds (G : Gx K mg) (F : FunD K "_law_kinds" "_law_kinds" (defArgs (top 33)) (defBody (top 33)) (defScope (top 33)) [] [] f fd)  : FnOk P w K mg base C8.CX0 1 f fd ["row", "unit", "upto"] (spF K 3 m_law_kinds) :=
  have nd := nd_law_kinds
  f_ok (N := ["row", "unit", "upto", "many", "plain", "j", "size", "mask", "place", "kinds", "pair", "k"]) F ⟨rfl, rfl, rfl, nd, rfl, by decide +kernel, by decide +kernel⟩ fun cdv A outer s H E hr =>
    (k_cons (s_set nd rfl (.inr rfl) (x_min2 rfl (by rfl) G.min (atW (x_nm 2)) (x_ix (mc := .s) (po_px (o_lst (ao_cons (px_po x_int) (ao_cons (px_po x_int) (ao_cons (px_po x_int) (ao_cons (px_po x_int) (ao_cons (px_po x_int) (ao_cons (px_po x_int) (ao_cons (px_po x_int) (ao_cons (px_po x_int) (ao_cons (px_po x_int) (ao_cons (px_po x_int) ao_nil)))))))))))) (x_ix (mc := .s) (x_nm 0) (atW x_int)))))
    (k_cons (s_own nd rfl (.inl rfl) (o_lst ao_nil))
    (k_cons (s_for PassesOwn.never rfl (it_rg1 (st := true) (by rfl) G.range (atW (x_nm 3))) (g_nm nd rfl (.inl rfl)) (k_cons (s_set nd rfl (.inl rfl) (x_ix (mc := .s) (po_px (o_lst (ao_cons (px_po x_int) (ao_cons (px_po x_int) (ao_cons (px_po x_int) (ao_cons (px_po x_int) (ao_cons (px_po x_int) (ao_cons (px_po x_int) ao_nil)))))))) (x_ix (mc := .s) (x_nm 0) (atW (x_bin o_addI (atW x_int) (atW (x_bin o_mul (atW x_int) (atW (x_nm 5)))))))))
    (k_cons (s_if (b_val (atW (x_nm 1))) (k_one (s_set nd rfl (.inl rfl) x_int)) k_nil)
    (k_cons (s_set nd rfl (.inr rfl) x_int)
    (k_cons (s_if (b_w (bw_and (b_cmp o_gt (atW (x_nm 5)) (atW x_int) (by rfl)) (bw_and1 (b_not (b_w (bw_and (b_cmp (o_eq hr.units) (atW (x_nm 5)) (atW x_int) (by rfl)) (bw_and (b_cmp (o_eq hr.units) (x_ix (mc := .s) (x_nm 0) (atW x_int)) (atW x_int) (by rfl)) (bw_and1 (b_cmp o_gt (atW (x_nm 3)) (atW x_int) (by rfl)))))))))) (k_one (s_set nd rfl (.inr rfl) (x_bin o_addI (atW x_int) (atW (x_bin o_mod (atW (x_t1 c_int (by rfl) G.int bo_int (x_ix (mc := .s) (x_nm 0) (atW (x_bin o_addI (atW x_int) (atW (x_bin o_mul (atW x_int) (atW (x_nm 5))))))))) (atW (x_bin o_sub (x_ix (mc := .s) (po_px (o_lst (ao_cons (px_po x_int) (ao_cons (px_po x_int) (ao_cons (px_po x_int) (ao_cons (px_po x_int) (ao_cons (px_po x_int) (ao_cons (px_po x_int) ao_nil)))))))) (atW (x_nm 5))) (atW x_int)))))))) k_nil)
    (k_one (s_append (p_nm 4) (o_lst (ao_cons (px_po (x_nm 6)) (ao_cons (o_lc rfl nd (it_rg1 (st := false) (by rfl) G.range (atW (x_nm 5))) (blkOk_by (own := [("k", 11)]) (by rfl)) (fun _ _ _ _ _ => (g_nm nd rfl (.inl rfl))) (fun _ _ _ _ _ => (ts_one (b_cmp (o_eq hr.units) (atW (x_bin o_mod (atW (x_bin o_fdiv (atW (x_nm 7)) (x_ix (mc := .s) (po_px (o_lst (ao_cons (px_po x_int) (ao_cons (px_po x_int) (ao_cons (px_po x_int) (ao_cons (px_po x_int) (ao_cons (px_po x_int) (ao_cons (px_po x_int) ao_nil)))))))) (atW (x_nm 11))))) (atW x_int))) (atW x_int) (by rfl)))) (fun _ _ _ _ _ => (x_nm 11)) (by decide)) ao_nil))))))))))
    (k_cons (s_if (b_w (bw_and (b_cmp (o_eq hr.units) (x_ix (mc := .s) (x_nm 0) (atW x_int)) (atW x_int) (by rfl)) (bw_and (b_cmp o_gt (atW (x_nm 3)) (atW x_int) (by rfl)) (bw_and1 (b_cmp o_gt (atW (x_b1 c_len (by rfl) G.len bo_len (x_ix (mc := .w) (x_ix (mc := .w) (x_nmW 4) (atW (x_bin o_sub (atW (x_nm 3)) (atW x_int)))) (atW x_int)))) (atW x_int) (by rfl)))))) (k_one (s_append (p_ix (p_ix (p_nm 4) (atW (x_bin o_sub (atW (x_nm 3)) (atW x_int)))) (atW x_int)) (px_po (x_bin o_sub (atW (x_nm 3)) (atW x_int))))) k_nil)
    (k_cons (s_if (b_w (bw_and (b_cmp (o_eq hr.units) (x_ix (mc := .s) (x_nm 0) (atW x_int)) (atW x_int) (by rfl)) (bw_and (b_cmp o_gt (atW (x_nm 3)) (atW x_int) (by rfl)) (bw_and1 (b_cmp o_gt (atW (x_b1 c_len (by rfl) G.len bo_len (x_ix (mc := .w) (x_ix (mc := .w) (x_nmW 4) (atW (x_bin o_sub (atW (x_nm 3)) (atW x_int)))) (atW x_int)))) (atW x_int) (by rfl)))))) (k_cons (s_append (p_ix (p_ix (p_nm 4) (atW (x_bin o_sub (atW (x_nm 3)) (atW x_int)))) (atW x_int)) (px_po (x_bin o_sub (atW (x_nm 3)) (atW x_int))))
    (k_one (s_setI (p_ix (p_nm 4) (atW (x_bin o_sub (atW (x_nm 3)) (atW x_int)))) (atW x_int) (o_b1 c_sortI (by rfl) G.sorted bo_sorted (atW (x_bin o_catL (po_px (o_lc rfl nd (it_lstW (x_ix (mc := .w) (x_ix (mc := .w) (x_nmW 4) (atW (x_bin o_sub (atW (x_nm 3)) (atW x_int)))) (atW x_int))) (blkOk_by (own := [("k", 11)]) (by rfl)) (fun _ _ _ _ _ => (g_nm nd rfl (.inl rfl))) (fun _ _ _ _ _ => (ts_one (b_cmp (o_ne hr.units) (atW (x_nm 11)) (atW (x_bin o_sub (atW (x_nm 3)) (atW x_int))) (by rfl)))) (fun _ _ _ _ _ => (x_nm 11)) (by decide))) (po_px (o_lst (ao_cons (px_po (x_bin o_sub (atW (x_nm 3)) (atW x_int))) ao_nil))))))))) k_nil)
    (k_cons (s_own nd rfl (.inr rfl) (o_lc rfl nd (it_rg1 (st := false) (by rfl) G.range (atW (x_nm 3))) (blkOk_by (own := [("j", 5)]) (by rfl)) (fun _ _ _ _ _ => (g_nm nd rfl (.inl rfl))) (fun _ _ _ _ _ => ts_nil) (fun _ _ _ _ _ => (x_bin o_mod (atW (x_t1 c_int (by rfl) G.int bo_int (atW (x_bin o_addI (x_ix (mc := .s) (x_nm 0) (atW x_int)) (atW (x_nm 5)))))) (atW (x_nm 3)))) (by decide)))
    (k_cons (s_if (b_cmp (o_eq hr.units) (x_ix (mc := .s) (x_nm 0) (atW x_int)) (atW x_int) (by rfl)) (k_one (s_own nd rfl (.inr rfl) (o_lc rfl nd (it_lstQ (x_nmQ 8)) (blkOk_by (own := [("k", 11)]) (by rfl)) (fun _ _ _ _ _ => (g_nm nd rfl (.inl rfl))) (fun _ _ _ _ _ => ts_nil) (fun _ _ _ _ _ => (x_bin o_sub (atW (x_bin o_sub (atW (x_nm 3)) (atW x_int))) (atW (x_nm 11)))) (by decide)))) k_nil)
    (k_cons (s_frz 4 (s_setLc rfl nd rfl rfl (sw_true rfl rfl rfl rfl) (PIt.dn (st := false) (it_seq (x_nm 4))) (blkOk_by (own := [("pair", 10)]) (by rfl)) (fun _ _ _ _ _ => (g_nm nd rfl (.inl rfl))) (fun _ _ _ _ _ => ts_nil) (fun _ _ _ _ _ => (po_px (o_lst (ao_cons (px_po x_int) (ao_cons (o_lst ao_nil) ao_nil))))) (by decide)))
    (k_cons (s_for PassesOwn.never rfl (it_rg1 (st := true) (by rfl) G.range (atW (x_nm 3))) (g_nm nd rfl (.inl rfl)) (k_one (s_setI (p_nm 9) (x_ix (mc := .q) (x_nmQ 8) (atW (x_nm 5))) (px_po (po_px (o_lst (ao_cons (px_po (x_ix (mc := .s) (x_ix (mc := .s) (x_nm 4) (atW (x_nm 5))) (atW x_int))) (ao_cons (px_po (po_px (o_b1 c_sortI (by rfl) G.sorted bo_sorted (atW (po_px (o_lc rfl nd (PIt.dn (st := false) (it_seq (x_ix (mc := .s) (x_ix (mc := .s) (x_nm 4) (atW (x_nm 5))) (atW x_int)))) (blkOk_by (own := [("k", 11)]) (by rfl)) (fun _ _ _ _ _ => (g_nm nd rfl (.inl rfl))) (fun _ _ _ _ _ => ts_nil) (fun _ _ _ _ _ => (x_ix (mc := .q) (x_nmQ 8) (atW (x_nm 11)))) (by decide))))))) ao_nil))))))))
    (k_one (s_frz 9 (s_ret (x_nm 9)))))))))))))
def law_names_1 : FS := gSet 2 (fGive (fLst (aoCons (fSh (cst (.str "ask"))) (aoCons (fSh (cst (.str "b2"))) (aoCons (fSh (cst (.str "crate"))) (aoCons (fSh (cst (.str "x"))) (aoCons (fSh (cst (.str "note7"))) (aoCons (fSh (cst (.str "tram"))) (aoCons (fSh (cst (.str "q"))) (aoCons (fSh (cst (.str "reply"))) (aoCons (fSh (cst (.str "zed"))) (aoCons (fSh (cst (.str "k0"))) aoNil))))))))))))
def law_names_2e : FX := f2 gIx (nm 2) (f2 gMod (f1 gInt (f2 gAddI (nm 0) (nm 3))) (cst (.int 10)))
def law_names_2 : FS := gRet (fGive (fLc (fRg1 (nm 1)) (gNm 3) tYesF law_names_2e [3]))
def law_names_g : FS := gSeq law_names_1 law_names_2
theorem nd_law_names : (["digit", "many", "menu", "k"] : List Str).Nodup := by decide +kernel
def m_law_names : List D → Option D := mir 4 law_names_g
theorem ok_law_names (G : Gx K mg) (F : FunD K "_law_names" "_law_names" (defArgs (top 35)) (defBody (top 35)) (defScope (top 35)) [] [] f fd)  : FnOk P w K mg base C8.CX0 1 f fd ["digit", "many"] (spF K 2 m_law_names) :=
  have nd := nd_law_names
  f_ok (N := ["digit", "many", "menu", "k"]) F ⟨rfl, rfl, rfl, nd, rfl, by decide +kernel, by decide +kernel⟩ fun cdv A outer s H E hr =>
    (k_cons (s_set nd rfl (.inr rfl) (po_px (o_lst (ao_cons (px_po x_str) (ao_cons (px_po x_str) (ao_cons (px_po x_str) (ao_cons (px_po x_str) (ao_cons (px_po x_str) (ao_cons (px_po x_str) (ao_cons (px_po x_str) (ao_cons (px_po x_str) (ao_cons (px_po x_str) (ao_cons (px_po x_str) ao_nil)))))))))))))
    (k_one (s_ret (po_px (o_lc rfl nd (it_rg1 (st := false) (by rfl) G.range (atW (x_nm 1))) (blkOk_by (own := [("k", 3)]) (by rfl)) (fun _ _ _ _ _ => (g_nm nd rfl (.inl rfl))) (fun _ _ _ _ _ => ts_nil) (fun _ _ _ _ _ => (x_ix (mc := .s) (x_nm 2) (atW (x_bin o_mod (atW (x_t1 c_int (by rfl) G.int bo_int (atW (x_bin o_addI (atW (x_nm 0)) (atW (x_nm 3)))))) (atW x_int))))) (by decide))))))
def law_triples_1 : FS := gSet 2 (fCall 2 m_law_names (aCons (nm 1) (aCons (f1 gLen (nm 0)) aNil)) [])
def law_triples_2e : FX := fTup (aCons (f2 gIx (nm 2) (nm 3)) (aCons (f2 gIx (f2 gIx (nm 0) (nm 3)) (cst (.int 0))) (aCons (fGive (fO1 gList (f2 gIx (f2 gIx (nm 0) (nm 3)) (cst (.int 1))))) aNil)))
def law_triples_2 : FS := gRet (fGive (fLc (fRg1 (f1 gLen (nm 0))) (gNm 3) tYesF law_triples_2e [3]))
def law_triples_g : FS := gSeq law_triples_1 law_triples_2
theorem nd_law_triples : (["kinds", "digit", "names", "k"] : List Str).Nodup := by decide +kernel
def m_law_triples : List D → Option D := mir 4 law_triples_g
theorem ok_law_triples (G : Gx K mg) (F : FunD K "_law_triples" "_law_triples" (defArgs (top 36)) (defBody (top 36)) (defScope (top 36)) [] [] f fd) (c_law_names : CalF P w K mg base 1 "_law_names" 2 m_law_names []) : FnOk P w K mg base C8.CX0 2 f fd ["kinds", "digit"] (spF K 2 m_law_triples) :=
  have nd := nd_law_triples
  f_ok (N := ["kinds", "digit", "names", "k"]) F ⟨rfl, rfl, rfl, nd, rfl, by decide +kernel, by decide +kernel⟩ fun cdv A outer s H E hr =>
    (k_cons (s_set nd rfl (.inr rfl) (x_call c_law_names hr (by decide) (by rfl) (as_cons (x_nm 1) (as_cons (x_b1 c_len (by rfl) G.len bo_len (atW (x_nm 0))) as_nil))))
    (k_one (s_ret (po_px (o_lc rfl nd (it_rg1 (st := false) (by rfl) G.range (atW (x_b1 c_len (by rfl) G.len bo_len (atW (x_nm 0))))) (blkOk_by (own := [("k", 3)]) (by rfl)) (fun _ _ _ _ _ => (g_nm nd rfl (.inl rfl))) (fun _ _ _ _ _ => ts_nil) (fun _ _ _ _ _ => (x_tup (as_cons (x_ix (mc := .s) (x_nm 2) (atW (x_nm 3))) (as_cons (x_ix (mc := .s) (x_ix (mc := .s) (x_nm 0) (atW (x_nm 3))) (atW x_int)) (as_cons (po_px (o_t1 c_list (by rfl) G.list bo_list (px_up (x_ix (mc := .s) (x_ix (mc := .s) (x_nm 0) (atW (x_nm 3))) (atW x_int))))) as_nil))))) (by decide))))))
def law_wide_kinds_1 : FS := gSet 3 (f2 gMin2 (nm 2) (f2 gIx (fGive (fLst (aoCons (fSh (cst (.int 3))) (aoCons (fSh (cst (.int 2))) (aoCons (fSh (cst (.int 3))) (aoCons (fSh (cst (.int 4))) (aoCons (fSh (cst (.int 5))) (aoCons (fSh (cst (.int 4))) (aoCons (fSh (cst (.int 5))) (aoCons (fSh (cst (.int 6))) (aoCons (fSh (cst (.int 1))) (aoCons (fSh (cst (.int 6))) aoNil)))))))))))) (f2 gIx (nm 0) (cst (.int 0)))))
def law_wide_kinds_2 : FS := gSet 4 (fGive (fLst (aoCons (fSh (cst (.int 1))) (aoCons (fSh (cst (.int 2))) (aoCons (fSh (cst (.int 4))) (aoCons (fSh (cst (.int 8))) (aoCons (fSh (cst (.int 16))) (aoCons (fSh (cst (.int 32))) aoNil))))))))
def law_wide_kinds_3 : FS := gOwn 5 (fLst aoNil)
def law_wide_kinds_4 : FS := gSet 6 (f2 gIx (nm 0) (cst (.int 1)))
def law_wide_kinds_6t : Rho → Option Bool := tBl (f2 gNotIn (nm 13) (nmQ 5))
def law_wide_kinds_6e : FX := nm 13
def law_wide_kinds_6 : FS := gOwn 8 (fLc (fRg1 (nm 3)) (gNm 13) law_wide_kinds_6t law_wide_kinds_6e [13])
def law_wide_kinds_7 : FS := gUpd (pNm 5) (fSh (f2 gIx (nmQ 8) (f2 gMod (f1 gInt (nm 6)) (f1 gLen (nmQ 8))))) hApp
def law_wide_kinds_8 : FS := gSet 6 (f2 gFdiv (f1 gInt (nm 6)) (f1 gLen (nmQ 8)))
def law_wide_kinds_5b : FS := gSeq law_wide_kinds_6 (gSeq law_wide_kinds_7 law_wide_kinds_8)
def law_wide_kinds_5 : FS := gFor (fRg1 (nm 3)) (gNm 7) law_wide_kinds_5b
def law_wide_kinds_9e : FX := fGive (fLst (aoCons (fSh (cst (.int 1))) (aoCons (fLst aoNil) aoNil)))
def law_wide_kinds_9 : FS := gOwn 9 (fLc (fRg1 (nm 3)) (gNm 13) tYesF law_wide_kinds_9e [13])
def law_wide_kinds_11 : FS := gSet 10 (f2 gIx (fGive (fLst (aoCons (fSh (cst (.int 1))) (aoCons (fSh (cst (.int 1))) (aoCons (fSh (cst (.int 2))) (aoCons (fSh (cst (.int 1))) (aoCons (fSh (cst (.int 3))) (aoCons (fSh (cst (.int 2))) aoNil)))))))) (f2 gIx (nm 0) (f2 gAddI (cst (.int 3)) (f2 gMul (cst (.int 5)) (nm 7)))))
def law_wide_kinds_13 : FS := gSet 10 (cst (.int 1))
def law_wide_kinds_12 : FS := gIf (tBl (nm 1)) law_wide_kinds_13 (fun ρ => some (.nx ρ))
def law_wide_kinds_14 : FS := gSet 11 (fGive (fLst aoNil))
def law_wide_kinds_16 : FS := gSet 12 (f2 gAddI (cst (.int 1)) (f2 gMod (f1 gInt (f2 gIx (nm 0) (f2 gAddI (cst (.int 5)) (f2 gMul (cst (.int 5)) (nm 7))))) (f2 gSub (f2 gIx (nm 4) (nm 7)) (cst (.int 1)))))
def law_wide_kinds_18 : FS := gSet 12 (f2 gAddI (f2 gIx (nm 4) (f2 gSub (nm 7) (cst (.int 1)))) (f2 gMul (f2 gMod (f1 gInt (nm 12)) (f2 gIx (nm 4) (f2 gSub (nm 7) (cst (.int 1))))) (f1 gInt (f2 gEq (f2 gIx (nm 0) (f2 gAddI (cst (.int 4)) (f2 gMul (cst (.int 5)) (nm 7)))) (cst (.int 0))))))
def law_wide_kinds_17 : FS := gIf (tBl (f2 gGt (f2 gIx (nm 0) (cst (.int 2))) (cst (.int 1)))) law_wide_kinds_18 (fun ρ => some (.nx ρ))
def law_wide_kinds_19t : Rho → Option Bool := tBl (f2 gEq (f2 gMod (f2 gFdiv (nm 12) (f2 gIx (nm 4) (nm 13))) (cst (.int 2))) (cst (.int 1)))
def law_wide_kinds_19e : FX := nm 13
def law_wide_kinds_19 : FS := gOwn 11 (fLc (fRg1 (nm 7)) (gNm 13) law_wide_kinds_19t law_wide_kinds_19e [13])
def law_wide_kinds_21t : Rho → Option Bool := tBl (f2 gEq (f2 gMod (f2 gFdiv (f1 gInt (f2 gIx (nm 0) (f2 gAddI (cst (.int 6)) (f2 gMul (cst (.int 5)) (nm 7))))) (f2 gIx (nm 4) (nm 13))) (cst (.int 2))) (cst (.int 1)))
def law_wide_kinds_21e : FX := nm 13
def law_wide_kinds_21 : FS := gSet 11 (f2 gCatL (nmQ 11) (fGive (fLc (fRg2 (nm 7) (nm 3)) (gNm 13) law_wide_kinds_21t law_wide_kinds_21e [13])))
def law_wide_kinds_20 : FS := gIf (tAndF (tBl (f2 gEq (f2 gMod (f2 gIx (nm 0) (cst (.int 2))) (cst (.int 3))) (cst (.int 0)))) (tBl (f2 gEq (f2 gIx (nm 0) (f2 gAddI (cst (.int 7)) (f2 gMul (cst (.int 5)) (nm 7)))) (cst (.int 0))))) law_wide_kinds_21 (fun ρ => some (.nx ρ))
def law_wide_kinds_15 : FS := gIf (tAndF (tBl (f2 gGt (nm 7) (cst (.int 0)))) (tOrF (tBl (f2 gGt (f2 gIx (nm 0) (cst (.int 2))) (cst (.int 1)))) (tBl (f2 gGt (f2 gIx (nm 0) (f2 gAddI (cst (.int 4)) (f2 gMul (cst (.int 5)) (nm 7)))) (cst (.int 0)))))) (gSeq law_wide_kinds_16 (gSeq law_wide_kinds_17 (gSeq law_wide_kinds_19 law_wide_kinds_20))) (fun ρ => some (.nx ρ))
def law_wide_kinds_22e : FX := f2 gIx (nmQ 5) (nm 13)
def law_wide_kinds_22 : FS := gSetI (pNm 9) (f2 gIx (nmQ 5) (nm 7)) (fSh (fGive (fLst (aoCons (fSh (nm 10)) (aoCons (fSh (fGive (fO1 gSortI (fGive (fLc (fSeq D.lstOf (nmQ 11)) (gNm 13) tYesF law_wide_kinds_22e [13]))))) aoNil)))))
def law_wide_kinds_10b : FS := gSeq law_wide_kinds_11 (gSeq law_wide_kinds_12 (gSeq law_wide_kinds_14 (gSeq law_wide_kinds_15 law_wide_kinds_22)))
def law_wide_kinds_10 : FS := gFor (fRg1 (nm 3)) (gNm 7) law_wide_kinds_10b
def law_wide_kinds_23 : FS := gFrz 9 (gRet (nm 9))
def law_wide_kinds_g : FS := gSeq law_wide_kinds_1 (gSeq law_wide_kinds_2 (gSeq law_wide_kinds_3 (gSeq law_wide_kinds_4 (gSeq law_wide_kinds_5 (gSeq law_wide_kinds_9 (gSeq law_wide_kinds_10 law_wide_kinds_23))))))
theorem nd_law_wide_kinds : (["row", "unit", "upto", "many", "bits", "order", "code", "j", "left", "kinds", "size", "nexts", "mask", "k"] : List Str).Nodup := by decide +kernel
def m_law_wide_kinds : List D → Option D := mir 14 law_wide_kinds_g
theorem ok_law_wide_kinds (G : Gx K mg) (F : FunD K "_law_wide_kinds" "_law_wide_kinds" (defArgs (top 34)) (defBody (top 34)) (defScope (top 34)) [] [] f fd)  : FnOk P w K mg base C8.CX0 1 f fd ["row", "unit", "upto"] (spF K 3 m_law_wide_kinds) :=
  have nd := nd_law_wide_kinds
  f_ok (N := ["row", "unit", "upto", "many", "bits", "order", "code", "j", "left", "kinds", "size", "nexts", "mask", "k"]) F ⟨rfl, rfl, rfl, nd, rfl, by decide +kernel, by decide +kernel⟩ fun cdv A outer s H E hr =>
    (k_cons (s_set nd rfl (.inl rfl) (x_min2 rfl (by rfl) G.min (atW (x_nm 2)) (x_ix (mc := .s) (po_px (o_lst (ao_cons (px_po x_int) (ao_cons (px_po x_int) (ao_cons (px_po x_int) (ao_cons (px_po x_int) (ao_cons (px_po x_int) (ao_cons (px_po x_int) (ao_cons (px_po x_int) (ao_cons (px_po x_int) (ao_cons (px_po x_int) (ao_cons (px_po x_int) ao_nil)))))))))))) (x_ix (mc := .s) (x_nm 0) (atW x_int)))))
    (k_cons (s_set nd rfl (.inr rfl) (po_px (o_lst (ao_cons (px_po x_int) (ao_cons (px_po x_int) (ao_cons (px_po x_int) (ao_cons (px_po x_int) (ao_cons (px_po x_int) (ao_cons (px_po x_int) ao_nil)))))))))
    (k_cons (s_own nd rfl (.inr rfl) (o_lst ao_nil))
    (k_cons (s_set nd rfl (.inl rfl) (x_ix (mc := .s) (x_nm 0) (atW x_int)))
    (k_cons (s_for PassesOwn.never rfl (it_rg1 (st := true) (by rfl) G.range (atW (x_nm 3))) (g_nm nd rfl (.inr rfl)) (k_cons (s_setLc rfl nd rfl rfl (sw_true rfl rfl rfl rfl) (it_rg1 (st := false) (by rfl) G.range (atW (x_nm 3))) (blkOk_by (own := [("k", 13)]) (by rfl)) (fun _ _ _ _ _ => (g_nm nd rfl (.inl rfl))) (fun _ _ _ _ _ => (ts_one (b_cmp o_notIn (atW (x_nm 13)) (x_nmQ 5) (by rfl)))) (fun _ _ _ _ _ => (x_nm 13)) (by decide))
    (k_cons (s_append (p_nm 5) (px_po (x_ix (mc := .q) (x_nmQ 8) (atW (x_bin o_mod (atW (x_t1 c_int (by rfl) G.int bo_int (atW (x_nm 6)))) (atW (x_b1 c_len (by rfl) G.len bo_len (x_nmQ 8))))))))
    (k_one (s_set nd rfl (.inl rfl) (x_bin o_fdiv (atW (x_t1 c_int (by rfl) G.int bo_int (atW (x_nm 6)))) (atW (x_b1 c_len (by rfl) G.len bo_len (x_nmQ 8)))))))))
    (k_cons (s_setLc rfl nd rfl rfl (sw_true rfl rfl rfl rfl) (it_rg1 (st := false) (by rfl) G.range (atW (x_nm 3))) (blkOk_by (own := [("k", 13)]) (by rfl)) (fun _ _ _ _ _ => (g_nm nd rfl (.inl rfl))) (fun _ _ _ _ _ => ts_nil) (fun _ _ _ _ _ => (po_px (o_lst (ao_cons (px_po x_int) (ao_cons (o_lst ao_nil) ao_nil))))) (by decide))
    (k_cons (s_for PassesOwn.never rfl (it_rg1 (st := true) (by rfl) G.range (atW (x_nm 3))) (g_nm nd rfl (.inr rfl)) (k_cons (s_set nd rfl (.inl rfl) (x_ix (mc := .s) (po_px (o_lst (ao_cons (px_po x_int) (ao_cons (px_po x_int) (ao_cons (px_po x_int) (ao_cons (px_po x_int) (ao_cons (px_po x_int) (ao_cons (px_po x_int) ao_nil)))))))) (x_ix (mc := .s) (x_nm 0) (atW (x_bin o_addI (atW x_int) (atW (x_bin o_mul (atW x_int) (atW (x_nm 7)))))))))
    (k_cons (s_if (b_val (atW (x_nm 1))) (k_one (s_set nd rfl (.inl rfl) x_int)) k_nil)
    (k_cons (s_set nd rfl (.inl rfl) (po_px (o_lst ao_nil)))
    (k_cons (s_if (b_w (bw_and (b_cmp o_gt (atW (x_nm 7)) (atW x_int) (by rfl)) (bw_and1 (b_w (bw_or (b_cmp o_gt (x_ix (mc := .s) (x_nm 0) (atW x_int)) (atW x_int) (by rfl)) (bw_or1 (b_cmp o_gt (x_ix (mc := .s) (x_nm 0) (atW (x_bin o_addI (atW x_int) (atW (x_bin o_mul (atW x_int) (atW (x_nm 7))))))) (atW x_int) (by rfl)))))))) (k_cons (s_set nd rfl (.inr rfl) (x_bin o_addI (atW x_int) (atW (x_bin o_mod (atW (x_t1 c_int (by rfl) G.int bo_int (x_ix (mc := .s) (x_nm 0) (atW (x_bin o_addI (atW x_int) (atW (x_bin o_mul (atW x_int) (atW (x_nm 7))))))))) (atW (x_bin o_sub (x_ix (mc := .s) (x_nm 4) (atW (x_nm 7))) (atW x_int)))))))
    (k_cons (s_if (b_cmp o_gt (x_ix (mc := .s) (x_nm 0) (atW x_int)) (atW x_int) (by rfl)) (k_one (s_set nd rfl (.inr rfl) (x_bin o_addI (x_ix (mc := .s) (x_nm 4) (atW (x_bin o_sub (atW (x_nm 7)) (atW x_int)))) (atW (x_bin o_mul (atW (x_bin o_mod (atW (x_t1 c_int (by rfl) G.int bo_int (atW (x_nm 12)))) (x_ix (mc := .s) (x_nm 4) (atW (x_bin o_sub (atW (x_nm 7)) (atW x_int)))))) (atW (x_t1 c_int (by rfl) G.int bo_int (atW (x_cmp (o_eq hr.units) (x_ix (mc := .s) (x_nm 0) (atW (x_bin o_addI (atW x_int) (atW (x_bin o_mul (atW x_int) (atW (x_nm 7))))))) (atW x_int) (by rfl)))))))))) k_nil)
    (k_cons (s_setLc rfl nd rfl rfl (sw_true rfl rfl rfl rfl) (it_rg1 (st := false) (by rfl) G.range (atW (x_nm 7))) (blkOk_by (own := [("k", 13)]) (by rfl)) (fun _ _ _ _ _ => (g_nm nd rfl (.inl rfl))) (fun _ _ _ _ _ => (ts_one (b_cmp (o_eq hr.units) (atW (x_bin o_mod (atW (x_bin o_fdiv (atW (x_nm 12)) (x_ix (mc := .s) (x_nm 4) (atW (x_nm 13))))) (atW x_int))) (atW x_int) (by rfl)))) (fun _ _ _ _ _ => (x_nm 13)) (by decide))
    (k_one (s_if (b_w (bw_and (b_cmp (o_eq hr.units) (atW (x_bin o_mod (x_ix (mc := .s) (x_nm 0) (atW x_int)) (atW x_int))) (atW x_int) (by rfl)) (bw_and1 (b_cmp (o_eq hr.units) (x_ix (mc := .s) (x_nm 0) (atW (x_bin o_addI (atW x_int) (atW (x_bin o_mul (atW x_int) (atW (x_nm 7))))))) (atW x_int) (by rfl))))) (k_one (s_set nd rfl (.inl rfl) (x_bin o_catL (x_nmQ 11) (po_px (o_lc rfl nd (it_rg2 (st := false) (by rfl) G.range (atW (x_nm 7)) (atW (x_nm 3))) (blkOk_by (own := [("k", 13)]) (by rfl)) (fun _ _ _ _ _ => (g_nm nd rfl (.inl rfl))) (fun _ _ _ _ _ => (ts_one (b_cmp (o_eq hr.units) (atW (x_bin o_mod (atW (x_bin o_fdiv (atW (x_t1 c_int (by rfl) G.int bo_int (x_ix (mc := .s) (x_nm 0) (atW (x_bin o_addI (atW x_int) (atW (x_bin o_mul (atW x_int) (atW (x_nm 7))))))))) (x_ix (mc := .s) (x_nm 4) (atW (x_nm 13))))) (atW x_int))) (atW x_int) (by rfl)))) (fun _ _ _ _ _ => (x_nm 13)) (by decide)))))) k_nil))))) k_nil)
    (k_one (s_setI (p_nm 9) (x_ix (mc := .q) (x_nmQ 5) (atW (x_nm 7))) (px_po (po_px (o_lst (ao_cons (px_po (x_nm 10)) (ao_cons (px_po (po_px (o_b1 c_sortI (by rfl) G.sorted bo_sorted (atW (po_px (o_lc rfl nd (it_lstQ (x_nmQ 11)) (blkOk_by (own := [("k", 13)]) (by rfl)) (fun _ _ _ _ _ => (g_nm nd rfl (.inl rfl))) (fun _ _ _ _ _ => ts_nil) (fun _ _ _ _ _ => (x_ix (mc := .q) (x_nmQ 5) (atW (x_nm 13)))) (by decide))))))) ao_nil))))))))))))
    (k_one (s_frz 9 (s_ret (x_nm 9)))))))))))
def law_asked_1 : FS := gSet 2 (fCall 2 m_law_digits (aCons (fCall 2 m_law_cell (aCons (nm 0) (aCons (nm 1) aNil)) []) (aCons (f2 gCatL (f2 gCatL (fGive (fLst (aoCons (fSh (cst (.int 10))) (aoCons (fSh (cst (.int 6))) (aoCons (fSh (cst (.int 2))) (aoCons (fSh (cst (.int 6))) (aoCons (fSh (cst (.int 4))) aoNil))))))) (fGive (fRep (fLst (aoCons (fSh (cst (.int 6))) (aoCons (fSh (cst (.int 31))) aoNil))) (cst (.int 6))))) (fGive (fLst (aoCons (fSh (cst (.int 3))) (aoCons (fSh (cst (.int 10))) (aoCons (fSh (cst (.int 100))) (aoCons (fSh (cst (.int 2))) aoNil))))))) aNil)) [])
def law_asked_2 : FS := gSet 3 (fCall 3 m_law_kinds (aCons (nm 2) (aCons (f2 gEq (f2 gIx (nm 2) (cst (.int 17))) (cst (.int 0))) (aCons (cst (.int 6)) aNil))) [])
def law_asked_4 : FS := gSet 3 (fCall 3 m_law_wide_kinds (aCons (fCall 2 m_law_digits (aCons (fCall 2 m_law_cell (aCons (nm 0) (aCons (f2 gAddI (cst (.int 6)) (nm 1)) aNil)) []) (aCons (f2 gCatL (fGive (fLst (aoCons (fSh (cst (.int 10))) (aoCons (fSh (cst (.int 720))) (aoCons (fSh (cst (.int 4))) aoNil))))) (fGive (fRep (fLst (aoCons (fSh (cst (.int 6))) (aoCons (fSh (cst (.int 4))) (aoCons (fSh (cst (.int 31))) (aoCons (fSh (cst (.int 64))) (aoCons (fSh (cst (.int 2))) aoNil)))))) (cst (.int 6))))) aNil)) []) (aCons (f2 gEq (f2 gIx (nm 2) (cst (.int 17))) (cst (.int 0))) (aCons (cst (.int 6)) aNil))) [])
def law_asked_3 : FS := gIf (tBl (f2 gEq (f2 gIx (nm 2) (cst (.int 20))) (cst (.int 1)))) law_asked_4 (fun ρ => some (.nx ρ))
def law_asked_5e : FX := fCall 2 m_law_bag (aCons (nm 3) (aCons (fCall 2 m_law_digits (aCons (fCall 2 m_law_cell (aCons (nm 0) (aCons (f2 gAddI (f2 gAddI (cst (.int 2)) (f2 gMul (cst (.int 2)) (nm 1))) (nm 5)) aNil)) []) (aCons (f2 gCatL (fGive (fLst (aoCons (fSh (cst (.int 12))) (aoCons (fSh (cst (.int 4))) aoNil)))) (fGive (fRep (fLst (aoCons (fSh (cst (.int 6))) aoNil)) (cst (.int 12))))) aNil)) []) aNil)) []
def law_asked_5 : FS := gOwn 4 (fLc (fRg1 (cst (.int 2))) (gNm 5) tYesF law_asked_5e [5])
def law_asked_6 : FS := gFrz 4 (gRet (fGive (fLst (aoCons (fSh (nm 3)) (aoCons (fSh (fMake "Book" 2 m_Book_init (aCons (fCall 2 m_law_triples (aCons (nm 3) (aCons (f2 gIx (nm 2) (cst (.int 18))) aNil)) []) aNil) [])) (aoCons (fSh (nm 4)) (aoCons (fSh (f2 gIx (nm 2) (cst (.int 19)))) aoNil)))))))
def law_asked_g : FS := gSeq law_asked_1 (gSeq law_asked_2 (gSeq law_asked_3 (gSeq law_asked_5 law_asked_6)))
theorem nd_law_asked : (["script", "k", "row", "kinds", "bags", "j"] : List Str).Nodup := by decide +kernel
def m_law_asked : List D → Option D := mir 6 law_asked_g
theorem ok_law_asked (G : Gx K mg) (F : FunD K "_law_asked" "_law_asked" (defArgs (top 44)) (defBody (top 44)) (defScope (top 44)) [] [] f fd) (c_Book : MakF P w K mg base 3 "Book" 2 m_Book_init []) (c_law_bag : CalF P w K mg base 1 "_law_bag" 2 m_law_bag []) (c_law_cell : CalF P w K mg base 1 "_law_cell" 2 m_law_cell []) (c_law_digits : CalF P w K mg base 1 "_law_digits" 2 m_law_digits []) (c_law_kinds : CalF P w K mg base 1 "_law_kinds" 3 m_law_kinds []) (c_law_triples : CalF P w K mg base 2 "_law_triples" 2 m_law_triples []) (c_law_wide_kinds : CalF P w K mg base 1 "_law_wide_kinds" 3 m_law_wide_kinds []) : FnOk P w K mg base C8.CX0 5 f fd ["script", "k"] (spF K 2 m_law_asked) :=
  have nd := nd_law_asked
  f_ok (N := ["script", "k", "row", "kinds", "bags", "j"]) F ⟨rfl, rfl, rfl, nd, rfl, by decide +kernel, by decide +kernel⟩ fun cdv A outer s H E hr =>
    (k_cons (s_set nd rfl (.inl rfl) (x_call c_law_digits hr (by decide) (by rfl) (as_cons (x_call c_law_cell hr (by decide) (by rfl) (as_cons (x_nm 0) (as_cons (x_nm 1) as_nil))) (as_cons (x_bin o_catL (x_bin o_catL (po_px (o_lst (ao_cons (px_po x_int) (ao_cons (px_po x_int) (ao_cons (px_po x_int) (ao_cons (px_po x_int) (ao_cons (px_po x_int) ao_nil))))))) (po_px (o_rep (o_lst (ao_cons (px_po x_int) (ao_cons (px_po x_int) ao_nil))) (atW x_int)))) (po_px (o_lst (ao_cons (px_po x_int) (ao_cons (px_po x_int) (ao_cons (px_po x_int) (ao_cons (px_po x_int) ao_nil))))))) as_nil))))
    (k_cons (s_set nd rfl (.inr rfl) (x_call c_law_kinds hr (by decide) (by rfl) (as_cons (x_nm 2) (as_cons (x_cmp (o_eq hr.units) (x_ix (mc := .s) (x_nm 2) (atW x_int)) (atW x_int) (by rfl)) (as_cons x_int as_nil)))))
    (k_cons (s_if (b_cmp (o_eq hr.units) (x_ix (mc := .s) (x_nm 2) (atW x_int)) (atW x_int) (by rfl)) (k_one (s_set nd rfl (.inr rfl) (x_call c_law_wide_kinds hr (by decide) (by rfl) (as_cons (x_call c_law_digits hr (by decide) (by rfl) (as_cons (x_call c_law_cell hr (by decide) (by rfl) (as_cons (x_nm 0) (as_cons (x_bin o_addI (atW x_int) (atW (x_nm 1))) as_nil))) (as_cons (x_bin o_catL (po_px (o_lst (ao_cons (px_po x_int) (ao_cons (px_po x_int) (ao_cons (px_po x_int) ao_nil))))) (po_px (o_rep (o_lst (ao_cons (px_po x_int) (ao_cons (px_po x_int) (ao_cons (px_po x_int) (ao_cons (px_po x_int) (ao_cons (px_po x_int) ao_nil)))))) (atW x_int)))) as_nil))) (as_cons (x_cmp (o_eq hr.units) (x_ix (mc := .s) (x_nm 2) (atW x_int)) (atW x_int) (by rfl)) (as_cons x_int as_nil)))))) k_nil)
    (k_cons (s_setLc rfl nd rfl rfl (sw_true rfl rfl rfl rfl) (it_rg1 (st := false) (by rfl) G.range (atW x_int)) (blkOk_by (own := [("j", 5)]) (by rfl)) (fun _ _ _ _ _ => (g_nm nd rfl (.inl rfl))) (fun _ _ _ _ _ => ts_nil) (fun _ _ _ _ _ => (x_call c_law_bag hr (by decide) (by rfl) (as_cons (x_nm 3) (as_cons (x_call c_law_digits hr (by decide) (by rfl) (as_cons (x_call c_law_cell hr (by decide) (by rfl) (as_cons (x_nm 0) (as_cons (x_bin o_addI (atW (x_bin o_addI (atW x_int) (atW (x_bin o_mul (atW x_int) (atW (x_nm 1)))))) (atW (x_nm 5))) as_nil))) (as_cons (x_bin o_catL (po_px (o_lst (ao_cons (px_po x_int) (ao_cons (px_po x_int) ao_nil)))) (po_px (o_rep (o_lst (ao_cons (px_po x_int) ao_nil)) (atW x_int)))) as_nil))) as_nil)))) (by decide))
    (k_one (s_frz 4 (s_ret (po_px (o_lst (ao_cons (px_po (x_nm 3)) (ao_cons (px_po (x_make c_Book hr (by decide) (by rfl) (as_cons (x_call c_law_triples hr (by decide) (by rfl) (as_cons (x_nm 3) (as_cons (x_ix (mc := .s) (x_nm 2) (atW x_int)) as_nil))) as_nil))) (ao_cons (px_po (x_nm 4)) (ao_cons (px_po (x_ix (mc := .s) (x_nm 2) (atW x_int))) ao_nil)))))))))))))
def law_held_1t : Rho → Option Bool := tOrF (tBl (f2 gIsN (f2 gIx (nm 1) (nm 4)) (cst .non))) (tBl (f2 gGe (f2 gIx (nm 1) (nm 4)) (nm 3)))
def law_held_1e : FX := f2 gIx (f2 gIx (nm 0) (nm 4)) (cst (.int 0))
def law_held_1 : FS := gRet (f1 gSum (fGive (fLc (fSeq D.lt (nm 2)) (gNm 4) law_held_1t law_held_1e [4])))
def law_held_g : FS := law_held_1
theorem nd_law_held : (["kinds", "rests_v", "bag", "least", "k"] : List Str).Nodup := by decide +kernel
def m_law_held : List D → Option D := mir 5 law_held_g
theorem ok_law_held (G : Gx K mg) (F : FunD K "_law_held" "_law_held" (defArgs (top 38)) (defBody (top 38)) (defScope (top 38)) [] [] f fd)  : FnOk P w K mg base C8.CX0 1 f fd ["kinds", "rests_v", "bag", "least"] (spF K 4 m_law_held) :=
  have nd := nd_law_held
  f_ok (N := ["kinds", "rests_v", "bag", "least", "k"]) F ⟨rfl, rfl, rfl, nd, rfl, by decide +kernel, by decide +kernel⟩ fun cdv A outer s H E hr =>
    (k_one (s_ret (x_b1 (c_sum rfl) (by rfl) G.sum bo_sum (atW (po_px (o_lc rfl nd (PIt.dn (st := false) (it_seq (x_nm 2))) (blkOk_by (own := [("k", 4)]) (by rfl)) (fun _ _ _ _ _ => (g_nm nd rfl (.inl rfl))) (fun _ _ _ _ _ => (ts_one (b_w (bw_or (b_cmp o_isN (x_ix (mc := .s) (x_nm 1) (atW (x_nm 4))) (atW x_non) (by rfl)) (bw_or1 (b_cmp o_ge (x_ix (mc := .s) (x_nm 1) (atW (x_nm 4))) (atW (x_nm 3)) (by rfl))))))) (fun _ _ _ _ _ => (x_ix (mc := .s) (x_ix (mc := .s) (x_nm 0) (atW (x_nm 4))) (atW x_int))) (by decide)))))))
def law_belongs_3 : FS := gRet (cst (.bl false))
def law_belongs_2 : FS := gIf (tOrF (tBl (f2 gIsN (f2 gIx (nm 1) (nm 4)) (cst .non))) (tBl (f2 gGt (fCall 4 m_law_held (aCons (nm 0) (aCons (nm 1) (aCons (nm 3) (aCons (f2 gIx (nm 1) (nm 4)) aNil)))) []) (f2 gSub (nm 2) (f2 gIx (nm 1) (nm 4)))))) law_belongs_3 (fun ρ => some (.nx ρ))
def law_belongs_1b : FS := law_belongs_2
def law_belongs_1 : FS := gFor (fSeq D.lt (nm 3)) (gNm 4) law_belongs_1b
def law_belongs_4 : FS := gRet (cst (.bl true))
def law_belongs_g : FS := gSeq law_belongs_1 law_belongs_4
theorem nd_law_belongs : (["kinds", "rests_v", "places", "bag", "k"] : List Str).Nodup := by decide +kernel
def m_law_belongs : List D → Option D := mir 5 law_belongs_g
theorem ok_law_belongs (G : Gx K mg) (F : FunD K "_law_belongs" "_law_belongs" (defArgs (top 39)) (defBody (top 39)) (defScope (top 39)) [] [] f fd) (c_law_held : CalF P w K mg base 1 "_law_held" 4 m_law_held []) : FnOk P w K mg base C8.CX0 2 f fd ["kinds", "rests_v", "places", "bag"] (spF K 4 m_law_belongs) :=
  have nd := nd_law_belongs
  f_ok (N := ["kinds", "rests_v", "places", "bag", "k"]) F ⟨rfl, rfl, rfl, nd, rfl, by decide +kernel, by decide +kernel⟩ fun cdv A outer s H E hr =>
    (k_cons (s_for PassesOwn.never rfl (it_seq (x_nm 3)) (g_nm nd rfl (.inl rfl)) (k_one (s_if (b_w (bw_or (b_cmp o_isN (x_ix (mc := .s) (x_nm 1) (atW (x_nm 4))) (atW x_non) (by rfl)) (bw_or1 (b_cmp o_gt (atW (x_call c_law_held hr (by decide) (by rfl) (as_cons (x_nm 0) (as_cons (x_nm 1) (as_cons (x_nm 3) (as_cons (x_ix (mc := .s) (x_nm 1) (atW (x_nm 4))) as_nil)))))) (atW (x_bin o_sub (atW (x_nm 2)) (x_ix (mc := .s) (x_nm 1) (atW (x_nm 4))))) (by rfl))))) (k_one (s_ret x_bl)) k_nil)))
    (k_one (s_ret x_bl)))
def law_needed_2 : FS := gRet (cst (.bl false))
def law_needed_1 : FS := gIf (tBl (f2 gIsN (f2 gIx (nm 1) (nm 3)) (cst .non))) law_needed_2 (fun ρ => some (.nx ρ))
def law_needed_5 : FS := gRet (cst (.bl false))
def law_needed_4 : FS := gIf (tAndF (tBl (f2 gNotN (f2 gIx (nm 1) (nm 4)) (cst .non))) (tBl (f2 gLt (f2 gIx (nm 1) (nm 4)) (f2 gAddI (f2 gIx (f2 gIx (nm 0) (nm 3)) (cst (.int 0))) (f2 gIx (nm 1) (nm 3)))))) law_needed_5 (fun ρ => some (.nx ρ))
def law_needed_3b : FS := law_needed_4
def law_needed_3 : FS := gFor (fSeq D.lt (nm 2)) (gNm 4) law_needed_3b
def law_needed_6 : FS := gRet (cst (.bl true))
def law_needed_g : FS := gSeq law_needed_1 (gSeq law_needed_3 law_needed_6)
theorem nd_law_needed : (["kinds", "rests_v", "bag", "kind", "k"] : List Str).Nodup := by decide +kernel
def m_law_needed : List D → Option D := mir 5 law_needed_g
theorem ok_law_needed (G : Gx K mg) (F : FunD K "_law_needed" "_law_needed" (defArgs (top 41)) (defBody (top 41)) (defScope (top 41)) [] [] f fd)  : FnOk P w K mg base C8.CX0 1 f fd ["kinds", "rests_v", "bag", "kind"] (spF K 4 m_law_needed) :=
  have nd := nd_law_needed
  f_ok (N := ["kinds", "rests_v", "bag", "kind", "k"]) F ⟨rfl, rfl, rfl, nd, rfl, by decide +kernel, by decide +kernel⟩ fun cdv A outer s H E hr =>
    (k_cons (s_if (b_cmp o_isN (x_ix (mc := .s) (x_nm 1) (atW (x_nm 3))) (atW x_non) (by rfl)) (k_one (s_ret x_bl)) k_nil)
    (k_cons (s_for PassesOwn.never rfl (it_seq (x_nm 2)) (g_nm nd rfl (.inl rfl)) (k_one (s_if (b_w (bw_and (b_cmp o_notN (x_ix (mc := .s) (x_nm 1) (atW (x_nm 4))) (atW x_non) (by rfl)) (bw_and1 (b_cmp o_lt (x_ix (mc := .s) (x_nm 1) (atW (x_nm 4))) (atW (x_bin o_addI (x_ix (mc := .s) (x_ix (mc := .s) (x_nm 0) (atW (x_nm 3))) (atW x_int)) (x_ix (mc := .s) (x_nm 1) (atW (x_nm 3))))) (by rfl))))) (k_one (s_ret x_bl)) k_nil)))
    (k_one (s_ret x_bl))))
def law_overfull_1t : Rho → Option Bool := tBl (f2 gIsN (f2 gIx (nm 1) (nm 6)) (cst .non))
def law_overfull_1e : FX := f2 gIx (f2 gIx (nm 0) (nm 6)) (cst (.int 0))
def law_overfull_1 : FS := gSet 4 (f1 gSum (fGive (fLc (fSeq D.lt (nm 3)) (gNm 6) law_overfull_1t law_overfull_1e [6])))
def law_overfull_3 : FS := gRet (fTup (aCons (cst .non) (aCons (nm 4) aNil)))
def law_overfull_2 : FS := gIf (tBl (f2 gGt (nm 4) (cst (.int 0)))) law_overfull_3 (fun ρ => some (.nx ρ))
def law_overfull_4e : FX := f2 gIx (nm 1) (nm 6)
def law_overfull_6 : FS := gRet (fTup (aCons (nm 5) (aCons (fCall 4 m_law_held (aCons (nm 0) (aCons (nm 1) (aCons (nm 3) (aCons (nm 5) aNil)))) []) aNil)))
def law_overfull_5 : FS := gIf (tBl (f2 gGt (fCall 4 m_law_held (aCons (nm 0) (aCons (nm 1) (aCons (nm 3) (aCons (nm 5) aNil)))) []) (f2 gSub (nm 2) (nm 5)))) law_overfull_6 (fun ρ => some (.nx ρ))
def law_overfull_4b : FS := law_overfull_5
def law_overfull_4 : FS := gFor (fSeq D.lstOf (fGive (fO1 gSortI (fGive (fLc (fSeq D.lt (nm 3)) (gNm 6) tYesF law_overfull_4e [6]))))) (gNm 5) law_overfull_4b
def law_overfull_7 : FS := gRet (cst .non)
def law_overfull_g : FS := gSeq law_overfull_1 (gSeq law_overfull_2 (gSeq law_overfull_4 law_overfull_7))
theorem nd_law_overfull : (["kinds", "rests_v", "places", "bag", "endless", "r", "k"] : List Str).Nodup := by decide +kernel
def m_law_overfull : List D → Option D := mir 7 law_overfull_g
theorem ok_law_overfull (G : Gx K mg) (F : FunD K "_law_overfull" "_law_overfull" (defArgs (top 40)) (defBody (top 40)) (defScope (top 40)) [] [] f fd) (c_law_held : CalF P w K mg base 1 "_law_held" 4 m_law_held []) : FnOk P w K mg base C8.CX0 2 f fd ["kinds", "rests_v", "places", "bag"] (spF K 4 m_law_overfull) :=
  have nd := nd_law_overfull
  f_ok (N := ["kinds", "rests_v", "places", "bag", "endless", "r", "k"]) F ⟨rfl, rfl, rfl, nd, rfl, by decide +kernel, by decide +kernel⟩ fun cdv A outer s H E hr =>
    (k_cons (s_set nd rfl (.inl rfl) (x_b1 (c_sum rfl) (by rfl) G.sum bo_sum (atW (po_px (o_lc rfl nd (PIt.dn (st := false) (it_seq (x_nm 3))) (blkOk_by (own := [("k", 6)]) (by rfl)) (fun _ _ _ _ _ => (g_nm nd rfl (.inl rfl))) (fun _ _ _ _ _ => (ts_one (b_cmp o_isN (x_ix (mc := .s) (x_nm 1) (atW (x_nm 6))) (atW x_non) (by rfl)))) (fun _ _ _ _ _ => (x_ix (mc := .s) (x_ix (mc := .s) (x_nm 0) (atW (x_nm 6))) (atW x_int))) (by decide))))))
    (k_cons (s_if (b_cmp o_gt (atW (x_nm 4)) (atW x_int) (by rfl)) (k_one (s_ret (x_tup (as_cons x_non (as_cons (x_nm 4) as_nil))))) k_nil)
    (k_cons (s_for PassesOwn.never rfl (it_lst (po_px (o_b1 c_sortI (by rfl) G.sorted bo_sorted (atW (po_px (o_lc rfl nd (PIt.dn (st := false) (it_seq (x_nm 3))) (blkOk_by (own := [("k", 6)]) (by rfl)) (fun _ _ _ _ _ => (g_nm nd rfl (.inl rfl))) (fun _ _ _ _ _ => ts_nil) (fun _ _ _ _ _ => (x_ix (mc := .s) (x_nm 1) (atW (x_nm 6)))) (by decide))))))) (g_nm nd rfl (.inl rfl)) (k_one (s_if (b_cmp o_gt (atW (x_call c_law_held hr (by decide) (by rfl) (as_cons (x_nm 0) (as_cons (x_nm 1) (as_cons (x_nm 3) (as_cons (x_nm 5) as_nil)))))) (atW (x_bin o_sub (atW (x_nm 2)) (atW (x_nm 5)))) (by rfl)) (k_one (s_ret (x_tup (as_cons (x_nm 5) (as_cons (x_call c_law_held hr (by decide) (by rfl) (as_cons (x_nm 0) (as_cons (x_nm 1) (as_cons (x_nm 3) (as_cons (x_nm 5) as_nil))))) as_nil))))) k_nil)))
    (k_one (s_ret x_non)))))
def law_rests_1e : FX := cst .non
def law_rests_1 : FS := gOwn 1 (fLc (fSeq D.lt (nm 0)) (gNm 4) tYesF law_rests_1e [4])
def law_rests_4t : Rho → Option Bool := tBl (f2 gIsN (f2 gIx (nmQ 1) (nm 5)) (cst .non))
def law_rests_4e : FX := nm 5
def law_rests_5e : FX := f2 gAddI (f2 gIx (nmQ 1) (nm 5)) (f2 gIx (f2 gIx (nm 0) (nm 5)) (cst (.int 0)))
def law_rests_5 : FS := gSetI (pNm 1) (nm 3) (fSh (f1 gMaxL (f2 gCatL (fGive (fLst (aoCons (fSh (cst (.int 0))) aoNil))) (fGive (fLc (fSeq D.lt (f2 gIx (f2 gIx (nm 0) (nm 3)) (cst (.int 1)))) (gNm 5) tYesF law_rests_5e [5])))))
def law_rests_4 : FS := gIf (tBl (f2 gEq (f1 gLen (fGive (fLc (fSeq D.lt (f2 gIx (f2 gIx (nm 0) (nm 3)) (cst (.int 1)))) (gNm 5) law_rests_4t law_rests_4e [5]))) (cst (.int 0)))) law_rests_5 (fun ρ => some (.nx ρ))
def law_rests_3b : FS := law_rests_4
def law_rests_3 : FS := gFor (fRg1 (f1 gLen (nm 0))) (gNm 3) law_rests_3b
def law_rests_2b : FS := law_rests_3
def law_rests_2 : FS := gFor (fRg1 (cst (.int 8))) (gNm 2) law_rests_2b
def law_rests_6 : FS := gFrz 1 (gRet (nm 1))
def law_rests_g : FS := gSeq law_rests_1 (gSeq law_rests_2 law_rests_6)
theorem nd_law_rests : (["kinds", "known", "turn", "k", "kind", "n"] : List Str).Nodup := by decide +kernel
def m_law_rests : List D → Option D := mir 6 law_rests_g
theorem ok_law_rests (G : Gx K mg) (F : FunD K "_law_rests" "_law_rests" (defArgs (top 37)) (defBody (top 37)) (defScope (top 37)) [] [] f fd)  : FnOk P w K mg base C8.CX0 1 f fd ["kinds"] (spF K 1 m_law_rests) :=
  have nd := nd_law_rests
  f_ok (N := ["kinds", "known", "turn", "k", "kind", "n"]) F ⟨rfl, rfl, rfl, nd, rfl, by decide +kernel, by decide +kernel⟩ fun cdv A outer s H E hr =>
    (k_cons (s_own nd rfl (.inr rfl) (o_lc rfl nd (PIt.dn (st := false) (it_seq (x_nm 0))) (blkOk_by (own := [("kind", 4)]) (by rfl)) (fun _ _ _ _ _ => (g_nm nd rfl (.inl rfl))) (fun _ _ _ _ _ => ts_nil) (fun _ _ _ _ _ => x_non) (by decide)))
    (k_cons (s_for PassesOwn.never rfl (it_rg1 (st := true) (by rfl) G.range (atW x_int)) (g_nm nd rfl (.inl rfl)) (k_one (s_for PassesOwn.never rfl (it_rg1 (st := true) (by rfl) G.range (atW (x_b1 c_len (by rfl) G.len bo_len (atW (x_nm 0))))) (g_nm nd rfl (.inl rfl)) (k_one (s_if (b_cmp (o_eq hr.units) (atW (x_b1 c_len (by rfl) G.len bo_len (atW (po_px (o_lc rfl nd (PIt.dn (st := false) (it_seq (x_ix (mc := .s) (x_ix (mc := .s) (x_nm 0) (atW (x_nm 3))) (atW x_int)))) (blkOk_by (own := [("n", 5)]) (by rfl)) (fun _ _ _ _ _ => (g_nm nd rfl (.inl rfl))) (fun _ _ _ _ _ => (ts_one (b_cmp o_isN (x_ix (mc := .q) (x_nmQ 1) (atW (x_nm 5))) (atW x_non) (by rfl)))) (fun _ _ _ _ _ => (x_nm 5)) (by decide)))))) (atW x_int) (by rfl)) (k_one (s_setI (p_nm 1) (atW (x_nm 3)) (px_po (x_b1 (c_maxL rfl) (by rfl) G.max bo_max (atW (x_bin o_catL (po_px (o_lst (ao_cons (px_po x_int) ao_nil))) (po_px (o_lc rfl nd (PIt.dn (st := false) (it_seq (x_ix (mc := .s) (x_ix (mc := .s) (x_nm 0) (atW (x_nm 3))) (atW x_int)))) (blkOk_by (own := [("n", 5)]) (by rfl)) (fun _ _ _ _ _ => (g_nm nd rfl (.inl rfl))) (fun _ _ _ _ _ => ts_nil) (fun _ _ _ _ _ => (x_bin o_addI (x_ix (mc := .q) (x_nmQ 1) (atW (x_nm 5))) (x_ix (mc := .s) (x_ix (mc := .s) (x_nm 0) (atW (x_nm 5))) (atW x_int)))) (by decide))))))))) k_nil)))))
    (k_one (s_frz 1 (s_ret (x_nm 1))))))
def law_whole_1 : FS := gRet (fAnd (f1 (gIsi "int") (nm 0)) (fNot (f1 (gIsi "bool") (nm 0))))
def law_whole_g : FS := law_whole_1
theorem nd_law_whole : (["value"] : List Str).Nodup := by decide +kernel
def m_law_whole : List D → Option D := mir 1 law_whole_g
theorem ok_law_whole (G : Gx K mg) (F : FunD K "_law_whole" "_law_whole" (defArgs (top 29)) (defBody (top 29)) (defScope (top 29)) [] [] f fd)  : FnOk P w K mg base C8.CX0 1 f fd ["value"] (spF K 1 m_law_whole) :=
  have nd := nd_law_whole
  f_ok (N := ["value"]) F ⟨rfl, rfl, rfl, nd, rfl, by decide +kernel, by decide +kernel⟩ fun cdv A outer s H E hr =>
    (k_one (s_ret (x_and (atW (x_isi (by rfl) G.isinstance (by rfl) G.int bo_int (atW (x_nm 0)))) (x_one (x_not (atW (x_isi (by rfl) G.isinstance (by rfl) G.bool bo_bool (atW (x_nm 0)))))))))
def law_same_3 (m : List D → Option D) : FS := gRet (cst (.bl false))
def law_same_2 (m : List D → Option D) : FS := gIf (tOrF (tNotF (tBl (f1 (gIsi "tuple") (nm 0)))) (tBl (f2 gNe (f1 gLen (nm 0)) (f1 gLen (nm 1))))) (law_same_3 m) (fun ρ => some (.nx ρ))
def law_same_4t (m : List D → Option D) : Rho → Option Bool := tNotF (tBl (fCall 2 m (aCons (f2 gIx (nm 0) (nm 2)) (aCons (f2 gIx (nm 1) (nm 2)) aNil)) []))
def law_same_4e (m : List D → Option D) : FX := nm 2
def law_same_4 (m : List D → Option D) : FS := gRet (f2 gEq (f1 gLen (fGive (fLc (fRg1 (f1 gLen (nm 1))) (gNm 2) (law_same_4t m) (law_same_4e m) [2]))) (cst (.int 0)))
def law_same_1 (m : List D → Option D) : FS := gIf (tBl (f1 (gIsi "tuple") (nm 1))) (gSeq (law_same_2 m) (law_same_4 m)) (fun ρ => some (.nx ρ))
def law_same_6 (m : List D → Option D) : FS := gRet (f2 gIsN (nm 0) (cst .non))
def law_same_5 (m : List D → Option D) : FS := gIf (tBl (f2 gIsN (nm 1) (cst .non))) (law_same_6 m) (fun ρ => some (.nx ρ))
def law_same_8 (m : List D → Option D) : FS := gRet (fAnd (f1 (gIsi "bool") (nm 0)) (f2 gEq (nm 0) (nm 1)))
def law_same_7 (m : List D → Option D) : FS := gIf (tOrF (tBl (f2 gIsTF (nm 1) (cst (.bl true)))) (tBl (f2 gIsTF (nm 1) (cst (.bl false))))) (law_same_8 m) (fun ρ => some (.nx ρ))
def law_same_10 (m : List D → Option D) : FS := gRet (fAnd (f1 (gIsi "str") (nm 0)) (f2 gEq (nm 0) (nm 1)))
def law_same_9 (m : List D → Option D) : FS := gIf (tBl (f1 (gIsi "str") (nm 1))) (law_same_10 m) (fun ρ => some (.nx ρ))
def law_same_11 (m : List D → Option D) : FS := gRet (fAnd (fCall 1 m_law_whole (aCons (nm 0) aNil) []) (f2 gEq (nm 0) (nm 1)))
def law_same_g (m : List D → Option D) : FS := gSeq (law_same_1 m) (gSeq (law_same_5 m) (gSeq (law_same_7 m) (gSeq (law_same_9 m) (law_same_11 m))))
theorem nd_law_same : (["told", "due", "k"] : List Str).Nodup := by decide +kernel
def m_law_same : Nat → List D → Option D
  | 0 => fun _ => none
  | k + 1 => mir 3 (law_same_g (m_law_same k))
theorem ok_law_same (G : Gx K mg) (F : FunD K "_law_same" "_law_same" (defArgs (top 30)) (defBody (top 30)) (defScope (top 30)) [] [] f fd) (hm : mg "_law_same" = some (.ref f)) (b : Binds K fd ["told", "due"] []) (c_law_whole : CalF P w K mg base 1 "_law_whole" 1 m_law_whole []) : ∀ k : Nat, FnOk P w K mg base C8.CX0 (2 + k) f fd ["told", "due"] (spF K 2 (m_law_same k))
  | 0 => ok_zero rfl
  | k + 1 =>
  have nd := nd_law_same
  have ih : CalF P w K mg base (2 + k) "_law_same" 2 (m_law_same k) [] := cal_of (ok_law_same G F hm b c_law_whole k) hm F.kp b
  f_ok (N := ["told", "due", "k"]) F ⟨rfl, rfl, rfl, nd, rfl, by decide +kernel, by decide +kernel⟩ fun cdv A outer s H E hr =>
    (k_cons (s_if (b_val (atW (x_isi (by rfl) G.isinstance (by rfl) G.tuple bo_tuple (atW (x_nm 1))))) (k_cons (s_if (b_w (bw_or (b_not (b_val (atW (x_isi (by rfl) G.isinstance (by rfl) G.tuple bo_tuple (atW (x_nm 0)))))) (bw_or1 (b_cmp (o_ne hr.units) (atW (x_b1 c_len (by rfl) G.len bo_len (atW (x_nm 0)))) (atW (x_b1 c_len (by rfl) G.len bo_len (atW (x_nm 1)))) (by rfl))))) (k_one (s_ret x_bl)) k_nil)
    (k_one (s_ret (x_cmp (o_eq hr.units) (atW (x_b1 c_len (by rfl) G.len bo_len (atW (po_px (o_lc rfl nd (it_rg1 (st := false) (by rfl) G.range (atW (x_b1 c_len (by rfl) G.len bo_len (atW (x_nm 1))))) (blkOk_by (own := [("k", 2)]) (by rfl)) (fun _ _ _ _ _ => (g_nm nd rfl (.inl rfl))) (fun _ _ _ _ _ => (ts_one (b_not (b_val (atW (x_call ih hr (Nat.le_refl _) (by rfl) (as_cons (x_ix (mc := .s) (x_nm 0) (atW (x_nm 2))) (as_cons (x_ix (mc := .s) (x_nm 1) (atW (x_nm 2))) as_nil)))))))) (fun _ _ _ _ _ => (x_nm 2)) (by decide)))))) (atW x_int) (by rfl))))) k_nil)
    (k_cons (s_if (b_cmp o_isN (atW (x_nm 1)) (atW x_non) (by rfl)) (k_one (s_ret (x_cmp o_isN (atW (x_nm 0)) (atW x_non) (by rfl)))) k_nil)
    (k_cons (s_if (b_w (bw_or (b_cmp o_isTF (atW (x_nm 1)) (atW x_bl) (by rfl)) (bw_or1 (b_cmp o_isTF (atW (x_nm 1)) (atW x_bl) (by rfl))))) (k_one (s_ret (x_and (atW (x_isi (by rfl) G.isinstance (by rfl) G.bool bo_bool (atW (x_nm 0)))) (x_one (x_cmp (o_eq hr.units) (atW (x_nm 0)) (atW (x_nm 1)) (by rfl)))))) k_nil)
    (k_cons (s_if (b_val (atW (x_isi (by rfl) G.isinstance (by rfl) G.str bo_str (atW (x_nm 1))))) (k_one (s_ret (x_and (atW (x_isi (by rfl) G.isinstance (by rfl) G.str bo_str (atW (x_nm 0)))) (x_one (x_cmp (o_eq hr.units) (atW (x_nm 0)) (atW (x_nm 1)) (by rfl)))))) k_nil)
    (k_one (s_ret (x_and (atW (x_call c_law_whole hr (Nat.le_trans (by decide : 1 ≤ 2) (Nat.le_add_right 2 _)) (by rfl) (as_cons (x_nm 0) as_nil))) (x_one (x_cmp (o_eq hr.units) (atW (x_nm 0)) (atW (x_nm 1)) (by rfl))))))))))
def held_by_1t : Rho → Option Bool := tOrF (tBl (f2 gIsN (f2 gIx (nm 1) (nm 4)) (cst .non))) (tBl (f2 gGe (f2 gIx (nm 1) (nm 4)) (nm 3)))
def held_by_1e : FX := f2 gIx (f1 (gFld "Book" "sizes") (nm 0)) (nm 4)
def held_by_1 : FS := gRet (f1 gSum (fGive (fLc (fSeq D.lt (nm 2)) (gNm 4) held_by_1t held_by_1e [4])))
def held_by_g : FS := held_by_1
theorem nd_held_by : (["book", "all_rests", "bag", "least_rest", "item"] : List Str).Nodup := by decide +kernel
def m_held_by : List D → Option D := mir 5 held_by_g
theorem ok_held_by (G : Gx K mg) (F : FunD K "held_by" "held_by" (defArgs (top 14)) (defBody (top 14)) (defScope (top 14)) [] [] f fd)  : FnOk P w K mg base C8.CX0 1 f fd ["book", "all_rests", "bag", "least_rest"] (spF K 4 m_held_by) :=
  have nd := nd_held_by
  f_ok (N := ["book", "all_rests", "bag", "least_rest", "item"]) F ⟨rfl, rfl, rfl, nd, rfl, by decide +kernel, by decide +kernel⟩ fun cdv A outer s H E hr =>
    (k_one (s_ret (x_b1 (c_sum rfl) (by rfl) G.sum bo_sum (atW (po_px (o_lc rfl nd (PIt.dn (st := false) (it_seq (x_nm 2))) (blkOk_by (own := [("item", 4)]) (by rfl)) (fun _ _ _ _ _ => (g_nm nd rfl (.inl rfl))) (fun _ _ _ _ _ => (ts_one (b_w (bw_or (b_cmp o_isN (x_ix (mc := .s) (x_nm 1) (atW (x_nm 4))) (atW x_non) (by rfl)) (bw_or1 (b_cmp o_ge (x_ix (mc := .s) (x_nm 1) (atW (x_nm 4))) (atW (x_nm 3)) (by rfl))))))) (fun _ _ _ _ _ => (x_ix (mc := .s) (x_fld (mc := .s) G.f_sizes (x_nm 0)) (atW (x_nm 4)))) (by decide)))))))
def Book_len_1 : FS := gRet (f1 gLen (f1 (gFld "Book" "names") (nm 0)))
def Book_len_g : FS := Book_len_1
theorem nd_Book_len : (["self"] : List Str).Nodup := by decide +kernel
def m_Book_len : List D → Option D := mir 1 Book_len_g
theorem ok_Book_len (G : Gx K mg) (F : FunD K "__len__" "Book.__len__" (defArgs (inClass (top 27) 2)) (defBody (inClass (top 27) 2)) (defScope (inClass (top 27) 2)) [] [] f fd)  : FnOk P w K mg base C8.CX0 1 f fd ["self"] (spF K 1 m_Book_len) :=
  have nd := nd_Book_len
  f_ok (N := ["self"]) F ⟨rfl, rfl, rfl, nd, rfl, by decide +kernel, by decide +kernel⟩ fun cdv A outer s H E hr =>
    (k_one (s_ret (x_b1 c_len (by rfl) G.len bo_len (x_fld (mc := .s) G.f_names (x_nm 0)))))
def longest_sums_1 : FS := gOwn 2 (fRep (fLst (aoCons (fSh (cst .non)) aoNil)) (f1 (gLenO "Book" m_Book_len) (nm 0)))
def longest_sums_4e : FX := fIf (tBl (f2 gIsN (f2 gIx (nmQ 2) (nm 6)) (cst .non))) (cst .non) (f2 gAddI (f2 gIx (nm 1) (nm 6)) (f2 gIx (nmQ 2) (nm 6)))
def longest_sums_4 : FS := gOwn 5 (fLc (fSeq D.lt (f2 gIx (f1 (gFld "Book" "nexts") (nm 0)) (nm 4))) (gNm 6) tYesF longest_sums_4e [6])
def longest_sums_6 : FS := gSetI (pNm 2) (nm 4) (fSh (f2 gMaxDf (nmQ 5) (cst (.int 0))))
def longest_sums_5 : FS := gIf (tBl (f2 gNotIn (cst .non) (nmQ 5))) longest_sums_6 (fun ρ => some (.nx ρ))
def longest_sums_3b : FS := gSeq longest_sums_4 longest_sums_5
def longest_sums_3 : FS := gFor (fRg1 (f1 (gLenO "Book" m_Book_len) (nm 0))) (gNm 4) longest_sums_3b
def longest_sums_2b : FS := longest_sums_3
def longest_sums_2 : FS := gFor (fRg1 (f1 (gLenO "Book" m_Book_len) (nm 0))) (gNm 3) longest_sums_2b
def longest_sums_7 : FS := gRet (f1 gTuple (nmQ 2))
def longest_sums_g : FS := gSeq longest_sums_1 (gSeq longest_sums_2 longest_sums_7)
theorem nd_longest_sums : (["book", "weights", "known", "turn", "kind", "sums", "one"] : List Str).Nodup := by decide +kernel
def m_longest_sums : List D → Option D := mir 7 longest_sums_g
theorem ok_longest_sums (G : Gx K mg) (F : FunD K "longest_sums" "longest_sums" (defArgs (top 9)) (defBody (top 9)) (defScope (top 9)) [] [] f fd) (c_Book_len : MetF P w K mg base 1 "Book" "__len__" 1 m_Book_len []) : FnOk P w K mg base C8.CX0 3 f fd ["book", "weights"] (spF K 2 m_longest_sums) :=
  have nd := nd_longest_sums
  f_ok (N := ["book", "weights", "known", "turn", "kind", "sums", "one"]) F ⟨rfl, rfl, rfl, nd, rfl, by decide +kernel, by decide +kernel⟩ fun cdv A outer s H E hr =>
    (k_cons (s_own nd rfl (.inr rfl) (o_rep (o_lst (ao_cons (px_po x_non) ao_nil)) (atW (x_lenO c_Book_len hr (by decide) (by rfl) G.len (x_nm 0)))))
    (k_cons (s_for PassesOwn.never rfl (it_rg1 (st := true) (by rfl) G.range (atW (x_lenO c_Book_len hr (by decide) (by rfl) G.len (x_nm 0)))) (g_nm nd rfl (.inl rfl)) (k_one (s_for PassesOwn.never rfl (it_rg1 (st := true) (by rfl) G.range (atW (x_lenO c_Book_len hr (by decide) (by rfl) G.len (x_nm 0)))) (g_nm nd rfl (.inl rfl)) (k_cons (s_setLc rfl nd rfl rfl (sw_true rfl rfl rfl rfl) (PIt.dn (st := false) (it_seq (x_ix (mc := .s) (x_fld (mc := .s) G.f_nexts (x_nm 0)) (atW (x_nm 4))))) (blkOk_by (own := [("one", 6)]) (by rfl)) (fun _ _ _ _ _ => (g_nm nd rfl (.inl rfl))) (fun _ _ _ _ _ => ts_nil) (fun _ _ _ _ _ => (x_if (b_cmp o_isN (x_ix (mc := .q) (x_nmQ 2) (atW (x_nm 6))) (atW x_non) (by rfl)) x_non (x_bin o_addI (x_ix (mc := .s) (x_nm 1) (atW (x_nm 6))) (x_ix (mc := .q) (x_nmQ 2) (atW (x_nm 6)))))) (by decide))
    (k_one (s_if (b_cmp o_notIn (atW x_non) (x_nmQ 5) (by rfl)) (k_one (s_setI (p_nm 2) (atW (x_nm 4)) (px_po (x_maxDf rfl (by rfl) G.max (x_nmQ 5) x_int)))) k_nil))))))
    (k_one (s_ret (x_t1 c_tuple (by rfl) G.tuple bo_tuple (x_nmQ 2))))))
def rests_1 : FS := gRet (fCall 2 m_longest_sums (aCons (nm 0) (aCons (f1 (gFld "Book" "sizes") (nm 0)) aNil)) [])
def rests_g : FS := rests_1
theorem nd_rests : (["book"] : List Str).Nodup := by decide +kernel
def m_rests : List D → Option D := mir 1 rests_g
theorem ok_rests (G : Gx K mg) (F : FunD K "rests" "rests" (defArgs (top 10)) (defBody (top 10)) (defScope (top 10)) [] [] f fd) (c_longest_sums : CalF P w K mg base 3 "longest_sums" 2 m_longest_sums []) : FnOk P w K mg base C8.CX0 4 f fd ["book"] (spF K 1 m_rests) :=
  have nd := nd_rests
  f_ok (N := ["book"]) F ⟨rfl, rfl, rfl, nd, rfl, by decide +kernel, by decide +kernel⟩ fun cdv A outer s H E hr =>
    (k_one (s_ret (x_call c_longest_sums hr (by decide) (by rfl) (as_cons (x_nm 0) (as_cons (x_fld (mc := .s) G.f_sizes (x_nm 0)) as_nil)))))
def held_1 : FS := gRet (fCall 4 m_held_by (aCons (nm 0) (aCons (fCall 1 m_rests (aCons (nm 0) aNil) []) (aCons (nm 1) (aCons (nm 2) aNil)))) [])
def held_g : FS := held_1
theorem nd_held : (["book", "bag", "least_rest"] : List Str).Nodup := by decide +kernel
def m_held : List D → Option D := mir 3 held_g
theorem ok_held (G : Gx K mg) (F : FunD K "held" "held" (defArgs (top 15)) (defBody (top 15)) (defScope (top 15)) [] [] f fd) (c_held_by : CalF P w K mg base 1 "held_by" 4 m_held_by []) (c_rests : CalF P w K mg base 4 "rests" 1 m_rests []) : FnOk P w K mg base C8.CX0 5 f fd ["book", "bag", "least_rest"] (spF K 3 m_held) :=
  have nd := nd_held
  f_ok (N := ["book", "bag", "least_rest"]) F ⟨rfl, rfl, rfl, nd, rfl, by decide +kernel, by decide +kernel⟩ fun cdv A outer s H E hr =>
    (k_one (s_ret (x_call c_held_by hr (by decide) (by rfl) (as_cons (x_nm 0) (as_cons (x_call c_rests hr (by decide) (by rfl) (as_cons (x_nm 0) as_nil)) (as_cons (x_nm 1) (as_cons (x_nm 2) as_nil)))))))
def kinds_in_1t : Rho → Option Bool := tBl (f2 gIn (nm 1) (nm 0))
def kinds_in_1e : FX := nm 1
def kinds_in_1 : FS := gRet (f1 gTuple (fGive (fLc (fRg1 (cst (.int 6))) (gNm 1) kinds_in_1t kinds_in_1e [1])))
def kinds_in_g : FS := kinds_in_1
theorem nd_kinds_in : (["bag", "kind"] : List Str).Nodup := by decide +kernel
def m_kinds_in : List D → Option D := mir 2 kinds_in_g
theorem ok_kinds_in (G : Gx K mg) (F : FunD K "kinds_in" "kinds_in" (defArgs (top 7)) (defBody (top 7)) (defScope (top 7)) [] [] f fd)  : FnOk P w K mg base C8.CX0 1 f fd ["bag"] (spF K 1 m_kinds_in) :=
  have nd := nd_kinds_in
  f_ok (N := ["bag", "kind"]) F ⟨rfl, rfl, rfl, nd, rfl, by decide +kernel, by decide +kernel⟩ fun cdv A outer s H E hr =>
    (k_one (s_ret (x_t1 c_tuple (by rfl) G.tuple bo_tuple (po_px (o_lc rfl nd (it_rg1 (st := false) (by rfl) G.range (atW (x_gv G.KINDS (by rfl)))) (blkOk_by (own := [("kind", 1)]) (by rfl)) (fun _ _ _ _ _ => (g_nm nd rfl (.inl rfl))) (fun _ _ _ _ _ => (ts_one (b_cmp o_in (atW (x_nm 1)) (atW (x_nm 0)) (by rfl)))) (fun _ _ _ _ _ => (x_nm 1)) (by decide))))))
def belongs_3 : FS := gRet (cst (.bl false))
def belongs_2 : FS := gIf (tOrF (tBl (f2 gIsN (f2 gIx (nm 1) (nm 5)) (cst .non))) (tBl (f2 gGt (fCall 4 m_held_by (aCons (nm 0) (aCons (nm 1) (aCons (nm 3) (aCons (f2 gIx (nm 1) (nm 5)) aNil)))) []) (f2 gSub (nm 2) (f2 gIx (nm 1) (nm 5)))))) belongs_3 (fun ρ => some (.nx ρ))
def belongs_5 : FS := gRet (cst (.bl false))
def belongs_4 : FS := gIf (tAndF (tBl (f2 gNotN (nm 4) (cst .non))) (tBl (f2 gGt (f2 gIx (nm 1) (nm 5)) (nm 4)))) belongs_5 (fun ρ => some (.nx ρ))
def belongs_1b : FS := gSeq belongs_2 belongs_4
def belongs_1 : FS := gFor (fSeq D.lt (fCall 1 m_kinds_in (aCons (nm 3) aNil) [])) (gNm 5) belongs_1b
def belongs_6 : FS := gRet (cst (.bl true))
def belongs_g : FS := gSeq belongs_1 belongs_6
theorem nd_belongs : (["book", "all_rests", "places", "bag", "most_rest", "kind"] : List Str).Nodup := by decide +kernel
def m_belongs : List D → Option D := mir 6 belongs_g
theorem ok_belongs (G : Gx K mg) (F : FunD K "belongs" "belongs" (defArgs (top 16)) (defBody (top 16)) (defScope (top 16)) [] [] f fd) (c_held_by : CalF P w K mg base 1 "held_by" 4 m_held_by []) (c_kinds_in : CalF P w K mg base 1 "kinds_in" 1 m_kinds_in []) : FnOk P w K mg base C8.CX0 2 f fd ["book", "all_rests", "places", "bag", "most_rest"] (spF K 5 m_belongs) :=
  have nd := nd_belongs
  f_ok (N := ["book", "all_rests", "places", "bag", "most_rest", "kind"]) F ⟨rfl, rfl, rfl, nd, rfl, by decide +kernel, by decide +kernel⟩ fun cdv A outer s H E hr =>
    (k_cons (s_for PassesOwn.never rfl (it_seq (x_call c_kinds_in hr (by decide) (by rfl) (as_cons (x_nm 3) as_nil))) (g_nm nd rfl (.inl rfl)) (k_cons (s_if (b_w (bw_or (b_cmp o_isN (x_ix (mc := .s) (x_nm 1) (atW (x_nm 5))) (atW x_non) (by rfl)) (bw_or1 (b_cmp o_gt (atW (x_call c_held_by hr (by decide) (by rfl) (as_cons (x_nm 0) (as_cons (x_nm 1) (as_cons (x_nm 3) (as_cons (x_ix (mc := .s) (x_nm 1) (atW (x_nm 5))) as_nil)))))) (atW (x_bin o_sub (atW (x_nm 2)) (x_ix (mc := .s) (x_nm 1) (atW (x_nm 5))))) (by rfl))))) (k_one (s_ret x_bl)) k_nil)
    (k_one (s_if (b_w (bw_and (b_cmp o_notN (atW (x_nm 4)) (atW x_non) (by rfl)) (bw_and1 (b_cmp o_gt (x_ix (mc := .s) (x_nm 1) (atW (x_nm 5))) (atW (x_nm 4)) (by rfl))))) (k_one (s_ret x_bl)) k_nil))))
    (k_one (s_ret x_bl)))
def in_freest_1 : FS := gRet (fCall 5 m_belongs (aCons (nm 0) (aCons (fCall 1 m_rests (aCons (nm 0) aNil) []) (aCons (nm 1) (aCons (nm 2) (aCons (nm 3) aNil))))) [])
def in_freest_g : FS := in_freest_1
theorem nd_in_freest : (["book", "places", "bag", "most_rest"] : List Str).Nodup := by decide +kernel
def m_in_freest : List D → Option D := mir 4 in_freest_g
theorem ok_in_freest (G : Gx K mg) (F : FunD K "in_freest" "in_freest" (defArgs (top 17)) (defBody (top 17)) (defScope (top 17)) [] [("most_rest", .non)] f fd) (c_belongs : CalF P w K mg base 2 "belongs" 5 m_belongs []) (c_rests : CalF P w K mg base 4 "rests" 1 m_rests []) : FnOk P w K mg base C8.CX0 5 f fd ["book", "places", "bag", "most_rest"] (spF K 4 m_in_freest) :=
  have nd := nd_in_freest
  f_ok (N := ["book", "places", "bag", "most_rest"]) F ⟨rfl, rfl, rfl, nd, rfl, by decide +kernel, by decide +kernel⟩ fun cdv A outer s H E hr =>
    (k_one (s_ret (x_call c_belongs hr (by decide) (by rfl) (as_cons (x_nm 0) (as_cons (x_call c_rests hr (by decide) (by rfl) (as_cons (x_nm 0) as_nil)) (as_cons (x_nm 1) (as_cons (x_nm 2) (as_cons (x_nm 3) as_nil))))))))
def falls_2 : FS := gRet (cst (.bl false))
def falls_1 : FS := gIf (tBl (f2 gIsN (f2 gIx (nm 1) (nm 3)) (cst .non))) falls_2 (fun ρ => some (.nx ρ))
def falls_3 : FS := gSet 4 (f2 gAddI (f2 gIx (f1 (gFld "Book" "sizes") (nm 0)) (nm 3)) (f2 gIx (nm 1) (nm 3)))
def falls_4t : Rho → Option Bool := tAndF (tBl (f2 gNotN (f2 gIx (nm 1) (nm 5)) (cst .non))) (tBl (f2 gLt (f2 gIx (nm 1) (nm 5)) (nm 4)))
def falls_4e : FX := nm 5
def falls_4 : FS := gRet (f2 gEq (f1 gLen (fGive (fLc (fSeq D.lt (nm 2)) (gNm 5) falls_4t falls_4e [5]))) (cst (.int 0)))
def falls_g : FS := gSeq falls_1 (gSeq falls_3 falls_4)
theorem nd_falls : (["book", "all_rests", "bag", "kind", "least", "item"] : List Str).Nodup := by decide +kernel
def m_falls : List D → Option D := mir 6 falls_g
theorem ok_falls (G : Gx K mg) (F : FunD K "falls" "falls" (defArgs (top 12)) (defBody (top 12)) (defScope (top 12)) [] [] f fd)  : FnOk P w K mg base C8.CX0 1 f fd ["book", "all_rests", "bag", "kind"] (spF K 4 m_falls) :=
  have nd := nd_falls
  f_ok (N := ["book", "all_rests", "bag", "kind", "least", "item"]) F ⟨rfl, rfl, rfl, nd, rfl, by decide +kernel, by decide +kernel⟩ fun cdv A outer s H E hr =>
    (k_cons (s_if (b_cmp o_isN (x_ix (mc := .s) (x_nm 1) (atW (x_nm 3))) (atW x_non) (by rfl)) (k_one (s_ret x_bl)) k_nil)
    (k_cons (s_set nd rfl (.inr rfl) (x_bin o_addI (x_ix (mc := .s) (x_fld (mc := .s) G.f_sizes (x_nm 0)) (atW (x_nm 3))) (x_ix (mc := .s) (x_nm 1) (atW (x_nm 3)))))
    (k_one (s_ret (x_cmp (o_eq hr.units) (atW (x_b1 c_len (by rfl) G.len bo_len (atW (po_px (o_lc rfl nd (PIt.dn (st := false) (it_seq (x_nm 2))) (blkOk_by (own := [("item", 5)]) (by rfl)) (fun _ _ _ _ _ => (g_nm nd rfl (.inl rfl))) (fun _ _ _ _ _ => (ts_one (b_w (bw_and (b_cmp o_notN (x_ix (mc := .s) (x_nm 1) (atW (x_nm 5))) (atW x_non) (by rfl)) (bw_and1 (b_cmp o_lt (x_ix (mc := .s) (x_nm 1) (atW (x_nm 5))) (atW (x_nm 4)) (by rfl))))))) (fun _ _ _ _ _ => (x_nm 5)) (by decide)))))) (atW x_int) (by rfl))))))
def is_needed_1 : FS := gRet (fCall 4 m_falls (aCons (nm 0) (aCons (fCall 1 m_rests (aCons (nm 0) aNil) []) (aCons (nm 1) (aCons (nm 2) aNil)))) [])
def is_needed_g : FS := is_needed_1
theorem nd_is_needed : (["book", "bag", "kind"] : List Str).Nodup := by decide +kernel
def m_is_needed : List D → Option D := mir 3 is_needed_g
theorem ok_is_needed (G : Gx K mg) (F : FunD K "is_needed" "is_needed" (defArgs (top 19)) (defBody (top 19)) (defScope (top 19)) [] [] f fd) (c_falls : CalF P w K mg base 1 "falls" 4 m_falls []) (c_rests : CalF P w K mg base 4 "rests" 1 m_rests []) : FnOk P w K mg base C8.CX0 5 f fd ["book", "bag", "kind"] (spF K 3 m_is_needed) :=
  have nd := nd_is_needed
  f_ok (N := ["book", "bag", "kind"]) F ⟨rfl, rfl, rfl, nd, rfl, by decide +kernel, by decide +kernel⟩ fun cdv A outer s H E hr =>
    (k_one (s_ret (x_call c_falls hr (by decide) (by rfl) (as_cons (x_nm 0) (as_cons (x_call c_rests hr (by decide) (by rfl) (as_cons (x_nm 0) as_nil)) (as_cons (x_nm 1) (as_cons (x_nm 2) as_nil)))))))
def overfull_1 : FS := gSet 3 (fCall 1 m_rests (aCons (nm 0) aNil) [])
def overfull_2t : Rho → Option Bool := tBl (f2 gIsN (f2 gIx (nm 3) (nm 6)) (cst .non))
def overfull_2e : FX := f2 gIx (f1 (gFld "Book" "sizes") (nm 0)) (nm 6)
def overfull_2 : FS := gSet 4 (f1 gSum (fGive (fLc (fSeq D.lt (nm 2)) (gNm 6) overfull_2t overfull_2e [6])))
def overfull_4 : FS := gRet (fTup (aCons (cst .non) (aCons (nm 4) aNil)))
def overfull_3 : FS := gIf (tBl (f2 gGt (nm 4) (cst (.int 0)))) overfull_4 (fun ρ => some (.nx ρ))
def overfull_5e : FX := f2 gIx (nm 3) (nm 6)
def overfull_7 : FS := gRet (fTup (aCons (nm 5) (aCons (fCall 4 m_held_by (aCons (nm 0) (aCons (nm 3) (aCons (nm 2) (aCons (nm 5) aNil)))) []) aNil)))
def overfull_6 : FS := gIf (tBl (f2 gGt (fCall 4 m_held_by (aCons (nm 0) (aCons (nm 3) (aCons (nm 2) (aCons (nm 5) aNil)))) []) (f2 gSub (nm 1) (nm 5)))) overfull_7 (fun ρ => some (.nx ρ))
def overfull_5b : FS := overfull_6
def overfull_5 : FS := gFor (fSeq D.lstOf (fGive (fO1 gSortSet (fGive (fLc (fSeq D.lt (nm 2)) (gNm 6) tYesF overfull_5e [6]))))) (gNm 5) overfull_5b
def overfull_8 : FS := gRet (cst .non)
def overfull_g : FS := gSeq overfull_1 (gSeq overfull_2 (gSeq overfull_3 (gSeq overfull_5 overfull_8)))
theorem nd_overfull : (["book", "places", "bag", "all_rests", "endless", "least_rest", "item"] : List Str).Nodup := by decide +kernel
def m_overfull : List D → Option D := mir 7 overfull_g
theorem ok_overfull (G : Gx K mg) (F : FunD K "overfull" "overfull" (defArgs (top 18)) (defBody (top 18)) (defScope (top 18)) [] [] f fd) (c_held_by : CalF P w K mg base 1 "held_by" 4 m_held_by []) (c_rests : CalF P w K mg base 4 "rests" 1 m_rests []) : FnOk P w K mg base C8.CX0 5 f fd ["book", "places", "bag"] (spF K 3 m_overfull) :=
  have nd := nd_overfull
  f_ok (N := ["book", "places", "bag", "all_rests", "endless", "least_rest", "item"]) F ⟨rfl, rfl, rfl, nd, rfl, by decide +kernel, by decide +kernel⟩ fun cdv A outer s H E hr =>
    (k_cons (s_set nd rfl (.inr rfl) (x_call c_rests hr (by decide) (by rfl) (as_cons (x_nm 0) as_nil)))
    (k_cons (s_set nd rfl (.inl rfl) (x_b1 (c_sum rfl) (by rfl) G.sum bo_sum (atW (po_px (o_lc rfl nd (PIt.dn (st := false) (it_seq (x_nm 2))) (blkOk_by (own := [("item", 6)]) (by rfl)) (fun _ _ _ _ _ => (g_nm nd rfl (.inl rfl))) (fun _ _ _ _ _ => (ts_one (b_cmp o_isN (x_ix (mc := .s) (x_nm 3) (atW (x_nm 6))) (atW x_non) (by rfl)))) (fun _ _ _ _ _ => (x_ix (mc := .s) (x_fld (mc := .s) G.f_sizes (x_nm 0)) (atW (x_nm 6)))) (by decide))))))
    (k_cons (s_if (b_cmp o_gt (atW (x_nm 4)) (atW x_int) (by rfl)) (k_one (s_ret (x_tup (as_cons x_non (as_cons (x_nm 4) as_nil))))) k_nil)
    (k_cons (s_for PassesOwn.never rfl (it_lst (po_px (o_sortSet rfl (by rfl) G.sorted (by rfl) G.set (atW (po_px (o_lc rfl nd (PIt.dn (st := false) (it_seq (x_nm 2))) (blkOk_by (own := [("item", 6)]) (by rfl)) (fun _ _ _ _ _ => (g_nm nd rfl (.inl rfl))) (fun _ _ _ _ _ => ts_nil) (fun _ _ _ _ _ => (x_ix (mc := .s) (x_nm 3) (atW (x_nm 6)))) (by decide))))))) (g_nm nd rfl (.inl rfl)) (k_one (s_if (b_cmp o_gt (atW (x_call c_held_by hr (by decide) (by rfl) (as_cons (x_nm 0) (as_cons (x_nm 3) (as_cons (x_nm 2) (as_cons (x_nm 5) as_nil)))))) (atW (x_bin o_sub (atW (x_nm 1)) (atW (x_nm 5)))) (by rfl)) (k_one (s_ret (x_tup (as_cons (x_nm 5) (as_cons (x_call c_held_by hr (by decide) (by rfl) (as_cons (x_nm 0) (as_cons (x_nm 3) (as_cons (x_nm 2) (as_cons (x_nm 5) as_nil))))) as_nil))))) k_nil)))
    (k_one (s_ret x_non))))))
def law_right_1 : FS := gSet 5 (fCall 1 m_law_rests (aCons (nm 0) aNil) [])
def law_right_4 : FS := gRet (cst (.bl false))
def law_right_3 : FS := gIf (tNotF (tBl (fCall 2 (m_law_same 3) (aCons (fCall 3 m_held (aCons (nm 1) (aCons (nm 3) (aCons (nm 6) aNil))) []) (aCons (fCall 4 m_law_held (aCons (nm 0) (aCons (nm 5) (aCons (nm 2) (aCons (nm 6) aNil)))) []) aNil)) []))) law_right_4 (fun ρ => some (.nx ρ))
def law_right_2b : FS := law_right_3
def law_right_2 : FS := gFor (fSeq D.lstOf (f2 gCatL (fGive (fRgL (fRg1 (cst (.int 18))))) (fGive (fLst (aoCons (fSh (cst (.int 99))) (aoCons (fSh (nm 4)) aoNil)))))) (gNm 6) law_right_2b
def law_right_5t : Rho → Option Bool := tBl (f2 gNotN (f2 gIx (nm 5) (nm 12)) (cst .non))
def law_right_5e : FX := f2 gIx (nm 5) (nm 12)
def law_right_5 : FS := gSet 7 (f1 gMaxL (f2 gCatL (fGive (fLst (aoCons (fSh (cst (.int 0))) aoNil))) (fGive (fLc (fSeq D.lt (nm 2)) (gNm 12) law_right_5t law_right_5e [12]))))
def law_right_7 : FS := gSet 9 (fCall 4 m_law_belongs (aCons (nm 0) (aCons (nm 5) (aCons (nm 8) (aCons (nm 2) aNil)))) [])
def law_right_9 : FS := gRet (cst (.bl false))
def law_right_8 : FS := gIf (tNotF (tBl (fCall 2 (m_law_same 3) (aCons (fCall 4 m_in_freest (aCons (nm 1) (aCons (nm 8) (aCons (nm 3) aNil))) [.non]) (aCons (nm 9) aNil)) []))) law_right_9 (fun ρ => some (.nx ρ))
def law_right_11 : FS := gRet (cst (.bl false))
def law_right_10 : FS := gIf (tNotF (tBl (fCall 2 (m_law_same 3) (aCons (fCall 3 m_overfull (aCons (nm 1) (aCons (nm 8) (aCons (nm 3) aNil))) []) (aCons (fCall 4 m_law_overfull (aCons (nm 0) (aCons (nm 5) (aCons (nm 8) (aCons (nm 2) aNil)))) []) aNil)) []))) law_right_11 (fun ρ => some (.nx ρ))
def law_right_12 : FS := gSet 10 (f2 gMax2 (cst (.int 0)) (f2 gAddI (f2 gSub (nm 7) (cst (.int 1))) (f2 gMod (f1 gInt (f2 gAddI (nm 4) (nm 8))) (cst (.int 3)))))
def law_right_14 : FS := gRet (cst (.bl false))
def law_right_13 : FS := gIf (tNotF (tBl (fCall 2 (m_law_same 3) (aCons (fCallK 3 (["most_rest"] : List Str).length 4 (fun x y => x ++ y) m_in_freest (aCons (nm 1) (aCons (nm 8) (aCons (nm 3) aNil))) (aCons (nm 10) aNil)) (aCons (fAnd (nm 9) (fOr (f2 gEq (f1 gLen (nm 2)) (cst (.int 0))) (f2 gLe (nm 7) (nm 10)))) aNil)) []))) law_right_14 (fun ρ => some (.nx ρ))
def law_right_16 : FS := gRet (cst (.bl false))
def law_right_15 : FS := gIf (tAndF (tBl (f2 gEq (nm 8) (f2 gMod (f1 gInt (nm 4)) (cst (.int 13))))) (tNotF (tBl (fCall 2 (m_law_same 3) (aCons (fCallK 3 (["most_rest"] : List Str).length 4 (fun x y => x ++ y) m_in_freest (aCons (nm 1) (aCons (nm 8) (aCons (nm 3) aNil))) (aCons (cst .non) aNil)) (aCons (nm 9) aNil)) [])))) law_right_16 (fun ρ => some (.nx ρ))
def law_right_6b : FS := gSeq law_right_7 (gSeq law_right_8 (gSeq law_right_10 (gSeq law_right_12 (gSeq law_right_13 law_right_15))))
def law_right_6 : FS := gFor (fRg1 (cst (.int 13))) (gNm 8) law_right_6b
def law_right_19 : FS := gRet (cst (.bl false))
def law_right_18 : FS := gIf (tNotF (tBl (fCall 2 (m_law_same 3) (aCons (fCall 3 m_is_needed (aCons (nm 1) (aCons (nm 3) (aCons (nm 11) aNil))) []) (aCons (fCall 4 m_law_needed (aCons (nm 0) (aCons (nm 5) (aCons (nm 2) (aCons (nm 11) aNil)))) []) aNil)) []))) law_right_19 (fun ρ => some (.nx ρ))
def law_right_17b : FS := law_right_18
def law_right_17 : FS := gFor (fRg1 (f1 gLen (nm 0))) (gNm 11) law_right_17b
def law_right_20 : FS := gRet (fCall 2 (m_law_same 3) (aCons (f1 gTuple (nm 3)) (aCons (nm 2) aNil)) [])
def law_right_g : FS := gSeq law_right_1 (gSeq law_right_2 (gSeq law_right_5 (gSeq law_right_6 (gSeq law_right_17 law_right_20))))
theorem nd_law_right : (["kinds", "book", "bag", "passed", "drawn", "rests_v", "least", "top", "places", "due", "cap", "kind", "k"] : List Str).Nodup := by decide +kernel
def m_law_right : List D → Option D := mir 13 law_right_g
theorem ok_law_right (G : Gx K mg) (F : FunD K "_law_right" "_law_right" (defArgs (top 43)) (defBody (top 43)) (defScope (top 43)) [] [] f fd) (c_law_belongs : CalF P w K mg base 2 "_law_belongs" 4 m_law_belongs []) (c_law_held : CalF P w K mg base 1 "_law_held" 4 m_law_held []) (c_law_needed : CalF P w K mg base 1 "_law_needed" 4 m_law_needed []) (c_law_overfull : CalF P w K mg base 2 "_law_overfull" 4 m_law_overfull []) (c_law_rests : CalF P w K mg base 1 "_law_rests" 1 m_law_rests []) (c_law_same : CalF P w K mg base 5 "_law_same" 2 (m_law_same 3) []) (c_held : CalF P w K mg base 5 "held" 3 m_held []) (c_in_freest : CalF P w K mg base 5 "in_freest" 4 m_in_freest [.non]) (ck_in_freest : CalK P w K mg base 5 "in_freest" 3 ["most_rest"] 4 (fun x y => x ++ y) m_in_freest) (c_is_needed : CalF P w K mg base 5 "is_needed" 3 m_is_needed []) (c_overfull : CalF P w K mg base 5 "overfull" 3 m_overfull []) : FnOk P w K mg base C8.CX0 6 f fd ["kinds", "book", "bag", "passed", "drawn"] (spF K 5 m_law_right) :=
  have nd := nd_law_right
  f_ok (N := ["kinds", "book", "bag", "passed", "drawn", "rests_v", "least", "top", "places", "due", "cap", "kind", "k"]) F ⟨rfl, rfl, rfl, nd, rfl, by decide +kernel, by decide +kernel⟩ fun cdv A outer s H E hr =>
    (k_cons (s_set nd rfl (.inr rfl) (x_call c_law_rests hr (by decide) (by rfl) (as_cons (x_nm 0) as_nil)))
    (k_cons (s_for PassesOwn.never rfl (it_lst (x_bin o_catL (po_px (o_listRg1 rfl (by rfl) G.list (by rfl) G.range (atW x_int))) (po_px (o_lst (ao_cons (px_po x_int) (ao_cons (px_po (x_nm 4)) ao_nil)))))) (g_nm nd rfl (.inl rfl)) (k_one (s_if (b_not (b_val (atW (x_call c_law_same hr (by decide) (by rfl) (as_cons (x_call c_held hr (by decide) (by rfl) (as_cons (x_nm 1) (as_cons (x_nm 3) (as_cons (x_nm 6) as_nil)))) (as_cons (x_call c_law_held hr (by decide) (by rfl) (as_cons (x_nm 0) (as_cons (x_nm 5) (as_cons (x_nm 2) (as_cons (x_nm 6) as_nil))))) as_nil)))))) (k_one (s_ret x_bl)) k_nil)))
    (k_cons (s_set nd rfl (.inl rfl) (x_b1 (c_maxL rfl) (by rfl) G.max bo_max (atW (x_bin o_catL (po_px (o_lst (ao_cons (px_po x_int) ao_nil))) (po_px (o_lc rfl nd (PIt.dn (st := false) (it_seq (x_nm 2))) (blkOk_by (own := [("k", 12)]) (by rfl)) (fun _ _ _ _ _ => (g_nm nd rfl (.inl rfl))) (fun _ _ _ _ _ => (ts_one (b_cmp o_notN (x_ix (mc := .s) (x_nm 5) (atW (x_nm 12))) (atW x_non) (by rfl)))) (fun _ _ _ _ _ => (x_ix (mc := .s) (x_nm 5) (atW (x_nm 12)))) (by decide)))))))
    (k_cons (s_for PassesOwn.never rfl (it_rg1 (st := true) (by rfl) G.range (atW x_int)) (g_nm nd rfl (.inl rfl)) (k_cons (s_set nd rfl (.inl rfl) (x_call c_law_belongs hr (by decide) (by rfl) (as_cons (x_nm 0) (as_cons (x_nm 5) (as_cons (x_nm 8) (as_cons (x_nm 2) as_nil))))))
    (k_cons (s_if (b_not (b_val (atW (x_call c_law_same hr (by decide) (by rfl) (as_cons (x_call c_in_freest hr (by decide) (by rfl) (as_cons (x_nm 1) (as_cons (x_nm 8) (as_cons (x_nm 3) as_nil)))) (as_cons (x_nm 9) as_nil)))))) (k_one (s_ret x_bl)) k_nil)
    (k_cons (s_if (b_not (b_val (atW (x_call c_law_same hr (by decide) (by rfl) (as_cons (x_call c_overfull hr (by decide) (by rfl) (as_cons (x_nm 1) (as_cons (x_nm 8) (as_cons (x_nm 3) as_nil)))) (as_cons (x_call c_law_overfull hr (by decide) (by rfl) (as_cons (x_nm 0) (as_cons (x_nm 5) (as_cons (x_nm 8) (as_cons (x_nm 2) as_nil))))) as_nil)))))) (k_one (s_ret x_bl)) k_nil)
    (k_cons (s_set nd rfl (.inl rfl) (x_max2 rfl (by rfl) G.max (atW x_int) (atW (x_bin o_addI (atW (x_bin o_sub (atW (x_nm 7)) (atW x_int))) (atW (x_bin o_mod (atW (x_t1 c_int (by rfl) G.int bo_int (atW (x_bin o_addI (atW (x_nm 4)) (atW (x_nm 8)))))) (atW x_int)))))))
    (k_cons (s_if (b_not (b_val (atW (x_call c_law_same hr (by decide) (by rfl) (as_cons (x_callK ck_in_freest hr (by decide) (by rfl) (as_cons (x_nm 1) (as_cons (x_nm 8) (as_cons (x_nm 3) as_nil))) (ks_cons (x_nm 10) ks_nil)) (as_cons (x_and (atW (x_nm 9)) (x_one (x_or (atW (x_cmp (o_eq hr.units) (atW (x_b1 c_len (by rfl) G.len bo_len (atW (x_nm 2)))) (atW x_int) (by rfl))) (x_one (x_cmp o_le (atW (x_nm 7)) (atW (x_nm 10)) (by rfl)))))) as_nil)))))) (k_one (s_ret x_bl)) k_nil)
    (k_one (s_if (b_w (bw_and (b_cmp (o_eq hr.units) (atW (x_nm 8)) (atW (x_bin o_mod (atW (x_t1 c_int (by rfl) G.int bo_int (atW (x_nm 4)))) (atW x_int))) (by rfl)) (bw_and1 (b_not (b_val (atW (x_call c_law_same hr (by decide) (by rfl) (as_cons (x_callK ck_in_freest hr (by decide) (by rfl) (as_cons (x_nm 1) (as_cons (x_nm 8) (as_cons (x_nm 3) as_nil))) (ks_cons x_non ks_nil)) (as_cons (x_nm 9) as_nil))))))))) (k_one (s_ret x_bl)) k_nil))))))))
    (k_cons (s_for PassesOwn.never rfl (it_rg1 (st := true) (by rfl) G.range (atW (x_b1 c_len (by rfl) G.len bo_len (atW (x_nm 0))))) (g_nm nd rfl (.inl rfl)) (k_one (s_if (b_not (b_val (atW (x_call c_law_same hr (by decide) (by rfl) (as_cons (x_call c_is_needed hr (by decide) (by rfl) (as_cons (x_nm 1) (as_cons (x_nm 3) (as_cons (x_nm 11) as_nil)))) (as_cons (x_call c_law_needed hr (by decide) (by rfl) (as_cons (x_nm 0) (as_cons (x_nm 5) (as_cons (x_nm 2) (as_cons (x_nm 11) as_nil))))) as_nil)))))) (k_one (s_ret x_bl)) k_nil)))
    (k_one (s_ret (x_call c_law_same hr (by decide) (by rfl) (as_cons (x_t1 c_tuple (by rfl) G.tuple bo_tuple (x_nm 3)) (as_cons (x_nm 2) as_nil))))))))))
def law_1 : FS := gSet 1 (fCall 2 m_law_asked (aCons (nm 0) (aCons (cst (.int 0)) aNil)) [])
def law_2 : FS := gSet 2 (fCall 2 m_law_asked (aCons (nm 0) (aCons (cst (.int 1)) aNil)) [])
def law_4 : FS := gRet (cst (.bl false))
def law_3 : FS := gIf (tNotF (tBl (fCall 5 m_law_right (aCons (f2 gIx (nm 1) (cst (.int 0))) (aCons (f2 gIx (nm 1) (cst (.int 1))) (aCons (f2 gIx (f2 gIx (nm 1) (cst (.int 2))) (cst (.int 0))) (aCons (fGive (fO1 gList (f2 gIx (f2 gIx (nm 1) (cst (.int 2))) (cst (.int 0))))) (aCons (f2 gIx (nm 1) (cst (.int 3))) aNil))))) []))) law_4 (fun ρ => some (.nx ρ))
def law_5 : FS := gOwn 3 (fO1 gList (f2 gIx (f2 gIx (nm 2) (cst (.int 2))) (cst (.int 0))))
def law_7 : FS := gRet (cst (.bl false))
def law_6 : FS := gIf (tNotF (tBl (fCallW 5 m_law_right (aCons (f2 gIx (nm 2) (cst (.int 0))) (aCons (f2 gIx (nm 2) (cst (.int 1))) (aCons (f2 gIx (f2 gIx (nm 2) (cst (.int 2))) (cst (.int 0))) (aCons (nmQ 3) (aCons (f2 gIx (nm 2) (cst (.int 3))) aNil))))) []))) law_7 (fun ρ => some (.nx ρ))
def law_9 : FS := gRet (cst (.bl false))
def law_8 : FS := gIf (tNotF (tBl (fCall 5 m_law_right (aCons (f2 gIx (nm 1) (cst (.int 0))) (aCons (f2 gIx (nm 1) (cst (.int 1))) (aCons (f2 gIx (f2 gIx (nm 1) (cst (.int 2))) (cst (.int 1))) (aCons (f2 gIx (f2 gIx (nm 1) (cst (.int 2))) (cst (.int 1))) (aCons (f2 gIx (nm 1) (cst (.int 3))) aNil))))) []))) law_9 (fun ρ => some (.nx ρ))
def law_10 : FS := gClr (pNm 3)
def law_11 : FS := gUpd (pNm 3) (fO1 gList (f2 gIx (f2 gIx (nm 2) (cst (.int 2))) (cst (.int 1)))) hExt
def law_13 : FS := gRet (cst (.bl false))
def law_12 : FS := gIf (tNotF (tBl (fCallW 5 m_law_right (aCons (f2 gIx (nm 2) (cst (.int 0))) (aCons (f2 gIx (nm 2) (cst (.int 1))) (aCons (f2 gIx (f2 gIx (nm 2) (cst (.int 2))) (cst (.int 1))) (aCons (nmQ 3) (aCons (f2 gIx (nm 2) (cst (.int 3))) aNil))))) []))) law_13 (fun ρ => some (.nx ρ))
def law_14 : FS := gRet (fCall 5 m_law_right (aCons (f2 gIx (nm 1) (cst (.int 0))) (aCons (f2 gIx (nm 1) (cst (.int 1))) (aCons (f2 gIx (f2 gIx (nm 1) (cst (.int 2))) (cst (.int 0))) (aCons (f2 gIx (f2 gIx (nm 1) (cst (.int 2))) (cst (.int 0))) (aCons (f2 gIx (nm 1) (cst (.int 3))) aNil))))) [])
def law_g : FS := gSeq law_1 (gSeq law_2 (gSeq law_3 (gSeq law_5 (gSeq law_6 (gSeq law_8 (gSeq law_10 (gSeq law_11 (gSeq law_12 law_14))))))))
theorem nd_law : (["script", "one", "two", "passed"] : List Str).Nodup := by decide +kernel
def m_law : List D → Option D := mir 4 law_g
theorem ok_law (G : Gx K mg) (F : FunD K "law" "law" (defArgs (top 45)) (defBody (top 45)) (defScope (top 45)) [] [] f fd) (c_law_asked : CalF P w K mg base 5 "_law_asked" 2 m_law_asked []) (c_law_right : CalF P w K mg base 6 "_law_right" 5 m_law_right []) : FnOk P w K mg base C8.CX0 7 f fd ["script"] (spF K 1 m_law) :=
  have nd := nd_law
  f_ok (N := ["script", "one", "two", "passed"]) F ⟨rfl, rfl, rfl, nd, rfl, by decide +kernel, by decide +kernel⟩ fun cdv A outer s H E hr =>
    (k_cons (s_set nd rfl (.inl rfl) (x_call c_law_asked hr (by decide) (by rfl) (as_cons (x_nm 0) (as_cons x_int as_nil))))
    (k_cons (s_set nd rfl (.inl rfl) (x_call c_law_asked hr (by decide) (by rfl) (as_cons (x_nm 0) (as_cons x_int as_nil))))
    (k_cons (s_if (b_not (b_val (atW (x_call c_law_right hr (by decide) (by rfl) (as_cons (x_ix (mc := .s) (x_nm 1) (atW x_int)) (as_cons (x_ix (mc := .s) (x_nm 1) (atW x_int)) (as_cons (x_ix (mc := .s) (x_ix (mc := .s) (x_nm 1) (atW x_int)) (atW x_int)) (as_cons (po_px (o_t1 c_list (by rfl) G.list bo_list (px_up (x_ix (mc := .s) (x_ix (mc := .s) (x_nm 1) (atW x_int)) (atW x_int))))) (as_cons (x_ix (mc := .s) (x_nm 1) (atW x_int)) as_nil))))))))) (k_one (s_ret x_bl)) k_nil)
    (k_cons (s_own nd rfl (.inl rfl) (o_t1 c_list (by rfl) G.list bo_list (px_up (x_ix (mc := .s) (x_ix (mc := .s) (x_nm 2) (atW x_int)) (atW x_int)))))
    (k_cons (s_if (b_not (b_val (atW (x_callW c_law_right hr (by decide) (by rfl) (as_consW (x_ix (mc := .s) (x_nm 2) (atW x_int)) (as_consW (x_ix (mc := .s) (x_nm 2) (atW x_int)) (as_consW (x_ix (mc := .s) (x_ix (mc := .s) (x_nm 2) (atW x_int)) (atW x_int)) (as_consW (x_nmQ 3) (as_consW (x_ix (mc := .s) (x_nm 2) (atW x_int)) as_nil))))))))) (k_one (s_ret x_bl)) k_nil)
    (k_cons (s_if (b_not (b_val (atW (x_call c_law_right hr (by decide) (by rfl) (as_cons (x_ix (mc := .s) (x_nm 1) (atW x_int)) (as_cons (x_ix (mc := .s) (x_nm 1) (atW x_int)) (as_cons (x_ix (mc := .s) (x_ix (mc := .s) (x_nm 1) (atW x_int)) (atW x_int)) (as_cons (x_ix (mc := .s) (x_ix (mc := .s) (x_nm 1) (atW x_int)) (atW x_int)) (as_cons (x_ix (mc := .s) (x_nm 1) (atW x_int)) as_nil))))))))) (k_one (s_ret x_bl)) k_nil)
    (k_cons (s_clear (p_nm 3))
    (k_cons (s_extend (p_nm 3) (o_t1 c_list (by rfl) G.list bo_list (px_up (x_ix (mc := .s) (x_ix (mc := .s) (x_nm 2) (atW x_int)) (atW x_int)))))
    (k_cons (s_if (b_not (b_val (atW (x_callW c_law_right hr (by decide) (by rfl) (as_consW (x_ix (mc := .s) (x_nm 2) (atW x_int)) (as_consW (x_ix (mc := .s) (x_nm 2) (atW x_int)) (as_consW (x_ix (mc := .s) (x_ix (mc := .s) (x_nm 2) (atW x_int)) (atW x_int)) (as_consW (x_nmQ 3) (as_consW (x_ix (mc := .s) (x_nm 2) (atW x_int)) as_nil))))))))) (k_one (s_ret x_bl)) k_nil)
    (k_one (s_ret (x_call c_law_right hr (by decide) (by rfl) (as_cons (x_ix (mc := .s) (x_nm 1) (atW x_int)) (as_cons (x_ix (mc := .s) (x_nm 1) (atW x_int)) (as_cons (x_ix (mc := .s) (x_ix (mc := .s) (x_nm 1) (atW x_int)) (atW x_int)) (as_cons (x_ix (mc := .s) (x_ix (mc := .s) (x_nm 1) (atW x_int)) (atW x_int)) (as_cons (x_ix (mc := .s) (x_nm 1) (atW x_int)) as_nil)))))))))))))))))
end
end G

/-! evaluation of the mirrors: loops, comprehensions, subscripts; the data of kinds, rests, bags. -/
namespace G
open L2 PyProof.Rows PySem.Spec PySem SX C8 FL

/-! ### encodings -/
def eN (n : Nat) : D := .int n
def eO : Option Int → D
  | none => .non
  | some r => .int r
def kD (k : Int × List Nat) : D := .lst [.int k.1, .lst (k.2.map eN)]
def ksD (ks : List (Int × List Nat)) : D := .lst (ks.map kD)
/-- a list or a tuple -/
def sqD : Bool → List D → D
  | false, ds => .lst ds
  | true, ds => .tup ds
abbrev Kd := Int × List Nat
def kat (ks : List Kd) (k : Nat) : Kd := ks.getD k (0, [])
def sz (ks : List Kd) (k : Nat) : Int := (kat ks k).1
def nx (ks : List Kd) (k : Nat) : List Nat := (kat ks k).2
def rt (rs : List (Option Int)) (k : Nat) : Option Int := rs.getD k none

/-! ### subscripts -/
theorem ixN_nat {n k : Nat} (h : k < n) : ixN n (k : Int) = some k := by
  unfold ixN
  simp
  omega
theorem atI_nat {α : Type} (xs : List α) (k : Nat) : atI xs (k : Int) = xs[k]? := by
  unfold atI
  by_cases h : k < xs.length
  · rw [ixN_nat h]; rfl
  · have : ixN xs.length (k : Int) = none := by unfold ixN; simp; omega
    rw [this, List.getElem?_eq_none (by omega)]; rfl
theorem ix_l (ds : List D) (k : Nat) : gIx (.lst ds) (.int (k : Int)) = ds[k]? := atI_nat ds k
theorem ix_t (ds : List D) (k : Nat) : gIx (.tup ds) (.int (k : Int)) = ds[k]? := atI_nat ds k
theorem ix_s (t : Bool) (ds : List D) (k : Nat) : gIx (sqD t ds) (.int (k : Int)) = ds[k]? := by
  cases t
  · exact ix_l ds k
  · exact ix_t ds k
theorem ix_ks {ks : List Kd} {k : Nat} (h : k < ks.length) : gIx (ksD ks) (.int (k : Int)) = some (kD (kat ks k)) := by
  unfold ksD kat
  rw [ix_l]
  simp [h]
theorem ix_kD0 (k : Kd) : gIx (kD k) (.int 0) = some (.int k.1) := rfl
theorem ix_sz (ks : List Kd) (k : Nat) : gIx (kD (kat ks k)) (.int 0) = some (.int (sz ks k)) := rfl
theorem ix_nx (ks : List Kd) (k : Nat) : gIx (kD (kat ks k)) (.int 1) = some (.lst ((nx ks k).map eN)) := rfl
theorem ix_kD1 (k : Kd) : gIx (kD k) (.int 1) = some (.lst (k.2.map eN)) := rfl
theorem ix_rs {t : Bool} {rs : List (Option Int)} {k : Nat} (h : k < rs.length) : gIx (sqD t (rs.map eO)) (.int (k : Int)) = some (eO (rt rs k)) := by
  rw [ix_s]
  simp [h, rt]
theorem ix_map {α : Type} {t : Bool} {xs : List α} {f : α → D} {k : Nat} {d : α} (h : k < xs.length) : gIx (sqD t (xs.map f)) (.int (k : Int)) = some (f (xs.getD k d)) := by
  rw [ix_s]
  simp [h]

/-! ### loops and comprehensions -/
section
variable {α : Type} {enc : α → D} {bind : FG} {test : Rho → Option Bool} {elt : FX} {it : Rho → Option (List D)} {ρ : Rho} {own : List Nat} {i : Nat}
theorem lc_eval (p : α → Bool) (h : α → D) : ∀ {xs : List α}, (∀ x ∈ xs, ∃ ρ1, bind (enc x) ρ = some ρ1 ∧ test ρ1 = some (p x) ∧ (p x = true → elt ρ1 = some (h x))) → lcGo bind test elt ρ (xs.map enc) = some ((xs.filter p).map h)
  | [], _ => rfl
  | x :: xs, H => by
    obtain ⟨ρ1, e1, e2, e3⟩ := H x (by simp)
    have ih := lc_eval p h (xs := xs) fun y hy => H y (List.mem_cons_of_mem _ hy)
    rw [List.map_cons]
    unfold lcGo
    rw [e1, Option.bind_some, e2, Option.bind_some]
    cases hp : p x with
    | true => simp [e3 hp, ih, List.filter_cons, hp]
    | false => simp [ih, List.filter_cons, hp]
theorem fLc_eval (p : α → Bool) (h : α → D) {xs : List α} (hi : it ρ = some (xs.map enc)) (hl : xs.length ≤ lim) (H : ∀ x ∈ xs, test ((wipeR ρ own).set i (.sh (enc x))) = some (p x) ∧ (p x = true → elt ((wipeR ρ own).set i (.sh (enc x))) = some (h x))) :
    fLc it (gNm i) test elt own ρ = some (.ls (((xs.filter p).map h).map T.sh)) := by
  unfold fLc
  rw [hi, Option.bind_some, if_pos (by simpa using hl), lc_eval p h fun x hx => ⟨_, rfl, (H x hx).1, (H x hx).2⟩]
  rfl
/-- without a test -/
theorem fLc_all (h : α → D) {xs : List α} (hi : it ρ = some (xs.map enc)) (hl : xs.length ≤ lim) (H : ∀ x ∈ xs, elt ((wipeR ρ own).set i (.sh (enc x))) = some (h x)) :
    fLc it (gNm i) tYesF elt own ρ = some (.ls ((xs.map h).map T.sh)) := by
  have := fLc_eval (it := it) (ρ := ρ) (own := own) (i := i) (test := tYesF) (elt := elt) (enc := enc) (fun _ => true) h hi hl fun x hx => ⟨rfl, fun _ => H x hx⟩
  rw [List.filter_eq_self.mpr (by simp)] at this
  exact this
theorem toD_ls (ds : List D) : (T.ls (ds.map T.sh)).toD = some (.lst ds) := by
  simp [T.toD, toDs_shared]
theorem give_eval (p : α → Bool) (h : α → D) {xs : List α} (hi : it ρ = some (xs.map enc)) (hl : xs.length ≤ lim) (H : ∀ x ∈ xs, test ((wipeR ρ own).set i (.sh (enc x))) = some (p x) ∧ (p x = true → elt ((wipeR ρ own).set i (.sh (enc x))) = some (h x))) :
    fGive (fLc it (gNm i) test elt own) ρ = some (.lst ((xs.filter p).map h)) := by
  unfold fGive
  rw [fLc_eval p h hi hl H, Option.bind_some, toD_ls]
theorem give_all (h : α → D) {xs : List α} (hi : it ρ = some (xs.map enc)) (hl : xs.length ≤ lim) (H : ∀ x ∈ xs, elt ((wipeR ρ own).set i (.sh (enc x))) = some (h x)) :
    fGive (fLc it (gNm i) tYesF elt own) ρ = some (.lst (xs.map h)) := by
  unfold fGive
  rw [fLc_all h hi hl H, Option.bind_some, toD_ls]
/-- a for loop by an invariant of its turns -/
theorem for_inv {body : FS} (I : Nat → Rho → Prop) {xs : List α} (hi : it ρ = some (xs.map enc)) (h0 : I 0 ρ)
    (H : ∀ j (hj : j < xs.length) ρ, I j ρ → ∃ ρ1 ρ2, bind (enc xs[j]) ρ = some ρ1 ∧ (body ρ1 = some (.nx ρ2) ∨ body ρ1 = some (.ct ρ2)) ∧ I (j + 1) ρ2) :
    ∃ ρ', gFor it bind body ρ = some (.nx ρ') ∧ I xs.length ρ' := by
  unfold gFor
  rw [hi, Option.bind_some]
  have go : ∀ k j ρ, xs.length - j = k → j ≤ xs.length → I j ρ → ∃ ρ', forGo bind body ((xs.drop j).map enc) ρ = some (.nx ρ') ∧ I xs.length ρ' := by
    intro k
    induction k with
    | zero =>
      intro j ρ hk hj h
      have e : j = xs.length := by omega
      subst e
      exact ⟨ρ, by simp [forGo], h⟩
    | succ k ih =>
      intro j ρ hk hj h
      have hlt : j < xs.length := by omega
      obtain ⟨ρ1, ρ2, e1, e2, h2⟩ := H j hlt ρ h
      obtain ⟨ρ', e3, h3⟩ := ih (j + 1) ρ2 (by omega) hlt h2
      refine ⟨ρ', ?_, h3⟩
      rw [List.drop_eq_getElem_cons hlt, List.map_cons]
      unfold forGo
      rw [e1, Option.bind_some]
      rcases e2 with e2 | e2 <;> rw [e2, Option.bind_some] <;> exact e3
  obtain ⟨ρ', e, h⟩ := go _ 0 ρ rfl (Nat.zero_le _) h0
  exact ⟨ρ', by simpa using e, h⟩
/-- a for loop that may leave by a return: the first item at which out says so -/
theorem for_find {body : FS} (J : Rho → Prop) (out : α → Option D) : ∀ {xs : List α} {ρ : Rho}, J ρ →
    (∀ x ∈ xs, ∀ ρ, J ρ → ∃ ρ1, bind (enc x) ρ = some ρ1 ∧ match out x with
      | none => ∃ ρ2, body ρ1 = some (.nx ρ2) ∧ J ρ2
      | some d => body ρ1 = some (.rt d)) →
    match xs.findSome? out with
    | none => ∃ ρ', forGo bind body (xs.map enc) ρ = some (.nx ρ') ∧ J ρ'
    | some d => forGo bind body (xs.map enc) ρ = some (.rt d)
  | [], ρ, h, _ => ⟨ρ, rfl, h⟩
  | x :: xs, ρ, h, H => by
    obtain ⟨ρ1, e1, e2⟩ := H x (by simp) ρ h
    rw [List.findSome?_cons, List.map_cons]
    unfold forGo
    rw [e1, Option.bind_some]
    cases ho : out x with
    | some d => rw [ho] at e2; simp only at e2 ⊢; rw [e2]; rfl
    | none =>
      rw [ho] at e2
      obtain ⟨ρ2, e2, h2⟩ := e2
      simp only
      rw [e2, Option.bind_some]
      exact for_find J out h2 fun y hy => H y (List.mem_cons_of_mem _ hy)
end
theorem rangeD_nat (n : Nat) : rangeD 0 n = (List.range n).map eN := by
  unfold rangeD eN
  simp
theorem rg1_nat {f : FX} {ρ : Rho} {n : Nat} (h : f ρ = some (.int (n : Int))) (hn : n ≤ 1000000) : fRg1 f ρ = some ((List.range n).map eN) := by
  unfold fRg1
  rw [h, Option.bind_some]
  simp only
  rw [if_pos (by omega), rangeD_nat]
  simp
/-! ### operators at numbers -/
@[simp] theorem e_add (a b : Int) : gAddI (.int a) (.int b) = some (.int (a + b)) := rfl
@[simp] theorem e_sub (a b : Int) : FL.gSub (.int a) (.int b) = some (.int (a - b)) := rfl
theorem e_mul {a b : Int} (h : (-(2 ^ 64) < a ∧ a < 2 ^ 64) ∨ (-(2 ^ 64) < b ∧ b < 2 ^ 64)) : gMul (.int a) (.int b) = some (.int (a * b)) := by
  show (if _ then _ else _) = _
  rw [if_pos h]
theorem e_mod {a b : Int} (h : 0 < b) : gMod (.int a) (.int b) = some (.int (a % b)) := by
  show (if _ then _ else _) = _
  rw [if_pos h]
theorem e_fdiv {a b : Int} (h : 0 < b) (h2 : b < 1073741824) : gFdiv (.int a) (.int b) = some (.int (a / b)) := by
  show (if _ then _ else _) = _
  rw [if_pos ⟨h, h2⟩]
@[simp] theorem e_lt (a b : Int) : gLt (.int a) (.int b) = some (.bl (decide (a < b))) := rfl
@[simp] theorem e_le (a b : Int) : gLe (.int a) (.int b) = some (.bl (decide (a ≤ b))) := rfl
@[simp] theorem e_gt (a b : Int) : gGt (.int a) (.int b) = some (.bl (decide (b < a))) := rfl
@[simp] theorem e_ge (a b : Int) : gGe (.int a) (.int b) = some (.bl (decide (b ≤ a))) := rfl
@[simp] theorem e_eq (a b : Int) : gEq (.int a) (.int b) = some (.bl (decide (a = b))) := by
  have h : ∀ i : Int, SeqAt.shaped (.int i) = true := fun i => by simp [SeqAt.shaped, PyData.canLay0, PyData.depth]
  simp [gEq, D.py, h, PyData.eqv, Bool.beq_eq_decide_eq]
@[simp] theorem e_ne (a b : Int) : gNe (.int a) (.int b) = some (.bl (!decide (a = b))) := by
  have h : ∀ i : Int, SeqAt.shaped (.int i) = true := fun i => by simp [SeqAt.shaped, PyData.canLay0, PyData.depth]
  simp [gNe, D.py, h, PyData.eqv]
  exact Bool.eq_iff_iff.mpr (by simp)
@[simp] theorem e_int (a : Int) : gInt (.int a) = some (.int a) := rfl
@[simp] theorem e_len_l (ds : List D) : gLen (.lst ds) = some (.int (ds.length : Int)) := rfl
@[simp] theorem e_len_t (ds : List D) : gLen (.tup ds) = some (.int (ds.length : Int)) := rfl
@[simp] theorem nm_zero (d : D) (ρ : Rho) : nm 0 (.sh d :: ρ) = some d := rfl
@[simp] theorem nm_succ (i : Nat) (t : T) (ρ : Rho) : nm (i + 1) (t :: ρ) = nm i ρ := rfl
@[simp] theorem nmQ_zero (d : D) (ρ : Rho) : nmQ 0 (.sh d :: ρ) = some d := rfl
@[simp] theorem nmQ_ls (ds : List D) (ρ : Rho) : nmQ 0 (.ls (ds.map T.sh) :: ρ) = some (.lst ds) := by
  simp [nmQ, shAll_of]
@[simp] theorem nmQ_succ (i : Nat) (t : T) (ρ : Rho) : nmQ (i + 1) (t :: ρ) = nmQ i ρ := rfl
@[simp] theorem nmW_zero (d : D) (ρ : Rho) : nmW 0 (.sh d :: ρ) = some d := rfl
@[simp] theorem nmW_succ (i : Nat) (t : T) (ρ : Rho) : nmW (i + 1) (t :: ρ) = nmW i ρ := rfl
@[simp] theorem cst_at (d : D) (ρ : Rho) : cst d ρ = some d := rfl
theorem give_at {f : Rho → Option T} {ρ : Rho} {ds : List D} (h : f ρ = some (.ls (ds.map T.sh))) : fGive f ρ = some (.lst ds) := by
  unfold fGive
  rw [h, Option.bind_some, toD_ls]
theorem seq_give {f : Rho → Option T} {ρ : Rho} {ds : List D} (h : f ρ = some (.ls (ds.map T.sh))) : fSeq D.lstOf (fGive f) ρ = some ds := by
  unfold fSeq
  rw [give_at h]
  rfl
theorem fO1_at {g : D → Option T} {f : FX} {ρ : Rho} {d : D} {r : Option T} (h : f ρ = some d) (e : g d = r) : fO1 g f ρ = r := by
  unfold fO1
  rw [h]
  exact e
theorem sortI_at (ns : List Int) : gSortI (.lst (ns.map D.int)) = some (.ls (((sortI ns).map D.int).map T.sh)) := by
  simp [gSortI, D.listInts]
theorem sortSet_at {ns : List Int} (h : ns.length ≤ 62) : gSortSet (.lst (ns.map D.int)) = some (.ls (((sortSet ns).map D.int).map T.sh)) := by
  simp [gSortSet, D.listInts, h]
end G

/-! held, belongs, needed, overfull: what the mirrors compute. -/
namespace G
open L2 PyProof.Rows PySem.Spec PySem SX C8 FL
/-- counted at a least rest -/
def okr (least : Int) : Option Int → Bool
  | none => true
  | some r => decide (least ≤ r)
def heldT (ks : List Kd) (rs : List (Option Int)) (bag : List Nat) (least : Int) : Int := ((bag.filter fun k => okr least (rt rs k)).map fun k => sz ks k).sum
def bkD (nms : List D) (ks : List Kd) : D := .obj "Book" ["names", "sizes", "nexts"] [.tup nms, .tup (ks.map fun k => .int k.1), .tup (ks.map fun k => .tup (k.2.map eN))]
theorem seq_lt {f : FX} {ρ : Rho} {t : Bool} {ds : List D} (h : f ρ = some (sqD t ds)) : fSeq D.lt f ρ = some ds := by
  unfold fSeq
  rw [h]
  cases t <;> rfl
theorem sum_ints (ns : List Int) : gSum (.lst (ns.map D.int)) = some (.int ns.sum) := by
  simp [gSum, D.listInts]
theorem isN_eO (o : Option Int) : gIsN (eO o) .non = some (.bl o.isNone) := by
  cases o <;> rfl
theorem notN_eO (o : Option Int) : gNotN (eO o) .non = some (.bl o.isSome) := by
  cases o <;> rfl
theorem fld_sizes (nms : List D) (ks : List Kd) : gFld "Book" "sizes" (bkD nms ks) = some (.tup (ks.map fun k => .int k.1)) := by
  have h : ¬ ((Str.ofString "sizes") = (Str.ofString "names")) := by decide
  simp [gFld, bkD, fldOf, h]
theorem fld_nexts (nms : List D) (ks : List Kd) : gFld "Book" "nexts" (bkD nms ks) = some (.tup (ks.map fun k => .tup (k.2.map eN))) := by
  have h : ¬ ((Str.ofString "nexts") = (Str.ofString "names")) := by decide
  have h2 : ¬ ((Str.ofString "nexts") = (Str.ofString "sizes")) := by decide
  simp [gFld, bkD, fldOf, h, h2]
theorem fld_names (nms : List D) (ks : List Kd) : gFld "Book" "names" (bkD nms ks) = some (.tup nms) := by
  simp [gFld, bkD, fldOf]
section
variable {k : Nat} {ks : List Kd} {rs : List (Option Int)} {bag : List Nat} {least : Int} {t u : Bool} {nms : List D}
theorem law_held_eq (hb : ∀ k ∈ bag, k < ks.length) (hr : rs.length = ks.length) (hl : bag.length ≤ lim) : m_law_held [ksD ks, sqD u (rs.map eO), sqD t (bag.map eN), .int least] = some (.int (heldT ks rs bag least)) := by
  have e : ∀ ρ : Rho, ρ = [.sh (ksD ks), .sh (sqD u (rs.map eO)), .sh (sqD t (bag.map eN)), .sh (.int least), .no] → fGive (fLc (fSeq D.lt (nm 2)) (gNm 4) law_held_1t law_held_1e [4]) ρ = some (.lst ((bag.filter fun k => okr least (rt rs k)).map fun k => .int (sz ks k))) := by
    rintro ρ rfl
    refine give_eval (enc := eN) _ _ (seq_lt (t := t) rfl) hl fun k hk => ?_
    have h1 := ix_rs (t := u) (rs := rs) (k := k) (by rw [hr]; exact hb k hk)
    have h2 := ix_ks (ks := ks) (hb k hk)
    refine ⟨?_, fun _ => ?_⟩
    · simp only [law_held_1t, tOrF, tBl, f2, nm, wipeR, List.set, List.getElem?_cons_zero, List.getElem?_cons_succ, Option.bind_some, eN, h1, cst, isN_eO]
      cases rt rs k <;> simp [okr, eO, gI]
    · simp only [law_held_1e, f2, nm, wipeR, List.set, List.getElem?_cons_zero, List.getElem?_cons_succ, Option.bind_some, eN, h2, cst, ix_sz]
  simp only [m_law_held, mir, law_held_g, law_held_1, gRet, f1, List.length_cons, List.length_nil, List.map_cons, List.map_nil, List.replicate, List.cons_append, List.nil_append, Nat.reduceSub, Nat.reduceAdd]
  rw [e _ rfl, Option.bind_some]
  have := sum_ints ((bag.filter fun k => okr least (rt rs k)).map fun k => sz ks k)
  rw [List.map_map] at this
  rw [show (fun k => D.int (sz ks k)) = D.int ∘ (fun k => sz ks k) from rfl, this]
  rfl
theorem size_at (hk : k < ks.length) : gIx (.tup (ks.map fun k => .int k.1)) (.int (k : Int)) = some (.int (sz ks k)) := by
  rw [ix_t]
  simp [hk, sz, kat]
theorem nexts_at (hk : k < ks.length) : gIx (.tup (ks.map fun k => .tup (k.2.map eN))) (.int (k : Int)) = some (.tup ((nx ks k).map eN)) := by
  rw [ix_t]
  simp [hk, nx, kat]
theorem held_by_eq (hb : ∀ k ∈ bag, k < ks.length) (hr : rs.length = ks.length) (hl : bag.length ≤ lim) : m_held_by [bkD nms ks, sqD u (rs.map eO), sqD t (bag.map eN), .int least] = some (.int (heldT ks rs bag least)) := by
  have e : ∀ ρ : Rho, ρ = [.sh (bkD nms ks), .sh (sqD u (rs.map eO)), .sh (sqD t (bag.map eN)), .sh (.int least), .no] → fGive (fLc (fSeq D.lt (nm 2)) (gNm 4) held_by_1t held_by_1e [4]) ρ = some (.lst ((bag.filter fun k => okr least (rt rs k)).map fun k => .int (sz ks k))) := by
    rintro ρ rfl
    refine give_eval (enc := eN) _ _ (seq_lt (t := t) rfl) hl fun k hk => ?_
    have h1 := ix_rs (t := u) (rs := rs) (k := k) (by rw [hr]; exact hb k hk)
    have h2 := size_at (ks := ks) (hb k hk)
    refine ⟨?_, fun _ => ?_⟩
    · simp only [held_by_1t, tOrF, tBl, f2, nm, wipeR, List.set, List.getElem?_cons_zero, List.getElem?_cons_succ, Option.bind_some, eN, h1, cst, isN_eO]
      cases rt rs k <;> simp [okr, eO, gI]
    · simp only [held_by_1e, f2, f1, nm, wipeR, List.set, List.getElem?_cons_zero, List.getElem?_cons_succ, Option.bind_some, eN, fld_sizes, h2]
  simp only [m_held_by, mir, held_by_g, held_by_1, gRet, f1, List.length_cons, List.length_nil, List.map_cons, List.map_nil, List.replicate, List.cons_append, List.nil_append, Nat.reduceSub, Nat.reduceAdd]
  rw [e _ rfl, Option.bind_some]
  have := sum_ints ((bag.filter fun k => okr least (rt rs k)).map fun k => sz ks k)
  rw [List.map_map] at this
  rw [show (fun k => D.int (sz ks k)) = D.int ∘ (fun k => sz ks k) from rfl, this]
  rfl
/-- the law's belongs -/
def badT (ks : List Kd) (rs : List (Option Int)) (places : Int) (bag : List Nat) (k : Nat) : Bool := match rt rs k with
  | none => true
  | some r => decide (places - r < heldT ks rs bag r)
theorem badT_none {ks : List Kd} {rs : List (Option Int)} {places : Int} {bag : List Nat} {k : Nat} (e : rt rs k = none) : badT ks rs places bag k = true := by
  unfold badT; rw [e]
theorem badT_some {ks : List Kd} {rs : List (Option Int)} {places r : Int} {bag : List Nat} {k : Nat} (e : rt rs k = some r) : badT ks rs places bag k = decide (places - r < heldT ks rs bag r) := by
  unfold badT; rw [e]
def belT (ks : List Kd) (rs : List (Option Int)) (places : Int) (bag : List Nat) : Bool := bag.all fun k => !badT ks rs places bag k
theorem findSome_bool {α : Type} (p : α → Bool) (d : D) (xs : List α) : xs.findSome? (fun x => if p x = true then some d else none) = if xs.any p = true then some d else none := by
  induction xs with
  | nil => rfl
  | cons x xs ih =>
    rw [List.findSome?_cons, List.any_cons]
    cases hp : p x <;> simp [ih]
theorem law_belongs_eq {places : Int} (hb : ∀ k ∈ bag, k < ks.length) (hr : rs.length = ks.length) (hl : bag.length ≤ lim) : m_law_belongs [ksD ks, sqD u (rs.map eO), .int places, sqD t (bag.map eN)] = some (.bl (belT ks rs places bag)) := by
  have f := for_find (enc := eN) (bind := gNm 4) (body := law_belongs_1b) (xs := bag) (ρ := [.sh (ksD ks), .sh (sqD u (rs.map eO)), .sh (.int places), .sh (sqD t (bag.map eN)), .no])
    (fun ρ => ∃ x, ρ = [.sh (ksD ks), .sh (sqD u (rs.map eO)), .sh (.int places), .sh (sqD t (bag.map eN)), x]) (fun k => if badT ks rs places bag k = true then some (.bl false) else none) ⟨_, rfl⟩ (fun k hk ρ ⟨x, e⟩ => by
      subst e
      refine ⟨_, rfl, ?_⟩
      have h1 := ix_rs (t := u) (rs := rs) (k := k) (by rw [hr]; exact hb k hk)
      have h2 := fun r => law_held_eq (least := r) (t := t) (u := u) hb hr hl
      have h3 : law_belongs_1b [.sh (ksD ks), .sh (sqD u (rs.map eO)), .sh (.int places), .sh (sqD t (bag.map eN)), .sh (eN k)] = if badT ks rs places bag k = true then some (.rt (.bl false)) else some (.nx [.sh (ksD ks), .sh (sqD u (rs.map eO)), .sh (.int places), .sh (sqD t (bag.map eN)), .sh (eN k)]) := by
        rcases e : rt rs k with _ | r
        · rw [badT_none e]
          simp [law_belongs_1b, law_belongs_2, law_belongs_3, gIf, gRet, tOrF, tBl, f2, nm, eN, h1, cst, isN_eO, e]
        · rw [badT_some e]
          rw [e] at h1
          simp [law_belongs_1b, law_belongs_2, law_belongs_3, gIf, gRet, tOrF, tBl, f2, nm, h1, cst, isN_eO, fCall, aCons, aNil, eN, gI]
          have h2 := h2 r
          simp only [eN, eO] at h2 ⊢
          simp [h2]
          by_cases c : places - r < heldT ks rs bag r <;> simp [c]
      by_cases c : badT ks rs places bag k = true
      · simp only [c, if_true] at h3 ⊢
        exact h3
      · simp only [c] at h3 ⊢
        exact ⟨_, h3, _, rfl⟩)
  rw [findSome_bool] at f
  simp only [m_law_belongs, mir, law_belongs_g, law_belongs_1, law_belongs_4, gSeq, gFor, gRet, cst, List.length_cons, List.length_nil, List.map_cons, List.map_nil, List.replicate, List.cons_append, List.nil_append, Nat.reduceSub, Nat.reduceAdd]
  rw [seq_lt (t := t) (ds := bag.map eN) rfl, Option.bind_some]
  have hany : belT ks rs places bag = !(bag.any fun k => badT ks rs places bag k) := by
    unfold belT
    rw [List.all_eq_not_any_not]
    simp
  by_cases c : (bag.any fun k => badT ks rs places bag k) = true
  · rw [if_pos c] at f
    simp only at f
    rw [f, hany, c]
    rfl
  · rw [if_neg c] at f
    obtain ⟨ρ', f, _⟩ := f
    rw [f, hany, Bool.eq_false_iff.mpr c]
    rfl
end
end G

/-! kinds_in, belongs, needed. -/
namespace G
open L2 PyProof.Rows PySem.Spec PySem SX C8 FL
theorem seq_sq (t : Bool) (ds : List D) : (sqD t ds).seq = some ds := by cases t <;> rfl
theorem fvs_int {α : Type} (f : α → Int) : ∀ xs : List α, D.fvs (xs.map fun x => .int (f x)) = some (xs.map fun x => V.int (f x))
  | [] => rfl
  | x :: xs => by
    rw [List.map_cons]
    unfold D.fvs
    rw [fvs_int f xs]
    rfl
theorem inV_int {α : Type} (f : α → Int) (v : Int) (xs : List α) : inV (.int v) (xs.map fun x => V.int (f x)) = decide (∃ x ∈ xs, f x = v) := by
  unfold inV
  apply Bool.eq_iff_iff.mpr
  simp [eqV]
theorem in_eN (k : Nat) (t : Bool) (bag : List Nat) : gIn (.int (k : Int)) (sqD t (bag.map eN)) = some (.bl (decide (k ∈ bag))) := by
  unfold gIn
  rw [seq_sq, Option.bind_some]
  have : bag.map eN = bag.map fun x => D.int ((x : Nat) : Int) := rfl
  rw [this, fvs_int, show D.fv (.int (k : Int)) = some (V.int k) from rfl, Option.bind_some, Option.map_some, inV_int]
  congr 2
  apply Bool.eq_iff_iff.mpr
  simp only [decide_eq_true_eq]
  exact ⟨fun ⟨x, h, e⟩ => by have : x = k := by omega
                             exact this ▸ h, fun h => ⟨k, h, rfl⟩⟩
def kinT (bag : List Nat) : List Nat := (List.range 6).filter fun k => decide (k ∈ bag)
theorem kinds_in_eq (t : Bool) (bag : List Nat) : m_kinds_in [sqD t (bag.map eN)] = some (.tup ((kinT bag).map eN)) := by
  have e : ∀ ρ : Rho, ρ = [.sh (sqD t (bag.map eN)), .no] → fGive (fLc (fRg1 (cst (.int 6))) (gNm 1) kinds_in_1t kinds_in_1e [1]) ρ = some (.lst ((kinT bag).map eN)) := by
    rintro ρ rfl
    refine give_eval (enc := eN) _ _ (rg1_nat (n := 6) rfl (by omega)) (by decide) fun k hk => ?_
    simp [kinds_in_1t, kinds_in_1e, tBl, f2, wipeR, eN]
    rw [in_eN]
    rfl
  simp [m_kinds_in, mir, kinds_in_g, kinds_in_1, gRet, f1, List.replicate, e _ rfl, gTuple]
theorem call_ok {n : Nat} {m : List D → Option D} {fs : Rho → Option (List D)} {dds : List D} {ρ : Rho} {ds : List D} {r : Option D} (h : fs ρ = some ds) (hl : (ds ++ dds).length = n) (hm : m (ds ++ dds) = r) : fCall n m fs dds ρ = r := by
  unfold fCall
  rw [h, Option.bind_some, if_pos hl, hm]
def overM (most : Option Int) (rs : List (Option Int)) (k : Nat) : Bool := match most, rt rs k with
  | some m, some r => decide (m < r)
  | _, _ => false
def belM (ks : List Kd) (rs : List (Option Int)) (places : Int) (bag : List Nat) (most : Option Int) : Bool := bag.all fun k => !(badT ks rs places bag k || overM most rs k)
theorem kin_all {bag : List Nat} (h6 : ∀ k ∈ bag, k < 6) (p : Nat → Bool) : (kinT bag).any p = bag.any p := by
  apply Bool.eq_iff_iff.mpr
  simp only [List.any_eq_true, kinT, List.mem_filter, List.mem_range, decide_eq_true_eq]
  exact ⟨fun ⟨x, ⟨_, h⟩, q⟩ => ⟨x, h, q⟩, fun ⟨x, h, q⟩ => ⟨x, ⟨h6 x h, h⟩, q⟩⟩
section
variable {k : Nat} {ks : List Kd} {rs : List (Option Int)} {bag : List Nat} {least : Int} {t u : Bool} {nms : List D}
theorem belongs_eq {places : Int} {most : Option Int} (hb : ∀ k ∈ bag, k < ks.length) (hr : rs.length = ks.length) (h6 : ks.length ≤ 6) (hl : bag.length ≤ lim) :
    m_belongs [bkD nms ks, sqD u (rs.map eO), .int places, sqD t (bag.map eN), eO most] = some (.bl (belM ks rs places bag most)) := by
  have f := for_find (enc := eN) (bind := gNm 5) (body := belongs_1b) (xs := kinT bag) (ρ := [.sh (bkD nms ks), .sh (sqD u (rs.map eO)), .sh (.int places), .sh (sqD t (bag.map eN)), .sh (eO most), .no])
    (fun ρ => ∃ x, ρ = [.sh (bkD nms ks), .sh (sqD u (rs.map eO)), .sh (.int places), .sh (sqD t (bag.map eN)), .sh (eO most), x]) (fun k => if (badT ks rs places bag k || overM most rs k) = true then some (.bl false) else none) ⟨_, rfl⟩ (fun k hk ρ ⟨x, e⟩ => by
      subst e
      refine ⟨_, rfl, ?_⟩
      have hkb : k ∈ bag := by have := (List.mem_filter.mp hk).2; simpa using this
      have h1 := ix_rs (t := u) (rs := rs) (k := k) (by rw [hr]; exact hb k hkb)
      have h2 := fun r => held_by_eq (least := r) (t := t) (u := u) (nms := nms) hb hr hl
      have h3 : belongs_1b [.sh (bkD nms ks), .sh (sqD u (rs.map eO)), .sh (.int places), .sh (sqD t (bag.map eN)), .sh (eO most), .sh (eN k)] = if (badT ks rs places bag k || overM most rs k) = true then some (.rt (.bl false)) else some (.nx [.sh (bkD nms ks), .sh (sqD u (rs.map eO)), .sh (.int places), .sh (sqD t (bag.map eN)), .sh (eO most), .sh (eN k)]) := by
        rcases e : rt rs k with _ | r
        · rw [badT_none e]
          simp [belongs_1b, belongs_2, belongs_3, gSeq, gIf, gRet, tOrF, tBl, f2, eN, h1, isN_eO, e]
        · rw [badT_some e]
          rw [e] at h1
          have h2 := h2 r
          have hc : fCall 4 m_held_by (aCons (nm 0) (aCons (nm 1) (aCons (nm 3) (aCons (f2 gIx (nm 1) (nm 5)) aNil)))) [] [.sh (bkD nms ks), .sh (sqD u (rs.map eO)), .sh (.int places), .sh (sqD t (bag.map eN)), .sh (eO most), .sh (eN k)] = some (.int (heldT ks rs bag r)) := by
            exact call_ok (ds := [bkD nms ks, sqD u (rs.map eO), sqD t (bag.map eN), .int r]) (by simp [aCons, aNil, f2, eN, h1, eO]) rfl h2
          have hm : overM most rs k = match most with
            | some m => decide (m < r)
            | none => false := by unfold overM; rw [e]; cases most <;> rfl
          rw [hm]
          simp only [belongs_1b, belongs_2, belongs_3, belongs_4, belongs_5, gSeq, gIf, gRet, tOrF, tAndF, tBl, f2, hc]
          cases most with
          | none =>
            by_cases c : places - r < heldT ks rs bag r <;> simp [c, h1, eN, eO, isN_eO, notN_eO, gIsN, gNotN, D.isNon]
          | some m =>
            by_cases c : places - r < heldT ks rs bag r <;> by_cases c2 : m < r <;> simp [c, c2, h1, eN, eO, isN_eO, notN_eO, gIsN, gNotN, D.isNon]
      by_cases c : (badT ks rs places bag k || overM most rs k) = true
      · rw [if_pos c] at h3 ⊢
        exact h3
      · rw [if_neg c] at h3 ⊢
        exact ⟨_, h3, _, rfl⟩)
  rw [findSome_bool (fun k => badT ks rs places bag k || overM most rs k)] at f
  have hany : belM ks rs places bag most = !((kinT bag).any fun k => badT ks rs places bag k || overM most rs k) := by
    unfold belM
    rw [List.all_eq_not_any_not, kin_all (fun k hk => Nat.lt_of_lt_of_le (hb k hk) h6)]
    simp
  have hi : fSeq D.lt (fCall 1 m_kinds_in (aCons (nm 3) aNil) []) [.sh (bkD nms ks), .sh (sqD u (rs.map eO)), .sh (.int places), .sh (sqD t (bag.map eN)), .sh (eO most), .no] = some ((kinT bag).map eN) := by
    refine seq_lt (t := true) ?_
    exact call_ok (ds := [sqD t (bag.map eN)]) (by simp [aCons, aNil]) rfl (kinds_in_eq t bag)
  simp only [m_belongs, mir, belongs_g, belongs_1, belongs_6, gSeq, gFor, gRet, cst, List.length_cons, List.length_nil, List.map_cons, List.map_nil, List.replicate, List.cons_append, List.nil_append, Nat.reduceSub, Nat.reduceAdd]
  rw [hi, Option.bind_some]
  by_cases c : ((kinT bag).any fun k => badT ks rs places bag k || overM most rs k) = true
  · rw [if_pos c] at f
    simp only at f
    rw [f, hany, c]
    rfl
  · rw [if_neg c] at f
    obtain ⟨ρ', f, _⟩ := f
    rw [f, hany, Bool.eq_false_iff.mpr c]
    rfl
/-- needed -/
def needT (ks : List Kd) (rs : List (Option Int)) (bag : List Nat) (kind : Nat) : Bool := match rt rs kind with
  | none => false
  | some r => bag.all fun k => match rt rs k with
    | none => true
    | some q => !decide (q < sz ks kind + r)
theorem falls_eq {kind : Nat} (hk : kind < ks.length) (hb : ∀ k ∈ bag, k < ks.length) (hr : rs.length = ks.length) (hl : bag.length ≤ lim) :
    m_falls [bkD nms ks, sqD u (rs.map eO), sqD t (bag.map eN), .int (kind : Int)] = some (.bl (needT ks rs bag kind)) := by
  have h0 := ix_rs (t := u) (rs := rs) (k := kind) (by rw [hr]; exact hk)
  have h9 := size_at (ks := ks) hk
  rcases e : rt rs kind with _ | r
  · rw [e] at h0
    simp [m_falls, mir, falls_g, falls_1, falls_2, gSeq, gIf, gRet, tBl, f2, List.replicate, h0, eO, gIsN, D.isNon, needT, e]
  · rw [e] at h0
    let p : Nat → Bool := fun k => match rt rs k with
      | none => false
      | some q => decide (q < sz ks kind + r)
    have e2 : ∀ ρ : Rho, ρ = [.sh (bkD nms ks), .sh (sqD u (rs.map eO)), .sh (sqD t (bag.map eN)), .sh (.int (kind : Int)), .sh (.int (sz ks kind + r)), .no] → fGive (fLc (fSeq D.lt (nm 2)) (gNm 5) falls_4t falls_4e [5]) ρ = some (.lst ((bag.filter p).map eN)) := by
      rintro ρ rfl
      refine give_eval (enc := eN) _ _ (seq_lt (t := t) rfl) hl fun k hk => ⟨?_, fun _ => ?_⟩
      · have h1 := ix_rs (t := u) (rs := rs) (k := k) (by rw [hr]; exact hb k hk)
        simp only [p]
        rcases e3 : rt rs k with _ | q
        · rw [e3] at h1
          simp [falls_4t, tAndF, tBl, f2, wipeR, eN, h1, eO, gNotN, D.isNon]
        · rw [e3] at h1
          simp [falls_4t, tAndF, tBl, f2, wipeR, eN, h1, eO, gNotN, D.isNon]
      · simp [falls_4e, wipeR]
    simp [m_falls, mir, falls_g, falls_1, falls_2, falls_3, falls_4, gSeq, gIf, gRet, gSet, tBl, f1, f2, List.replicate, h0, eO, gIsN, D.isNon, fld_sizes, h9, e2 _ rfl, needT, e]
    apply Bool.eq_iff_iff.mpr
    simp only [decide_eq_true_eq, List.all_eq_true, List.filter_eq_nil_iff, List.length_eq_zero_iff]
    refine forall_congr' fun k => forall_congr' fun hk => ?_
    simp only [p]
    cases rt rs k <;> simp
theorem law_needed_eq {kind : Nat} (hk : kind < ks.length) (hb : ∀ k ∈ bag, k < ks.length) (hr : rs.length = ks.length) (hl : bag.length ≤ lim) :
    m_law_needed [ksD ks, sqD u (rs.map eO), sqD t (bag.map eN), .int (kind : Int)] = some (.bl (needT ks rs bag kind)) := by
  have h0 := ix_rs (t := u) (rs := rs) (k := kind) (by rw [hr]; exact hk)
  have h9 := ix_ks (ks := ks) hk
  rcases e : rt rs kind with _ | r
  · rw [e] at h0
    simp [m_law_needed, mir, law_needed_g, law_needed_1, law_needed_2, gSeq, gIf, gRet, tBl, f2, List.replicate, h0, eO, gIsN, D.isNon, needT, e]
  · rw [e] at h0
    let p : Nat → Bool := fun k => match rt rs k with
      | none => false
      | some q => decide (q < sz ks kind + r)
    have f := for_find (enc := eN) (bind := gNm 4) (body := law_needed_3b) (xs := bag) (ρ := [.sh (ksD ks), .sh (sqD u (rs.map eO)), .sh (sqD t (bag.map eN)), .sh (.int (kind : Int)), .no])
      (fun ρ => ∃ x, ρ = [.sh (ksD ks), .sh (sqD u (rs.map eO)), .sh (sqD t (bag.map eN)), .sh (.int (kind : Int)), x]) (fun k => if p k = true then some (.bl false) else none) ⟨_, rfl⟩ (fun k hk ρ ⟨x, e⟩ => by
        subst e
        refine ⟨_, rfl, ?_⟩
        have h1 := ix_rs (t := u) (rs := rs) (k := k) (by rw [hr]; exact hb k hk)
        have h3 : law_needed_3b [.sh (ksD ks), .sh (sqD u (rs.map eO)), .sh (sqD t (bag.map eN)), .sh (.int (kind : Int)), .sh (eN k)] = if p k = true then some (.rt (.bl false)) else some (.nx [.sh (ksD ks), .sh (sqD u (rs.map eO)), .sh (sqD t (bag.map eN)), .sh (.int (kind : Int)), .sh (eN k)]) := by
          rcases e3 : rt rs k with _ | q
          · rw [e3] at h1
            rw [show p k = false by simp only [p, e3]]
            simp [law_needed_3b, law_needed_4, gIf, tAndF, tBl, f2, eN, h1, eO, gNotN, D.isNon]
          · rw [e3] at h1
            rw [show p k = decide (q < sz ks kind + r) by simp only [p, e3]]
            simp [law_needed_3b, law_needed_4, law_needed_5, gIf, gRet, tAndF, tBl, f2, eN, h1, eO, gNotN, D.isNon, h9, ix_sz, h0]
            by_cases c : q < sz ks kind + r <;> simp [c]
        by_cases c : p k = true
        · rw [if_pos c] at h3 ⊢
          exact h3
        · rw [if_neg c] at h3 ⊢
          exact ⟨_, h3, _, rfl⟩)
    rw [findSome_bool] at f
    have hany : needT ks rs bag kind = !(bag.any p) := by
      unfold needT
      rw [e]
      simp only
      rw [List.all_eq_not_any_not]
      congr 2
      funext k
      simp only [p]
      cases rt rs k <;> simp
    simp [m_law_needed, mir, law_needed_g, law_needed_1, law_needed_2, law_needed_3, law_needed_6, gSeq, gIf, gRet, gFor, tBl, f1, f2, List.replicate, h0, eO, gIsN, D.isNon]
    rw [seq_lt (t := t) (ds := bag.map eN) rfl, Option.bind_some]
    by_cases c : bag.any p = true
    · rw [if_pos c] at f
      simp only at f
      rw [f, hany, c]
      rfl
    · rw [if_neg c] at f
      obtain ⟨ρ', f, _⟩ := f
      rw [f, hany, Bool.eq_false_iff.mpr c]
      rfl
end
end G

/-! overfull: the law's and the program's. -/
namespace G
open L2 PyProof.Rows PySem.Spec PySem SX C8 FL
def endT (ks : List Kd) (rs : List (Option Int)) (bag : List Nat) : Int := ((bag.filter fun k => (rt rs k).isNone).map fun k => sz ks k).sum
def rvals (rs : List (Option Int)) (bag : List Nat) : List Int := bag.map fun k => (rt rs k).getD 0
def ovOut (ks : List Kd) (rs : List (Option Int)) (places : Int) (bag : List Nat) (r : Int) : Option D := if decide (places - r < heldT ks rs bag r) = true then some (.tup [.int r, .int (heldT ks rs bag r)]) else none
def ovL (ks : List Kd) (rs : List (Option Int)) (places : Int) (bag : List Nat) (l : List Int) : D := match l.findSome? (ovOut ks rs places bag) with
  | some d => d
  | none => .non
def ovT (ks : List Kd) (rs : List (Option Int)) (places : Int) (bag : List Nat) : D := if 0 < endT ks rs bag then .tup [.non, .int (endT ks rs bag)] else ovL ks rs places bag (sortI (rvals rs bag))
theorem find_ded {α : Type} (g : Int → Option α) : ∀ {l : List Int}, l.Pairwise (· ≤ ·) → (ded l).findSome? g = l.findSome? g
  | [], _ => rfl
  | x :: l, h => by
    obtain ⟨h1, h2⟩ := List.pairwise_cons.mp h
    have ih := find_ded g h2
    unfold ded
    by_cases hx : x ∈ l
    · rw [if_pos hx, ih]
      cases l with
      | nil => cases hx
      | cons y l =>
        have hy : x = y := by
          rcases List.mem_cons.mp hx with e | e
          · exact e
          · have a := h1 y (by simp)
            have b := (List.pairwise_cons.mp h2).1 x e
            omega
        subst hy
        cases e : g x with
        | some d => simp [List.findSome?_cons, e]
        | none => simp [List.findSome?_cons, e]
    · rw [if_neg hx, List.findSome?_cons, List.findSome?_cons, ih]
theorem sum_nonneg : ∀ {l : List Int}, (∀ x ∈ l, 0 ≤ x) → 0 ≤ l.sum
  | [], _ => by simp
  | x :: l, h => by
    rw [List.sum_cons]
    have a := h x (by simp)
    have b := sum_nonneg (l := l) fun y hy => h y (by simp [hy])
    omega
theorem sum_pos_mem : ∀ {l : List Int}, (∀ x ∈ l, 1 ≤ x) → ¬ 0 < l.sum → l = []
  | [], _, _ => rfl
  | x :: l, h, n => by
    rw [List.sum_cons] at n
    have a := h x (by simp)
    have b := sum_nonneg (l := l) fun y hy => Int.le_trans (by decide) (h y (by simp [hy]))
    omega
theorem all_some {ks : List Kd} {rs : List (Option Int)} {bag : List Nat} (hs : ∀ k < ks.length, 1 ≤ sz ks k) (hb : ∀ k ∈ bag, k < ks.length) (n : ¬ 0 < endT ks rs bag) : ∀ k ∈ bag, ∃ r, rt rs k = some r := by
  have e := sum_pos_mem (l := (bag.filter fun k => (rt rs k).isNone).map fun k => sz ks k) (fun x hx => by
    obtain ⟨k, hk, rfl⟩ := List.mem_map.mp hx
    exact hs k (hb k (List.mem_filter.mp hk).1)) n
  intro k hk
  cases q : rt rs k with
  | some r => exact ⟨r, rfl⟩
  | none =>
    have : k ∈ bag.filter fun k => (rt rs k).isNone := List.mem_filter.mpr ⟨hk, by rw [q]; rfl⟩
    rw [List.map_eq_nil_iff] at e
    rw [e] at this
    cases this
section
variable {ks : List Kd} {rs : List (Option Int)} {bag : List Nat} {places : Int} {t u : Bool} {nms : List D}
theorem law_overfull_eq (hs : ∀ k < ks.length, 1 ≤ sz ks k) (hb : ∀ k ∈ bag, k < ks.length) (hr : rs.length = ks.length) (hl : bag.length ≤ lim) :
    m_law_overfull [ksD ks, sqD u (rs.map eO), .int places, sqD t (bag.map eN)] = some (ovT ks rs places bag) := by
  have e1 : ∀ ρ : Rho, ρ = [.sh (ksD ks), .sh (sqD u (rs.map eO)), .sh (.int places), .sh (sqD t (bag.map eN)), .no, .no, .no] → fGive (fLc (fSeq D.lt (nm 3)) (gNm 6) law_overfull_1t law_overfull_1e [6]) ρ = some (.lst ((bag.filter fun k => (rt rs k).isNone).map fun k => .int (sz ks k))) := by
    rintro ρ rfl
    refine give_eval (enc := eN) _ _ (seq_lt (t := t) rfl) hl fun k hk => ?_
    have h1 := ix_rs (t := u) (rs := rs) (k := k) (by rw [hr]; exact hb k hk)
    have h2 := ix_ks (ks := ks) (hb k hk)
    exact ⟨by simp [law_overfull_1t, tBl, f2, wipeR, eN, h1, isN_eO], fun _ => by simp [law_overfull_1e, f2, wipeR, eN, h2, ix_sz]⟩
  have e1s : gSum (.lst ((bag.filter fun k => (rt rs k).isNone).map fun k => .int (sz ks k))) = some (.int (endT ks rs bag)) := by
    have := sum_ints ((bag.filter fun k => (rt rs k).isNone).map fun k => sz ks k)
    rw [List.map_map] at this
    exact this
  simp only [m_law_overfull, mir, law_overfull_g, law_overfull_1, gSeq, gSet, f1, List.length_cons, List.length_nil, List.map_cons, List.map_nil, List.replicate, List.cons_append, List.nil_append, Nat.reduceSub, Nat.reduceAdd]
  rw [e1 _ rfl, Option.bind_some, e1s, Option.map_some]
  simp only [List.set, Option.bind_some]
  unfold ovT
  by_cases c : 0 < endT ks rs bag
  · rw [if_pos c]
    simp [law_overfull_2, law_overfull_3, gIf, gRet, tBl, f2, c, fTup, aCons, aNil, lim]
  · rw [if_neg c]
    have hsome := all_some hs hb c
    simp [law_overfull_2, gIf, tBl, f2, c]
    have e2 : ∀ ρ : Rho, ρ = [.sh (ksD ks), .sh (sqD u (rs.map eO)), .sh (.int places), .sh (sqD t (bag.map eN)), .sh (.int (endT ks rs bag)), .no, .no] → fGive (fLc (fSeq D.lt (nm 3)) (gNm 6) tYesF law_overfull_4e [6]) ρ = some (.lst ((rvals rs bag).map D.int)) := by
      rintro ρ rfl
      rw [rvals, List.map_map]
      refine give_all (enc := eN) _ (seq_lt (t := t) rfl) hl fun k hk => ?_
      have h1 := ix_rs (t := u) (rs := rs) (k := k) (by rw [hr]; exact hb k hk)
      obtain ⟨r, q⟩ := hsome k hk
      rw [q] at h1
      simp [law_overfull_4e, f2, wipeR, eN, h1, eO, q]
    have hi : ∀ ρ : Rho, ρ = [.sh (ksD ks), .sh (sqD u (rs.map eO)), .sh (.int places), .sh (sqD t (bag.map eN)), .sh (.int (endT ks rs bag)), .no, .no] → fSeq D.lstOf (fGive (fO1 gSortI (fGive (fLc (fSeq D.lt (nm 3)) (gNm 6) tYesF law_overfull_4e [6])))) ρ = some ((sortI (rvals rs bag)).map D.int) := by
      intro ρ hρ
      exact seq_give (fO1_at (e2 ρ hρ) (sortI_at _))
    have f := for_find (enc := D.int) (bind := gNm 5) (body := law_overfull_4b) (xs := sortI (rvals rs bag)) (ρ := [.sh (ksD ks), .sh (sqD u (rs.map eO)), .sh (.int places), .sh (sqD t (bag.map eN)), .sh (.int (endT ks rs bag)), .no, .no])
      (fun ρ => ∃ x, ρ = [.sh (ksD ks), .sh (sqD u (rs.map eO)), .sh (.int places), .sh (sqD t (bag.map eN)), .sh (.int (endT ks rs bag)), x, .no]) (ovOut ks rs places bag) ⟨_, rfl⟩ (fun r _ ρ ⟨x, e⟩ => by
        subst e
        refine ⟨_, rfl, ?_⟩
        have h2 := law_held_eq (least := r) (t := t) (u := u) hb hr hl
        have hc : fCall 4 m_law_held (aCons (nm 0) (aCons (nm 1) (aCons (nm 3) (aCons (nm 5) aNil)))) [] [.sh (ksD ks), .sh (sqD u (rs.map eO)), .sh (.int places), .sh (sqD t (bag.map eN)), .sh (.int (endT ks rs bag)), .sh (.int r), .no] = some (.int (heldT ks rs bag r)) :=
          call_ok (ds := [ksD ks, sqD u (rs.map eO), sqD t (bag.map eN), .int r]) (by simp [aCons, aNil]) rfl h2
        simp only [List.set, ovOut]
        by_cases c : places - r < heldT ks rs bag r
        · rw [if_pos (by simpa using c)]
          simp [law_overfull_4b, law_overfull_5, law_overfull_6, gIf, gRet, tBl, f2, hc, c, fTup, aCons, aNil, lim]
        · rw [if_neg (by simpa using c)]
          simp [law_overfull_4b, law_overfull_5, gIf, gRet, tBl, f2, hc, c])
    simp only [law_overfull_4, law_overfull_7, gFor, gRet]
    rw [hi _ rfl, Option.bind_some]
    unfold ovL
    cases q : (sortI (rvals rs bag)).findSome? (ovOut ks rs places bag) with
    | some d =>
      rw [q] at f
      simp only at f
      rw [f]
      rfl
    | none =>
      rw [q] at f
      obtain ⟨ρ', f, _⟩ := f
      rw [f]
      rfl
theorem overfull_eq (hrest : m_rests [bkD nms ks] = some (sqD u (rs.map eO))) (hs : ∀ k < ks.length, 1 ≤ sz ks k) (hb : ∀ k ∈ bag, k < ks.length) (hr : rs.length = ks.length) (hl : bag.length ≤ 62) :
    m_overfull [bkD nms ks, .int places, sqD t (bag.map eN)] = some (ovT ks rs places bag) := by
  have hl' : bag.length ≤ lim := Nat.le_trans hl (by decide)
  have e0 : fCall 1 m_rests (aCons (nm 0) aNil) [] [.sh (bkD nms ks), .sh (.int places), .sh (sqD t (bag.map eN)), .no, .no, .no, .no] = some (sqD u (rs.map eO)) :=
    call_ok (ds := [bkD nms ks]) (by simp [aCons, aNil]) rfl hrest
  have e1 : ∀ ρ : Rho, ρ = [.sh (bkD nms ks), .sh (.int places), .sh (sqD t (bag.map eN)), .sh (sqD u (rs.map eO)), .no, .no, .no] → fGive (fLc (fSeq D.lt (nm 2)) (gNm 6) overfull_2t overfull_2e [6]) ρ = some (.lst ((bag.filter fun k => (rt rs k).isNone).map fun k => .int (sz ks k))) := by
    rintro ρ rfl
    refine give_eval (enc := eN) _ _ (seq_lt (t := t) rfl) hl' fun k hk => ?_
    have h1 := ix_rs (t := u) (rs := rs) (k := k) (by rw [hr]; exact hb k hk)
    have h2 := size_at (ks := ks) (hb k hk)
    exact ⟨by simp [overfull_2t, tBl, f2, wipeR, eN, h1, isN_eO], fun _ => by simp [overfull_2e, f2, f1, wipeR, eN, fld_sizes, h2]⟩
  have e1s : gSum (.lst ((bag.filter fun k => (rt rs k).isNone).map fun k => .int (sz ks k))) = some (.int (endT ks rs bag)) := by
    have := sum_ints ((bag.filter fun k => (rt rs k).isNone).map fun k => sz ks k)
    rw [List.map_map] at this
    exact this
  simp only [m_overfull, mir, overfull_g, overfull_1, overfull_2, gSeq, gSet, f1, List.length_cons, List.length_nil, List.map_cons, List.map_nil, List.replicate, List.cons_append, List.nil_append, Nat.reduceSub, Nat.reduceAdd]
  rw [e0]
  simp only [Option.map_some, Option.bind_some, List.set]
  rw [e1 _ rfl, Option.bind_some, e1s, Option.map_some]
  simp only [List.set, Option.bind_some]
  unfold ovT
  by_cases c : 0 < endT ks rs bag
  · rw [if_pos c]
    simp [overfull_3, overfull_4, gIf, gRet, tBl, f2, c, fTup, aCons, aNil, lim]
  · rw [if_neg c]
    have hsome := all_some hs hb c
    simp [overfull_3, gIf, tBl, f2, c]
    have e2 : ∀ ρ : Rho, ρ = [.sh (bkD nms ks), .sh (.int places), .sh (sqD t (bag.map eN)), .sh (sqD u (rs.map eO)), .sh (.int (endT ks rs bag)), .no, .no] → fGive (fLc (fSeq D.lt (nm 2)) (gNm 6) tYesF overfull_5e [6]) ρ = some (.lst ((rvals rs bag).map D.int)) := by
      rintro ρ rfl
      rw [rvals, List.map_map]
      refine give_all (enc := eN) _ (seq_lt (t := t) rfl) hl' fun k hk => ?_
      have h1 := ix_rs (t := u) (rs := rs) (k := k) (by rw [hr]; exact hb k hk)
      obtain ⟨r, q⟩ := hsome k hk
      rw [q] at h1
      simp [overfull_5e, f2, wipeR, eN, h1, eO, q]
    have hi : ∀ ρ : Rho, ρ = [.sh (bkD nms ks), .sh (.int places), .sh (sqD t (bag.map eN)), .sh (sqD u (rs.map eO)), .sh (.int (endT ks rs bag)), .no, .no] → fSeq D.lstOf (fGive (fO1 gSortSet (fGive (fLc (fSeq D.lt (nm 2)) (gNm 6) tYesF overfull_5e [6])))) ρ = some ((sortSet (rvals rs bag)).map D.int) := by
      intro ρ hρ
      exact seq_give (fO1_at (e2 ρ hρ) (sortSet_at (by unfold rvals; simpa using hl)))
    have f := for_find (enc := D.int) (bind := gNm 5) (body := overfull_5b) (xs := sortSet (rvals rs bag)) (ρ := [.sh (bkD nms ks), .sh (.int places), .sh (sqD t (bag.map eN)), .sh (sqD u (rs.map eO)), .sh (.int (endT ks rs bag)), .no, .no])
      (fun ρ => ∃ x, ρ = [.sh (bkD nms ks), .sh (.int places), .sh (sqD t (bag.map eN)), .sh (sqD u (rs.map eO)), .sh (.int (endT ks rs bag)), x, .no]) (ovOut ks rs places bag) ⟨_, rfl⟩ (fun r _ ρ ⟨x, e⟩ => by
        subst e
        refine ⟨_, rfl, ?_⟩
        have h2 := held_by_eq (least := r) (t := t) (u := u) (nms := nms) hb hr hl'
        have hc : fCall 4 m_held_by (aCons (nm 0) (aCons (nm 3) (aCons (nm 2) (aCons (nm 5) aNil)))) [] [.sh (bkD nms ks), .sh (.int places), .sh (sqD t (bag.map eN)), .sh (sqD u (rs.map eO)), .sh (.int (endT ks rs bag)), .sh (.int r), .no] = some (.int (heldT ks rs bag r)) :=
          call_ok (ds := [bkD nms ks, sqD u (rs.map eO), sqD t (bag.map eN), .int r]) (by simp [aCons, aNil]) rfl h2
        simp only [List.set, ovOut]
        by_cases c : places - r < heldT ks rs bag r
        · rw [if_pos (by simpa using c)]
          simp [overfull_5b, overfull_6, overfull_7, gIf, gRet, tBl, f2, hc, c, fTup, aCons, aNil, lim]
        · rw [if_neg (by simpa using c)]
          simp [overfull_5b, overfull_6, gIf, gRet, tBl, f2, hc, c])
    simp only [overfull_5, overfull_8, gFor, gRet]
    rw [hi _ rfl, Option.bind_some]
    unfold ovL
    rw [← find_ded (ovOut ks rs places bag) (sortI_le (rvals rs bag))]
    have e9 : ded (sortI (rvals rs bag)) = sortSet (rvals rs bag) := rfl
    rw [e9]
    cases q : (sortSet (rvals rs bag)).findSome? (ovOut ks rs places bag) with
    | some d =>
      rw [q] at f
      simp only at f
      rw [f]
      rfl
    | none =>
      rw [q] at f
      obtain ⟨ρ', f, _⟩ := f
      rw [f]
      rfl
end
end G

/-! rests: the program's and the law's are the same. -/
namespace G
open L2 PyProof.Rows PySem.Spec PySem SX C8 FL
section
variable {α σ : Type} {enc : α → D} {bind : FG} {body : FS}
/-- a for loop as a fold -/
theorem for_fold (P : σ → Rho → Prop) (step : σ → α → σ) : ∀ {xs : List α} {s : σ} {ρ : Rho}, P s ρ →
    (∀ x ∈ xs, ∀ s ρ, P s ρ → ∃ ρ1 ρ2, bind (enc x) ρ = some ρ1 ∧ body ρ1 = some (.nx ρ2) ∧ P (step s x) ρ2) → ∃ ρ', forGo bind body (xs.map enc) ρ = some (.nx ρ') ∧ P (xs.foldl step s) ρ'
  | [], s, ρ, h, _ => ⟨ρ, rfl, h⟩
  | x :: xs, s, ρ, h, H => by
    obtain ⟨ρ1, ρ2, e1, e2, h2⟩ := H x (by simp) s ρ h
    obtain ⟨ρ', e3, h3⟩ := for_fold P step (xs := xs) h2 fun y hy => H y (List.mem_cons_of_mem _ hy)
    refine ⟨ρ', ?_, h3⟩
    rw [List.map_cons]
    unfold forGo
    rw [e1, Option.bind_some, e2, Option.bind_some]
    exact e3
end
theorem getSome {ρ : Rho} {i : Nat} {t : T} (h : ρ[i]? = some t) : i < ρ.length := (List.getElem?_eq_some_iff.mp h).1
theorem pNm_ls {ρ : Rho} {i : Nat} {ts : List T} (h : ρ[i]? = some (.ls ts)) : pNm i ρ = some (i, []) := by
  unfold pNm
  rw [h]
theorem node_ls {ρ : Rho} {i : Nat} {t : T} (h : ρ[i]? = some t) : T.node ρ (i, []) = some t := by
  unfold T.node
  rw [show ((i, []) : Nat × List Nat).1 = i from rfl, h]
  rfl
theorem setI_eval {ρ : Rho} {i k : Nat} {ds : List D} {d : D} {fi f : FX} (h0 : ρ[i]? = some (.ls (ds.map T.sh))) (h1 : fi ρ = some (.int (k : Int))) (hk : k < ds.length) (h2 : f ρ = some d) :
    gSetI (pNm i) fi (fSh f) ρ = some (.nx (ρ.set i (.ls ((ds.set k d).map T.sh)))) := by
  unfold gSetI
  rw [h1, Option.bind_some]
  unfold gUpd
  simp only [pNm_ls h0, Option.bind_some, fSh, h2, Option.map_some, node_ls h0, hSet, h0]
  rw [ixN_nat (by simpa using hk)]
  simp [T.put, List.map_set]
theorem app_eval {ρ : Rho} {i : Nat} {ds : List D} {d : D} {f : FX} (h0 : ρ[i]? = some (.ls (ds.map T.sh))) (hk : ds.length ≤ lim) (h2 : f ρ = some d) :
    gUpd (pNm i) (fSh f) hApp ρ = some (.nx (ρ.set i (.ls ((ds ++ [d]).map T.sh)))) := by
  unfold gUpd
  simp only [pNm_ls h0, Option.bind_some, fSh, h2, Option.map_some, node_ls h0, hApp, h0]
  rw [if_pos (by simpa using hk)]
  simp [T.put]
theorem ix_rsl {rs : List (Option Int)} {k : Nat} (h : k < rs.length) : gIx (.lst (rs.map eO)) (.int (k : Int)) = some (eO (rt rs k)) := ix_rs (t := false) h
theorem fv_eO (o : Option Int) : D.fv (eO o) = some (match o with
    | none => V.non
    | some r => V.int r) := by cases o <;> rfl
theorem fvs_eO : ∀ l : List (Option Int), D.fvs (l.map eO) = some (l.map fun o => match o with
    | none => V.non
    | some r => V.int r)
  | [] => rfl
  | o :: l => by
    rw [List.map_cons]
    unfold D.fvs
    rw [fv_eO, fvs_eO l]
    rfl
theorem notIn_non (l : List (Option Int)) : gNotIn .non (.lst (l.map eO)) = some (.bl (l.all fun o => o.isSome)) := by
  unfold gNotIn
  rw [show (D.lst (l.map eO)).seq = some (l.map eO) from rfl, Option.bind_some, fvs_eO]
  simp only [D.fv, Option.bind_some, Option.map_some]
  congr 2
  unfold inV
  rw [List.any_map, List.all_eq_not_any_not]
  congr 2
  funext o
  cases o <;> rfl
def mx0 (l : List Int) : Int := maxI (0 :: l)
theorem maxO_mx0 {l : List Int} (h : ∀ x ∈ l, 0 ≤ x) : (match maxO l with
    | none => D.int 0
    | some m => D.int m) = D.int (mx0 l) := by
  cases l with
  | nil => rfl
  | cons x l =>
    simp only [maxO, mx0]
    congr 1
    show List.foldl max x l = List.foldl max (max 0 x) l
    rw [Int.max_eq_right (h x (by simp))]
theorem mx0_nonneg (l : List Int) : 0 ≤ mx0 l := maxI_ge 0 (by simp)
/-- one step of the rests -/
def stepR (ks : List Kd) (known : List (Option Int)) (k : Nat) : List (Option Int) := if (nx ks k).all (fun n => (rt known n).isSome) = true then known.set k (some (mx0 ((nx ks k).map fun n => sz ks n + (rt known n).getD 0))) else known
def passR (ks : List Kd) (known : List (Option Int)) : List (Option Int) := (List.range ks.length).foldl (stepR ks) known
def iterR (ks : List Kd) : Nat → List (Option Int)
  | 0 => List.replicate ks.length none
  | t + 1 => passR ks (iterR ks t)
/-- the kinds of a book -/
structure Wf (ks : List Kd) : Prop where
  len : ks.length ≤ 6
  sz1 : ∀ k < ks.length, 1 ≤ sz ks k
  sz3 : ∀ k < ks.length, sz ks k ≤ 3
  nx_lt : ∀ k < ks.length, ∀ n ∈ nx ks k, n < ks.length
  nx_sorted : ∀ k < ks.length, (nx ks k).Pairwise (· < ·)
theorem Wf.nxlen {ks : List Kd} (W : Wf ks) {k : Nat} (hk : k < ks.length) : (nx ks k).length ≤ ks.length := by
  have d : (nx ks k).Nodup := (W.nx_sorted k hk).imp fun h => Nat.ne_of_lt h
  have := d.length_le_of_subset (l₂ := List.range ks.length) fun n hn => List.mem_range.mpr (W.nx_lt k hk n hn)
  simpa using this
theorem Wf.nxlim {ks : List Kd} (W : Wf ks) {k : Nat} (hk : k < ks.length) : (nx ks k).length ≤ lim := Nat.le_trans (W.nxlen hk) (Nat.le_trans W.len (by decide))
def Good (ks : List Kd) (known : List (Option Int)) : Prop := known.length = ks.length ∧ ∀ k r, rt known k = some r → 0 ≤ r
theorem rt_set {known : List (Option Int)} {k j : Nat} {o : Option Int} : rt (known.set k o) j = if k = j ∧ k < known.length then o else rt known j := by
  unfold rt
  rw [List.getD_eq_getElem?_getD, List.getElem?_set, List.getD_eq_getElem?_getD]
  by_cases h : k = j
  · subst h
    by_cases h2 : k < known.length <;> simp [h2]
  · simp [h]
theorem Good.step {ks : List Kd} {known : List (Option Int)} (g : Good ks known) (k : Nat) : Good ks (stepR ks known k) := by
  unfold stepR
  split
  · refine ⟨by simpa using g.1, fun j r h => ?_⟩
    rw [rt_set] at h
    split at h
    · cases h; exact mx0_nonneg _
    · exact g.2 j r h
  · exact g
theorem Good.pass {ks : List Kd} {known : List (Option Int)} (g : Good ks known) : Good ks (passR ks known) := by
  unfold passR
  generalize List.range ks.length = l
  induction l generalizing known with
  | nil => exact g
  | cons k l ih => exact ih (g.step k)
theorem Good.start (ks : List Kd) : Good ks (List.replicate ks.length none) := by
  refine ⟨by simp, fun k r h => ?_⟩
  unfold rt at h
  simp [List.getElem?_replicate] at h
  split at h <;> simp at h
theorem Good.iter (ks : List Kd) : ∀ t, Good ks (iterR ks t)
  | 0 => Good.start ks
  | t + 1 => (Good.iter ks t).pass
theorem foldl_const {σ α : Type} (f : σ → σ) : ∀ (xs : List α) (s : σ), xs.foldl (fun s _ => f s) s = Nat.repeat f xs.length s
  | [], _ => rfl
  | x :: xs, s => by
    rw [List.foldl_cons, foldl_const f xs]
    show Nat.repeat f xs.length (f s) = f (Nat.repeat f xs.length s)
    generalize xs.length = n
    induction n with
    | zero => rfl
    | succ n ih => show f (Nat.repeat f n (f s)) = f (f (Nat.repeat f n s)); rw [ih]
theorem repeat_iter (ks : List Kd) : ∀ n, Nat.repeat (passR ks) n (List.replicate ks.length none) = iterR ks n
  | 0 => rfl
  | n + 1 => by show passR ks (Nat.repeat (passR ks) n _) = _; rw [repeat_iter ks n]; rfl

/-! ### the program's -/
section
variable {ks : List Kd} {nms : List D}
theorem book_len (hn : nms.length = ks.length) : m_Book_len [bkD nms ks] = some (.int (ks.length : Int)) := by
  simp [m_Book_len, mir, Book_len_g, Book_len_1, gRet, f1, fld_names, hn]
theorem lenO_at (hn : nms.length = ks.length) (hl : ks.length ≤ 6) {f : FX} {ρ : Rho} (h : f ρ = some (bkD nms ks)) : f1 (gLenO "Book" m_Book_len) f ρ = some (.int (ks.length : Int)) := by
  unfold f1
  rw [h, Option.bind_some]
  unfold gLenO
  have : objOf "Book" "__len__" (bkD nms ks) = some (bkD nms ks) := by
    unfold objOf bkD
    simp only
    rw [if_pos (by decide)]
  rw [this, Option.bind_some, book_len hn, Option.bind_some]
  simp only
  rw [if_pos (by omega)]
def lsR (known : List (Option Int)) : T := .ls ((known.map eO).map T.sh)
theorem lsR_set (known : List (Option Int)) (k : Nat) (o : Option Int) : lsR (known.set k o) = .ls (((known.map eO).set k (eO o)).map T.sh) := by
  unfold lsR
  rw [← List.map_set]
@[simp] theorem nmQ_lsR (known : List (Option Int)) (ρ : Rho) : nmQ 0 (lsR known :: ρ) = some (.lst (known.map eO)) := nmQ_ls _ ρ
theorem longest_step (W : Wf ks) {known : List (Option Int)} (g : Good ks known) {k : Nat} (hk : k < ks.length) (a b c : T) :
    ∃ x y, longest_sums_3b [.sh (bkD nms ks), .sh (.tup (ks.map fun k => .int k.1)), lsR known, a, .sh (eN k), b, c] = some (.nx [.sh (bkD nms ks), .sh (.tup (ks.map fun k => .int k.1)), lsR (stepR ks known k), a, .sh (eN k), x, y]) := by
  have hnx := W.nx_lt k hk
  let v : Nat → Option Int := fun n => (rt known n).map fun r => sz ks n + r
  have e1 : ∀ ρ : Rho, ρ = [.sh (bkD nms ks), .sh (.tup (ks.map fun k => .int k.1)), lsR known, a, .sh (eN k), b, c] →
      fLc (fSeq D.lt (f2 gIx (f1 (gFld "Book" "nexts") (nm 0)) (nm 4))) (gNm 6) tYesF longest_sums_4e [6] ρ = some (lsR ((nx ks k).map v)) := by
    rintro ρ rfl
    have hm : ((nx ks k).map v).map eO = (nx ks k).map (eO ∘ v) := by rw [List.map_map]
    show _ = some (T.ls ((((nx ks k).map v).map eO).map T.sh))
    rw [hm]
    refine fLc_all (enc := eN) (eO ∘ v) (seq_lt (t := true) ?_) (W.nxlim hk) fun n hn => ?_
    · simp only [f2, f1, nm_zero, nm_succ, Option.bind_some, fld_nexts, eN, nexts_at hk]
      rfl
    · have h1 := ix_rsl (rs := known) (k := n) (by rw [g.1]; exact hnx n hn)
      have h2 := size_at (ks := ks) (hnx n hn)
      simp only [Function.comp, v]
      rcases e : rt known n with _ | r
      · rw [e] at h1
        simp [longest_sums_4e, fIf, tBl, f2, wipeR, h1, eN, eO, gIsN, D.isNon]
      · rw [e] at h1
        simp [longest_sums_4e, fIf, tBl, f2, wipeR, h1, h2, eN, eO, gIsN, D.isNon]
  have e2 : longest_sums_4 [.sh (bkD nms ks), .sh (.tup (ks.map fun k => .int k.1)), lsR known, a, .sh (eN k), b, c] = some (.nx [.sh (bkD nms ks), .sh (.tup (ks.map fun k => .int k.1)), lsR known, a, .sh (eN k), lsR ((nx ks k).map v), c]) := by
    unfold longest_sums_4 gOwn
    rw [e1 _ rfl]
    rfl
  have e3 := notIn_non ((nx ks k).map v)
  have ev : ((nx ks k).map v).all (fun o => o.isSome) = (nx ks k).all (fun n => (rt known n).isSome) := by
    rw [List.all_map]
    congr 1
    funext n
    simp only [Function.comp, v]
    cases rt known n <;> rfl
  rw [ev] at e3
  unfold longest_sums_3b gSeq
  rw [e2, Option.bind_some]
  simp only
  unfold longest_sums_5 gIf stepR
  have e4 : tBl (f2 gNotIn (cst .non) (nmQ 5)) [.sh (bkD nms ks), .sh (.tup (ks.map fun k => .int k.1)), lsR known, a, .sh (eN k), lsR ((nx ks k).map v), c] = some ((nx ks k).all fun n => (rt known n).isSome) := by
    simp only [tBl, f2, nmQ_succ, nmQ_lsR, cst_at, Option.bind_some, e3]
  rw [e4, Option.bind_some]
  cases hall : (nx ks k).all fun n => (rt known n).isSome with
  | false => exact ⟨_, _, rfl⟩
  | true =>
    simp only [if_true]
    have hv : (nx ks k).map v = ((nx ks k).map fun n => sz ks n + (rt known n).getD 0).map some := by
      rw [List.map_map]
      refine List.map_congr_left fun n hn => ?_
      have := List.all_eq_true.mp hall n hn
      simp only [v, Function.comp]
      cases q : rt known n with
      | none => rw [q] at this; cases this
      | some r => rfl
    have e5 : f2 gMaxDf (nmQ 5) (cst (.int 0)) [.sh (bkD nms ks), .sh (.tup (ks.map fun k => .int k.1)), lsR known, a, .sh (eN k), lsR ((nx ks k).map v), c] = some (.int (mx0 ((nx ks k).map fun n => sz ks n + (rt known n).getD 0))) := by
      rw [hv]
      have hm : (List.map eO (List.map some ((nx ks k).map fun n => sz ks n + (rt known n).getD 0))) = ((nx ks k).map fun n => sz ks n + (rt known n).getD 0).map D.int := by
        rw [List.map_map]; rfl
      simp only [f2, nmQ_succ, nmQ_lsR, hm, Option.bind_some, cst_at, gMaxDf, D.listInts, FL.ints_map, Option.map_some]
      refine congrArg some (maxO_mx0 ?_)
      intro x hx
      obtain ⟨n, hn, rfl⟩ := List.mem_map.mp hx
      have a1 := W.sz1 n (hnx n hn)
      have a2 : 0 ≤ (rt known n).getD 0 := by
        cases q : rt known n with
        | none => simp
        | some r => exact g.2 n r q
      omega
    unfold longest_sums_6
    rw [setI_eval (ds := known.map eO) (k := k) (d := eO (some (mx0 ((nx ks k).map fun n => sz ks n + (rt known n).getD 0)))) rfl rfl (by rw [List.length_map, g.1]; exact hk) e5]
    refine ⟨lsR ((nx ks k).map v), c, ?_⟩
    rw [lsR_set]
    rfl
theorem longest_turn (W : Wf ks) (hn : nms.length = ks.length) {known : List (Option Int)} (g : Good ks known) (a b c d : T) :
    ∃ x y z, longest_sums_2b [.sh (bkD nms ks), .sh (.tup (ks.map fun k => .int k.1)), lsR known, a, b, c, d] = some (.nx [.sh (bkD nms ks), .sh (.tup (ks.map fun k => .int k.1)), lsR (passR ks known), a, x, y, z]) := by
  unfold longest_sums_2b longest_sums_3 gFor
  have hi : fRg1 (f1 (gLenO "Book" m_Book_len) (nm 0)) [.sh (bkD nms ks), .sh (.tup (ks.map fun k => .int k.1)), lsR known, a, b, c, d] = some ((List.range ks.length).map eN) := rg1_nat (lenO_at hn W.len rfl) (Nat.le_trans W.len (by decide))
  rw [hi, Option.bind_some]
  obtain ⟨ρ', e, _, x, y, z, rfl⟩ := for_fold (enc := eN) (bind := gNm 4) (body := longest_sums_3b) (fun (s : List (Option Int)) ρ => Good ks s ∧ ∃ x y z, ρ = [.sh (bkD nms ks), .sh (.tup (ks.map fun k => .int k.1)), lsR s, a, x, y, z]) (stepR ks) (xs := List.range ks.length) ⟨g, b, c, d, rfl⟩ (fun k hk s ρ ⟨gs, x, y, z, e⟩ => by
    subst e
    obtain ⟨p, q, e⟩ := longest_step (nms := nms) W gs (List.mem_range.mp hk) a y z
    exact ⟨_, _, rfl, e, gs.step k, _, _, _, rfl⟩)
  exact ⟨x, y, z, e⟩
theorem longest_sums_eq (W : Wf ks) (hn : nms.length = ks.length) : m_longest_sums [bkD nms ks, .tup (ks.map fun k => .int k.1)] = some (.tup ((iterR ks ks.length).map eO)) := by
  have hl := W.len
  have e1 : longest_sums_1 [.sh (bkD nms ks), .sh (.tup (ks.map fun k => .int k.1)), .no, .no, .no, .no, .no] = some (.nx [.sh (bkD nms ks), .sh (.tup (ks.map fun k => .int k.1)), lsR (iterR ks 0), .no, .no, .no, .no]) := by
    unfold longest_sums_1 gOwn fRep
    rw [lenO_at hn hl (f := nm 0) rfl]
    have : fLst (aoCons (fSh (cst .non)) aoNil) [.sh (bkD nms ks), .sh (.tup (ks.map fun k => .int k.1)), .no, .no, .no, .no, .no] = some (.ls [.sh .non]) := rfl
    rw [this, Option.bind_some, Option.bind_some]
    have hl' : (lim : Nat) = 1000000 := rfl
    have : gRep (.ls [.sh .non]) (.int (ks.length : Int)) = some (lsR (iterR ks 0)) := by
      unfold gRep
      simp only [shAll, Option.map_some, Option.bind_some, List.length_singleton, Int.toNat_natCast]
      rw [if_pos (by omega)]
      unfold lsR iterR
      rw [List.map_replicate]
      congr 3
      rw [List.flatten_replicate_singleton]
      rfl
    rw [this]
    rfl
  have e2 : ∃ x y z v, longest_sums_2 [.sh (bkD nms ks), .sh (.tup (ks.map fun k => .int k.1)), lsR (iterR ks 0), .no, .no, .no, .no] = some (.nx [.sh (bkD nms ks), .sh (.tup (ks.map fun k => .int k.1)), lsR (iterR ks ks.length), x, y, z, v]) := by
    unfold longest_sums_2 gFor
    have hi : fRg1 (f1 (gLenO "Book" m_Book_len) (nm 0)) [.sh (bkD nms ks), .sh (.tup (ks.map fun k => .int k.1)), lsR (iterR ks 0), .no, .no, .no, .no] = some ((List.range ks.length).map eN) := rg1_nat (lenO_at hn W.len rfl) (Nat.le_trans W.len (by decide))
    rw [hi, Option.bind_some]
    obtain ⟨ρ', e, _, x, y, z, v, rfl⟩ := for_fold (enc := eN) (bind := gNm 3) (body := longest_sums_2b) (fun (s : List (Option Int)) ρ => Good ks s ∧ ∃ x y z v, ρ = [.sh (bkD nms ks), .sh (.tup (ks.map fun k => .int k.1)), lsR s, x, y, z, v]) (fun s _ => passR ks s) (xs := List.range ks.length) ⟨Good.start ks, .no, .no, .no, .no, rfl⟩ (fun k hk s ρ ⟨gs, x, y, z, v, e⟩ => by
      subst e
      obtain ⟨p, q, r, e⟩ := longest_turn (nms := nms) W hn gs (.sh (eN k)) y z v
      exact ⟨_, _, rfl, e, gs.pass, _, _, _, _, rfl⟩)
    rw [foldl_const, List.length_range, repeat_iter] at e
    exact ⟨x, y, z, v, e⟩
  obtain ⟨x, y, z, v, e2⟩ := e2
  simp only [m_longest_sums, mir, longest_sums_g, gSeq, List.length_cons, List.length_nil, List.map_cons, List.map_nil, List.replicate, List.cons_append, List.nil_append, Nat.reduceSub, Nat.reduceAdd]
  rw [e1, Option.bind_some]
  simp only
  rw [e2, Option.bind_some]
  simp [longest_sums_7, gRet, f1, gTuple]
theorem rests_eq (W : Wf ks) (hn : nms.length = ks.length) : m_rests [bkD nms ks] = some (sqD true ((iterR ks ks.length).map eO)) := by
  simp only [m_rests, mir, rests_g, rests_1, gRet, List.length_cons, List.length_nil, List.map_cons, List.map_nil, List.replicate, List.cons_append, List.nil_append, Nat.reduceSub, Nat.reduceAdd]
  rw [call_ok (n := 2) (ds := [bkD nms ks, .tup (ks.map fun k => .int k.1)]) (by simp [aCons, aNil, f1, fld_sizes]) rfl (longest_sums_eq W hn)]
  rfl
end
end G

/-! the law's rests; both reach the same standing. -/
namespace G
open L2 PyProof.Rows PySem.Spec PySem SX C8 FL
section
variable {ks : List Kd}
theorem lst_one (d : D) (ρ : Rho) : fGive (fLst (aoCons (fSh (cst d)) aoNil)) ρ = some (.lst [d]) := by
  have : fLst (aoCons (fSh (cst d)) aoNil) ρ = some (.ls ([d].map T.sh)) := rfl
  exact give_at this
theorem catL_at {ds es : List D} (h : ds.length + es.length ≤ lim) : gCatL (.lst ds) (.lst es) = some (.lst (ds ++ es)) := by
  show (if _ then _ else _) = _
  rw [if_pos h]
theorem law_rests_step (W : Wf ks) {known : List (Option Int)} (g : Good ks known) {k : Nat} (hk : k < ks.length) (a b c : T) :
    law_rests_3b [.sh (ksD ks), lsR known, a, .sh (eN k), b, c] = some (.nx [.sh (ksD ks), lsR (stepR ks known k), a, .sh (eN k), b, c]) := by
  have hnx := W.nx_lt k hk
  have hlim := W.nxlim hk
  have hs : ∀ ρ : Rho, ρ = [.sh (ksD ks), lsR known, a, .sh (eN k), b, c] → fSeq D.lt (f2 gIx (f2 gIx (nm 0) (nm 3)) (cst (.int 1))) ρ = some ((nx ks k).map eN) := by
    rintro ρ rfl
    refine seq_lt (t := false) ?_
    simp only [f2, nm_zero, nm_succ, Option.bind_some, eN, ix_ks hk, cst_at, ix_nx]
    rfl
  have e1 : ∀ ρ : Rho, ρ = [.sh (ksD ks), lsR known, a, .sh (eN k), b, c] → fGive (fLc (fSeq D.lt (f2 gIx (f2 gIx (nm 0) (nm 3)) (cst (.int 1)))) (gNm 5) law_rests_4t law_rests_4e [5]) ρ = some (.lst (((nx ks k).filter fun n => (rt known n).isNone).map eN)) := by
    rintro ρ rfl
    refine give_eval (enc := eN) _ _ (hs _ rfl) hlim fun n hn => ⟨?_, fun _ => ?_⟩
    · have h1 := ix_rsl (rs := known) (k := n) (by rw [g.1]; exact hnx n hn)
      simp [law_rests_4t, tBl, f2, wipeR, eN, h1, isN_eO]
    · simp [law_rests_4e, wipeR]
  have e2 : tBl (f2 gEq (f1 gLen (fGive (fLc (fSeq D.lt (f2 gIx (f2 gIx (nm 0) (nm 3)) (cst (.int 1)))) (gNm 5) law_rests_4t law_rests_4e [5]))) (cst (.int 0))) [.sh (ksD ks), lsR known, a, .sh (eN k), b, c] = some ((nx ks k).all fun n => (rt known n).isSome) := by
    simp only [tBl, f2, f1, e1 _ rfl, Option.bind_some, e_len_l, cst_at, e_eq]
    congr 1
    apply Bool.eq_iff_iff.mpr
    simp only [decide_eq_true_eq, List.length_map, List.all_eq_true]
    rw [show ((((nx ks k).filter fun n => (rt known n).isNone).length : Int) = 0) ↔ ((nx ks k).filter fun n => (rt known n).isNone) = [] by
      rw [← List.length_eq_zero_iff]; omega]
    rw [List.filter_eq_nil_iff]
    refine forall_congr' fun n => forall_congr' fun _ => ?_
    cases rt known n <;> simp
  unfold law_rests_3b law_rests_4 gIf stepR
  rw [e2, Option.bind_some]
  cases hall : (nx ks k).all fun n => (rt known n).isSome with
  | false => rfl
  | true =>
    simp only [if_true]
    have e3 : ∀ ρ : Rho, ρ = [.sh (ksD ks), lsR known, a, .sh (eN k), b, c] → fGive (fLc (fSeq D.lt (f2 gIx (f2 gIx (nm 0) (nm 3)) (cst (.int 1)))) (gNm 5) tYesF law_rests_5e [5]) ρ = some (.lst (((nx ks k).map fun n => sz ks n + (rt known n).getD 0).map D.int)) := by
      rintro ρ rfl
      rw [List.map_map]
      refine give_all (enc := eN) _ (hs _ rfl) hlim fun n hn => ?_
      have h1 := ix_rsl (rs := known) (k := n) (by rw [g.1]; exact hnx n hn)
      have h2 := ix_ks (ks := ks) (hnx n hn)
      have h3 := List.all_eq_true.mp hall n hn
      cases q : rt known n with
      | none => rw [q] at h3; cases h3
      | some r =>
        rw [q] at h1
        simp [law_rests_5e, f2, wipeR, eN, h1, h2, eO, ix_sz, q, Int.add_comm]
    have e4 : f1 gMaxL (f2 gCatL (fGive (fLst (aoCons (fSh (cst (.int 0))) aoNil))) (fGive (fLc (fSeq D.lt (f2 gIx (f2 gIx (nm 0) (nm 3)) (cst (.int 1)))) (gNm 5) tYesF law_rests_5e [5]))) [.sh (ksD ks), lsR known, a, .sh (eN k), b, c] = some (.int (mx0 ((nx ks k).map fun n => sz ks n + (rt known n).getD 0))) := by
      simp only [f1, f2, lst_one, Option.bind_some, e3 _ rfl]
      rw [catL_at (by
        have : (lim : Nat) = 1000000 := rfl
        have := W.nxlen hk; have := W.len
        simp; omega)]
      rw [Option.bind_some, show ([D.int 0] ++ ((nx ks k).map fun n => sz ks n + (rt known n).getD 0).map D.int) = (0 :: ((nx ks k).map fun n => sz ks n + (rt known n).getD 0)).map D.int from rfl]
      simp only [gMaxL, D.listInts, FL.ints_map, Option.bind_some]
      rw [if_pos (by simp)]
      rfl
    unfold law_rests_5
    rw [setI_eval (ds := known.map eO) (k := k) (d := eO (some (mx0 ((nx ks k).map fun n => sz ks n + (rt known n).getD 0)))) rfl rfl (by rw [List.length_map, g.1]; exact hk) e4, lsR_set]
    rfl
theorem law_rests_turn (W : Wf ks) {known : List (Option Int)} (g : Good ks known) (a b c d : T) :
    ∃ x, law_rests_2b [.sh (ksD ks), lsR known, a, b, c, d] = some (.nx [.sh (ksD ks), lsR (passR ks known), a, x, c, d]) := by
  unfold law_rests_2b law_rests_3 gFor
  have hi : fRg1 (f1 gLen (nm 0)) [.sh (ksD ks), lsR known, a, b, c, d] = some ((List.range ks.length).map eN) := rg1_nat (by simp [f1, ksD]) (Nat.le_trans W.len (by decide))
  rw [hi, Option.bind_some]
  obtain ⟨ρ', e, _, x, rfl⟩ := for_fold (enc := eN) (bind := gNm 3) (body := law_rests_3b) (fun (s : List (Option Int)) ρ => Good ks s ∧ ∃ x, ρ = [.sh (ksD ks), lsR s, a, x, c, d]) (stepR ks) (xs := List.range ks.length) ⟨g, b, rfl⟩ (fun k hk s ρ ⟨gs, x, e⟩ => by
    subst e
    exact ⟨_, _, rfl, law_rests_step W gs (List.mem_range.mp hk) a c d, gs.step k, _, rfl⟩)
  exact ⟨x, e⟩
theorem law_rests_8 (W : Wf ks) : m_law_rests [ksD ks] = some (.lst ((iterR ks 8).map eO)) := by
  have e1 : law_rests_1 [.sh (ksD ks), .no, .no, .no, .no, .no] = some (.nx [.sh (ksD ks), lsR (iterR ks 0), .no, .no, .no, .no]) := by
    unfold law_rests_1 gOwn
    rw [fLc_all (enc := kD) (fun _ => eO none) (xs := ks) (seq_lt (t := false) rfl) (Nat.le_trans W.len (by decide)) (fun k _ => rfl)]
    have : ks.map (fun _ => eO none) = (List.replicate ks.length (none : Option Int)).map eO := by
      rw [List.map_replicate, List.map_const']
    rw [this]
    rfl
  have e2 : ∃ x y, law_rests_2 [.sh (ksD ks), lsR (iterR ks 0), .no, .no, .no, .no] = some (.nx [.sh (ksD ks), lsR (iterR ks 8), x, y, .no, .no]) := by
    unfold law_rests_2 gFor
    have hi : fRg1 (cst (.int 8)) [.sh (ksD ks), lsR (iterR ks 0), .no, .no, .no, .no] = some ((List.range 8).map eN) := rg1_nat (n := 8) rfl (by decide)
    rw [hi, Option.bind_some]
    obtain ⟨ρ', e, _, x, y, rfl⟩ := for_fold (enc := eN) (bind := gNm 2) (body := law_rests_2b) (fun (s : List (Option Int)) ρ => Good ks s ∧ ∃ x y, ρ = [.sh (ksD ks), lsR s, x, y, .no, .no]) (fun s _ => passR ks s) (xs := List.range 8) ⟨Good.start ks, .no, .no, rfl⟩ (fun k hk s ρ ⟨gs, x, y, e⟩ => by
      subst e
      obtain ⟨p, e⟩ := law_rests_turn W gs (.sh (eN k)) y .no .no
      exact ⟨_, _, rfl, e, gs.pass, _, _, rfl⟩)
    rw [foldl_const, List.length_range, repeat_iter] at e
    exact ⟨x, y, e⟩
  obtain ⟨x, y, e2⟩ := e2
  simp only [m_law_rests, mir, law_rests_g, gSeq, List.length_cons, List.length_nil, List.map_cons, List.map_nil, List.replicate, List.cons_append, List.nil_append, Nat.reduceSub, Nat.reduceAdd]
  rw [e1, Option.bind_some]
  simp only
  rw [e2, Option.bind_some]
  simp only
  unfold law_rests_6 gFrz
  simp only [List.getElem?_cons_succ, List.getElem?_cons_zero, Option.bind_some]
  rw [show (lsR (iterR ks 8)).toD = some (.lst ((iterR ks 8).map eO)) from toD_ls _]
  simp [gRet]
/-! both are the same -/
def valR (ks : List Kd) (known : List (Option Int)) (k : Nat) : Option Int := some (mx0 ((nx ks k).map fun n => sz ks n + (rt known n).getD 0))
/-- what is known was reckoned from what is known -/
def Fit (ks : List Kd) (s : List (Option Int)) : Prop := s.length = ks.length ∧ ∀ k r, rt s k = some r → ((nx ks k).all fun n => (rt s n).isSome) = true ∧ rt s k = valR ks s k
def cnt (s : List (Option Int)) : Nat := s.countP fun o => o.isSome
theorem val_set {s : List (Option Int)} {k j : Nat} {o : Option Int} (hs : ((nx ks j).all fun n => (rt s n).isSome) = true) (hk : rt s k = none) : valR ks (s.set k o) j = valR ks s j := by
  unfold valR
  congr 2
  refine List.map_congr_left fun n hn => ?_
  have := List.all_eq_true.mp hs n hn
  rw [rt_set]
  split
  · rename_i h
    rw [← h.1, hk] at this
    cases this
  · rfl
theorem step_cases {s : List (Option Int)} (f : Fit ks s) {k : Nat} (hk : k < ks.length) : stepR ks s k = s ∨ (Fit ks (stepR ks s k) ∧ cnt (stepR ks s k) = cnt s + 1) := by
  unfold stepR
  split
  · rename_i hall
    cases q : rt s k with
    | some r =>
      left
      obtain ⟨_, e⟩ := f.2 k r q
      have : s[k]? = some (rt s k) := by
        unfold rt
        rw [List.getD_eq_getElem?_getD, List.getElem?_eq_getElem (by rw [f.1]; exact hk)]
        rfl
      rw [e] at this
      exact List.ext_getElem? fun j => by
        rw [List.getElem?_set]
        by_cases h : k = j
        · subst h
          rw [if_pos rfl, if_pos (by rw [f.1]; exact hk)]
          exact this.symm
        · rw [if_neg h]
    | none =>
      right
      have hkl : k < s.length := by rw [f.1]; exact hk
      have up : ∀ n, (rt s n).isSome = true → (rt (s.set k (some (mx0 ((nx ks k).map fun n => sz ks n + (rt s n).getD 0)))) n).isSome = true := fun n hn => by
        rw [rt_set]
        split
        · rfl
        · exact hn
      have upall : ∀ j, ((nx ks j).all fun n => (rt s n).isSome) = true → ((nx ks j).all fun n => (rt (s.set k (some (mx0 ((nx ks k).map fun n => sz ks n + (rt s n).getD 0)))) n).isSome) = true := fun j h => List.all_eq_true.mpr fun n hn => up n (List.all_eq_true.mp h n hn)
      refine ⟨⟨by simpa using f.1, fun j r hj => ?_⟩, ?_⟩
      · by_cases h : k = j
        · subst h
          refine ⟨upall k hall, ?_⟩
          rw [val_set hall q, rt_set, if_pos ⟨rfl, hkl⟩]
          rfl
        · rw [rt_set, if_neg (fun z => h z.1)] at hj ⊢
          obtain ⟨h1, h2⟩ := f.2 j r hj
          exact ⟨upall j h1, by rw [val_set h1 q]; exact h2⟩
      · unfold cnt
        have e : s[k] = none := by
          have : rt s k = s[k] := by
            unfold rt
            rw [List.getD_eq_getElem?_getD, List.getElem?_eq_getElem hkl]
            rfl
          rw [← this]; exact q
        rw [List.countP_set hkl, e]
        simp
  · exact .inl rfl
theorem pass_cases (l : List Nat) (hl : ∀ k ∈ l, k < ks.length) : ∀ {s : List (Option Int)}, Fit ks s → Fit ks (l.foldl (stepR ks) s) ∧ cnt s ≤ cnt (l.foldl (stepR ks) s) ∧ (cnt s = cnt (l.foldl (stepR ks) s) → l.foldl (stepR ks) s = s) := by
  induction l with
  | nil => exact fun f => ⟨f, Nat.le_refl _, fun _ => rfl⟩
  | cons k l ih =>
    intro s f
    rw [List.foldl_cons]
    have ih := @ih fun j hj => hl j (List.mem_cons_of_mem _ hj)
    rcases step_cases f (hl k (by simp)) with e | ⟨f2, e⟩
    · rw [e]; exact ih f
    · obtain ⟨a, b, _⟩ := ih f2
      exact ⟨a, by omega, fun h => by omega⟩
theorem Fit.start : Fit ks (List.replicate ks.length none) := by
  refine ⟨by simp, fun k r h => ?_⟩
  exfalso
  unfold rt at h
  simp [List.getElem?_replicate] at h
  split at h <;> simp at h
theorem Fit.iter : ∀ t, Fit ks (iterR ks t)
  | 0 => Fit.start
  | t + 1 => (pass_cases _ (fun _ h => List.mem_range.mp h) (Fit.iter t)).1
theorem iter_grow : ∀ t, passR ks (iterR ks t) = iterR ks t ∨ t ≤ cnt (iterR ks t)
  | 0 => .inr (Nat.zero_le _)
  | t + 1 => by
    rcases iter_grow t with e | e
    · left
      show passR ks (passR ks (iterR ks t)) = passR ks (iterR ks t)
      rw [e, e]
    · obtain ⟨_, b, c⟩ := pass_cases (List.range ks.length) (fun _ h => List.mem_range.mp h) (Fit.iter t)
      by_cases h : cnt (iterR ks t) = cnt (iterR ks (t + 1))
      · left
        have := c h
        show passR ks (passR ks (iterR ks t)) = passR ks (iterR ks t)
        rw [show passR ks (iterR ks t) = iterR ks t from this, show passR ks (iterR ks t) = iterR ks t from this]
      · right
        have : cnt (iterR ks t) ≤ cnt (iterR ks (t + 1)) := b
        omega
theorem iter_fix : passR ks (iterR ks ks.length) = iterR ks ks.length := by
  rcases iter_grow (ks := ks) ks.length with e | e
  · exact e
  · obtain ⟨a, b, c⟩ := pass_cases (List.range ks.length) (fun _ h => List.mem_range.mp h) (Fit.iter (ks := ks) ks.length)
    refine c ?_
    have h : cnt ((List.range ks.length).foldl (stepR ks) (iterR ks ks.length)) ≤ ks.length := by
      have := List.countP_le_length (p := fun o : Option Int => o.isSome) (l := (List.range ks.length).foldl (stepR ks) (iterR ks ks.length))
      rw [a.1] at this
      exact this
    omega
theorem iter_more : ∀ d, iterR ks (ks.length + d) = iterR ks ks.length
  | 0 => rfl
  | d + 1 => by
    show passR ks (iterR ks (ks.length + d)) = _
    rw [iter_more d, iter_fix]
def restsT (ks : List Kd) : List (Option Int) := iterR ks ks.length
theorem law_rests_eq (W : Wf ks) : m_law_rests [ksD ks] = some (sqD false ((restsT ks).map eO)) := by
  rw [law_rests_8 W]
  have := iter_more (ks := ks) (8 - ks.length)
  rw [show ks.length + (8 - ks.length) = 8 by have := W.len; omega] at this
  rw [this]
  rfl
theorem rests_len (ks : List Kd) : (restsT ks).length = ks.length := (Good.iter ks ks.length).1
end
end G

/-! _law_same of equal things. -/
namespace G
open L2 PyProof.Rows PySem.Spec PySem SX C8 FL
@[simp] theorem isi_tup_int (i : Int) : gIsi "tuple" (.int i) = some (.bl false) := by rfl
@[simp] theorem isi_tup_bl (i : Bool) : gIsi "tuple" (.bl i) = some (.bl false) := by rfl
@[simp] theorem isi_tup_non : gIsi "tuple" .non = some (.bl false) := by rfl
@[simp] theorem isi_tup_tup (ds : List D) : gIsi "tuple" (.tup ds) = some (.bl true) := by rfl
@[simp] theorem isi_str_int (i : Int) : gIsi "str" (.int i) = some (.bl false) := by rfl
@[simp] theorem isi_bool_bl (i : Bool) : gIsi "bool" (.bl i) = some (.bl true) := by rfl
@[simp] theorem isi_bool_int (i : Int) : gIsi "bool" (.int i) = some (.bl false) := by rfl
@[simp] theorem isi_int_int (i : Int) : gIsi "int" (.int i) = some (.bl true) := by rfl
@[simp] theorem e_eqB (a : Bool) : gEq (.bl a) (.bl a) = some (.bl true) := by
  have h : ∀ i : Bool, SeqAt.shaped (.bool i) = true := fun i => by simp [SeqAt.shaped, PyData.canLay0, PyData.depth]
  simp [gEq, D.py, h, PyData.eqv]
theorem whole_int (i : Int) : m_law_whole [.int i] = some (.bl true) := by
  simp [m_law_whole, mir, law_whole_g, law_whole_1, gRet, fAnd, fNot, f1]
theorem same_int (n : Nat) (i : Int) : m_law_same (n + 1) [.int i, .int i] = some (.bl true) := by
  have hw : fCall 1 m_law_whole (aCons (nm 0) aNil) [] [.sh (.int i), .sh (.int i), .no] = some (.bl true) := call_ok (n := 1) (ds := [.int i]) (by simp [aCons, aNil]) rfl (whole_int i)
  simp [m_law_same, mir, law_same_g, law_same_1, law_same_5, law_same_7, law_same_9, law_same_11, gSeq, gIf, gRet, tBl, f1, f2, gIsN, D.isNon, tOrF, gIsTF, fAnd, hw]
theorem same_bl (n : Nat) (i : Bool) : m_law_same (n + 1) [.bl i, .bl i] = some (.bl true) := by
  cases i <;> simp [m_law_same, mir, law_same_g, law_same_1, law_same_5, law_same_7, law_same_8, law_same_9, law_same_11, gSeq, gIf, gRet, tBl, f1, f2, gIsN, D.isNon, tOrF, gIsTF, fAnd]
theorem same_non (n : Nat) : m_law_same (n + 1) [.non, .non] = some (.bl true) := by
  simp [m_law_same, mir, law_same_g, law_same_1, law_same_5, law_same_6, law_same_7, law_same_8, law_same_9, law_same_11, gSeq, gIf, gRet, tBl, f1, f2, gIsN, D.isNon, tOrF, gIsTF, fAnd]
theorem same_tup (n : Nat) (ds : List D) (hl : ds.length ≤ 1000000) (h : ∀ d ∈ ds, m_law_same n [d, d] = some (.bl true)) : m_law_same (n + 1) [.tup ds, .tup ds] = some (.bl true) := by
  have e : ∀ ρ : Rho, ρ = [.sh (.tup ds), .sh (.tup ds), .no] → fGive (fLc (fRg1 (f1 gLen (nm 1))) (gNm 2) (law_same_4t (m_law_same n)) (law_same_4e (m_law_same n)) [2]) ρ = some (.lst ([] : List D)) := by
    rintro ρ rfl
    have := give_eval (enc := eN) (ρ := [.sh (.tup ds), .sh (.tup ds), .no]) (own := [2]) (i := 2) (test := law_same_4t (m_law_same n)) (elt := law_same_4e (m_law_same n)) (xs := List.range ds.length) (fun _ => false) (fun _ => .non) (rg1_nat (f := f1 gLen (nm 1)) (by simp [f1]) hl) (by simpa using hl) fun k hk => ⟨?_, fun z => by cases z⟩
    · rw [this]; simp
    · have hk : k < ds.length := List.mem_range.mp hk
      have h1 : fCall 2 (m_law_same n) (aCons (f2 gIx (nm 0) (nm 2)) (aCons (f2 gIx (nm 1) (nm 2)) aNil)) [] [.sh (.tup ds), .sh (.tup ds), .sh (eN k)] = some (.bl true) :=
        call_ok (n := 2) (ds := [ds[k], ds[k]]) (by simp [aCons, aNil, f2, eN, ix_t, hk]) rfl (h _ (List.getElem_mem hk))
      simp only [law_same_4t, tNotF, tBl, wipeR, List.set, h1, Option.bind_some, Option.map_some, Bool.not_true]
  simp [m_law_same, mir, law_same_g, law_same_1, law_same_2, law_same_4, gSeq, gIf, gRet, tBl, f1, f2, tOrF, tNotF, e _ rfl]
end G

/-! _law_cell, _law_digits. -/
namespace G
open L2 PyProof.Rows PySem.Spec PySem SX C8 FL
theorem law_cell_ok (ns : List Int) (k : Nat) (hk : k ≤ 1000) (hl : ns.length ≤ 1000) : ∃ c, m_law_cell [.lst (ns.map D.int), .int (k : Int)] = some (.int c) := by
  by_cases h : k < ns.length
  · refine ⟨ns[k], ?_⟩
    have h1 : gIx (.lst (ns.map D.int)) (.int (k : Int)) = some (.int ns[k]) := by
      rw [ix_l]; simp [h]
    simp [m_law_cell, mir, law_cell_g, law_cell_1, law_cell_2, gSeq, gIf, gRet, tBl, f1, f2, h, h1]
  · have e2 : ∃ s x, law_cell_4 [.sh (.lst (ns.map D.int)), .sh (.int (k : Int)), .sh (.int 17), .no] = some (.nx [.sh (.lst (ns.map D.int)), .sh (.int (k : Int)), .sh (.int s), x]) := by
      unfold law_cell_4 gFor
      rw [seq_lt (t := false) (ds := ns.map D.int) rfl, Option.bind_some]
      obtain ⟨ρ', e, x, rfl⟩ := for_fold (enc := D.int) (bind := gNm 3) (body := law_cell_4b) (fun (s : Int) ρ => ∃ x, ρ = [.sh (.lst (ns.map D.int)), .sh (.int (k : Int)), .sh (.int s), x]) (fun s c => (s * 31 + c % 1000003) % 1000003) (xs := ns) (s := 17) ⟨.no, rfl⟩ (fun c _ s ρ ⟨x, e⟩ => by
        subst e
        refine ⟨_, _, rfl, ?_, .sh (.int c), rfl⟩
        simp only [law_cell_4b, law_cell_5, gSet, f1, f2, nm_succ, nm_zero, cst_at, Option.bind_some, List.set, e_int]
        rw [e_mul (.inr (by omega)), Option.bind_some, e_mod (by omega), Option.bind_some, e_add, Option.bind_some, e_int, Option.bind_some, e_mod (by omega)]
        rfl)
      exact ⟨_, x, e⟩
    obtain ⟨s, x, e2⟩ := e2
    refine ⟨((s + 7) * ((k : Int) + 3) * 69621) % 2147483647, ?_⟩
    have e1 : law_cell_1 [.sh (.lst (ns.map D.int)), .sh (.int (k : Int)), .no, .no] = some (.nx [.sh (.lst (ns.map D.int)), .sh (.int (k : Int)), .no, .no]) := by
      simp [law_cell_1, gIf, tBl, f1, f2, h]
    simp only [m_law_cell, mir, law_cell_g, gSeq, List.length_cons, List.length_nil, List.map_cons, List.map_nil, List.replicate, List.cons_append, List.nil_append, Nat.reduceSub, Nat.reduceAdd]
    rw [e1, Option.bind_some]
    simp only [law_cell_3, gSet, cst_at, Option.map_some, Option.bind_some, List.set]
    rw [e2, Option.bind_some]
    simp only [law_cell_6, gRet, f1, f2, nm_succ, nm_zero, cst_at, Option.bind_some, e_add]
    rw [e_mul (.inr (by omega)), Option.bind_some, e_mul (.inr (by omega)), Option.bind_some, e_int, Option.bind_some, e_mod (by omega)]
    rfl
/-- a row of digits -/
def RowOk (zs row : List Nat) : Prop := row.length = zs.length ∧ ∀ j (h : j < row.length), row[j] < zs.getD j 0
theorem nat_of {i : Int} {z : Nat} (h0 : 0 < z) : ∃ n : Nat, i % (z : Int) = (n : Int) ∧ n < z := by
  have a := Int.emod_nonneg i (show (z : Int) ≠ 0 by omega)
  have b := Int.emod_lt_of_pos i (show (0 : Int) < z by omega)
  exact ⟨(i % z).toNat, by omega, by omega⟩
def rwT (row : List Nat) : T := .ls ((row.map eN).map T.sh)
theorem app_row {ρ : Rho} {i : Nat} {row : List Nat} {n : Nat} {f : FX} (h0 : ρ[i]? = some (rwT row)) (hk : row.length ≤ lim) (h2 : f ρ = some (.int (n : Int))) : gUpd (pNm i) (fSh f) hApp ρ = some (.nx (ρ.set i (rwT (row ++ [n])))) := by
  rw [app_eval (ds := row.map eN) h0 (by simpa using hk) h2]
  unfold rwT
  simp [eN]
theorem pow18 : gPow (.int 10) (.int 18) = some (.int 1000000000000000000) := by rfl
theorem row_snoc {zs row : List Nat} {j n : Nat} (hl : row.length = j) (h : ∀ i (h : i < row.length), row[i] < zs.getD i 0) (hn : n < zs.getD j 0) : ∀ i (h : i < (row ++ [n]).length), (row ++ [n])[i] < zs.getD i 0 := by
  intro i hi
  by_cases c : i < row.length
  · rw [List.getElem_append_left c]; exact h i c
  · have : i = j := by simp at hi; omega
    subst this
    rw [List.getElem_append_right (by omega)]
    simpa [hl] using hn
theorem law_digits_ok (c : Int) (zs : List Nat) (hz : ∀ z ∈ zs, 0 < z ∧ z < 1073741824) (hl : zs.length ≤ 1000) : ∃ row, RowOk zs row ∧ m_law_digits [.int c, .lst (zs.map eN)] = some (.lst (row.map eN)) := by
  have hlim : (lim : Nat) = 1000000 := rfl
  have hg : ∀ j (h : j < zs.length), zs.getD j 0 = zs[j] := fun j h => by simp [h]
  simp only [m_law_digits, mir, law_digits_g, gSeq, List.length_cons, List.length_nil, List.map_cons, List.map_nil, List.replicate, List.cons_append, List.nil_append, Nat.reduceSub, Nat.reduceAdd]
  rw [show law_digits_1 [.sh (.int c), .sh (.lst (zs.map eN)), .no, .no, .no, .no, .no, .no] = some (.nx [.sh (.int c), .sh (.lst (zs.map eN)), rwT [], .no, .no, .no, .no, .no]) from rfl, Option.bind_some]
  simp only
  rw [show law_digits_2 [.sh (.int c), .sh (.lst (zs.map eN)), rwT [], .no, .no, .no, .no, .no] = some (.nx [.sh (.int c), .sh (.lst (zs.map eN)), rwT [], .sh (.int c), .no, .no, .no, .no]) from rfl, Option.bind_some]
  simp only
  have fin : ∀ (row : List Nat) (a b d e f g h : T), gFrz 2 (gRet (nm 2)) [a, b, rwT row, d, e, f, g, h] = some (.rt (.lst (row.map eN))) := by
    intro row a b d e f g h
    unfold gFrz
    simp only [List.getElem?_cons_succ, List.getElem?_cons_zero, Option.bind_some]
    rw [show (rwT row).toD = some (.lst (row.map eN)) from toD_ls _]
    rfl
  by_cases hc : c ≥ 1000000000000000000
  · have e3 : law_digits_3 [.sh (.int c), .sh (.lst (zs.map eN)), rwT [], .sh (.int c), .no, .no, .no, .no] = gSeq law_digits_4 (gSeq law_digits_5 law_digits_8) [.sh (.int c), .sh (.lst (zs.map eN)), rwT [], .sh (.int c), .no, .no, .no, .no] := by
      unfold law_digits_3 gIf
      rw [show tBl (f2 gGe (nm 3) (f2 gPow (cst (.int 10)) (cst (.int 18)))) [.sh (.int c), .sh (.lst (zs.map eN)), rwT [], .sh (.int c), .no, .no, .no, .no] = some true by
        simp only [tBl, f2, nm_succ, nm_zero, cst_at, Option.bind_some, pow18, e_ge]
        simpa using hc, Option.bind_some]
    rw [e3]
    have e4 : law_digits_4 [.sh (.int c), .sh (.lst (zs.map eN)), rwT [], .sh (.int c), .no, .no, .no, .no] = some (.nx [.sh (.int c), .sh (.lst (zs.map eN)), rwT [], .sh (.int (c - 1000000000000000000)), .no, .no, .no, .no]) := by
      simp only [law_digits_4, gSet, f2, nm_succ, nm_zero, cst_at, Option.bind_some, pow18, e_sub, Option.map_some, List.set]
    obtain ⟨ρ', e5, row, r, y, h1, h2, rfl⟩ := for_inv (enc := eN) (it := fSeq D.lt (nm 1)) (bind := gNm 4) (body := law_digits_5b) (xs := zs) (ρ := [.sh (.int c), .sh (.lst (zs.map eN)), rwT [], .sh (.int (c - 1000000000000000000)), .no, .no, .no, .no])
      (fun j ρ => ∃ (row : List Nat) (r : Int) (y : T), row.length = j ∧ (∀ i (h : i < row.length), row[i] < zs.getD i 0) ∧ ρ = [.sh (.int c), .sh (.lst (zs.map eN)), rwT row, .sh (.int r), y, .no, .no, .no]) (seq_lt (t := false) rfl) ⟨[], _, .no, rfl, fun i h => absurd h (by simp), rfl⟩ (fun j hj ρ ⟨row, r, y, h1, h2, e⟩ => by
        subst e
        obtain ⟨z0, z1⟩ := hz _ (List.getElem_mem hj)
        obtain ⟨n, en, hn⟩ := nat_of (i := r) z0
        refine ⟨_, _, rfl, .inl ?_, row ++ [n], r / zs[j], .sh (eN zs[j]), by simp [h1], row_snoc h1 h2 (by rw [hg j hj]; exact hn), rfl⟩
        unfold law_digits_5b gSeq
        have a1 : law_digits_6 [.sh (.int c), .sh (.lst (zs.map eN)), rwT row, .sh (.int r), .sh (eN zs[j]), .no, .no, .no] = some (.nx [.sh (.int c), .sh (.lst (zs.map eN)), rwT (row ++ [n]), .sh (.int r), .sh (eN zs[j]), .no, .no, .no]) := by
          unfold law_digits_6
          rw [app_row (row := row) (n := n) rfl (by omega) (by
            simp only [f1, f2, nm_succ, nm_zero, Option.bind_some, e_int, eN]
            rw [e_mod (by omega), en])]
          rfl
        show (law_digits_6 [.sh (.int c), .sh (.lst (zs.map eN)), rwT row, .sh (.int r), .sh (eN zs[j]), .no, .no, .no]).bind _ = _
        rw [a1, Option.bind_some]
        simp only [law_digits_7, gSet, f1, f2, nm_succ, nm_zero, Option.bind_some, e_int, eN]
        rw [e_fdiv (by omega) (by omega)]
        rfl)
    refine ⟨row, ⟨h1, h2⟩, ?_⟩
    unfold gSeq
    rw [e4, Option.bind_some]
    simp only
    unfold law_digits_5
    rw [e5, Option.bind_some]
    simp only
    unfold law_digits_8
    rw [fin, Option.bind_some]
    rfl
  · have e3 : law_digits_3 [.sh (.int c), .sh (.lst (zs.map eN)), rwT [], .sh (.int c), .no, .no, .no, .no] = some (.nx [.sh (.int c), .sh (.lst (zs.map eN)), rwT [], .sh (.int c), .no, .no, .no, .no]) := by
      unfold law_digits_3 gIf
      rw [show tBl (f2 gGe (nm 3) (f2 gPow (cst (.int 10)) (cst (.int 18)))) [.sh (.int c), .sh (.lst (zs.map eN)), rwT [], .sh (.int c), .no, .no, .no, .no] = some false by
        simp only [tBl, f2, nm_succ, nm_zero, cst_at, Option.bind_some, pow18, e_ge]
        simpa using hc, Option.bind_some]
    rw [e3, Option.bind_some]
    simp only
    have e9 : law_digits_9 [.sh (.int c), .sh (.lst (zs.map eN)), rwT [], .sh (.int c), .no, .no, .no, .no] = some (.nx [.sh (.int c), .sh (.lst (zs.map eN)), rwT [], .sh (.int c), .no, .sh (.int (c % 2147483629)), .no, .no]) := by
      simp only [law_digits_9, gSet, f1, f2, nm_succ, nm_zero, cst_at, Option.bind_some, e_int]
      rw [e_mod (by omega)]
      rfl
    rw [e9, Option.bind_some]
    simp only
    obtain ⟨ρ', e5, row, s, y, z, h1, h2, hs0, hs1, rfl⟩ := for_inv (enc := eN) (it := fRg1 (f1 gLen (nm 1))) (bind := gNm 6) (body := law_digits_10b) (xs := List.range zs.length) (ρ := [.sh (.int c), .sh (.lst (zs.map eN)), rwT [], .sh (.int c), .no, .sh (.int (c % 2147483629)), .no, .no])
      (fun j ρ => ∃ (row : List Nat) (s : Int) (y z : T), row.length = j ∧ (∀ i (h : i < row.length), row[i] < zs.getD i 0) ∧ 0 ≤ s ∧ s < 2147483648 ∧ ρ = [.sh (.int c), .sh (.lst (zs.map eN)), rwT row, .sh (.int c), .no, .sh (.int s), y, z]) (rg1_nat (by simp [f1]) (by omega)) ⟨[], _, .no, .no, rfl, fun i h => absurd h (by simp), Int.emod_nonneg _ (by omega), by have := Int.emod_lt_of_pos c (show (0 : Int) < 2147483629 by omega); omega, rfl⟩ (fun j hj ρ ⟨row, s, y, z, h1, h2, hs0, hs1, e⟩ => by
        subst e
        rw [List.length_range] at hj
        obtain ⟨z0, z1⟩ := hz _ (List.getElem_mem hj)
        let s' : Int := (s * 48271 + 974711 * (j : Int) + 12345) % 2147483647
        have hs' : 0 ≤ s' := Int.emod_nonneg _ (by omega)
        have hs2 : s' < 2147483647 := Int.emod_lt_of_pos _ (by omega)
        let tw : Int := (s' * (s' / 65537 + 3)) % 2147483629
        obtain ⟨n, en, hn⟩ := nat_of (i := tw / 19) z0
        refine ⟨_, _, rfl, .inl ?_, row ++ [n], s', .sh (eN j), .sh (.int tw), by simp [h1], row_snoc h1 h2 (by rw [hg j hj]; exact hn), hs', by omega, rfl⟩
        rw [List.getElem_range]
        unfold law_digits_10b gSeq
        have a1 : law_digits_11 [.sh (.int c), .sh (.lst (zs.map eN)), rwT row, .sh (.int c), .no, .sh (.int s), .sh (eN j), z] = some (.nx [.sh (.int c), .sh (.lst (zs.map eN)), rwT row, .sh (.int c), .no, .sh (.int s'), .sh (eN j), z]) := by
          simp only [law_digits_11, gSet, f1, f2, nm_succ, nm_zero, cst_at, Option.bind_some, eN]
          rw [e_mul (.inr (by omega)), Option.bind_some, e_mul (.inl (by omega)), Option.bind_some, e_add, Option.bind_some, e_add, Option.bind_some, e_int, Option.bind_some, e_mod (by omega)]
          rfl
        show (law_digits_11 [.sh (.int c), .sh (.lst (zs.map eN)), rwT row, .sh (.int c), .no, .sh (.int s), .sh (eN j), z]).bind _ = _
        rw [a1, Option.bind_some]
        simp only
        have a2 : law_digits_12 [.sh (.int c), .sh (.lst (zs.map eN)), rwT row, .sh (.int c), .no, .sh (.int s'), .sh (eN j), z] = some (.nx [.sh (.int c), .sh (.lst (zs.map eN)), rwT row, .sh (.int c), .no, .sh (.int s'), .sh (eN j), .sh (.int tw)]) := by
          simp only [law_digits_12, gSet, f1, f2, nm_succ, nm_zero, cst_at, Option.bind_some, eN]
          rw [e_fdiv (by omega) (by omega), Option.bind_some, e_add, Option.bind_some, e_mul (.inl (by omega)), Option.bind_some, e_int, Option.bind_some, e_mod (by omega)]
          rfl
        show (law_digits_12 [.sh (.int c), .sh (.lst (zs.map eN)), rwT row, .sh (.int c), .no, .sh (.int s'), .sh (eN j), z]).bind _ = _
        rw [a2, Option.bind_some]
        simp only
        unfold law_digits_13
        rw [app_row (row := row) (n := n) rfl (by omega) (by
          have h1 : gIx (.lst (zs.map eN)) (.int (j : Int)) = some (eN zs[j]) := by rw [ix_l]; simp [hj]
          simp only [f1, f2, nm_succ, nm_zero, cst_at, Option.bind_some, e_int, eN]
          rw [e_fdiv (by omega) (by omega), Option.bind_some]
          rw [show gIx (.lst (zs.map eN)) (.int (j : Int)) = some (.int (zs[j] : Int)) from h1, Option.bind_some, e_mod (by omega), en])]
        rfl)
    rw [List.length_range] at h1
    refine ⟨row, ⟨h1, h2⟩, ?_⟩
    unfold law_digits_10
    rw [e5, Option.bind_some]
    simp only
    unfold law_digits_14
    rw [fin, Option.bind_some]
end G

/-! _law_names, _law_triples, _law_bag. -/
namespace G
open L2 PyProof.Rows PySem.Spec PySem SX C8 FL
def menu : List Str := ["ask", "b2", "crate", "x", "note7", "tram", "q", "reply", "zed", "k0"]
def nameAt (d k : Nat) : Str := menu.getD ((d + k) % 10) ""
theorem emod_nat (a b : Nat) : ((a : Int) % (b : Int)) = ((a % b : Nat) : Int) := rfl
theorem law_names_eq (d n : Nat) (hn : n ≤ 1000) : m_law_names [.int (d : Int), .int (n : Int)] = some (.lst ((List.range n).map fun k => .str (nameAt d k))) := by
  have hlim : (lim : Nat) = 1000000 := rfl
  have e : ∀ ρ : Rho, ρ = [.sh (.int (d : Int)), .sh (.int (n : Int)), .sh (.lst (menu.map D.str)), .no] → fGive (fLc (fRg1 (nm 1)) (gNm 3) tYesF law_names_2e [3]) ρ = some (.lst ((List.range n).map fun k => .str (nameAt d k))) := by
    rintro ρ rfl
    refine give_all (enc := eN) _ (rg1_nat rfl (by omega)) (by simp; omega) fun k hk => ?_
    have h1 : gIx (.lst (menu.map D.str)) (.int (((d + k) % 10 : Nat) : Int)) = some (.str (nameAt d k)) := ix_map (t := false) (f := D.str) (by show _ < 10; omega)
    simp only [law_names_2e, wipeR, f2, f1, List.set, nm_zero, nm_succ, eN, Option.bind_some, e_add, e_int, cst_at]
    rw [e_mod (by omega), Option.bind_some, show ((d : Int) + (k : Int)) % 10 = (((d + k) % 10 : Nat) : Int) by omega]
    exact h1
  simp only [m_law_names, mir, law_names_g, gSeq, List.length_cons, List.length_nil, List.map_cons, List.map_nil, List.replicate, List.cons_append, List.nil_append, Nat.reduceSub, Nat.reduceAdd]
  rw [show law_names_1 [.sh (.int (d : Int)), .sh (.int (n : Int)), .no, .no] = some (.nx [.sh (.int (d : Int)), .sh (.int (n : Int)), .sh (.lst (menu.map D.str)), .no]) from rfl, Option.bind_some]
  simp only [law_names_2, gRet]
  rw [e _ rfl]
  rfl
/-- a kind as the law hands it to Book -/
def trD (d : Nat) (ks : List Kd) (k : Nat) : D := .tup [.str (nameAt d k), .int (sz ks k), .lst ((nx ks k).map eN)]
theorem law_triples_eq {ks : List Kd} (W : Wf ks) (d : Nat) : m_law_triples [ksD ks, .int (d : Int)] = some (.lst ((List.range ks.length).map (trD d ks))) := by
  have hlim : (lim : Nat) = 1000000 := rfl
  have hl := W.len
  have hc : fCall 2 m_law_names (aCons (nm 1) (aCons (f1 gLen (nm 0)) aNil)) [] [.sh (ksD ks), .sh (.int (d : Int)), .no, .no] = some (.lst ((List.range ks.length).map fun k => .str (nameAt d k))) :=
    call_ok (n := 2) (ds := [.int (d : Int), .int (ks.length : Int)]) (by simp [aCons, aNil, f1, ksD]) rfl (law_names_eq d ks.length (by omega))
  have e : ∀ ρ : Rho, ρ = [.sh (ksD ks), .sh (.int (d : Int)), .sh (.lst ((List.range ks.length).map fun k => .str (nameAt d k))), .no] → fGive (fLc (fRg1 (f1 gLen (nm 0))) (gNm 3) tYesF law_triples_2e [3]) ρ = some (.lst ((List.range ks.length).map (trD d ks))) := by
    rintro ρ rfl
    refine give_all (enc := eN) _ (rg1_nat (by simp [f1, ksD]) (by omega)) (by simp; omega) fun k hk => ?_
    have hk := List.mem_range.mp hk
    have h1 : gIx (.lst ((List.range ks.length).map fun k => .str (nameAt d k))) (.int (k : Int)) = some (.str (nameAt d k)) := by
      rw [ix_l]; simp [hk]
    have h2 := ix_ks (ks := ks) hk
    have h3 : fGive (fO1 gList (f2 gIx (f2 gIx (nm 0) (nm 3)) (cst (.int 1)))) [.sh (ksD ks), .sh (.int (d : Int)), .sh (.lst ((List.range ks.length).map fun k => .str (nameAt d k))), .sh (eN k)] = some (.lst ((nx ks k).map eN)) := by
      refine give_at (fO1_at (d := .lst ((nx ks k).map eN)) ?_ rfl)
      simp only [f2, nm_zero, nm_succ, eN, Option.bind_some, h2, cst_at, ix_nx]
    simp only [law_triples_2e, wipeR, fTup, aCons, aNil, List.set, h3, Option.bind_some]
    simp only [f2, nm_zero, nm_succ, eN, Option.bind_some, h1, h2, cst_at, ix_sz, Option.map_some]
    rw [if_pos (by simp; omega)]
    rfl
  simp only [m_law_triples, mir, law_triples_g, law_triples_1, law_triples_2, gSeq, gSet, gRet, List.length_cons, List.length_nil, List.map_cons, List.map_nil, List.replicate, List.cons_append, List.nil_append, Nat.reduceSub, Nat.reduceAdd]
  rw [hc, Option.map_some, Option.bind_some]
  simp only [List.set]
  rw [e _ rfl]
  rfl
theorem sort_nats (l : List Nat) : ∃ m : List Nat, (∀ k, k ∈ m ↔ k ∈ l) ∧ m.length = l.length ∧ m.Pairwise (· ≤ ·) ∧ (sortI (l.map fun k : Nat => (k : Int))).map D.int = m.map eN := by
  have p := sortI_perm (l.map fun k : Nat => (k : Int))
  have h : ∀ x ∈ sortI (l.map fun k : Nat => (k : Int)), ((x.toNat : Nat) : Int) = x := fun x hx => by
    obtain ⟨k, _, rfl⟩ := List.mem_map.mp (p.mem_iff.mp hx)
    simp
  refine ⟨(sortI (l.map fun k : Nat => (k : Int))).map Int.toNat, fun k => ⟨fun hk => ?_, fun hk => ?_⟩, by rw [List.length_map, p.length_eq, List.length_map], ?_, ?_⟩
  · obtain ⟨x, hx, rfl⟩ := List.mem_map.mp hk
    obtain ⟨j, hj, e⟩ := List.mem_map.mp (p.mem_iff.mp hx)
    have : x.toNat = j := by rw [← e]; simp
    rw [this]; exact hj
  · exact List.mem_map.mpr ⟨(k : Int), p.mem_iff.mpr (List.mem_map.mpr ⟨k, hk, rfl⟩), by simp⟩
  · rw [List.pairwise_map]
    exact (sortI_le _).imp fun h => Int.toNat_le_toNat h
  · rw [List.map_map]
    refine List.map_congr_left fun x hx => ?_
    show D.int x = D.int ((x.toNat : Nat) : Int)
    rw [h x hx]
@[simp] theorem nmQ_rw (row : List Nat) (ρ : Rho) : nmQ 0 (rwT row :: ρ) = some (.lst (row.map eN)) := nmQ_ls _ ρ
theorem row_at {zs row : List Nat} (R : RowOk zs row) {j : Nat} (hj : j < zs.length) : gIx (.lst (row.map eN)) (.int (j : Int)) = some (.int ((row.getD j 0 : Nat) : Int)) ∧ row.getD j 0 < zs.getD j 0 := by
  have h : j < row.length := by rw [R.1]; exact hj
  refine ⟨by rw [ix_l]; simp [h, eN], ?_⟩
  have := R.2 j h
  simpa [h] using this
def bagZ : List Nat := [12, 4, 6, 6, 6, 6, 6, 6, 6, 6, 6, 6, 6, 6]
def bagN : List Nat := [2, 3, 1, 4, 5, 2, 3, 6, 0, 8, 12, 4]
theorem law_bag_ok {ks : List Kd} {row : List Nat} (W : Wf ks) (h0 : 0 < ks.length) (R : RowOk bagZ row) : ∃ bag : List Nat, (∀ k ∈ bag, k < ks.length) ∧ bag.length ≤ 12 ∧ m_law_bag [ksD ks, .lst (row.map eN)] = some (.tup (bag.map eN)) := by
  have hlim : (lim : Nat) = 1000000 := rfl
  obtain ⟨r0, b0⟩ := row_at R (j := 0) (by decide)
  obtain ⟨r1, b1⟩ := row_at R (j := 1) (by decide)
  have b0 : row.getD 0 0 < 12 := b0
  let c := bagN.getD (row.getD 0 0) 0
  have hc : c ≤ 12 := by
    have : ∀ i < 12, bagN.getD i 0 ≤ 12 := by decide
    exact this _ b0
  have e1 : fRg1 (f2 gIx (fGive (fLst (aoCons (fSh (cst (.int 2))) (aoCons (fSh (cst (.int 3))) (aoCons (fSh (cst (.int 1))) (aoCons (fSh (cst (.int 4))) (aoCons (fSh (cst (.int 5))) (aoCons (fSh (cst (.int 2))) (aoCons (fSh (cst (.int 3))) (aoCons (fSh (cst (.int 6))) (aoCons (fSh (cst (.int 0))) (aoCons (fSh (cst (.int 8))) (aoCons (fSh (cst (.int 12))) (aoCons (fSh (cst (.int 4))) aoNil)))))))))))))) (f2 gIx (nm 1) (cst (.int 0)))) [.sh (ksD ks), .sh (.lst (row.map eN)), rwT [], .no] = some ((List.range c).map eN) := by
    refine rg1_nat ?_ (by omega)
    have : ∀ ρ : Rho, fGive (fLst (aoCons (fSh (cst (.int 2))) (aoCons (fSh (cst (.int 3))) (aoCons (fSh (cst (.int 1))) (aoCons (fSh (cst (.int 4))) (aoCons (fSh (cst (.int 5))) (aoCons (fSh (cst (.int 2))) (aoCons (fSh (cst (.int 3))) (aoCons (fSh (cst (.int 6))) (aoCons (fSh (cst (.int 0))) (aoCons (fSh (cst (.int 8))) (aoCons (fSh (cst (.int 12))) (aoCons (fSh (cst (.int 4))) aoNil))))))))))))) ρ = some (.lst (bagN.map eN)) := fun ρ => rfl
    have r0' : gIx (.lst (row.map eN)) (.int 0) = some (.int ((row.getD 0 0 : Nat) : Int)) := r0
    simp only [f2, this, Option.bind_some, nm_succ, nm_zero, cst_at, r0']
    exact ix_map (t := false) (f := eN) (d := 0) b0
  simp only [m_law_bag, mir, law_bag_g, gSeq, List.length_cons, List.length_nil, List.map_cons, List.map_nil, List.replicate, List.cons_append, List.nil_append, Nat.reduceSub, Nat.reduceAdd]
  rw [show law_bag_1 [.sh (ksD ks), .sh (.lst (row.map eN)), .no, .no] = some (.nx [.sh (ksD ks), .sh (.lst (row.map eN)), rwT [], .no]) from rfl, Option.bind_some]
  simp only
  obtain ⟨ρ', e5, items, y, h1, h2, rfl⟩ := for_inv (enc := eN) (bind := gNm 3) (body := law_bag_2b) (xs := List.range c) (ρ := [.sh (ksD ks), .sh (.lst (row.map eN)), rwT [], .no])
    (fun j ρ => ∃ (items : List Nat) (y : T), items.length = j ∧ (∀ k ∈ items, k < ks.length) ∧ ρ = [.sh (ksD ks), .sh (.lst (row.map eN)), rwT items, y]) e1 ⟨[], .no, rfl, by simp, rfl⟩ (fun j hj ρ ⟨items, y, h1, h2, e⟩ => by
      subst e
      rw [List.length_range] at hj
      rw [List.getElem_range]
      have hj12 : j < 12 := by omega
      obtain ⟨rj, _⟩ := row_at R (j := 2 + j) (by show _ < 14; omega)
      have hl : items.length ≤ lim := by omega
      have step : ∃ n, n < ks.length ∧ law_bag_2b [.sh (ksD ks), .sh (.lst (row.map eN)), rwT items, .sh (eN j)] = some (.nx [.sh (ksD ks), .sh (.lst (row.map eN)), rwT (items ++ [n]), .sh (eN j)]) := by
        have r1' : gIx (.lst (row.map eN)) (.int 1) = some (.int ((row.getD 1 0 : Nat) : Int)) := r1
        unfold law_bag_2b law_bag_3 gIf
        have et : tAndF (tBl (f2 gEq (f2 gIx (nm 1) (cst (.int 1))) (cst (.int 0)))) (tBl (f2 gEq (f2 gMod (f1 gInt (nm 3)) (cst (.int 2))) (cst (.int 1)))) [.sh (ksD ks), .sh (.lst (row.map eN)), rwT items, .sh (eN j)] = some (decide (row.getD 1 0 = 0) && decide (j % 2 = 1)) := by
          have a : f2 gMod (f1 gInt (nm 3)) (cst (.int 2)) [.sh (ksD ks), .sh (.lst (row.map eN)), rwT items, .sh (eN j)] = some (.int ((j % 2 : Nat) : Int)) := by
            simp only [f2, f1, nm_succ, nm_zero, eN, Option.bind_some, e_int, cst_at]
            rw [e_mod (by omega)]
            rfl
          unfold tAndF tBl f2
          rw [show f2 gMod (f1 gInt (nm 3)) (cst (.int 2)) = fun ρ => (f1 gInt (nm 3) ρ).bind fun x => (cst (.int 2) ρ).bind fun y => gMod x y from rfl] at a
          simp only [nm_succ, nm_zero, cst_at, Option.bind_some, r1', e_eq]
          by_cases q : row.getD 1 0 = 0
          · have q' : ((row.getD 1 0 : Nat) : Int) = 0 := by omega
            rw [decide_eq_true q', decide_eq_true q]
            simp only
            rw [show ((f1 gInt (nm 3) [.sh (ksD ks), .sh (.lst (row.map eN)), rwT items, .sh (eN j)]).bind fun x => gMod x (.int 2)) = some (.int ((j % 2 : Nat) : Int)) from a]
            simp only [Option.bind_some, e_eq, Bool.true_and]
            congr 1
            apply Bool.eq_iff_iff.mpr
            simp only [decide_eq_true_eq]
            omega
          · have q' : ¬ ((row.getD 1 0 : Nat) : Int) = 0 := by omega
            rw [decide_eq_false q', decide_eq_false q]
            rfl
        rw [et, Option.bind_some]
        cases hb : (decide (row.getD 1 0 = 0) && decide (j % 2 = 1)) with
        | true =>
          simp only
          simp only [Bool.and_eq_true, decide_eq_true_eq] at hb
          have hj1 : j - 1 < items.length := by omega
          refine ⟨items[j - 1], h2 _ (List.getElem_mem hj1), ?_⟩
          unfold law_bag_4
          rw [app_row (row := items) (n := items[j - 1]) rfl hl (by
            have b : nmQ 2 [.sh (ksD ks), .sh (.lst (row.map eN)), rwT items, .sh (eN j)] = some (.lst (items.map eN)) := by simp only [nmQ_succ, nmQ_rw]
            have a : f2 FL.gSub (nm 3) (cst (.int 1)) [.sh (ksD ks), .sh (.lst (row.map eN)), rwT items, .sh (eN j)] = some (.int ((j - 1 : Nat) : Int)) := by
              show some (D.int ((j : Int) - 1)) = _
              rw [show ((j : Int) - 1) = ((j - 1 : Nat) : Int) by omega]
            show (nmQ 2 _).bind (fun x => (f2 FL.gSub (nm 3) (cst (.int 1)) _).bind fun y => gIx x y) = _
            rw [b, Option.bind_some, a, Option.bind_some, ix_l]
            simp [hj1, eN])]
          rfl
        | false =>
          simp only
          obtain ⟨n, en, hn⟩ := nat_of (i := ((row.getD (2 + j) 0 : Nat) : Int)) h0
          refine ⟨n, hn, ?_⟩
          unfold law_bag_6
          rw [app_row (row := items) (n := n) rfl hl (by
            have hks : gLen (ksD ks) = some (.int (ks.length : Int)) := by simp [ksD]
            have a : f2 gAddI (cst (.int 2)) (nm 3) [.sh (ksD ks), .sh (.lst (row.map eN)), rwT items, .sh (eN j)] = some (.int ((2 + j : Nat) : Int)) := by
              show some (D.int ((2 : Int) + (j : Int))) = _
              rw [show ((2 : Int) + (j : Int)) = ((2 + j : Nat) : Int) by omega]
            show ((((nm 1 _).bind fun x => (f2 gAddI (cst (.int 2)) (nm 3) _).bind fun y => gIx x y).bind gInt).bind fun x => ((nm 0 _).bind gLen).bind fun y => gMod x y) = _
            rw [a]
            simp only [nm_succ, nm_zero, Option.bind_some, rj, e_int, hks]
            rw [e_mod (by omega), en])]
          rfl
      obtain ⟨n, hn, e⟩ := step
      refine ⟨_, _, rfl, .inl e, items ++ [n], .sh (eN j), by simp [h1], fun k hk => ?_, rfl⟩
      rcases List.mem_append.mp hk with hk | hk
      · exact h2 k hk
      · rw [List.mem_singleton.mp hk]; exact hn)
  rw [List.length_range] at h1
  obtain ⟨m, m1, m2, _, m3⟩ := sort_nats items
  refine ⟨m, fun k hk => h2 k ((m1 k).mp hk), by omega, ?_⟩
  unfold law_bag_2
  rw [e5, Option.bind_some]
  have hs : fGive (fO1 gSortI (nmQ 2)) [.sh (ksD ks), .sh (.lst (row.map eN)), rwT items, y] = some (.lst (m.map eN)) := by
    refine give_at (fO1_at (d := .lst (items.map eN)) (by simp only [nmQ_succ, nmQ_rw]) ?_)
    have := sortI_at (items.map fun k : Nat => (k : Int))
    rw [List.map_map, m3] at this
    exact this
  simp only [law_bag_7, gRet, f1, hs, Option.bind_some, gTuple, Option.map_some]
end G

/-! is_name, is_right_kind, homeward_kinds, Book. -/
namespace G
open L2 PyProof.Rows PySem.Spec PySem SX C8 FL
theorem isn (i : Nat) (h : i < 10) : m_is_name [.str (menu.getD i "")] = some (.bl true) := by
  match i, h with
  | 0, _ => kernel_rfl
  | 1, _ => kernel_rfl
  | 2, _ => kernel_rfl
  | 3, _ => kernel_rfl
  | 4, _ => kernel_rfl
  | 5, _ => kernel_rfl
  | 6, _ => kernel_rfl
  | 7, _ => kernel_rfl
  | 8, _ => kernel_rfl
  | 9, _ => kernel_rfl
theorem is_name_eq (d k : Nat) : m_is_name [.str (nameAt d k)] = some (.bl true) := isn _ (Nat.mod_lt _ (by decide))
theorem menu_inj : ∀ i < 10, ∀ j < 10, menu.getD i "" = menu.getD j "" → i = j := by decide +kernel
theorem name_ne (d : Nat) {i j : Nat} (h : i < j) (hj : j < 10) : nameAt d i ≠ nameAt d j := by
  intro e
  have := menu_inj _ (Nat.mod_lt _ (by decide)) _ (Nat.mod_lt _ (by decide)) e
  omega
theorem cut_take (ds : List D) {p : Nat} (h : p ≤ ds.length) : FL.cutD ds none (some (p : Int)) = ds.take p := by
  unfold FL.cutD
  rw [HT.sIx_none, HT.sIx_nat]
  simp [Nat.min_eq_left h]
theorem fvs_str (f : Nat → Str) : ∀ xs : List Nat, D.fvs (xs.map fun x => .str (f x)) = some (xs.map fun x => V.str (f x))
  | [] => rfl
  | x :: xs => by
    rw [List.map_cons]
    unfold D.fvs
    rw [fvs_str f xs]
    rfl
theorem in_str {z : Str} {f : Nat → Str} {xs : List Nat} (h : ∀ x ∈ xs, f x ≠ z) : gIn (.str z) (.lst (xs.map fun x => .str (f x))) = some (.bl false) := by
  unfold gIn
  rw [show (D.lst (xs.map fun x => D.str (f x))).seq = some (xs.map fun x => D.str (f x)) from rfl, Option.bind_some, fvs_str]
  simp only [D.fv, Option.bind_some, Option.map_some]
  congr 2
  unfold inV
  rw [List.any_map, List.any_eq_false]
  intro x hx
  simpa [Function.comp, eqV] using h x hx
section
variable {ks : List Kd}
def rowsD (d : Nat) (ks : List Kd) : D := .lst ((List.range ks.length).map (trD d ks))
theorem right_place (W : Wf ks) {i : Nat} (hi : i < ks.length) (r : D) (hr : gLen r = some (.int (ks.length : Int))) {p : Nat} (hp : p < (nx ks i).length) (a b c d e f : T) :
    is_right_kind_7b [.sh r, a, b, c, d, .sh (.lst ((nx ks i).map eN)), .sh (eN p), e] = some (.nx [.sh r, a, b, c, d, .sh (.lst ((nx ks i).map eN)), .sh (eN p), e]) := by
  have hlt := W.nx_lt i hi _ (List.getElem_mem hp)
  have h1 : gIx (.lst ((nx ks i).map eN)) (.int (p : Int)) = some (.int (((nx ks i)[p] : Nat) : Int)) := by
    rw [ix_l]; simp [hp, eN]
  have h2 : fGive (fSlL (nm 5) fNoPart (fPart (nm 6))) [.sh r, a, b, c, d, .sh (.lst ((nx ks i).map eN)), .sh (eN p), e] = some (sqD false (((nx ks i).take p).map eN)) := by
    have : fSlL (nm 5) fNoPart (fPart (nm 6)) [.sh r, a, b, c, d, .sh (.lst ((nx ks i).map eN)), .sh (eN p), e] = some (.ls ((((nx ks i).take p).map eN).map T.sh)) := by
      simp only [fSlL, fNoPart, fPart, nm_succ, nm_zero, eN, Option.bind_some]
      rw [cut_take _ (by simp; omega), ← List.map_take]
    exact give_at this
  have h3 : ¬ (nx ks i)[p] ∈ (nx ks i).take p := by
    intro hm
    obtain ⟨q, hq, e⟩ := List.mem_iff_getElem.mp hm
    rw [List.getElem_take] at e
    rw [List.length_take] at hq
    have := List.pairwise_iff_getElem.mp (W.nx_sorted i hi) q p (by omega) hp (by omega)
    omega
  have h4 : tBl (fChain gLe gLt (cst (.int 0)) (f2 gIx (nm 5) (nm 6)) (f1 gLen (nm 0))) [.sh r, a, b, c, d, .sh (.lst ((nx ks i).map eN)), .sh (eN p), e] = some true := by
    have hd : (0 : Int) ≤ (((nx ks i)[p] : Nat) : Int) := by omega
    have hd2 : (((nx ks i)[p] : Nat) : Int) < (ks.length : Int) := by omega
    simp only [tBl, fChain, f1, f2, nm_succ, nm_zero, cst_at, eN, Option.bind_some]
    simp only [h1, Option.bind_some, e_le, hd, decide_true, hr, e_lt, hd2]
  have h5 : tBl (f2 gIn (f2 gIx (nm 5) (nm 6)) (fGive (fSlL (nm 5) fNoPart (fPart (nm 6))))) [.sh r, a, b, c, d, .sh (.lst ((nx ks i).map eN)), .sh (eN p), e] = some false := by
    show ((f2 gIx (nm 5) (nm 6) _).bind fun x => (fGive (fSlL (nm 5) fNoPart (fPart (nm 6))) _).bind fun y => gIn x y).bind _ = _
    rw [h2, show f2 gIx (nm 5) (nm 6) [.sh r, a, b, c, d, .sh (.lst ((nx ks i).map eN)), .sh (eN p), e] = some (.int (((nx ks i)[p] : Nat) : Int)) from h1]
    rw [Option.bind_some, Option.bind_some, in_eN, decide_eq_false h3]
    rfl
  simp only [is_right_kind_7b, is_right_kind_8, gIf, tOrF, tNotF, h4, h5, Option.map_some, Option.bind_some, Bool.not_true]
theorem is_right_kind_eq (W : Wf ks) (d : Nat) {i : Nat} (hi : i < ks.length) : m_is_right_kind [rowsD d ks, .int (i : Int)] = some (.bl true) := by
  have hlim : (lim : Nat) = 1000000 := rfl
  have hl := W.len
  have hrow : gIx (rowsD d ks) (.int (i : Int)) = some (trD d ks i) := by
    unfold rowsD; rw [ix_l]; simp [hi]
  have hlen : gLen (rowsD d ks) = some (.int (ks.length : Int)) := by simp [rowsD]
  simp only [m_is_right_kind, mir, is_right_kind_g, gSeq, List.length_cons, List.length_nil, List.map_cons, List.map_nil, List.replicate, List.cons_append, List.nil_append, Nat.reduceSub, Nat.reduceAdd]
  have e1 : is_right_kind_1 [.sh (rowsD d ks), .sh (.int (i : Int)), .no, .no, .no, .no, .no, .no] = some (.nx [.sh (rowsD d ks), .sh (.int (i : Int)), .sh (.str (nameAt d i)), .sh (.int (sz ks i)), .sh (.lst ((nx ks i).map eN)), .no, .no, .no]) := by
    simp only [is_right_kind_1, gUnp, f2, nm_succ, nm_zero, Option.bind_some, hrow]
    rfl
  rw [e1, Option.bind_some]
  simp only
  have e2 : is_right_kind_2 [.sh (rowsD d ks), .sh (.int (i : Int)), .sh (.str (nameAt d i)), .sh (.int (sz ks i)), .sh (.lst ((nx ks i).map eN)), .no, .no, .no] = some (.nx [.sh (rowsD d ks), .sh (.int (i : Int)), .sh (.str (nameAt d i)), .sh (.int (sz ks i)), .sh (.lst ((nx ks i).map eN)), .no, .no, .no]) := by
    have c1 : fCall 1 m_is_name (aCons (nm 2) aNil) [] [.sh (rowsD d ks), .sh (.int (i : Int)), .sh (.str (nameAt d i)), .sh (.int (sz ks i)), .sh (.lst ((nx ks i).map eN)), .no, .no, .no] = some (.bl true) := call_ok (n := 1) (ds := [.str (nameAt d i)]) (by simp [aCons, aNil]) rfl (is_name_eq d i)
    have c2 : fGive (fLc (fRg1 (nm 1)) (gNm 7) tYesF is_right_kind_2e [7]) [.sh (rowsD d ks), .sh (.int (i : Int)), .sh (.str (nameAt d i)), .sh (.int (sz ks i)), .sh (.lst ((nx ks i).map eN)), .no, .no, .no] = some (.lst ((List.range i).map fun j => .str (nameAt d j))) := by
      refine give_all (enc := eN) _ (rg1_nat rfl (by omega)) (by simp; omega) fun j hj => ?_
      have hj := List.mem_range.mp hj
      have hrow : gIx (rowsD d ks) (.int (j : Int)) = some (trD d ks j) := by
        unfold rowsD; rw [ix_l]; simp [show j < ks.length by omega]
      simp only [is_right_kind_2e, wipeR, List.set, f2, nm_succ, nm_zero, eN, Option.bind_some, hrow, cst_at]
      rfl
    simp only [is_right_kind_2, gIf, tOrF, tNotF, tBl, f2, c1, c2, Option.map_some, Option.bind_some, Bool.not_true, nm_succ, nm_zero]
    rw [in_str fun j hj => name_ne d (List.mem_range.mp hj) (by omega)]
    rfl
  rw [e2, Option.bind_some]
  simp only
  have e4 : is_right_kind_4 [.sh (rowsD d ks), .sh (.int (i : Int)), .sh (.str (nameAt d i)), .sh (.int (sz ks i)), .sh (.lst ((nx ks i).map eN)), .no, .no, .no] = some (.nx [.sh (rowsD d ks), .sh (.int (i : Int)), .sh (.str (nameAt d i)), .sh (.int (sz ks i)), .sh (.lst ((nx ks i).map eN)), .no, .no, .no]) := by
    have a := W.sz1 i hi
    have b := W.sz3 i hi
    simp only [is_right_kind_4, gIf, tNotF, tBl, fChain, cst_at, nm_succ, nm_zero, Option.bind_some, e_le, a, b, decide_true, Option.map_some, Bool.not_true]
  rw [e4, Option.bind_some]
  simp only
  have e6 : is_right_kind_6 [.sh (rowsD d ks), .sh (.int (i : Int)), .sh (.str (nameAt d i)), .sh (.int (sz ks i)), .sh (.lst ((nx ks i).map eN)), .no, .no, .no] = some (.nx [.sh (rowsD d ks), .sh (.int (i : Int)), .sh (.str (nameAt d i)), .sh (.int (sz ks i)), .sh (.lst ((nx ks i).map eN)), .sh (.lst ((nx ks i).map eN)), .no, .no]) := by
    have : fGive (fO1 gList (nm 4)) [.sh (rowsD d ks), .sh (.int (i : Int)), .sh (.str (nameAt d i)), .sh (.int (sz ks i)), .sh (.lst ((nx ks i).map eN)), .no, .no, .no] = some (.lst ((nx ks i).map eN)) := give_at (fO1_at (d := .lst ((nx ks i).map eN)) rfl rfl)
    simp only [is_right_kind_6, gSet, this, Option.map_some, List.set]
  rw [e6, Option.bind_some]
  simp only
  obtain ⟨ρ', e7, x, rfl⟩ := for_inv (enc := eN) (it := fRg1 (f1 gLen (nm 5))) (bind := gNm 6) (body := is_right_kind_7b) (xs := List.range (nx ks i).length) (ρ := [.sh (rowsD d ks), .sh (.int (i : Int)), .sh (.str (nameAt d i)), .sh (.int (sz ks i)), .sh (.lst ((nx ks i).map eN)), .sh (.lst ((nx ks i).map eN)), .no, .no])
    (fun j ρ => ∃ x, ρ = [.sh (rowsD d ks), .sh (.int (i : Int)), .sh (.str (nameAt d i)), .sh (.int (sz ks i)), .sh (.lst ((nx ks i).map eN)), .sh (.lst ((nx ks i).map eN)), x, .no]) (rg1_nat (by simp [f1]) (by have := W.nxlen hi; omega)) ⟨.no, rfl⟩ (fun j hj ρ ⟨x, e⟩ => by
      subst e
      rw [List.length_range] at hj
      refine ⟨_, _, rfl, .inl ?_, .sh (eN j), rfl⟩
      rw [List.getElem_range]
      exact right_place W hi (rowsD d ks) hlen hj _ _ _ _ _ .no)
  unfold is_right_kind_7
  rw [e7, Option.bind_some]
  rfl
end
end G

/-! homeward_kinds, Book. -/
namespace G
open L2 PyProof.Rows PySem.Spec PySem SX C8 FL
def hkS (keys : List Nat) : List Key := keys.map fun k : Nat => .inl (k : Int)
def hvS (keys : List Nat) : List D := keys.map fun _ => D.bl true
def hwT (keys : List Nat) : T := .di (hkS keys) ((hvS keys).map T.sh)
theorem look_keys (n : Nat) : ∀ keys : List Nat, (lookD (.inl (n : Int)) (hkS keys) (hvS keys)).isSome = decide (n ∈ keys)
  | [] => rfl
  | k :: keys => by
    show (lookD _ (.inl (k : Int) :: hkS keys) (.bl true :: hvS keys)).isSome = _
    unfold lookD
    by_cases h : k = n
    · subst h; simp
    · have h' : ¬ (Sum.inl (k : Int) : Key) = .inl (n : Int) := fun e => h (by injection e with e; omega)
      have h2 : ¬ n = k := fun e => h e.symm
      rw [if_neg h', look_keys n keys]
      simp [h2]
theorem has_keys (n : Nat) (keys : List Nat) : hasKey (.inl (n : Int)) (hkS keys) = decide (n ∈ keys) := by
  unfold hasKey hkS
  apply Bool.eq_iff_iff.mpr
  simp only [List.any_map, List.any_eq_true, Function.comp, decide_eq_true_eq]
  exact ⟨fun ⟨x, h, e⟩ => by injection e with e; have : x = n := by omega
                             exact this ▸ h, fun h => ⟨n, h, rfl⟩⟩
theorem put_keys (k : Key) : ∀ keys : List Nat, putDs k (.bl true) (hkS keys) (hvS keys) = hvS keys
  | [] => rfl
  | n :: keys => by
    show putDs k (.bl true) (.inl (n : Int) :: hkS keys) (.bl true :: hvS keys) = .bl true :: hvS keys
    unfold putDs
    rw [put_keys k keys]
    split <;> rfl
section
variable {ks : List Kd}
/-- one look at a kind -/
def stepH (ks : List Kd) (keys : List Nat) (k : Nat) : List Nat := if (decide (nx ks k = []) || (nx ks k).any fun n => decide (n ∈ keys)) = true then (if k ∈ keys then keys else keys ++ [k]) else keys
def nxsD (ks : List Kd) : D := .tup (ks.map fun k => .tup (k.2.map eN))
theorem put_eval {ρ : Rho} {keys : List Nat} {k : Nat} (h0 : ρ[1]? = some (hwT keys)) (h1 : nm 3 ρ = some (eN k)) (hl : keys.length ≤ lim) : gPutD (pNm 1) (nm 3) (cst (.bl true)) ρ = some (.nx (ρ.set 1 (hwT (if k ∈ keys then keys else keys ++ [k])))) := by
  have hp : pNm 1 ρ = some (1, []) := by unfold pNm; rw [h0]; rfl
  have hn : T.node ρ (1, []) = some (hwT keys) := node_ls h0
  unfold gPutD
  rw [hp, Option.bind_some, h1, Option.bind_some]
  simp only [eN, D.key, Option.bind_some, cst_at, hn, h0]
  have : hPut (.inl (k : Int)) (hwT keys) (.bl true) = some (hwT (if k ∈ keys then keys else keys ++ [k])) := by
    unfold hwT hPut
    simp only [shAll_of, Option.bind_some, has_keys, put_keys]
    rw [if_pos (by unfold hkS; simpa using hl)]
    by_cases h : k ∈ keys
    · simp [h]
    · simp [h, hkS, hvS]
  rw [this, Option.bind_some, Option.map_some]
  rfl
theorem home_step (W : Wf ks) {keys : List Nat} (hl : keys.length ≤ lim) {k : Nat} (hk : k < ks.length) (a b : T) :
    homeward_kinds_3b [.sh (nxsD ks), hwT keys, a, .sh (eN k), b] = some (.nx [.sh (nxsD ks), hwT (stepH ks keys k), a, .sh (eN k), b]) := by
  have hnx : f2 gIx (nm 0) (nm 3) [.sh (nxsD ks), hwT keys, a, .sh (eN k), b] = some (sqD true ((nx ks k).map eN)) := nexts_at hk
  have e1 : fGive (fLc (fSeq D.lt (f2 gIx (nm 0) (nm 3))) (gNm 4) homeward_kinds_4t homeward_kinds_4e [4]) [.sh (nxsD ks), hwT keys, a, .sh (eN k), b] = some (.lst (((nx ks k).filter fun n => decide (n ∈ keys)).map eN)) := by
    refine give_eval (enc := eN) _ _ (seq_lt hnx) (W.nxlim hk) fun n hn => ⟨?_, fun _ => ?_⟩
    · have : nmW 1 [.sh (nxsD ks), hwT keys, a, .sh (eN k), .sh (eN n)] = some (.dic (hkS keys) (hvS keys)) := by
        show (hwT keys).toD = _
        unfold hwT
        simp [T.toD, toDs_shared]
      show (((nm 4 _).bind fun x => (nmW 1 [.sh (nxsD ks), hwT keys, a, .sh (eN k), .sh (eN n)]).bind fun y => gInD x y).bind _) = _
      rw [this]
      show ((gInD (.int (n : Int)) (.dic (hkS keys) (hvS keys))).bind _) = _
      simp only [gInD, D.key, Option.map_some, look_keys, Option.bind_some]
    · simp only [homeward_kinds_4e, wipeR, List.set, nm_succ, nm_zero]
  have e2 : tOrF (tBl (f2 gEq (f1 gLen (f2 gIx (nm 0) (nm 3))) (cst (.int 0)))) (tBl (f2 gGt (f1 gLen (fGive (fLc (fSeq D.lt (f2 gIx (nm 0) (nm 3))) (gNm 4) homeward_kinds_4t homeward_kinds_4e [4]))) (cst (.int 0)))) [.sh (nxsD ks), hwT keys, a, .sh (eN k), b] = some (decide (nx ks k = []) || (nx ks k).any fun n => decide (n ∈ keys)) := by
    unfold tOrF tBl
    have a1 : f2 gEq (f1 gLen (f2 gIx (nm 0) (nm 3))) (cst (.int 0)) [.sh (nxsD ks), hwT keys, a, .sh (eN k), b] = some (.bl (decide (nx ks k = []))) := by
      show ((f2 gIx (nm 0) (nm 3) _).bind gLen).bind _ = _
      rw [hnx]
      simp only [sqD, Option.bind_some, e_len_t, cst_at, e_eq, List.length_map]
      congr 2
      apply Bool.eq_iff_iff.mpr
      simp only [decide_eq_true_eq]
      rw [← List.length_eq_zero_iff]
      omega
    have a2 : f2 gGt (f1 gLen (fGive (fLc (fSeq D.lt (f2 gIx (nm 0) (nm 3))) (gNm 4) homeward_kinds_4t homeward_kinds_4e [4]))) (cst (.int 0)) [.sh (nxsD ks), hwT keys, a, .sh (eN k), b] = some (.bl ((nx ks k).any fun n => decide (n ∈ keys))) := by
      show ((fGive _ _).bind gLen).bind _ = _
      rw [e1]
      simp only [Option.bind_some, e_len_l, cst_at, e_gt, List.length_map]
      congr 2
      apply Bool.eq_iff_iff.mpr
      simp only [decide_eq_true_eq, List.any_eq_true]
      constructor
      · intro h
        have : 0 < ((nx ks k).filter fun n => decide (n ∈ keys)).length := by omega
        obtain ⟨x, hx⟩ := List.exists_mem_of_length_pos this
        obtain ⟨h1, h2⟩ := List.mem_filter.mp hx
        exact ⟨x, h1, by simpa using h2⟩
      · intro ⟨x, h1, h2⟩
        have : 0 < ((nx ks k).filter fun n => decide (n ∈ keys)).length := List.length_pos_of_mem (List.mem_filter.mpr ⟨h1, by simpa using h2⟩)
        omega
    rw [a1, Option.bind_some]
    simp only
    cases q : decide (nx ks k = []) with
    | true => rfl
    | false =>
      simp only [Option.bind_some]
      rw [a2]
      simp
  unfold homeward_kinds_3b homeward_kinds_4 gIf stepH
  rw [e2, Option.bind_some]
  cases (decide (nx ks k = []) || (nx ks k).any fun n => decide (n ∈ keys)) with
  | true =>
    simp only [if_true]
    unfold homeward_kinds_5
    rw [put_eval (keys := keys) (k := k) rfl rfl hl]
    rfl
  | false => rfl
theorem stepH_len (keys : List Nat) (k : Nat) : (stepH ks keys k).length ≤ keys.length + 1 := by
  unfold stepH
  split
  · split <;> simp
  · omega
theorem stepH_mono {keys : List Nat} {k n : Nat} (h : n ∈ keys) : n ∈ stepH ks keys k := by
  unfold stepH
  split
  · split
    · exact h
    · simp [h]
  · exact h
def passH (ks : List Kd) (keys : List Nat) : List Nat := (List.range ks.length).foldl (stepH ks) keys
theorem fold_mono (l : List Nat) : ∀ {keys : List Nat} {n : Nat}, n ∈ keys → n ∈ l.foldl (stepH ks) keys := by
  induction l with
  | nil => exact fun h => h
  | cons k l ih => exact fun h => ih (stepH_mono h)
theorem fold_len (l : List Nat) : ∀ {keys : List Nat}, (l.foldl (stepH ks) keys).length ≤ keys.length + l.length := by
  induction l with
  | nil => simp
  | cons k l ih =>
    intro keys
    rw [List.foldl_cons]
    have := @ih (stepH ks keys k)
    have := stepH_len (ks := ks) keys k
    simp; omega
/-- every kind leads home -/
def Home (ks : List Kd) : Prop := ∃ rank : Nat → Nat, ∀ k < ks.length, rank k < ks.length ∧ (nx ks k = [] ∨ ∃ m ∈ nx ks k, rank m < rank k)
theorem fold_marks {rank : Nat → Nat} (hr : ∀ k < ks.length, nx ks k = [] ∨ ∃ m ∈ nx ks k, rank m < rank k) (hlt : ∀ k < ks.length, ∀ n ∈ nx ks k, n < ks.length) {t : Nat} (l : List Nat) : ∀ {keys : List Nat}, (∀ k ∈ l, k < ks.length) → (∀ k < ks.length, rank k < t → k ∈ keys) → ∀ k ∈ l, rank k < t + 1 → k ∈ l.foldl (stepH ks) keys := by
  induction l with
  | nil => exact fun _ _ k hk => by cases hk
  | cons j l ih =>
    intro keys hl ht k hk hrk
    rw [List.foldl_cons]
    have hj : j < ks.length := hl j (by simp)
    rcases List.mem_cons.mp hk with e | hk
    · subst e
      refine fold_mono l ?_
      unfold stepH
      have : (decide (nx ks k = []) || (nx ks k).any fun n => decide (n ∈ keys)) = true := by
        rcases hr k hj with e | ⟨m, hm, hlt2⟩
        · simp [e]
        · rw [Bool.or_eq_true]
          right
          exact List.any_eq_true.mpr ⟨m, hm, by simpa using ht m (hlt k hj m hm) (by omega)⟩
      rw [if_pos this]
      split
      · assumption
      · simp
    · exact ih (fun i hi => hl i (List.mem_cons_of_mem _ hi)) (fun i hi h => stepH_mono (ht i hi h)) k hk hrk
def iterH (ks : List Kd) : Nat → List Nat
  | 0 => []
  | t + 1 => passH ks (iterH ks t)
theorem iterH_marks (W : Wf ks) {rank : Nat → Nat} (hr : ∀ k < ks.length, nx ks k = [] ∨ ∃ m ∈ nx ks k, rank m < rank k) : ∀ t, ∀ k < ks.length, rank k < t → k ∈ iterH ks t
  | 0 => fun k _ h => by omega
  | t + 1 => fun k hk h => fold_marks hr W.nx_lt (List.range ks.length) (fun _ h => List.mem_range.mp h) (iterH_marks W hr t) k (List.mem_range.mpr hk) h
theorem iterH_len : ∀ t, (iterH ks t).length ≤ t * ks.length
  | 0 => by simp [iterH]
  | t + 1 => by
    have := @fold_len ks (List.range ks.length) (iterH ks t)
    have h2 := iterH_len t
    rw [List.length_range] at this
    show (passH ks (iterH ks t)).length ≤ _
    unfold passH
    rw [Nat.succ_mul]
    omega
theorem repeatH : ∀ n, Nat.repeat (passH ks) n [] = iterH ks n
  | 0 => rfl
  | n + 1 => by show passH ks (Nat.repeat (passH ks) n []) = _; rw [repeatH n]; rfl
theorem len_nxs (ks : List Kd) : gLen (nxsD ks) = some (.int (ks.length : Int)) := by simp [nxsD]
theorem home_turn (W : Wf ks) {keys : List Nat} (hl : keys.length ≤ 100) (a b c : T) :
    ∃ x, homeward_kinds_2b [.sh (nxsD ks), hwT keys, a, b, c] = some (.nx [.sh (nxsD ks), hwT (passH ks keys), a, x, c]) := by
  have hlim : (lim : Nat) = 1000000 := rfl
  have h6 := W.len
  unfold homeward_kinds_2b homeward_kinds_3 gFor
  have hi : fRg1 (f1 gLen (nm 0)) [.sh (nxsD ks), hwT keys, a, b, c] = some ((List.range ks.length).map eN) := rg1_nat (by simp [f1, len_nxs]) (by omega)
  rw [hi, Option.bind_some]
  have key : ∀ (l : List Nat), (∀ k ∈ l, k < ks.length) → ∀ (keys : List Nat) (b : T), keys.length + l.length ≤ 1000 → ∃ x, forGo (gNm 3) homeward_kinds_3b (l.map eN) [.sh (nxsD ks), hwT keys, a, b, c] = some (.nx [.sh (nxsD ks), hwT (l.foldl (stepH ks) keys), a, x, c]) := by
    intro l
    induction l with
    | nil => exact fun _ keys b _ => ⟨b, rfl⟩
    | cons k l ih =>
      intro hk keys b hlen
      simp only [List.length_cons] at hlen
      obtain ⟨x, e⟩ := ih (fun j hj => hk j (List.mem_cons_of_mem _ hj)) (stepH ks keys k) (.sh (eN k)) (by have := stepH_len (ks := ks) keys k; omega)
      refine ⟨x, ?_⟩
      rw [List.map_cons]
      unfold forGo
      show (homeward_kinds_3b [.sh (nxsD ks), hwT keys, a, .sh (eN k), c]).bind _ = _
      rw [home_step W (by omega) (hk k (by simp)) a c, Option.bind_some]
      exact e
  obtain ⟨x, e⟩ := key (List.range ks.length) (fun _ h => List.mem_range.mp h) keys b (by simp; omega)
  exact ⟨x, e⟩
theorem homeward_eq (W : Wf ks) : m_homeward_kinds [nxsD ks] = some (.dic (hkS (iterH ks (ks.length + 1))) (hvS (iterH ks (ks.length + 1)))) := by
  have h6 := W.len
  simp only [m_homeward_kinds, mir, homeward_kinds_g, gSeq, List.length_cons, List.length_nil, List.map_cons, List.map_nil, List.replicate, List.cons_append, List.nil_append, Nat.reduceSub, Nat.reduceAdd]
  rw [show homeward_kinds_1 [.sh (nxsD ks), .no, .no, .no, .no] = some (.nx [.sh (nxsD ks), hwT [], .no, .no, .no]) from rfl, Option.bind_some]
  simp only
  have e2 : ∃ x y, homeward_kinds_2 [.sh (nxsD ks), hwT [], .no, .no, .no] = some (.nx [.sh (nxsD ks), hwT (iterH ks (ks.length + 1)), x, y, .no]) := by
    unfold homeward_kinds_2
    obtain ⟨ρ', e, x, y, rfl⟩ := for_inv (enc := eN) (it := fRg1 (f2 gAddI (f1 gLen (nm 0)) (cst (.int 1)))) (bind := gNm 2) (body := homeward_kinds_2b) (xs := List.range (ks.length + 1)) (ρ := [.sh (nxsD ks), hwT [], .no, .no, .no])
      (fun j ρ => ∃ x y, ρ = [.sh (nxsD ks), hwT (iterH ks j), x, y, .no]) (rg1_nat (by simp [f1, f2, len_nxs]) (by omega)) ⟨.no, .no, rfl⟩ (fun j hj ρ ⟨x, y, e⟩ => by
        subst e
        rw [List.length_range] at hj
        have hl := iterH_len (ks := ks) j
        have : j * ks.length ≤ 6 * 6 := Nat.mul_le_mul (by omega) h6
        obtain ⟨z, e⟩ := home_turn W (keys := iterH ks j) (by omega) (.sh (eN j)) y .no
        refine ⟨_, _, rfl, .inl ?_, .sh (eN j), z, rfl⟩
        rw [List.getElem_range]
        exact e)
    rw [List.length_range] at e
    exact ⟨x, y, e⟩
  obtain ⟨x, y, e2⟩ := e2
  rw [e2, Option.bind_some]
  simp only
  unfold homeward_kinds_6 gFrz
  simp only [List.getElem?_cons_succ, List.getElem?_cons_zero, Option.bind_some]
  rw [show (hwT (iterH ks (ks.length + 1))).toD = some (.dic (hkS (iterH ks (ks.length + 1))) (hvS (iterH ks (ks.length + 1)))) by unfold hwT; simp [T.toD, toDs_shared]]
  rfl
theorem homeward_all (W : Wf ks) (hm : Home ks) : ∀ k < ks.length, k ∈ iterH ks (ks.length + 1) := by
  obtain ⟨rank, hr⟩ := hm
  exact fun k hk => iterH_marks W (fun k hk => (hr k hk).2) _ k hk (by have := (hr k hk).1; omega)
end
end G

/-! Book(kinds). -/
namespace G
open L2 PyProof.Rows PySem.Spec PySem SX C8 FL
theorem fLc_bind {α : Type} {enc : α → D} {bind : FG} {elt : FX} {it : Rho → Option (List D)} {ρ : Rho} {own : List Nat} (h : α → D) {xs : List α} (hi : it ρ = some (xs.map enc)) (hl : xs.length ≤ lim) (H : ∀ x ∈ xs, ∃ ρ1, bind (enc x) (wipeR ρ own) = some ρ1 ∧ elt ρ1 = some (h x)) :
    fLc it bind tYesF elt own ρ = some (.ls ((xs.map h).map T.sh)) := by
  unfold fLc
  rw [hi, Option.bind_some, if_pos (by simpa using hl), lc_eval (fun _ => true) h fun x hx => by
    obtain ⟨ρ1, e1, e2⟩ := H x hx
    exact ⟨ρ1, e1, rfl, fun _ => e2⟩]
  rw [List.filter_eq_self.mpr (by simp)]
  rfl
theorem range_kat {ks : List Kd} (f : Kd → D) : (List.range ks.length).map (fun k => f (kat ks k)) = ks.map f := by
  apply List.ext_getElem
  · simp
  · intro i h1 h2
    have h : i < ks.length := by simpa using h1
    simp [kat, h]
theorem sort_same {l : List Nat} (h : l.Pairwise (· < ·)) : gSortI (.lst (l.map eN)) = some (.ls ((l.map eN).map T.sh)) := by
  have := sortI_at (l.map fun k : Nat => (k : Int))
  rw [List.map_map] at this
  rw [show l.map eN = l.map (D.int ∘ fun k : Nat => (k : Int)) from rfl, this]
  have hs : (l.map fun k : Nat => (k : Int)).Pairwise (· ≤ ·) := by
    rw [List.pairwise_map]
    exact h.imp fun h => by omega
  have e : sortI (l.map fun k : Nat => (k : Int)) = l.map fun k : Nat => (k : Int) := PySem.W.ksm_same (sortI_perm _) (sortI_le _) hs
  rw [e, ← List.map_map]
theorem fld_eval {ns : List Str} {ts r : List T} {f : FX} {fl : Str} {d : D} (h : f (.ob true "Book" ns ts :: r) = some d) (hn : fl ∉ ns) (hl : ns.length < 100) : gUpd (pNm 0) (fSh f) (hFld "Book" fl) (.ob true "Book" ns ts :: r) = some (.nx (.ob true "Book" (ns ++ [fl]) (ts ++ [.sh d]) :: r)) := by
  unfold gUpd
  rw [show pNm 0 (.ob true "Book" ns ts :: r) = some (0, []) from rfl, Option.bind_some]
  simp only [fSh, h, Option.map_some, Option.bind_some]
  rw [show T.node (.ob true "Book" ns ts :: r) (0, []) = some (.ob true "Book" ns ts) from rfl, Option.bind_some]
  have : hFld "Book" fl (.ob true "Book" ns ts) (.sh d) = some (.ob true "Book" (ns ++ [fl]) (ts ++ [.sh d])) := by
    show (if _ then _ else _) = _
    rw [if_pos ⟨rfl, hn, hl⟩]
  rw [this]
  rfl
section
variable {ks : List Kd}
def namesD (d : Nat) (ks : List Kd) : List D := (List.range ks.length).map fun k => .str (nameAt d k)
theorem init_eq (W : Wf ks) (hm : Home ks) (h0 : 0 < ks.length) (d : Nat) : m_Book_init [rowsD d ks] = some (([Str.ofString "names", Str.ofString "sizes", Str.ofString "nexts"] : List Str), [.tup (namesD d ks), .tup (ks.map fun k => .int k.1), nxsD ks]) := by
  have hlim : (lim : Nat) = 1000000 := rfl
  have h6 := W.len
  have hn1 : (Str.ofString "sizes") ∉ [Str.ofString "names"] := by decide
  have hn2 : (Str.ofString "nexts") ∉ [Str.ofString "names", Str.ofString "sizes"] := by decide
  simp only [m_Book_init, mirI, Book_init_g, gSeq, List.length_cons, List.length_nil, List.map_cons, List.map_nil, List.replicate, List.cons_append, List.nil_append, Nat.reduceSub, Nat.reduceAdd]
  have e1 : Book_init_1 [.ob true "Book" [] [], .sh (rowsD d ks), .no, .no, .no, .no, .no, .no, .no, .no] = some (.nx [.ob true "Book" [] [], .sh (rowsD d ks), .ls (((List.range ks.length).map (trD d ks)).map T.sh), .no, .no, .no, .no, .no, .no, .no]) := by
    unfold Book_init_1 gOwn
    rw [fLc_all (enc := trD d ks) (trD d ks) (xs := List.range ks.length) (seq_lt (t := false) rfl) (by simp; omega) fun k _ => rfl]
    rfl
  rw [e1, Option.bind_some]
  simp only
  have e2 : ∃ x, Book_init_2 [.ob true "Book" [] [], .sh (rowsD d ks), .ls (((List.range ks.length).map (trD d ks)).map T.sh), .no, .no, .no, .no, .no, .no, .no] = some (.nx [.ob true "Book" [] [], .sh (rowsD d ks), .sh (rowsD d ks), x, .no, .no, .no, .no, .no, .no]) := by
    unfold Book_init_2
    obtain ⟨ρ', e, t, x, ht, ht2, rfl⟩ := for_inv (enc := eN) (it := fRg1 (f1 gLen (nmQ 2))) (bind := gNm 3) (body := Book_init_2b) (xs := List.range ks.length) (ρ := [.ob true "Book" [] [], .sh (rowsD d ks), .ls (((List.range ks.length).map (trD d ks)).map T.sh), .no, .no, .no, .no, .no, .no, .no])
      (fun j ρ => ∃ t x, t.toD = some (rowsD d ks) ∧ (0 < j → t = .sh (rowsD d ks)) ∧ ρ = [.ob true "Book" [] [], .sh (rowsD d ks), t, x, .no, .no, .no, .no, .no, .no]) (rg1_nat (by
        have : nmQ 2 [.ob true "Book" [] [], .sh (rowsD d ks), .ls (((List.range ks.length).map (trD d ks)).map T.sh), .no, .no, .no, .no, .no, .no, .no] = some (.lst ((List.range ks.length).map (trD d ks))) := by simp only [nmQ_succ, nmQ_ls]
        unfold f1
        rw [this]
        simp) (by omega)) ⟨_, .no, toD_ls _, fun h => absurd h (by omega), rfl⟩ (fun j hj ρ ⟨t, x, ht, ht2, e⟩ => by
          subst e
          rw [List.length_range] at hj
          refine ⟨_, _, rfl, .inl ?_, .sh (rowsD d ks), .sh (eN j), rfl, fun _ => rfl, rfl⟩
          rw [List.getElem_range]
          unfold Book_init_2b Book_init_3 gFrz
          show ((some t : Option T).bind _) = _
          rw [Option.bind_some, ht, Option.bind_some]
          have hc : fCall 2 m_is_right_kind (aCons (nm 2) (aCons (nm 3) aNil)) [] [.ob true "Book" [] [], .sh (rowsD d ks), .sh (rowsD d ks), .sh (eN j), .no, .no, .no, .no, .no, .no] = some (.bl true) :=
            call_ok (n := 2) (ds := [rowsD d ks, .int (j : Int)]) (by simp [aCons, aNil, eN]) rfl (is_right_kind_eq W d hj)
          show gIf _ _ _ [.ob true "Book" [] [], .sh (rowsD d ks), .sh (rowsD d ks), .sh (eN j), .no, .no, .no, .no, .no, .no] = _
          simp only [gIf, tNotF, tBl, hc, Option.bind_some, Option.map_some, Bool.not_true])
    rw [List.length_range] at ht2
    have := ht2 h0
    subst this
    exact ⟨x, e⟩
  obtain ⟨x, e2⟩ := e2
  rw [e2, Option.bind_some]
  simp only
  have hit : ∀ (a : T) (r : List T), fSeq D.lt (nm 2) (a :: .sh (rowsD d ks) :: .sh (rowsD d ks) :: r) = some ((List.range ks.length).map (trD d ks)) := fun a r => seq_lt (t := false) rfl
  have e5 : Book_init_5 [.ob true "Book" [] [], .sh (rowsD d ks), .sh (rowsD d ks), x, .no, .no, .no, .no, .no, .no] = some (.nx [.ob true "Book" ["names"] [.sh (.tup (namesD d ks))], .sh (rowsD d ks), .sh (rowsD d ks), x, .no, .no, .no, .no, .no, .no]) := by
    unfold Book_init_5
    refine fld_eval (d := .tup (namesD d ks)) ?_ (by simp) (by decide)
    have := fLc_bind (enc := trD d ks) (bind := gTupD 3 (gsCons (gNm 7) (gsCons (gNm 8) (gsCons (gNm 9) gsNil)))) (elt := Book_init_5e) (own := [7, 8, 9]) (fun k => .str (nameAt d k)) (hit (.ob true "Book" [] []) [x, .no, .no, .no, .no, .no, .no]) (by simp; omega) fun k _ => ⟨_, rfl, rfl⟩
    unfold f1
    rw [give_at this]
    rfl
  rw [e5, Option.bind_some]
  simp only
  have e6 : Book_init_6 [.ob true "Book" ["names"] [.sh (.tup (namesD d ks))], .sh (rowsD d ks), .sh (rowsD d ks), x, .no, .no, .no, .no, .no, .no] = some (.nx [.ob true "Book" ["names", "sizes"] [.sh (.tup (namesD d ks)), .sh (.tup (ks.map fun k => .int k.1))], .sh (rowsD d ks), .sh (rowsD d ks), x, .no, .no, .no, .no, .no, .no]) := by
    unfold Book_init_6
    refine fld_eval (d := .tup (ks.map fun k => .int k.1)) ?_ hn1 (by decide)
    have := fLc_bind (enc := trD d ks) (bind := gTupD 3 (gsCons (gNm 7) (gsCons (gNm 8) (gsCons (gNm 9) gsNil)))) (elt := Book_init_6e) (own := [7, 8, 9]) (fun k => (fun q : Kd => D.int q.1) (kat ks k)) (hit (.ob true "Book" ["names"] [.sh (.tup (namesD d ks))]) [x, .no, .no, .no, .no, .no, .no]) (by simp; omega) fun k _ => ⟨_, rfl, rfl⟩
    unfold f1
    rw [give_at this, range_kat (ks := ks) (fun q : Kd => D.int q.1)]
    rfl
  rw [e6, Option.bind_some]
  simp only
  have e7 : Book_init_7 [.ob true "Book" ["names", "sizes"] [.sh (.tup (namesD d ks)), .sh (.tup (ks.map fun k => .int k.1))], .sh (rowsD d ks), .sh (rowsD d ks), x, .no, .no, .no, .no, .no, .no] = some (.nx [.ob true "Book" ["names", "sizes", "nexts"] [.sh (.tup (namesD d ks)), .sh (.tup (ks.map fun k => .int k.1)), .sh (nxsD ks)], .sh (rowsD d ks), .sh (rowsD d ks), x, .no, .no, .no, .no, .no, .no]) := by
    unfold Book_init_7
    refine fld_eval (d := nxsD ks) ?_ hn2 (by decide)
    have := fLc_bind (enc := trD d ks) (bind := gTupD 3 (gsCons (gNm 7) (gsCons (gNm 8) (gsCons (gNm 9) gsNil)))) (elt := Book_init_7e) (own := [7, 8, 9]) (fun k => (fun q : Kd => D.tup (q.2.map eN)) (kat ks k)) (hit (.ob true "Book" ["names", "sizes"] [.sh (.tup (namesD d ks)), .sh (.tup (ks.map fun k => .int k.1))]) [x, .no, .no, .no, .no, .no, .no]) (by simp; omega) fun k hk => ⟨_, rfl, by
      have hs : fGive (fO1 gSortI (fGive (fO1 gList (nm 9)))) [.ob true "Book" ["names", "sizes"] [.sh (.tup (namesD d ks)), .sh (.tup (ks.map fun k => .int k.1))], .sh (rowsD d ks), .sh (rowsD d ks), x, .no, .no, .no, .sh (.str (nameAt d k)), .sh (.int (sz ks k)), .sh (.lst ((nx ks k).map eN))] = some (.lst ((nx ks k).map eN)) :=
        give_at (fO1_at (give_at (fO1_at (d := .lst ((nx ks k).map eN)) rfl rfl)) (sort_same (W.nx_sorted k (List.mem_range.mp hk))))
      unfold Book_init_7e f1
      show (fGive _ [.ob true "Book" ["names", "sizes"] [.sh (.tup (namesD d ks)), .sh (.tup (ks.map fun k => .int k.1))], .sh (rowsD d ks), .sh (rowsD d ks), x, .no, .no, .no, .sh (.str (nameAt d k)), .sh (.int (sz ks k)), .sh (.lst ((nx ks k).map eN))]).bind gTuple = _
      rw [hs]
      rfl⟩
    unfold f1
    rw [give_at this, range_kat (ks := ks) (fun q : Kd => D.tup (q.2.map eN))]
    rfl
  rw [e7, Option.bind_some]
  simp only
  have e8 : Book_init_8 [.ob true "Book" ["names", "sizes", "nexts"] [.sh (.tup (namesD d ks)), .sh (.tup (ks.map fun k => .int k.1)), .sh (nxsD ks)], .sh (rowsD d ks), .sh (rowsD d ks), x, .no, .no, .no, .no, .no, .no] = some (.nx [.ob true "Book" ["names", "sizes", "nexts"] [.sh (.tup (namesD d ks)), .sh (.tup (ks.map fun k => .int k.1)), .sh (nxsD ks)], .sh (rowsD d ks), .sh (rowsD d ks), x, .sh (.dic (hkS (iterH ks (ks.length + 1))) (hvS (iterH ks (ks.length + 1)))), .no, .no, .no, .no, .no]) := by
    have hf : fFldO "Book" "nexts" (pNm 0) [.ob true "Book" ["names", "sizes", "nexts"] [.sh (.tup (namesD d ks)), .sh (.tup (ks.map fun k => .int k.1)), .sh (nxsD ks)], .sh (rowsD d ks), .sh (rowsD d ks), x, .no, .no, .no, .no, .no, .no] = some (nxsD ks) := by
      have a1 : ¬ ((Str.ofString "nexts") = (Str.ofString "names")) := by decide
      have a2 : ¬ ((Str.ofString "nexts") = (Str.ofString "sizes")) := by decide
      unfold fFldO
      rw [show pNm 0 [.ob true "Book" ["names", "sizes", "nexts"] [.sh (.tup (namesD d ks)), .sh (.tup (ks.map fun k => .int k.1)), .sh (nxsD ks)], .sh (rowsD d ks), .sh (rowsD d ks), x, .no, .no, .no, .no, .no, .no] = some (0, []) from rfl, Option.bind_some]
      show (if (Str.ofString "Book") = (Str.ofString "Book") then fldT (Str.ofString "nexts") [Str.ofString "names", Str.ofString "sizes", Str.ofString "nexts"] [.sh (.tup (namesD d ks)), .sh (.tup (ks.map fun k => .int k.1)), .sh (nxsD ks)] else none) = _
      rw [if_pos rfl]
      simp [fldT, a1, a2]
    have hc : fCall 1 m_homeward_kinds (aCons (fFldO "Book" "nexts" (pNm 0)) aNil) [] [.ob true "Book" ["names", "sizes", "nexts"] [.sh (.tup (namesD d ks)), .sh (.tup (ks.map fun k => .int k.1)), .sh (nxsD ks)], .sh (rowsD d ks), .sh (rowsD d ks), x, .no, .no, .no, .no, .no, .no] = some (.dic (hkS (iterH ks (ks.length + 1))) (hvS (iterH ks (ks.length + 1)))) :=
      call_ok (n := 1) (ds := [nxsD ks]) (by unfold aCons aNil; rw [hf]; rfl) rfl (homeward_eq W)
    unfold Book_init_8 gSet
    rw [hc]
    rfl
  rw [e8, Option.bind_some]
  simp only
  have e9 : ∃ y, Book_init_9 [.ob true "Book" ["names", "sizes", "nexts"] [.sh (.tup (namesD d ks)), .sh (.tup (ks.map fun k => .int k.1)), .sh (nxsD ks)], .sh (rowsD d ks), .sh (rowsD d ks), x, .sh (.dic (hkS (iterH ks (ks.length + 1))) (hvS (iterH ks (ks.length + 1)))), .no, .no, .no, .no, .no] = some (.nx [.ob true "Book" ["names", "sizes", "nexts"] [.sh (.tup (namesD d ks)), .sh (.tup (ks.map fun k => .int k.1)), .sh (nxsD ks)], .sh (rowsD d ks), .sh (rowsD d ks), x, .sh (.dic (hkS (iterH ks (ks.length + 1))) (hvS (iterH ks (ks.length + 1)))), y, .no, .no, .no, .no]) := by
    unfold Book_init_9
    obtain ⟨ρ', e, y, rfl⟩ := for_inv (enc := eN) (it := fRg1 (f1 gLen (nm 2))) (bind := gNm 5) (body := Book_init_9b) (xs := List.range ks.length) (ρ := [.ob true "Book" ["names", "sizes", "nexts"] [.sh (.tup (namesD d ks)), .sh (.tup (ks.map fun k => .int k.1)), .sh (nxsD ks)], .sh (rowsD d ks), .sh (rowsD d ks), x, .sh (.dic (hkS (iterH ks (ks.length + 1))) (hvS (iterH ks (ks.length + 1)))), .no, .no, .no, .no, .no])
      (fun j ρ => ∃ y, ρ = [.ob true "Book" ["names", "sizes", "nexts"] [.sh (.tup (namesD d ks)), .sh (.tup (ks.map fun k => .int k.1)), .sh (nxsD ks)], .sh (rowsD d ks), .sh (rowsD d ks), x, .sh (.dic (hkS (iterH ks (ks.length + 1))) (hvS (iterH ks (ks.length + 1)))), y, .no, .no, .no, .no]) (rg1_nat (by simp [f1, rowsD]) (by omega)) ⟨.no, rfl⟩ (fun j hj ρ ⟨y, e⟩ => by
        subst e
        rw [List.length_range] at hj
        refine ⟨_, _, rfl, .inl ?_, .sh (eN j), rfl⟩
        rw [List.getElem_range]
        have ht : tBl (f2 gNotInD (nm 5) (nm 4)) [.ob true "Book" ["names", "sizes", "nexts"] [.sh (.tup (namesD d ks)), .sh (.tup (ks.map fun k => .int k.1)), .sh (nxsD ks)], .sh (rowsD d ks), .sh (rowsD d ks), x, .sh (.dic (hkS (iterH ks (ks.length + 1))) (hvS (iterH ks (ks.length + 1)))), .sh (eN j), .no, .no, .no, .no] = some false := by
          show ((gNotInD (.int (j : Int)) (.dic (hkS (iterH ks (ks.length + 1))) (hvS (iterH ks (ks.length + 1))))).bind _) = _
          simp only [gNotInD, D.key, Option.map_some, Option.bind_some, look_keys, decide_eq_true (homeward_all W hm j hj), Bool.not_true]
        unfold Book_init_9b Book_init_10 gIf
        show (tBl _ [.ob true "Book" ["names", "sizes", "nexts"] [.sh (.tup (namesD d ks)), .sh (.tup (ks.map fun k => .int k.1)), .sh (nxsD ks)], .sh (rowsD d ks), .sh (rowsD d ks), x, .sh (.dic (hkS (iterH ks (ks.length + 1))) (hvS (iterH ks (ks.length + 1)))), .sh (eN j), .no, .no, .no, .no]).bind _ = _
        rw [ht]
        rfl)
    exact ⟨y, e⟩
  obtain ⟨y, e9⟩ := e9
  rw [e9, Option.bind_some]
  simp [T.toDs, T.toD]
end
end G

/-! _law_right. -/
namespace G
open L2 PyProof.Rows PySem.Spec PySem SX C8 FL
theorem same_test {fa fb : FX} {ρ : Rho} {d : D} (ha : fa ρ = some d) (hb : fb ρ = some d) (hs : m_law_same 3 [d, d] = some (.bl true)) : tNotF (tBl (fCall 2 (m_law_same 3) (aCons fa (aCons fb aNil)) [])) ρ = some false := by
  unfold tNotF tBl
  rw [call_ok (n := 2) (ds := [d, d]) (by unfold aCons aNil; simp [ha, hb]) rfl hs]
  rfl
theorem if_false {t : Rho → Option Bool} {g : FS} {ρ : Rho} (h : t ρ = some false) : gIf t g (fun ρ => some (.nx ρ)) ρ = some (.nx ρ) := by
  unfold gIf
  rw [h]
  rfl
section
variable {ks : List Kd} {bag : List Nat} {t u : Bool} {nms : List D}
theorem same_ov (rs : List (Option Int)) (places : Int) : m_law_same 3 [ovT ks rs places bag, ovT ks rs places bag] = some (.bl true) := by
  have two : ∀ (a b : D), m_law_same 2 [a, a] = some (.bl true) → m_law_same 2 [b, b] = some (.bl true) → m_law_same 3 [.tup [a, b], .tup [a, b]] = some (.bl true) := fun a b ha hb => same_tup 2 [a, b] (by simp) fun d hd => by
    rcases List.mem_cons.mp hd with rfl | hd
    · exact ha
    · rw [List.mem_singleton.mp hd]; exact hb
  unfold ovT
  split
  · exact two _ _ (same_non 1) (same_int 1 _)
  · unfold ovL
    cases h : (sortI (rvals rs bag)).findSome? (ovOut ks rs places bag) with
    | none => exact same_non 2
    | some d =>
      obtain ⟨r, _, e⟩ := List.exists_of_findSome?_eq_some h
      unfold ovOut at e
      split at e
      · cases e; exact two _ _ (same_int 1 _) (same_int 1 _)
      · cases e
theorem belM_none (rs : List (Option Int)) (places : Int) : belM ks rs places bag none = belT ks rs places bag := by
  unfold belM belT overM
  simp
def topT (rs : List (Option Int)) (bag : List Nat) : Int := maxI (0 :: ((bag.filter fun k => (rt rs k).isSome).map fun k => (rt rs k).getD 0))
theorem belM_cap (rs : List (Option Int)) (places cap : Int) (hc : 0 ≤ cap) : belM ks rs places bag (some cap) = (belT ks rs places bag && (decide (bag = []) || decide (topT rs bag ≤ cap))) := by
  by_cases hb : belT ks rs places bag = true
  · rw [hb, Bool.true_and]
    have hall : ∀ k ∈ bag, badT ks rs places bag k = false := fun k hk => by
      have := List.all_eq_true.mp hb k hk
      simpa using this
    have hsome : ∀ k ∈ bag, ∃ r, rt rs k = some r := fun k hk => by
      have := hall k hk
      cases q : rt rs k with
      | some r => exact ⟨r, rfl⟩
      | none => rw [badT_none q] at this; cases this
    apply Bool.eq_iff_iff.mpr
    unfold belM
    simp only [List.all_eq_true, Bool.or_eq_true, decide_eq_true_eq]
    constructor
    · intro h
      by_cases he : bag = []
      · exact .inl he
      · right
        have hm := maxI_mem (ns := 0 :: ((bag.filter fun k => (rt rs k).isSome).map fun k => (rt rs k).getD 0)) (by simp)
        unfold topT
        rcases List.mem_cons.mp hm with e | e
        · rw [e]; exact hc
        · obtain ⟨k, hk, e⟩ := List.mem_map.mp e
          have hkb := (List.mem_filter.mp hk).1
          obtain ⟨r, q⟩ := hsome k hkb
          have h2 := h k hkb
          unfold overM at h2
          rw [q] at h2 e
          simp only [Option.getD_some] at e
          rw [← e]
          simp at h2
          omega
    · intro h k hk
      rw [hall k hk]
      obtain ⟨r, q⟩ := hsome k hk
      unfold overM
      rw [q]
      rcases h with h | h
      · rw [h] at hk; cases hk
      · have : r ≤ topT rs bag := by
          unfold topT
          refine maxI_ge r (List.mem_cons_of_mem _ (List.mem_map.mpr ⟨k, List.mem_filter.mpr ⟨hk, by rw [q]; rfl⟩, by rw [q]; rfl⟩))
        simp
        omega
  · have hb' : belT ks rs places bag = false := by simpa using hb
    rw [hb', Bool.false_and]
    unfold belT at hb'
    rw [List.all_eq_false] at hb'
    obtain ⟨k, hk, e⟩ := hb'
    unfold belM
    rw [List.all_eq_false]
    refine ⟨k, hk, ?_⟩
    simp at e ⊢
    intro h
    rw [e] at h
    cases h
theorem held_eq (W : Wf ks) (hn : nms.length = ks.length) (hb : ∀ k ∈ bag, k < ks.length) (hl : bag.length ≤ lim) (least : Int) : m_held [bkD nms ks, sqD t (bag.map eN), .int least] = some (.int (heldT ks (restsT ks) bag least)) := by
  simp only [m_held, mir, held_g, held_1, gRet, List.length_cons, List.length_nil, List.map_cons, List.map_nil, List.replicate, List.cons_append, List.nil_append, Nat.reduceSub, Nat.reduceAdd]
  have hr : fCall 1 m_rests (aCons (nm 0) aNil) [] [.sh (bkD nms ks), .sh (sqD t (bag.map eN)), .sh (.int least)] = some (sqD true ((restsT ks).map eO)) := call_ok (n := 1) (ds := [bkD nms ks]) (by simp [aCons, aNil]) rfl (rests_eq W hn)
  rw [call_ok (n := 4) (ds := [bkD nms ks, sqD true ((restsT ks).map eO), sqD t (bag.map eN), .int least]) (by
    show ((nm 0 _).bind fun d => (((fCall 1 m_rests (aCons (nm 0) aNil) [] _).bind fun d => _).map fun ds => d :: ds)) = _
    rw [hr]
    rfl) rfl (held_by_eq (rs := restsT ks) hb (rests_len ks) hl)]
  rfl
theorem in_freest_eq (W : Wf ks) (hn : nms.length = ks.length) (hb : ∀ k ∈ bag, k < ks.length) (hl : bag.length ≤ lim) (places : Int) (most : Option Int) : m_in_freest [bkD nms ks, .int places, sqD t (bag.map eN), eO most] = some (.bl (belM ks (restsT ks) places bag most)) := by
  simp only [m_in_freest, mir, in_freest_g, in_freest_1, gRet, List.length_cons, List.length_nil, List.map_cons, List.map_nil, List.replicate, List.cons_append, List.nil_append, Nat.reduceSub, Nat.reduceAdd]
  have hr : fCall 1 m_rests (aCons (nm 0) aNil) [] [.sh (bkD nms ks), .sh (.int places), .sh (sqD t (bag.map eN)), .sh (eO most)] = some (sqD true ((restsT ks).map eO)) := call_ok (n := 1) (ds := [bkD nms ks]) (by simp [aCons, aNil]) rfl (rests_eq W hn)
  rw [call_ok (n := 5) (ds := [bkD nms ks, sqD true ((restsT ks).map eO), .int places, sqD t (bag.map eN), eO most]) (by
    show ((nm 0 _).bind fun d => (((fCall 1 m_rests (aCons (nm 0) aNil) [] _).bind fun d => _).map fun ds => d :: ds)) = _
    rw [hr]
    rfl) rfl (belongs_eq (rs := restsT ks) hb (rests_len ks) W.len hl)]
  rfl
theorem is_needed_eq (W : Wf ks) (hn : nms.length = ks.length) (hb : ∀ k ∈ bag, k < ks.length) (hl : bag.length ≤ lim) {kind : Nat} (hk : kind < ks.length) : m_is_needed [bkD nms ks, sqD t (bag.map eN), .int (kind : Int)] = some (.bl (needT ks (restsT ks) bag kind)) := by
  simp only [m_is_needed, mir, is_needed_g, is_needed_1, gRet, List.length_cons, List.length_nil, List.map_cons, List.map_nil, List.replicate, List.cons_append, List.nil_append, Nat.reduceSub, Nat.reduceAdd]
  have hr : fCall 1 m_rests (aCons (nm 0) aNil) [] [.sh (bkD nms ks), .sh (sqD t (bag.map eN)), .sh (.int (kind : Int))] = some (sqD true ((restsT ks).map eO)) := call_ok (n := 1) (ds := [bkD nms ks]) (by simp [aCons, aNil]) rfl (rests_eq W hn)
  rw [call_ok (n := 4) (ds := [bkD nms ks, sqD true ((restsT ks).map eO), sqD t (bag.map eN), .int (kind : Int)]) (by
    show ((nm 0 _).bind fun d => (((fCall 1 m_rests (aCons (nm 0) aNil) [] _).bind fun d => _).map fun ds => d :: ds)) = _
    rw [hr]
    rfl) rfl (falls_eq (rs := restsT ks) hk hb (rests_len ks) hl)]
  rfl
/-- the law's look at one place count -/
theorem right_turn (W : Wf ks) (hn : nms.length = ks.length) (hb : ∀ k ∈ bag, k < ks.length) (hl : bag.length ≤ 12) (dr p : Nat) (a b c e f : T) :
    ∃ x y, law_right_6b [.sh (ksD ks), .sh (bkD nms ks), .sh (.tup (bag.map eN)), .sh (sqD t (bag.map eN)), .sh (.int (dr : Int)), .sh (.lst ((restsT ks).map eO)), a, .sh (.int (topT (restsT ks) bag)), .sh (eN p), b, c, e, f] =
      some (.nx [.sh (ksD ks), .sh (bkD nms ks), .sh (.tup (bag.map eN)), .sh (sqD t (bag.map eN)), .sh (.int (dr : Int)), .sh (.lst ((restsT ks).map eO)), a, .sh (.int (topT (restsT ks) bag)), .sh (eN p), x, y, e, f]) := by
  have hlim : (lim : Nat) = 1000000 := rfl
  have hl' : bag.length ≤ lim := by omega
  let due := belT ks (restsT ks) p bag
  let q : Int := topT (restsT ks) bag - 1 + ((dr : Int) + (p : Int)) % 3
  let cap : Int := if q > 0 then q else 0
  have hcap : 0 ≤ cap := by simp only [cap]; split <;> omega
  let ρ9 : T → Rho := fun y => [.sh (ksD ks), .sh (bkD nms ks), .sh (.tup (bag.map eN)), .sh (sqD t (bag.map eN)), .sh (.int (dr : Int)), .sh (.lst ((restsT ks).map eO)), a, .sh (.int (topT (restsT ks) bag)), .sh (eN p), .sh (.bl due), y, e, f]
  have e7 : law_right_7 [.sh (ksD ks), .sh (bkD nms ks), .sh (.tup (bag.map eN)), .sh (sqD t (bag.map eN)), .sh (.int (dr : Int)), .sh (.lst ((restsT ks).map eO)), a, .sh (.int (topT (restsT ks) bag)), .sh (eN p), b, c, e, f] = some (.nx (ρ9 c)) := by
    unfold law_right_7 gSet
    rw [call_ok (n := 4) (ds := [ksD ks, .lst ((restsT ks).map eO), .int (p : Int), .tup (bag.map eN)]) (by simp [aCons, aNil, eN]) rfl (law_belongs_eq (u := false) (t := true) (rs := restsT ks) hb (rests_len ks) hl')]
    rfl
  have e8 : law_right_8 (ρ9 c) = some (.nx (ρ9 c)) := by
    unfold law_right_8
    refine if_false (same_test (d := .bl due) ?_ rfl (same_bl 2 _))
    have h := in_freest_eq (t := t) W hn hb hl' (p : Int) none
    rw [belM_none] at h
    exact call_ok (n := 4) (ds := [bkD nms ks, .int (p : Int), sqD t (bag.map eN)]) (by simp [aCons, aNil, eN, ρ9]) rfl h
  have e10 : law_right_10 (ρ9 c) = some (.nx (ρ9 c)) := by
    unfold law_right_10
    refine if_false (same_test (d := ovT ks (restsT ks) p bag) ?_ ?_ (same_ov _ _))
    · exact call_ok (n := 3) (ds := [bkD nms ks, .int (p : Int), sqD t (bag.map eN)]) (by simp [aCons, aNil, eN, ρ9]) rfl (overfull_eq (u := true) (rests_eq W hn) W.sz1 hb (rests_len ks) (by omega))
    · exact call_ok (n := 4) (ds := [ksD ks, .lst ((restsT ks).map eO), .int (p : Int), .tup (bag.map eN)]) (by simp [aCons, aNil, eN, ρ9]) rfl (law_overfull_eq (u := false) (t := true) W.sz1 hb (rests_len ks) hl')
  have e12 : law_right_12 (ρ9 c) = some (.nx (ρ9 (.sh (.int cap)))) := by
    simp only [law_right_12, gSet, f2, f1, ρ9, nm_succ, nm_zero, cst_at, Option.bind_some, e_sub, eN, e_add, e_int]
    rw [e_mod (by omega), Option.bind_some, e_add, Option.bind_some]
    rfl
  have e13 : law_right_13 (ρ9 (.sh (.int cap))) = some (.nx (ρ9 (.sh (.int cap)))) := by
    unfold law_right_13
    refine if_false (same_test (d := .bl (due && (decide (bag = []) || decide (topT (restsT ks) bag ≤ cap)))) ?_ ?_ (same_bl 2 _))
    · have h := in_freest_eq (t := t) W hn hb hl' (p : Int) (some cap)
      rw [belM_cap _ _ _ hcap] at h
      unfold fCallK
      rw [show aCons (nm 1) (aCons (nm 8) (aCons (nm 3) aNil)) (ρ9 (.sh (.int cap))) = some [bkD nms ks, .int (p : Int), sqD t (bag.map eN)] by simp [aCons, aNil, eN, ρ9], Option.bind_some]
      rw [show aCons (nm 10) aNil (ρ9 (.sh (.int cap))) = some [.int cap] by simp [aCons, aNil, ρ9], Option.bind_some]
      rw [if_pos ⟨rfl, rfl, rfl⟩]
      exact h
    · have h1 : f2 gEq (f1 gLen (nm 2)) (cst (.int 0)) (ρ9 (.sh (.int cap))) = some (.bl (decide (bag = []))) := by
        simp only [f2, f1, ρ9, nm_succ, nm_zero, cst_at, Option.bind_some, e_len_t, e_eq, List.length_map]
        congr 2
        apply Bool.eq_iff_iff.mpr
        simp only [decide_eq_true_eq]
        rw [← List.length_eq_zero_iff]
        omega
      have h2 : f2 gLe (nm 7) (nm 10) (ρ9 (.sh (.int cap))) = some (.bl (decide (topT (restsT ks) bag ≤ cap))) := by
        simp only [f2, ρ9, nm_succ, nm_zero, Option.bind_some, e_le]
      have h3 : nm 9 (ρ9 (.sh (.int cap))) = some (.bl due) := rfl
      unfold fAnd fOr
      rw [h3, Option.bind_some]
      cases due with
      | false => rfl
      | true =>
        simp only
        rw [h1, Option.bind_some]
        cases decide (bag = []) with
        | true => rfl
        | false => simp only; rw [h2]; rfl
  have e15 : law_right_15 (ρ9 (.sh (.int cap))) = some (.nx (ρ9 (.sh (.int cap)))) := by
    unfold law_right_15
    refine if_false ?_
    have h0 : tBl (f2 gEq (nm 8) (f2 gMod (f1 gInt (nm 4)) (cst (.int 13)))) (ρ9 (.sh (.int cap))) = some (decide ((p : Int) = (dr : Int) % 13)) := by
      simp only [tBl, f2, f1, ρ9, nm_succ, nm_zero, cst_at, Option.bind_some, eN, e_int]
      rw [e_mod (by omega), Option.bind_some, e_eq]
      rfl
    unfold tAndF
    rw [h0, Option.bind_some]
    cases decide ((p : Int) = (dr : Int) % 13) with
    | false => rfl
    | true =>
      simp only
      refine same_test (d := .bl due) ?_ rfl (same_bl 2 _)
      have h := in_freest_eq (t := t) W hn hb hl' (p : Int) none
      rw [belM_none] at h
      unfold fCallK
      rw [show aCons (nm 1) (aCons (nm 8) (aCons (nm 3) aNil)) (ρ9 (.sh (.int cap))) = some [bkD nms ks, .int (p : Int), sqD t (bag.map eN)] by simp [aCons, aNil, eN, ρ9], Option.bind_some]
      rw [show aCons (cst .non) aNil (ρ9 (.sh (.int cap))) = some [.non] from rfl, Option.bind_some]
      rw [if_pos ⟨rfl, rfl, rfl⟩]
      exact h
  refine ⟨.sh (.bl due), .sh (.int cap), ?_⟩
  unfold law_right_6b gSeq
  rw [e7, Option.bind_some]
  simp only
  rw [e8, Option.bind_some]
  simp only
  rw [e10, Option.bind_some]
  simp only
  rw [e12, Option.bind_some]
  simp only
  rw [e13, Option.bind_some]
  simp only
  rw [e15]
theorem law_right_ok (W : Wf ks) (hn : nms.length = ks.length) (hb : ∀ k ∈ bag, k < ks.length) (hl : bag.length ≤ 12) (dr : Nat) :
    m_law_right [ksD ks, bkD nms ks, .tup (bag.map eN), sqD t (bag.map eN), .int (dr : Int)] = some (.bl true) := by
  have hlim : (lim : Nat) = 1000000 := rfl
  have hl' : bag.length ≤ lim := by omega
  have h6 := W.len
  simp only [m_law_right, mir, law_right_g, gSeq, List.length_cons, List.length_nil, List.map_cons, List.map_nil, List.replicate, List.cons_append, List.nil_append, Nat.reduceSub, Nat.reduceAdd]
  have e1 : law_right_1 [.sh (ksD ks), .sh (bkD nms ks), .sh (.tup (bag.map eN)), .sh (sqD t (bag.map eN)), .sh (.int (dr : Int)), .no, .no, .no, .no, .no, .no, .no, .no] = some (.nx [.sh (ksD ks), .sh (bkD nms ks), .sh (.tup (bag.map eN)), .sh (sqD t (bag.map eN)), .sh (.int (dr : Int)), .sh (.lst ((restsT ks).map eO)), .no, .no, .no, .no, .no, .no, .no]) := by
    unfold law_right_1 gSet
    rw [call_ok (n := 1) (ds := [ksD ks]) (by simp [aCons, aNil]) rfl (law_rests_eq W)]
    rfl
  rw [e1, Option.bind_some]
  simp only
  have e2 : ∃ x, law_right_2 [.sh (ksD ks), .sh (bkD nms ks), .sh (.tup (bag.map eN)), .sh (sqD t (bag.map eN)), .sh (.int (dr : Int)), .sh (.lst ((restsT ks).map eO)), .no, .no, .no, .no, .no, .no, .no] = some (.nx [.sh (ksD ks), .sh (bkD nms ks), .sh (.tup (bag.map eN)), .sh (sqD t (bag.map eN)), .sh (.int (dr : Int)), .sh (.lst ((restsT ks).map eO)), x, .no, .no, .no, .no, .no, .no]) := by
    unfold law_right_2
    have hit : ∀ ρ : Rho, nm 4 ρ = some (.int (dr : Int)) → fSeq D.lstOf (f2 gCatL (fGive (fRgL (fRg1 (cst (.int 18))))) (fGive (fLst (aoCons (fSh (cst (.int 99))) (aoCons (fSh (nm 4)) aoNil))))) ρ = some (((List.range 18).map (fun k : Nat => (k : Int)) ++ [99, (dr : Int)]).map D.int) := by
      intro ρ h4
      have a1 : fGive (fRgL (fRg1 (cst (.int 18)))) ρ = some (.lst (((List.range 18).map (fun k : Nat => (k : Int))).map D.int)) := by
        rw [List.map_map]
        refine give_at ?_
        unfold fRgL
        rw [rg1_nat (n := 18) rfl (by decide), Option.bind_some, if_pos (by simp; omega)]
        rfl
      have a2 : fGive (fLst (aoCons (fSh (cst (.int 99))) (aoCons (fSh (nm 4)) aoNil))) ρ = some (.lst ([99, (dr : Int)].map D.int)) := by
        refine give_at ?_
        unfold fLst aoCons aoNil fSh
        rw [h4]
        rfl
      unfold fSeq f2
      rw [a1, a2, Option.bind_some, Option.bind_some, catL_at (by simp; omega), ← List.map_append]
      rfl
    obtain ⟨ρ', e, x, rfl⟩ := for_inv (enc := D.int) (it := fSeq D.lstOf (f2 gCatL (fGive (fRgL (fRg1 (cst (.int 18))))) (fGive (fLst (aoCons (fSh (cst (.int 99))) (aoCons (fSh (nm 4)) aoNil)))))) (bind := gNm 6) (body := law_right_2b) (xs := (List.range 18).map (fun k : Nat => (k : Int)) ++ [99, (dr : Int)]) (ρ := [.sh (ksD ks), .sh (bkD nms ks), .sh (.tup (bag.map eN)), .sh (sqD t (bag.map eN)), .sh (.int (dr : Int)), .sh (.lst ((restsT ks).map eO)), .no, .no, .no, .no, .no, .no, .no])
      (fun j ρ => ∃ x, ρ = [.sh (ksD ks), .sh (bkD nms ks), .sh (.tup (bag.map eN)), .sh (sqD t (bag.map eN)), .sh (.int (dr : Int)), .sh (.lst ((restsT ks).map eO)), x, .no, .no, .no, .no, .no, .no]) (hit _ rfl) ⟨.no, rfl⟩ (fun j hj ρ ⟨x, e⟩ => by
        subst e
        generalize ((List.range 18).map (fun k : Nat => (k : Int)) ++ [99, (dr : Int)])[j] = least
        refine ⟨_, _, rfl, .inl ?_, .sh (.int least), rfl⟩
        unfold law_right_2b law_right_3
        refine if_false (same_test (d := .int (heldT ks (restsT ks) bag least)) ?_ ?_ (same_int 2 _))
        · exact call_ok (n := 3) (ds := [bkD nms ks, sqD t (bag.map eN), .int least]) (by simp [aCons, aNil]) rfl (held_eq W hn hb hl' least)
        · exact call_ok (n := 4) (ds := [ksD ks, .lst ((restsT ks).map eO), .tup (bag.map eN), .int least]) (by simp [aCons, aNil]) rfl (law_held_eq (u := false) (t := true) hb (rests_len ks) hl'))
    exact ⟨x, e⟩
  obtain ⟨x, e2⟩ := e2
  rw [e2, Option.bind_some]
  simp only
  have e5 : law_right_5 [.sh (ksD ks), .sh (bkD nms ks), .sh (.tup (bag.map eN)), .sh (sqD t (bag.map eN)), .sh (.int (dr : Int)), .sh (.lst ((restsT ks).map eO)), x, .no, .no, .no, .no, .no, .no] = some (.nx [.sh (ksD ks), .sh (bkD nms ks), .sh (.tup (bag.map eN)), .sh (sqD t (bag.map eN)), .sh (.int (dr : Int)), .sh (.lst ((restsT ks).map eO)), x, .sh (.int (topT (restsT ks) bag)), .no, .no, .no, .no, .no]) := by
    have a1 : fGive (fLc (fSeq D.lt (nm 2)) (gNm 12) law_right_5t law_right_5e [12]) [.sh (ksD ks), .sh (bkD nms ks), .sh (.tup (bag.map eN)), .sh (sqD t (bag.map eN)), .sh (.int (dr : Int)), .sh (.lst ((restsT ks).map eO)), x, .no, .no, .no, .no, .no, .no] = some (.lst (((bag.filter fun k => (rt (restsT ks) k).isSome).map fun k => (rt (restsT ks) k).getD 0).map D.int)) := by
      have hb2 : ((bag.filter fun k => (rt (restsT ks) k).isSome).map fun k => (rt (restsT ks) k).getD 0).map D.int = (bag.filter fun k => (rt (restsT ks) k).isSome).map fun k => .int ((rt (restsT ks) k).getD 0) := by rw [List.map_map]; rfl
      rw [hb2]
      refine give_eval (enc := eN) _ _ (seq_lt (t := true) rfl) hl' fun k hk => ?_
      have h1 := ix_rsl (rs := restsT ks) (k := k) (by rw [rests_len]; exact hb k hk)
      refine ⟨?_, fun hs => ?_⟩
      · show ((gIx (.lst ((restsT ks).map eO)) (.int (k : Int))).bind fun y => gNotN y .non).bind _ = _
        rw [h1, Option.bind_some, notN_eO]
        rfl
      · show gIx (.lst ((restsT ks).map eO)) (.int (k : Int)) = _
        rw [h1]
        cases q : rt (restsT ks) k with
        | none => rw [q] at hs; cases hs
        | some r => rfl
    unfold law_right_5 gSet f1 f2
    rw [lst_one, Option.bind_some, a1, Option.bind_some, catL_at (by
      have := List.length_filter_le (fun k => (rt (restsT ks) k).isSome) bag
      simp; omega), Option.bind_some]
    rw [show ([D.int 0] ++ ((bag.filter fun k => (rt (restsT ks) k).isSome).map fun k => (rt (restsT ks) k).getD 0).map D.int) = (0 :: ((bag.filter fun k => (rt (restsT ks) k).isSome).map fun k => (rt (restsT ks) k).getD 0)).map D.int from rfl]
    simp only [gMaxL, D.listInts, FL.ints_map, Option.bind_some]
    rw [if_pos (by simp)]
    rfl
  rw [e5, Option.bind_some]
  simp only
  have e6 : ∃ x1 x2 x3, law_right_6 [.sh (ksD ks), .sh (bkD nms ks), .sh (.tup (bag.map eN)), .sh (sqD t (bag.map eN)), .sh (.int (dr : Int)), .sh (.lst ((restsT ks).map eO)), x, .sh (.int (topT (restsT ks) bag)), .no, .no, .no, .no, .no] = some (.nx [.sh (ksD ks), .sh (bkD nms ks), .sh (.tup (bag.map eN)), .sh (sqD t (bag.map eN)), .sh (.int (dr : Int)), .sh (.lst ((restsT ks).map eO)), x, .sh (.int (topT (restsT ks) bag)), x1, x2, x3, .no, .no]) := by
    unfold law_right_6
    obtain ⟨ρ', e, x1, x2, x3, rfl⟩ := for_inv (enc := eN) (it := fRg1 (cst (.int 13))) (bind := gNm 8) (body := law_right_6b) (xs := List.range 13) (ρ := [.sh (ksD ks), .sh (bkD nms ks), .sh (.tup (bag.map eN)), .sh (sqD t (bag.map eN)), .sh (.int (dr : Int)), .sh (.lst ((restsT ks).map eO)), x, .sh (.int (topT (restsT ks) bag)), .no, .no, .no, .no, .no])
      (fun j ρ => ∃ x1 x2 x3, ρ = [.sh (ksD ks), .sh (bkD nms ks), .sh (.tup (bag.map eN)), .sh (sqD t (bag.map eN)), .sh (.int (dr : Int)), .sh (.lst ((restsT ks).map eO)), x, .sh (.int (topT (restsT ks) bag)), x1, x2, x3, .no, .no]) (rg1_nat (n := 13) rfl (by decide)) ⟨.no, .no, .no, rfl⟩ (fun j hj ρ ⟨x1, x2, x3, e⟩ => by
        subst e
        obtain ⟨y2, y3, e⟩ := right_turn (t := t) W hn hb hl dr (List.range 13)[j] x x2 x3 .no .no
        exact ⟨_, _, rfl, .inl e, .sh (eN (List.range 13)[j]), y2, y3, rfl⟩)
    exact ⟨x1, x2, x3, e⟩
  obtain ⟨x1, x2, x3, e6⟩ := e6
  rw [e6, Option.bind_some]
  simp only
  have e17 : ∃ x4, law_right_17 [.sh (ksD ks), .sh (bkD nms ks), .sh (.tup (bag.map eN)), .sh (sqD t (bag.map eN)), .sh (.int (dr : Int)), .sh (.lst ((restsT ks).map eO)), x, .sh (.int (topT (restsT ks) bag)), x1, x2, x3, .no, .no] = some (.nx [.sh (ksD ks), .sh (bkD nms ks), .sh (.tup (bag.map eN)), .sh (sqD t (bag.map eN)), .sh (.int (dr : Int)), .sh (.lst ((restsT ks).map eO)), x, .sh (.int (topT (restsT ks) bag)), x1, x2, x3, x4, .no]) := by
    unfold law_right_17
    obtain ⟨ρ', e, x4, rfl⟩ := for_inv (enc := eN) (it := fRg1 (f1 gLen (nm 0))) (bind := gNm 11) (body := law_right_17b) (xs := List.range ks.length) (ρ := [.sh (ksD ks), .sh (bkD nms ks), .sh (.tup (bag.map eN)), .sh (sqD t (bag.map eN)), .sh (.int (dr : Int)), .sh (.lst ((restsT ks).map eO)), x, .sh (.int (topT (restsT ks) bag)), x1, x2, x3, .no, .no])
      (fun j ρ => ∃ x4, ρ = [.sh (ksD ks), .sh (bkD nms ks), .sh (.tup (bag.map eN)), .sh (sqD t (bag.map eN)), .sh (.int (dr : Int)), .sh (.lst ((restsT ks).map eO)), x, .sh (.int (topT (restsT ks) bag)), x1, x2, x3, x4, .no]) (rg1_nat (by simp [f1, ksD]) (by omega)) ⟨.no, rfl⟩ (fun j hj ρ ⟨x4, e⟩ => by
        subst e
        rw [List.length_range] at hj
        refine ⟨_, _, rfl, .inl ?_, .sh (eN j), rfl⟩
        rw [List.getElem_range]
        unfold law_right_17b law_right_18
        refine if_false (same_test (d := .bl (needT ks (restsT ks) bag j)) ?_ ?_ (same_bl 2 _))
        · exact call_ok (n := 3) (ds := [bkD nms ks, sqD t (bag.map eN), .int (j : Int)]) (by simp [aCons, aNil, eN]) rfl (is_needed_eq W hn hb hl' hj)
        · exact call_ok (n := 4) (ds := [ksD ks, .lst ((restsT ks).map eO), .tup (bag.map eN), .int (j : Int)]) (by simp [aCons, aNil, eN]) rfl (law_needed_eq (u := false) (t := true) hj hb (rests_len ks) hl'))
    exact ⟨x4, e⟩
  obtain ⟨x4, e17⟩ := e17
  rw [e17, Option.bind_some]
  simp only
  unfold law_right_20 gRet
  have hs : m_law_same 3 [.tup (bag.map eN), .tup (bag.map eN)] = some (.bl true) := same_tup 2 _ (by simp; omega) fun d hd => by
    obtain ⟨k, _, rfl⟩ := List.mem_map.mp hd
    exact same_int 1 _
  rw [call_ok (n := 2) (ds := [.tup (bag.map eN), .tup (bag.map eN)]) (by cases t <;> simp [aCons, aNil, f1, sqD, gTuple]) rfl hs]
  rfl
end
end G

/-! kinds turned by a permutation: what the law's kinds have. -/
namespace G
open L2 PyProof.Rows PySem.Spec PySem SX C8 FL
def srtN (l : List Nat) : List Nat := (sortI (l.map fun k : Nat => (k : Int))).map Int.toNat
theorem srtN_mem {l : List Nat} {k : Nat} : k ∈ srtN l ↔ k ∈ l := by
  have p := sortI_perm (l.map fun k : Nat => (k : Int))
  unfold srtN
  constructor
  · intro hk
    obtain ⟨x, hx, rfl⟩ := List.mem_map.mp hk
    obtain ⟨j, hj, e⟩ := List.mem_map.mp (p.mem_iff.mp hx)
    have : x.toNat = j := by rw [← e]; simp
    rw [this]; exact hj
  · intro hk
    exact List.mem_map.mpr ⟨(k : Int), p.mem_iff.mpr (List.mem_map.mpr ⟨k, hk, rfl⟩), by simp⟩
theorem srtN_perm (l : List Nat) : (srtN l).Perm l := by
  have p := (sortI_perm (l.map fun k : Nat => (k : Int))).map Int.toNat
  rw [List.map_map] at p
  have : l.map (Int.toNat ∘ fun k : Nat => (k : Int)) = l := by
    rw [show (Int.toNat ∘ fun k : Nat => (k : Int)) = id by funext k; simp]
    simp
  rw [this] at p
  exact p
theorem srtN_le (l : List Nat) : (srtN l).Pairwise (· ≤ ·) := by
  unfold srtN
  rw [List.pairwise_map]
  exact (sortI_le _).imp fun h => Int.toNat_le_toNat h
theorem srtN_lt {l : List Nat} (d : l.Nodup) : (srtN l).Pairwise (· < ·) := by
  have h := (srtN_le l).and ((srtN_perm l).nodup_iff.mpr d)
  exact h.imp fun ⟨h1, h2⟩ => by omega
theorem srtN_D (l : List Nat) : (sortI (l.map fun k : Nat => (k : Int))).map D.int = (srtN l).map eN := by
  unfold srtN
  rw [List.map_map]
  refine List.map_congr_left fun x hx => ?_
  obtain ⟨k, _, rfl⟩ := List.mem_map.mp ((sortI_perm (l.map fun k : Nat => (k : Int))).mem_iff.mp hx)
  show D.int _ = D.int (((k : Int).toNat : Nat) : Int)
  simp
theorem sort_eN (l : List Nat) : gSortI (.lst (l.map eN)) = some (.ls (((srtN l).map eN).map T.sh)) := by
  have := sortI_at (l.map fun k : Nat => (k : Int))
  rw [List.map_map, srtN_D] at this
  exact this
def plc (place : List Nat) (j : Nat) : Nat := place.getD j 0
def turnK (pl : List Kd) (place : List Nat) (j : Nat) : Kd := (sz pl j, srtN ((nx pl j).map (plc place)))
def turnF (pl : List Kd) (place : List Nat) (i : Nat) : List Kd := (List.range i).foldl (fun ks j => ks.set (plc place j) (turnK pl place j)) (List.replicate pl.length (1, []))
structure Perm (n : Nat) (place : List Nat) : Prop where
  len : place.length = n
  nd : place.Nodup
  lt : ∀ k ∈ place, k < n
theorem Perm.at {n : Nat} {place : List Nat} (P : Perm n place) {j : Nat} (h : j < n) : plc place j = place[j]'(by rw [P.len]; exact h) := by
  unfold plc
  simp [P.len, h]
theorem Perm.plt {n : Nat} {place : List Nat} (P : Perm n place) {j : Nat} (h : j < n) : plc place j < n := by
  rw [P.at h]
  exact P.lt _ (List.getElem_mem _)
theorem Perm.inj {n : Nat} {place : List Nat} (P : Perm n place) {i j : Nat} (hi : i < n) (hj : j < n) (e : plc place i = plc place j) : i = j := by
  rw [P.at hi, P.at hj] at e
  exact (List.getElem_inj P.nd).mp e
theorem Perm.onto {n : Nat} {place : List Nat} (P : Perm n place) {k : Nat} (h : k < n) : ∃ j < n, plc place j = k := by
  by_cases hk : k ∈ place
  · obtain ⟨j, hj, e⟩ := List.mem_iff_getElem.mp hk
    have hj' : j < n := by rw [← P.len]; exact hj
    exact ⟨j, hj', by rw [P.at hj']; exact e⟩
  · exfalso
    have h2 := P.nd.length_le_of_subset (l₂ := (List.range n).erase k) fun x hx => by
      rw [List.nodup_range.mem_erase_iff]
      exact ⟨fun e => hk (e ▸ hx), List.mem_range.mpr (P.lt x hx)⟩
    rw [List.length_erase_of_mem (List.mem_range.mpr h), P.len, List.length_range] at h2
    omega
theorem turnF_len (pl : List Kd) (place : List Nat) (i : Nat) : (turnF pl place i).length = pl.length := by
  unfold turnF
  induction i with
  | zero => simp
  | succ i ih => rw [List.range_succ, List.foldl_append]; simpa using ih
theorem turnF_succ (pl : List Kd) (place : List Nat) (i : Nat) : turnF pl place (i + 1) = (turnF pl place i).set (plc place i) (turnK pl place i) := by
  unfold turnF
  rw [List.range_succ, List.foldl_append]
  rfl
theorem turnF_at {pl : List Kd} {place : List Nat} (P : Perm pl.length place) : ∀ i, i ≤ pl.length → ∀ j < i, kat (turnF pl place i) (plc place j) = turnK pl place j
  | 0 => fun _ j h => by omega
  | i + 1 => fun hi j hj => by
    rw [turnF_succ]
    unfold kat
    rw [List.getD_eq_getElem?_getD, List.getElem?_set]
    by_cases e : j = i
    · subst e
      rw [if_pos rfl, if_pos (by rw [turnF_len]; exact P.plt (by omega))]
      rfl
    · rw [if_neg (fun z => e (P.inj (by omega) (by omega) z).symm)]
      have := turnF_at P i (by omega) j (by omega)
      unfold kat at this
      rw [List.getD_eq_getElem?_getD] at this
      exact this
/-- plain kinds, before the turn -/
structure Plain (pl : List Kd) : Prop where
  len : pl.length ≤ 6
  sz1 : ∀ j < pl.length, 1 ≤ sz pl j
  sz3 : ∀ j < pl.length, sz pl j ≤ 3
  nd : ∀ j < pl.length, (nx pl j).Nodup
  lt : ∀ j < pl.length, ∀ m ∈ nx pl j, m < pl.length
  home : ∀ j < pl.length, nx pl j = [] ∨ ∃ m ∈ nx pl j, m < j
theorem turned {pl : List Kd} {place : List Nat} (A : Plain pl) (P : Perm pl.length place) : Wf (turnF pl place pl.length) ∧ Home (turnF pl place pl.length) := by
  have hlen := turnF_len pl place pl.length
  have hat : ∀ k < pl.length, ∃ j < pl.length, plc place j = k ∧ kat (turnF pl place pl.length) k = turnK pl place j := fun k hk => by
    obtain ⟨j, hj, e⟩ := P.onto hk
    exact ⟨j, hj, e, by rw [← e]; exact turnF_at P _ (Nat.le_refl _) j hj⟩
  refine ⟨⟨by rw [hlen]; exact A.len, fun k hk => ?_, fun k hk => ?_, fun k hk n hn => ?_, fun k hk => ?_⟩, fun k => (List.range pl.length).findIdx fun j => plc place j == k, fun k hk => ?_⟩
  · rw [hlen] at hk
    obtain ⟨j, hj, _, e⟩ := hat k hk
    unfold sz; rw [e]; exact A.sz1 j hj
  · rw [hlen] at hk
    obtain ⟨j, hj, _, e⟩ := hat k hk
    unfold sz; rw [e]; exact A.sz3 j hj
  · rw [hlen] at hk ⊢
    obtain ⟨j, hj, _, e⟩ := hat k hk
    unfold nx at hn
    rw [e] at hn
    obtain ⟨m, hm, rfl⟩ := List.mem_map.mp (srtN_mem.mp hn)
    exact P.plt (A.lt j hj m hm)
  · rw [hlen] at hk
    obtain ⟨j, hj, _, e⟩ := hat k hk
    unfold nx
    rw [e]
    refine srtN_lt ?_
    have hnd := A.nd j hj
    have hlt := A.lt j hj
    exact List.pairwise_map.mpr (hnd.imp_of_mem fun {a b} ha hb h z => h (P.inj (hlt a ha) (hlt b hb) z))
  · rw [hlen] at hk ⊢
    have hidx : ∀ j < pl.length, ((List.range pl.length).findIdx fun i => plc place i == plc place j) = j := fun j hj => by
      have h1 : ((List.range pl.length).findIdx fun i => plc place i == plc place j) < (List.range pl.length).length := List.findIdx_lt_length_of_exists ⟨j, List.mem_range.mpr hj, by simp⟩
      have h2 := List.findIdx_getElem (w := h1)
      rw [List.getElem_range] at h2
      rw [List.length_range] at h1
      exact P.inj h1 hj (by simpa using h2)
    obtain ⟨j, hj, ek, e⟩ := hat k hk
    subst ek
    simp only
    rw [hidx j hj]
    refine ⟨hj, ?_⟩
    unfold nx
    rw [e]
    rcases A.home j hj with h | ⟨m, hm, hlt⟩
    · left
      show srtN ((nx pl j).map (plc place)) = []
      rw [h]; exact List.perm_nil.mp (srtN_perm [])
    · right
      refine ⟨plc place m, srtN_mem.mpr (List.mem_map.mpr ⟨m, hm, rfl⟩), ?_⟩
      rw [hidx m (A.lt j hj m hm)]
      exact hlt
end G

/-! _law_kinds. -/
namespace G
open L2 PyProof.Rows PySem.Spec PySem SX C8 FL
/-- plain kinds as the frame holds them: lists of lists -/
def kT (k : Kd) : T := .ls [.sh (.int k.1), .ls ((k.2.map eN).map T.sh)]
def plT (pl : List Kd) : T := .ls (pl.map kT)
theorem kT_D (k : Kd) : (kT k).toD = some (kD k) := by
  have h := toD_ls (k.2.map eN)
  unfold kT kD
  simp only [T.toD, T.toDs] at h ⊢
  rw [h]
  rfl
theorem plT_Ds : ∀ pl : List Kd, T.toDs (pl.map kT) = some (pl.map kD)
  | [] => rfl
  | k :: pl => by
    rw [List.map_cons]
    unfold T.toDs
    rw [kT_D, plT_Ds pl]
    rfl
theorem plT_D (pl : List Kd) : (plT pl).toD = some (ksD pl) := by
  unfold plT T.toD
  rw [plT_Ds]
  rfl
def kindZ : List Nat := [10, 6, 2, 6, 4, 6, 31, 6, 31, 6, 31, 6, 31, 6, 31, 6, 31, 3, 10, 100, 2]
def manyN : List Nat := [3, 2, 3, 4, 2, 4, 5, 3, 1, 6]
theorem tAnd_ex {ta tb : Rho → Option Bool} {ρ : Rho} {a : Bool} (h1 : ta ρ = some a) (h2 : a = true → ∃ b, tb ρ = some b) : ∃ c, tAndF ta tb ρ = some c := by
  unfold tAndF
  rw [h1, Option.bind_some]
  cases a with
  | true => exact h2 rfl
  | false => exact ⟨false, rfl⟩
theorem tNot_ex {ta : Rho → Option Bool} {ρ : Rho} (h1 : ∃ a, ta ρ = some a) : ∃ c, tNotF ta ρ = some c := by
  obtain ⟨a, h⟩ := h1
  exact ⟨!a, by unfold tNotF; rw [h]; rfl⟩
theorem tBl_of {f : FX} {ρ : Rho} {b : Bool} (h : f ρ = some (.bl b)) : tBl f ρ = some b := by
  unfold tBl
  rw [h]
  rfl
theorem gIf_ex {t : Rho → Option Bool} {g h : FS} {ρ : Rho} {P : Option Out → Prop} (ht : ∃ b, t ρ = some b) (hg : t ρ = some true → P (g ρ)) (hh : t ρ = some false → P (h ρ)) : P (gIf t g h ρ) := by
  obtain ⟨b, e⟩ := ht
  unfold gIf
  rw [e, Option.bind_some]
  cases b with
  | true => exact hg e
  | false => exact hh e
theorem ix_list {ns : List Nat} {k : Nat} (h : k < ns.length) : gIx (.lst (ns.map eN)) (.int (k : Int)) = some (.int ((ns.getD k 0 : Nat) : Int)) := by
  rw [ix_l]; simp [h, eN]
/-- a row's digit at a place that is reckoned -/
theorem row_ix {row : List Nat} (R : RowOk kindZ row) {fi : FX} {ρ : Rho} {j : Nat} (h0 : nm 0 ρ = some (.lst (row.map eN))) (h1 : fi ρ = some (.int (j : Int))) (hj : j < 21) : f2 gIx (nm 0) fi ρ = some (.int ((row.getD j 0 : Nat) : Int)) := by
  unfold f2
  rw [h0, h1, Option.bind_some, Option.bind_some]
  exact (row_at R (j := j) hj).1
abbrev powL : Rho → Option D := fGive (fLst (aoCons (fSh (cst (.int 1))) (aoCons (fSh (cst (.int 2))) (aoCons (fSh (cst (.int 4))) (aoCons (fSh (cst (.int 8))) (aoCons (fSh (cst (.int 16))) (aoCons (fSh (cst (.int 32))) aoNil)))))))
theorem pow_at (ρ : Rho) : powL ρ = some (.lst (([1, 2, 4, 8, 16, 32] : List Nat).map eN)) := rfl
theorem pow_ix {fi : FX} {ρ : Rho} {j : Nat} (h1 : fi ρ = some (.int (j : Int))) (hj : j < 6) : f2 gIx powL fi ρ = some (.int ((2 ^ j : Nat) : Int)) := by
  unfold f2
  rw [pow_at, h1, Option.bind_some, Option.bind_some]
  rw [ix_list (by simpa using hj)]
  have : ∀ j < 6, ([1, 2, 4, 8, 16, 32] : List Nat).getD j 0 = 2 ^ j := by decide
  rw [this j hj]
section
variable {row : List Nat} {unit : Bool}
abbrev ρK (row : List Nat) (unit : Bool) (n : Nat) (pl : T) (a b c d e f g : T) : Rho := [.sh (.lst (row.map eN)), .sh (.bl unit), .sh (.int 6), .sh (.int (n : Int)), pl, a, b, c, d, e, f, g]
theorem kinds_body (R : RowOk kindZ row) {n j : Nat} (hj : j < 6) {pl : List Kd} (hl : pl.length ≤ lim) (b c d e f g : T) : ∃ (z : Int) (m : T) (l : List Nat), 1 ≤ z ∧ z ≤ 3 ∧ l.Pairwise (· < ·) ∧ (∀ k ∈ l, k < j) ∧
    law_kinds_3b (ρK row unit n (plT pl) (.sh (eN j)) b c d e f g) = some (.nx (ρK row unit n (plT (pl ++ [(z, l)])) (.sh (eN j)) (.sh (.int z)) m d e f g)) := by
  have hlim : (lim : Nat) = 1000000 := rfl
  -- the size
  have e4 : ∃ z : Int, 1 ≤ z ∧ z ≤ 3 ∧ law_kinds_4 (ρK row unit n (plT pl) (.sh (eN j)) b c d e f g) = some (.nx (ρK row unit n (plT pl) (.sh (eN j)) (.sh (.int z)) c d e f g)) := by
    have hi : f2 gAddI (cst (.int 5)) (f2 gMul (cst (.int 2)) (nm 5)) (ρK row unit n (plT pl) (.sh (eN j)) b c d e f g) = some (.int ((5 + 2 * j : Nat) : Int)) := by
      simp only [f2, nm_succ, nm_zero, cst_at, Option.bind_some, eN]
      rw [e_mul (.inl (by omega)), Option.bind_some, e_add]
      congr 2
    have hr := row_ix R (j := 5 + 2 * j) rfl hi (by omega)
    have hlt : row.getD (5 + 2 * j) 0 < 6 := by
      have := (row_at R (j := 5 + 2 * j) (by show _ < 21; omega)).2
      have h : ∀ j < 6, kindZ.getD (5 + 2 * j) 0 = 6 := by decide
      rw [h j hj] at this
      exact this
    have hz : ∀ i < 6, 1 ≤ ([1, 1, 2, 1, 1, 3] : List Nat).getD i 0 ∧ ([1, 1, 2, 1, 1, 3] : List Nat).getD i 0 ≤ 3 := by decide
    obtain ⟨z1, z2⟩ := hz _ hlt
    refine ⟨((([1, 1, 2, 1, 1, 3] : List Nat).getD (row.getD (5 + 2 * j) 0) 0 : Nat) : Int), by omega, by omega, ?_⟩
    unfold law_kinds_4 gSet f2
    rw [show fGive (fLst (aoCons (fSh (cst (.int 1))) (aoCons (fSh (cst (.int 1))) (aoCons (fSh (cst (.int 2))) (aoCons (fSh (cst (.int 1))) (aoCons (fSh (cst (.int 1))) (aoCons (fSh (cst (.int 3))) aoNil))))))) (ρK row unit n (plT pl) (.sh (eN j)) b c d e f g) = some (.lst (([1, 1, 2, 1, 1, 3] : List Nat).map eN)) from rfl, Option.bind_some]
    rw [show ((nm 0 (ρK row unit n (plT pl) (.sh (eN j)) b c d e f g)).bind fun x => ((cst (.int 5) (ρK row unit n (plT pl) (.sh (eN j)) b c d e f g)).bind fun x => (((cst (.int 2) (ρK row unit n (plT pl) (.sh (eN j)) b c d e f g)).bind fun x => (nm 5 (ρK row unit n (plT pl) (.sh (eN j)) b c d e f g)).bind fun y => gMul x y)).bind fun y => gAddI x y).bind fun y => gIx x y) = some (.int ((row.getD (5 + 2 * j) 0 : Nat) : Int)) from hr, Option.bind_some, ix_list (by simpa using hlt)]
    rfl
  obtain ⟨z0, z1, z3, e4⟩ := e4
  have e5 : ∃ z : Int, 1 ≤ z ∧ z ≤ 3 ∧ law_kinds_5 (ρK row unit n (plT pl) (.sh (eN j)) (.sh (.int z0)) c d e f g) = some (.nx (ρK row unit n (plT pl) (.sh (eN j)) (.sh (.int z)) c d e f g)) := by
    cases unit with
    | true => exact ⟨1, by omega, by omega, rfl⟩
    | false => exact ⟨z0, z1, z3, rfl⟩
  obtain ⟨z, y1, y3, e5⟩ := e5
  have e7 : law_kinds_7 (ρK row unit n (plT pl) (.sh (eN j)) (.sh (.int z)) c d e f g) = some (.nx (ρK row unit n (plT pl) (.sh (eN j)) (.sh (.int z)) (.sh (.int 0)) d e f g)) := rfl
  have e8 : ∃ m : Int, law_kinds_8 (ρK row unit n (plT pl) (.sh (eN j)) (.sh (.int z)) (.sh (.int 0)) d e f g) = some (.nx (ρK row unit n (plT pl) (.sh (eN j)) (.sh (.int z)) (.sh (.int m)) d e f g)) := by
    unfold law_kinds_8
    have t0 : tBl (f2 gGt (nm 5) (cst (.int 0))) (ρK row unit n (plT pl) (.sh (eN j)) (.sh (.int z)) (.sh (.int 0)) d e f g) = some (decide ((0 : Int) < (j : Int))) := rfl
    have t1 : ∃ b, tNotF (tAndF (tBl (f2 gEq (nm 5) (cst (.int 1)))) (tAndF (tBl (f2 gEq (f2 gIx (nm 0) (cst (.int 4))) (cst (.int 0)))) (tBl (f2 gGt (nm 3) (cst (.int 2)))))) (ρK row unit n (plT pl) (.sh (eN j)) (.sh (.int z)) (.sh (.int 0)) d e f g) = some b := by
      refine tNot_ex (tAnd_ex (a := decide ((j : Int) = 1)) (tBl_of (by simp only [f2, nm_succ, nm_zero, cst_at, Option.bind_some, eN, e_eq])) fun _ => tAnd_ex (a := decide (((row.getD 4 0 : Nat) : Int) = 0)) (tBl_of ?_) fun _ => ⟨_, rfl⟩)
      have hr := row_ix R (j := 4) (fi := cst (.int 4)) (ρ := ρK row unit n (plT pl) (.sh (eN j)) (.sh (.int z)) (.sh (.int 0)) d e f g) rfl rfl (by omega)
      show (f2 gIx (nm 0) (cst (.int 4)) _).bind _ = _
      rw [hr]
      simp only [cst_at, Option.bind_some, e_eq]
    refine gIf_ex (P := fun o => ∃ m : Int, o = some (.nx (ρK row unit n (plT pl) (.sh (eN j)) (.sh (.int z)) (.sh (.int m)) d e f g))) (tAnd_ex t0 fun _ => t1) (fun ht => ?_) fun _ => ⟨0, rfl⟩
    have hj0 : 0 < j := by
      unfold tAndF at ht
      rw [t0, Option.bind_some] at ht
      by_cases h : (0 : Int) < (j : Int)
      · omega
      · rw [decide_eq_false h] at ht; cases ht
    have hi : f2 gAddI (cst (.int 6)) (f2 gMul (cst (.int 2)) (nm 5)) (ρK row unit n (plT pl) (.sh (eN j)) (.sh (.int z)) (.sh (.int 0)) d e f g) = some (.int ((6 + 2 * j : Nat) : Int)) := by
      simp only [f2, nm_succ, nm_zero, cst_at, Option.bind_some, eN]
      rw [e_mul (.inl (by omega)), Option.bind_some, e_add]
      congr 2
    have hr := row_ix R (j := 6 + 2 * j) rfl hi (by omega)
    have hp := pow_ix (fi := nm 5) (ρ := ρK row unit n (plT pl) (.sh (eN j)) (.sh (.int z)) (.sh (.int 0)) d e f g) (j := j) rfl hj
    have h2 : 2 ≤ 2 ^ j := by
      have : ∀ j < 6, 0 < j → 2 ≤ 2 ^ j := by decide
      exact this j hj hj0
    refine ⟨1 + ((row.getD (6 + 2 * j) 0 : Nat) : Int) % (((2 ^ j : Nat) : Int) - 1), ?_⟩
    unfold law_kinds_9 gSet
    have : f2 gAddI (cst (.int 1)) (f2 gMod (f1 gInt (f2 gIx (nm 0) (f2 gAddI (cst (.int 6)) (f2 gMul (cst (.int 2)) (nm 5))))) (f2 FL.gSub (f2 gIx powL (nm 5)) (cst (.int 1)))) (ρK row unit n (plT pl) (.sh (eN j)) (.sh (.int z)) (.sh (.int 0)) d e f g) = some (.int (1 + ((row.getD (6 + 2 * j) 0 : Nat) : Int) % (((2 ^ j : Nat) : Int) - 1))) := by
      show ((cst (.int 1) _).bind fun x => (((f2 gIx (nm 0) (f2 gAddI (cst (.int 6)) (f2 gMul (cst (.int 2)) (nm 5))) _).bind gInt).bind fun x => ((f2 gIx powL (nm 5) _).bind fun x => (cst (.int 1) _).bind fun y => FL.gSub x y).bind fun y => gMod x y).bind fun y => gAddI x y) = _
      rw [hr, hp]
      simp only [cst_at, Option.bind_some, e_int, e_sub]
      rw [e_mod (by omega), Option.bind_some, e_add]
    rw [this]
    rfl
  obtain ⟨m, e8⟩ := e8
  let p : Nat → Bool := fun k => decide (m / ((2 ^ k : Nat) : Int) % 2 = 1)
  have el : fLc (fRg1 (nm 5)) (gNm 11) law_kinds_10t law_kinds_10e [11] (ρK row unit n (plT pl) (.sh (eN j)) (.sh (.int z)) (.sh (.int m)) d e f g) = some (.ls ((((List.range j).filter p).map eN).map T.sh)) := by
    refine fLc_eval (enc := eN) p eN (rg1_nat rfl (by omega)) (by simp; omega) fun k hk => ⟨?_, fun _ => rfl⟩
    have hk := List.mem_range.mp hk
    have hp := pow_ix (fi := nm 11) (ρ := ρK row unit n (plT pl) (.sh (eN j)) (.sh (.int z)) (.sh (.int m)) d e f (.sh (eN k))) (j := k) rfl (by omega)
    have h2 : 2 ^ k ≤ 32 := by
      have : ∀ k < 6, 2 ^ k ≤ 32 := by decide
      exact this k (by omega)
    have h0 : 0 < 2 ^ k := Nat.two_pow_pos k
    refine tBl_of ?_
    show (((nm 7 _).bind fun x => (f2 gIx powL (nm 11) (ρK row unit n (plT pl) (.sh (eN j)) (.sh (.int z)) (.sh (.int m)) d e f (.sh (eN k)))).bind fun y => gFdiv x y).bind fun x => (cst (.int 2) _).bind fun y => gMod x y).bind _ = _
    rw [hp]
    simp only [wipeR, List.set, nm_succ, nm_zero, cst_at, Option.bind_some]
    rw [e_fdiv (by omega) (by omega), Option.bind_some, e_mod (by omega), Option.bind_some, e_eq]
  have e10 : law_kinds_10 (ρK row unit n (plT pl) (.sh (eN j)) (.sh (.int z)) (.sh (.int m)) d e f g) = some (.nx (ρK row unit n (plT (pl ++ [(z, (List.range j).filter p)])) (.sh (eN j)) (.sh (.int z)) (.sh (.int m)) d e f g)) := by
    have hx : fLst (aoCons (fSh (nm 6)) (aoCons (fLc (fRg1 (nm 5)) (gNm 11) law_kinds_10t law_kinds_10e [11]) aoNil)) (ρK row unit n (plT pl) (.sh (eN j)) (.sh (.int z)) (.sh (.int m)) d e f g) = some (kT (z, (List.range j).filter p)) := by
      unfold fLst aoCons aoNil
      rw [show fSh (nm 6) (ρK row unit n (plT pl) (.sh (eN j)) (.sh (.int z)) (.sh (.int m)) d e f g) = some (.sh (.int z)) from rfl, Option.bind_some, el]
      rfl
    unfold law_kinds_10 gUpd
    rw [show pNm 4 (ρK row unit n (plT pl) (.sh (eN j)) (.sh (.int z)) (.sh (.int m)) d e f g) = some (4, []) from rfl, Option.bind_some, hx, Option.bind_some]
    rw [show T.node (ρK row unit n (plT pl) (.sh (eN j)) (.sh (.int z)) (.sh (.int m)) d e f g) (4, []) = some (plT pl) from rfl, Option.bind_some]
    have : hApp (plT pl) (kT (z, (List.range j).filter p)) = some (plT (pl ++ [(z, (List.range j).filter p)])) := by
      unfold plT
      show (if _ then _ else _) = _
      rw [if_pos (by simpa using hl), List.map_append]
      rfl
    rw [this]
    rfl
  refine ⟨z, .sh (.int m), (List.range j).filter p, y1, y3, (List.pairwise_lt_range).filter _, fun k hk => List.mem_range.mp (List.mem_filter.mp hk).1, ?_⟩
  unfold law_kinds_3b gSeq
  rw [e4, Option.bind_some]
  simp only
  rw [e5, Option.bind_some]
  simp only
  rw [e7, Option.bind_some]
  simp only
  rw [e8, Option.bind_some]
  simp only
  rw [e10]
end
end G

/-! _law_kinds, to the end. -/
namespace G
open L2 PyProof.Rows PySem.Spec PySem SX C8 FL
theorem kat_set {pl : List Kd} {i j : Nat} {x : Kd} : kat (pl.set i x) j = if i = j ∧ i < pl.length then x else kat pl j := by
  unfold kat
  rw [List.getD_eq_getElem?_getD, List.getElem?_set, List.getD_eq_getElem?_getD]
  by_cases h : i = j
  · subst h
    by_cases h2 : i < pl.length <;> simp [h2]
  · simp [h]
theorem kat_app {pl : List Kd} {i : Nat} {x : Kd} (h : i < pl.length + 1) : kat (pl ++ [x]) i = if i = pl.length then x else kat pl i := by
  unfold kat
  rw [List.getD_eq_getElem?_getD, List.getD_eq_getElem?_getD]
  by_cases e : i = pl.length
  · subst e; simp
  · rw [if_neg e, List.getElem?_append_left (by omega)]
structure Pl0 (pl : List Kd) : Prop where
  sz1 : ∀ i < pl.length, 1 ≤ sz pl i
  sz3 : ∀ i < pl.length, sz pl i ≤ 3
  srt : ∀ i < pl.length, (nx pl i).Pairwise (· < ·)
  lt : ∀ i < pl.length, ∀ k ∈ nx pl i, k < i
theorem Pl0.snoc {pl : List Kd} (A : Pl0 pl) {z : Int} {l : List Nat} (h1 : 1 ≤ z) (h3 : z ≤ 3) (hs : l.Pairwise (· < ·)) (hl : ∀ k ∈ l, k < pl.length) : Pl0 (pl ++ [(z, l)]) := by
  have hlen : (pl ++ [(z, l)]).length = pl.length + 1 := by simp
  refine ⟨fun i hi => ?_, fun i hi => ?_, fun i hi => ?_, fun i hi => ?_⟩ <;> rw [hlen] at hi <;> simp only [sz, nx] <;> rw [kat_app hi] <;> by_cases e : i = pl.length
  · rw [if_pos e]; exact h1
  · rw [if_neg e]; exact A.sz1 i (by omega)
  · rw [if_pos e]; exact h3
  · rw [if_neg e]; exact A.sz3 i (by omega)
  · rw [if_pos e]; exact hs
  · rw [if_neg e]; exact A.srt i (by omega)
  · rw [if_pos e]; subst e; exact hl
  · rw [if_neg e]; exact A.lt i (by omega)
/-- between the two changes -/
structure Mid (pl : List Kd) : Prop extends Plain pl where
  low : 2 ≤ pl.length → ∀ m ∈ nx pl (pl.length - 2), m < pl.length - 2
theorem Pl0.mid {pl : List Kd} (A : Pl0 pl) (h : pl.length ≤ 6) : Mid pl where
  len := h
  sz1 := A.sz1
  sz3 := A.sz3
  nd := fun j hj => (A.srt j hj).imp fun h => Nat.ne_of_lt h
  lt := fun j hj m hm => Nat.lt_trans (A.lt j hj m hm) hj
  home := fun j hj => by
    cases e : nx pl j with
    | nil => exact .inl rfl
    | cons m l => exact .inr ⟨m, by simp, A.lt j hj m (by rw [e]; simp)⟩
  low := fun h2 m hm => A.lt _ (by omega) m hm
theorem Pl0.mid2 {pl : List Kd} (A : Pl0 pl) (h : pl.length ≤ 6) (h1 : 1 < pl.length) (hne : nx pl (pl.length - 1) ≠ []) : Mid (pl.set (pl.length - 1) (sz pl (pl.length - 1), nx pl (pl.length - 1) ++ [pl.length - 1])) := by
  have M := A.mid h
  generalize hq : (pl.set (pl.length - 1) (sz pl (pl.length - 1), nx pl (pl.length - 1) ++ [pl.length - 1])) = q
  have hl : q.length = pl.length := by rw [← hq]; simp
  have hk : ∀ j, kat q j = if pl.length - 1 = j then (sz pl (pl.length - 1), nx pl (pl.length - 1) ++ [pl.length - 1]) else kat pl j := fun j => by
    rw [← hq, kat_set]
    simp [show pl.length - 1 < pl.length by omega]
  refine ⟨⟨by rw [hl]; exact h, fun j hj => ?_, fun j hj => ?_, fun j hj => ?_, fun j hj => ?_, fun j hj => ?_⟩, fun h2 => ?_⟩
  all_goals rw [hl] at *
  all_goals simp only [sz, nx]
  all_goals rw [hk]
  · split
    · exact A.sz1 _ (by omega)
    · exact A.sz1 j hj
  · split
    · exact A.sz3 _ (by omega)
    · exact A.sz3 j hj
  · split
    · refine List.nodup_append.mpr ⟨M.nd _ (by omega), by simp, fun a ha b hb e => ?_⟩
      rw [List.mem_singleton.mp hb] at e
      have := A.lt (pl.length - 1) (by omega) a ha
      omega
    · exact M.nd j hj
  · split
    · intro m hm
      rcases List.mem_append.mp hm with hm | hm
      · have := A.lt (pl.length - 1) (by omega) m hm; omega
      · rw [List.mem_singleton.mp hm]; omega
    · exact M.lt j hj
  · split
    · rename_i e
      right
      obtain ⟨m, l, e2⟩ := List.exists_cons_of_ne_nil hne
      exact ⟨m, List.mem_append_left _ (by rw [e2]; simp), by have := A.lt (pl.length - 1) (by omega) m (by rw [e2]; simp); omega⟩
    · exact M.home j hj
  · rw [if_neg (by omega)]
    exact M.low h2
theorem Mid.last {pl : List Kd} (M : Mid pl) (h2 : 2 < pl.length) (hne : nx pl (pl.length - 2) ≠ []) :
    Plain ((pl.set (pl.length - 2) (sz pl (pl.length - 2), nx pl (pl.length - 2) ++ [pl.length - 1])).set (pl.length - 1) (sz pl (pl.length - 1), srtN ((nx pl (pl.length - 1)).filter (fun k => decide (k ≠ pl.length - 2)) ++ [pl.length - 2]))) := by
  generalize hq : ((pl.set (pl.length - 2) (sz pl (pl.length - 2), nx pl (pl.length - 2) ++ [pl.length - 1])).set (pl.length - 1) (sz pl (pl.length - 1), srtN ((nx pl (pl.length - 1)).filter (fun k => decide (k ≠ pl.length - 2)) ++ [pl.length - 2]))) = q
  have hl : q.length = pl.length := by rw [← hq]; simp
  have hk : ∀ j, kat q j = if pl.length - 1 = j then (sz pl (pl.length - 1), srtN ((nx pl (pl.length - 1)).filter (fun k => decide (k ≠ pl.length - 2)) ++ [pl.length - 2])) else if pl.length - 2 = j then (sz pl (pl.length - 2), nx pl (pl.length - 2) ++ [pl.length - 1]) else kat pl j := fun j => by
    rw [← hq, kat_set, kat_set]
    simp [show pl.length - 1 < pl.length by omega, show pl.length - 2 < pl.length by omega]
  have low := M.low (by omega)
  refine ⟨by rw [hl]; exact M.len, fun j hj => ?_, fun j hj => ?_, fun j hj => ?_, fun j hj => ?_, fun j hj => ?_⟩
  all_goals rw [hl] at *
  all_goals simp only [sz, nx]
  all_goals rw [hk]
  · split
    · exact M.sz1 _ (by omega)
    · split
      · exact M.sz1 _ (by omega)
      · exact M.sz1 j hj
  · split
    · exact M.sz3 _ (by omega)
    · split
      · exact M.sz3 _ (by omega)
      · exact M.sz3 j hj
  · split
    · refine (srtN_perm _).nodup_iff.mpr (List.nodup_append.mpr ⟨(M.nd _ (by omega)).filter _, by simp, fun a ha b hb e => ?_⟩)
      rw [List.mem_singleton.mp hb] at e
      have := (List.mem_filter.mp ha).2
      simp at this
      exact this e
    · split
      · refine List.nodup_append.mpr ⟨M.nd _ (by omega), by simp, fun a ha b hb e => ?_⟩
        rw [List.mem_singleton.mp hb] at e
        have := low a ha
        omega
      · exact M.nd j hj
  · split
    · intro m hm
      rcases List.mem_append.mp (srtN_mem.mp hm) with hm | hm
      · exact M.lt _ (by omega) m (List.mem_filter.mp hm).1
      · rw [List.mem_singleton.mp hm]; omega
    · split
      · intro m hm
        rcases List.mem_append.mp hm with hm | hm
        · have := low m hm; omega
        · rw [List.mem_singleton.mp hm]; omega
      · exact M.lt j hj
  · split
    · right
      exact ⟨pl.length - 2, srtN_mem.mpr (List.mem_append_right _ (by simp)), by omega⟩
    · split
      · right
        obtain ⟨m, l, e2⟩ := List.exists_cons_of_ne_nil hne
        exact ⟨m, List.mem_append_left _ (by rw [e2]; simp), by have := low m (by rw [e2]; simp); omega⟩
      · exact M.home j hj
/-! ### changes within -/
section
variable {pl : List Kd} {ρ : Rho} {fi : FX} {i : Nat}
theorem kat_get (h : i < pl.length) : pl[i]? = some (kat pl i) := by
  unfold kat
  rw [List.getElem?_eq_getElem h, List.getD_eq_getElem?_getD, List.getElem?_eq_getElem h]
  rfl
theorem path1 (h0 : ρ[4]? = some (plT pl)) (h1 : fi ρ = some (.int (i : Int))) (hi : i < pl.length) : pIx (pNm 4) fi ρ = some (4, [i]) := by
  unfold pIx
  rw [pNm_ls h0, Option.bind_some, h1, Option.bind_some, node_ls h0]
  show (ixN (pl.map kT).length (i : Int)).map _ = _
  rw [ixN_nat (by simpa using hi)]
  rfl
theorem node1 (h0 : ρ[4]? = some (plT pl)) (hi : i < pl.length) : T.node ρ (4, [i]) = some (kT (kat pl i)) := by
  unfold T.node
  rw [show ((4, [i]) : Nat × List Nat).1 = 4 from rfl, h0, Option.bind_some]
  show ((pl.map kT)[i]?).bind _ = _
  rw [List.getElem?_map, kat_get hi]
  rfl
theorem path2 (h0 : ρ[4]? = some (plT pl)) (h1 : fi ρ = some (.int (i : Int))) (hi : i < pl.length) : pIx (pIx (pNm 4) fi) (cst (.int 1)) ρ = some (4, [i, 1]) := by
  show ((pIx (pNm 4) fi ρ).bind fun ip => _) = _
  rw [path1 h0 h1 hi, Option.bind_some, cst_at, Option.bind_some, node1 h0 hi]
  rfl
theorem node2 (h0 : ρ[4]? = some (plT pl)) (hi : i < pl.length) : T.node ρ (4, [i, 1]) = some (.ls (((nx pl i).map eN).map T.sh)) := by
  unfold T.node
  rw [show ((4, [i, 1]) : Nat × List Nat).1 = 4 from rfl, h0, Option.bind_some]
  show ((pl.map kT)[i]?).bind _ = _
  rw [List.getElem?_map, kat_get hi]
  rfl
theorem put2 (hi : i < pl.length) (l : List Nat) : T.put [i, 1] (.ls ((l.map eN).map T.sh)) (plT pl) = plT (pl.set i (sz pl i, l)) := by
  have h : (pl.map kT)[i]? = some (kT (kat pl i)) := by rw [List.getElem?_map, kat_get hi]; rfl
  show (match (pl.map kT)[i]? with
    | some t => T.ls ((pl.map kT).set i (T.put [1] (.ls ((l.map eN).map T.sh)) t))
    | none => .ls (pl.map kT)) = _
  rw [h]
  unfold plT
  rw [List.map_set]
  rfl
theorem nest_app (h0 : ρ[4]? = some (plT pl)) (h1 : fi ρ = some (.int (i : Int))) (hi : i < pl.length) {f : FX} {v : Nat} (h2 : f ρ = some (.int (v : Int))) (hl : (nx pl i).length ≤ lim) :
    gUpd (pIx (pIx (pNm 4) fi) (cst (.int 1))) (fSh f) hApp ρ = some (.nx (ρ.set 4 (plT (pl.set i (sz pl i, nx pl i ++ [v]))))) := by
  unfold gUpd
  rw [path2 h0 h1 hi, Option.bind_some]
  simp only [fSh, h2, Option.map_some, Option.bind_some]
  rw [node2 h0 hi, Option.bind_some]
  have : hApp (.ls (((nx pl i).map eN).map T.sh)) (.sh (.int (v : Int))) = some (.ls (((nx pl i ++ [v]).map eN).map T.sh)) := by
    show (if _ then _ else _) = _
    rw [if_pos (by simpa using hl)]
    simp [eN]
  rw [this, Option.bind_some, h0, Option.map_some, put2 hi]
theorem nest_set (h0 : ρ[4]? = some (plT pl)) (h1 : fi ρ = some (.int (i : Int))) (hi : i < pl.length) {ft : Rho → Option T} {l : List Nat} (h2 : ft ρ = some (.ls ((l.map eN).map T.sh))) :
    gSetI (pIx (pNm 4) fi) (cst (.int 1)) ft ρ = some (.nx (ρ.set 4 (plT (pl.set i (sz pl i, l))))) := by
  unfold gSetI
  rw [cst_at, Option.bind_some]
  unfold gUpd
  simp only
  rw [path1 h0 h1 hi, Option.bind_some, h2, Option.bind_some, node1 h0 hi, Option.bind_some]
  have : hSet 1 (kT (kat pl i)) (.ls ((l.map eN).map T.sh)) = some (kT (sz pl i, l)) := rfl
  rw [this, Option.bind_some, h0, Option.map_some]
  have : T.put [i] (kT (sz pl i, l)) (plT pl) = plT (pl.set i (sz pl i, l)) := by
    have h : (pl.map kT)[i]? = some (kT (kat pl i)) := by rw [List.getElem?_map, kat_get hi]; rfl
    show (match (pl.map kT)[i]? with
      | some t => T.ls ((pl.map kT).set i (T.put [] (kT (sz pl i, l)) t))
      | none => .ls (pl.map kT)) = _
    rw [h]
    unfold plT
    rw [List.map_set]
    rfl
  rw [this]
/-- plain[i][1], read -/
theorem nest_read (h0 : nmW 4 ρ = some (ksD pl)) (h1 : fi ρ = some (.int (i : Int))) (hi : i < pl.length) : f2 gIx (f2 gIx (nmW 4) fi) (cst (.int 1)) ρ = some (.lst ((nx pl i).map eN)) := by
  show ((nmW 4 ρ).bind fun x => (fi ρ).bind fun y => gIx x y).bind _ = _
  rw [h0, h1, Option.bind_some, Option.bind_some, ix_ks hi, Option.bind_some, cst_at, Option.bind_some, ix_nx]
end
/-! ### places -/
theorem mod_inj {r n i j : Nat} (hi : i < n) (hj : j < n) (e : (r + i) % n = (r + j) % n) : i = j := by
  rcases Nat.lt_trichotomy i j with h | h | h
  · have := Nat.sub_mod_eq_zero_of_mod_eq e.symm
    rw [show r + j - (r + i) = j - i by omega, Nat.mod_eq_of_lt (by omega)] at this
    omega
  · exact h
  · have := Nat.sub_mod_eq_zero_of_mod_eq e
    rw [show r + i - (r + j) = i - j by omega, Nat.mod_eq_of_lt (by omega)] at this
    omega
theorem perm_turn (r : Nat) {n : Nat} (h : 0 < n) : Perm n ((List.range n).map fun j => (r + j) % n) := by
  refine ⟨by simp, ?_, fun k hk => ?_⟩
  · refine List.pairwise_map.mpr (List.nodup_range.imp_of_mem fun {a b} ha hb h e => h (mod_inj (List.mem_range.mp ha) (List.mem_range.mp hb) e))
  · obtain ⟨j, _, rfl⟩ := List.mem_map.mp hk
    exact Nat.mod_lt _ h
theorem perm_back {n : Nat} {place : List Nat} (P : Perm n place) : Perm n (place.map fun k => n - 1 - k) := by
  refine ⟨by simp [P.len], ?_, fun k hk => ?_⟩
  · refine List.pairwise_map.mpr (P.nd.imp_of_mem fun {a b} ha hb h e => h ?_)
    have := P.lt a ha
    have := P.lt b hb
    omega
  · obtain ⟨j, hj, rfl⟩ := List.mem_map.mp hk
    have := P.lt j hj
    omega
end G

/-! _law_kinds: the whole. -/
namespace G
open L2 PyProof.Rows PySem.Spec PySem SX C8 FL
def kwT (ks : List Kd) : T := .ls ((ks.map kD).map T.sh)
theorem kwT_D (ks : List Kd) : (kwT ks).toD = some (ksD ks) := toD_ls _
section
variable {row : List Nat} {unit : Bool} {n : Nat} {a b c d e f g : T}
theorem sub_at {k : Int} {v : Nat} {ρ : Rho} (h : nm 3 ρ = some (.int (n : Int))) (hv : (n : Int) - k = (v : Int)) : f2 FL.gSub (nm 3) (cst (.int k)) ρ = some (.int (v : Int)) := by
  unfold f2
  rw [h, Option.bind_some, cst_at, Option.bind_some, e_sub, hv]
theorem len_pos_test {fi : FX} {ρ : Rho} {l : List Nat} (h : fi ρ = some (.lst (l.map eN))) : tBl (f2 gGt (f1 gLen fi) (cst (.int 0))) ρ = some (decide (l ≠ [])) := by
  refine tBl_of ?_
  unfold f2 f1
  rw [h, Option.bind_some, e_len_l, Option.bind_some, cst_at, Option.bind_some, e_gt]
  congr 2
  apply Bool.eq_iff_iff.mpr
  simp only [decide_eq_true_eq, List.length_map, ne_eq]
  rw [← List.length_eq_zero_iff]
  omega
theorem kinds_11 (R : RowOk kindZ row) {pl : List Kd} (A : Pl0 pl) (hn : pl.length = n) (h6 : n ≤ 6) (h0 : 0 < n) : ∃ pl', Mid pl' ∧ pl'.length = n ∧ law_kinds_11 (ρK row unit n (plT pl) a b c d e f g) = some (.nx (ρK row unit n (plT pl') a b c d e f g)) := by
  have hlim : (lim : Nat) = 1000000 := rfl
  subst hn
  have t0 := row_ix R (j := 3) (fi := cst (.int 3)) (ρ := ρK row unit pl.length (plT pl) a b c d e f g) rfl rfl (by omega)
  have t1 : tBl (f2 gEq (f2 gIx (nm 0) (cst (.int 3))) (cst (.int 0))) (ρK row unit pl.length (plT pl) a b c d e f g) = some (decide (((row.getD 3 0 : Nat) : Int) = 0)) := by
    refine tBl_of ?_
    show (f2 gIx (nm 0) (cst (.int 3)) _).bind _ = _
    rw [t0]
    simp only [cst_at, Option.bind_some, e_eq]
  have t2 : tBl (f2 gGt (nm 3) (cst (.int 1))) (ρK row unit pl.length (plT pl) a b c d e f g) = some (decide ((1 : Int) < (pl.length : Int))) := rfl
  have hs : f2 FL.gSub (nm 3) (cst (.int 1)) (ρK row unit pl.length (plT pl) a b c d e f g) = some (.int ((pl.length - 1 : Nat) : Int)) := sub_at rfl (by omega)
  have hw : nmW 4 (ρK row unit pl.length (plT pl) a b c d e f g) = some (ksD pl) := plT_D pl
  have t3 := len_pos_test (nest_read hw hs (show pl.length - 1 < pl.length by omega))
  unfold law_kinds_11
  refine gIf_ex (P := fun o => ∃ pl', Mid pl' ∧ pl'.length = pl.length ∧ o = some (.nx (ρK row unit pl.length (plT pl') a b c d e f g))) (tAnd_ex t1 fun _ => tAnd_ex t2 fun _ => ⟨_, t3⟩) (fun ht => ?_) fun _ => ⟨pl, A.mid h6, rfl, rfl⟩
  unfold tAndF at ht
  rw [t1, Option.bind_some] at ht
  cases q0 : decide (((row.getD 3 0 : Nat) : Int) = 0) with
  | false => rw [q0] at ht; cases ht
  | true =>
    rw [q0] at ht
    simp only at ht
    rw [t2, Option.bind_some] at ht
    cases q1 : decide ((1 : Int) < (pl.length : Int)) with
    | false => rw [q1] at ht; cases ht
    | true =>
      rw [q1] at ht
      simp only at ht
      rw [t3] at ht
      have hne : nx pl (pl.length - 1) ≠ [] := by simpa using ht
      have h1 : 1 < pl.length := by have := of_decide_eq_true q1; omega
      refine ⟨_, A.mid2 h6 h1 hne, by simp, ?_⟩
      unfold law_kinds_12
      rw [nest_app (pl := pl) (i := pl.length - 1) rfl hs (by omega) hs (by
        have M := A.mid h6
        have := (M.nd (pl.length - 1) (by omega)).length_le_of_subset (l₂ := List.range pl.length) fun m hm => List.mem_range.mpr (M.lt _ (by omega) m hm)
        rw [List.length_range] at this
        omega)]
      rfl
theorem kinds_13 (R : RowOk kindZ row) {pl : List Kd} (M : Mid pl) (hn : pl.length = n) : ∃ pl', Plain pl' ∧ pl'.length = n ∧ law_kinds_13 (ρK row unit n (plT pl) a b c d e f g) = some (.nx (ρK row unit n (plT pl') a b c d e f g)) := by
  have hlim : (lim : Nat) = 1000000 := rfl
  have h6 := M.len
  subst hn
  have t0 := row_ix R (j := 3) (fi := cst (.int 3)) (ρ := ρK row unit pl.length (plT pl) a b c d e f g) rfl rfl (by omega)
  have t1 : tBl (f2 gEq (f2 gIx (nm 0) (cst (.int 3))) (cst (.int 1))) (ρK row unit pl.length (plT pl) a b c d e f g) = some (decide (((row.getD 3 0 : Nat) : Int) = 1)) := by
    refine tBl_of ?_
    show (f2 gIx (nm 0) (cst (.int 3)) _).bind _ = _
    rw [t0]
    simp only [cst_at, Option.bind_some, e_eq]
  have t2 : tBl (f2 gGt (nm 3) (cst (.int 2))) (ρK row unit pl.length (plT pl) a b c d e f g) = some (decide ((2 : Int) < (pl.length : Int))) := rfl
  unfold law_kinds_13
  by_cases h2 : 2 < pl.length
  · have hs : f2 FL.gSub (nm 3) (cst (.int 2)) (ρK row unit pl.length (plT pl) a b c d e f g) = some (.int ((pl.length - 2 : Nat) : Int)) := sub_at rfl (by omega)
    have hs1 : ∀ pl', f2 FL.gSub (nm 3) (cst (.int 1)) (ρK row unit pl.length (plT pl') a b c d e f g) = some (.int ((pl.length - 1 : Nat) : Int)) := fun pl' => sub_at rfl (by omega)
    have hw : nmW 4 (ρK row unit pl.length (plT pl) a b c d e f g) = some (ksD pl) := plT_D pl
    have t3 := len_pos_test (nest_read hw hs (show pl.length - 2 < pl.length by omega))
    refine gIf_ex (P := fun o => ∃ pl', Plain pl' ∧ pl'.length = pl.length ∧ o = some (.nx (ρK row unit pl.length (plT pl') a b c d e f g))) (tAnd_ex t1 fun _ => tAnd_ex t2 fun _ => ⟨_, t3⟩) (fun ht => ?_) fun _ => ⟨pl, M.toPlain, rfl, rfl⟩
    unfold tAndF at ht
    rw [t1, Option.bind_some] at ht
    cases q0 : decide (((row.getD 3 0 : Nat) : Int) = 1) with
    | false => rw [q0] at ht; cases ht
    | true =>
      rw [q0] at ht
      simp only at ht
      rw [t2, Option.bind_some, decide_eq_true (show (2 : Int) < (pl.length : Int) by omega)] at ht
      simp only at ht
      rw [t3] at ht
      have hne : nx pl (pl.length - 2) ≠ [] := by simpa using ht
      refine ⟨_, M.last h2 hne, by simp, ?_⟩
      have bound : ∀ j, j < pl.length → (nx pl j).length ≤ 6 := fun j hj => by
        have := (M.nd j hj).length_le_of_subset (l₂ := List.range pl.length) fun m hm => List.mem_range.mpr (M.lt _ hj m hm)
        rw [List.length_range] at this
        omega
      let p1 := pl.set (pl.length - 2) (sz pl (pl.length - 2), nx pl (pl.length - 2) ++ [pl.length - 1])
      have hp1 : p1.length = pl.length := by simp [p1]
      have hk1 : kat p1 (pl.length - 1) = kat pl (pl.length - 1) := by
        show kat (pl.set _ _) _ = _
        rw [kat_set, if_neg (by omega)]
      have e14 : law_kinds_14 (ρK row unit pl.length (plT pl) a b c d e f g) = some (.nx (ρK row unit pl.length (plT p1) a b c d e f g)) := by
        unfold law_kinds_14
        rw [nest_app (pl := pl) (i := pl.length - 2) rfl hs (by omega) (hs1 pl) (by have := bound (pl.length - 2) (by omega); omega)]
        rfl
      have hw1 : nmW 4 (ρK row unit pl.length (plT p1) a b c d e f g) = some (ksD p1) := plT_D p1
      have hrd : f2 gIx (f2 gIx (nmW 4) (f2 FL.gSub (nm 3) (cst (.int 1)))) (cst (.int 1)) (ρK row unit pl.length (plT p1) a b c d e f g) = some (.lst ((nx pl (pl.length - 1)).map eN)) := by
        have := nest_read (pl := p1) hw1 (hs1 p1) (show pl.length - 1 < p1.length by omega)
        unfold nx at this ⊢
        rw [hk1] at this
        exact this
      have hs2 : f2 FL.gSub (nm 3) (cst (.int 2)) (ρK row unit pl.length (plT p1) a b c d e f g) = some (.int ((pl.length - 2 : Nat) : Int)) := sub_at rfl (by omega)
      have el : fGive (fLc (fSeq D.lstFl (f2 gIx (f2 gIx (nmW 4) (f2 FL.gSub (nm 3) (cst (.int 1)))) (cst (.int 1)))) (gNm 11) law_kinds_15t law_kinds_15e [11]) (ρK row unit pl.length (plT p1) a b c d e f g) = some (.lst (((nx pl (pl.length - 1)).filter (fun k => decide (k ≠ pl.length - 2))).map eN)) := by
        refine give_eval (enc := eN) _ _ ?_ (by have := bound (pl.length - 1) (by omega); omega) fun k hk => ⟨tBl_of ?_, fun _ => rfl⟩
        · unfold fSeq
          rw [hrd, Option.bind_some]
          show (D.fvs ((nx pl (pl.length - 1)).map eN)).map _ = _
          rw [show (nx pl (pl.length - 1)).map eN = (nx pl (pl.length - 1)).map fun x => D.int ((x : Nat) : Int) from rfl, fvs_int]
          rfl
        · have h3 : f2 FL.gSub (nm 3) (cst (.int 2)) ((wipeR (ρK row unit pl.length (plT p1) a b c d e f g) [11]).set 11 (.sh (eN k))) = some (.int ((pl.length - 2 : Nat) : Int)) := sub_at rfl (by omega)
          show ((nm 11 _).bind fun x => (f2 FL.gSub (nm 3) (cst (.int 2)) ((wipeR (ρK row unit pl.length (plT p1) a b c d e f g) [11]).set 11 (.sh (eN k)))).bind fun y => gNe x y) = _
          rw [h3, show nm 11 ((wipeR (ρK row unit pl.length (plT p1) a b c d e f g) [11]).set 11 (.sh (eN k))) = some (.int (k : Int)) from rfl, Option.bind_some, Option.bind_some, e_ne]
          congr 2
          apply Bool.eq_iff_iff.mpr
          simp only [Bool.not_eq_true', decide_eq_false_iff_not, decide_eq_true_eq, ne_eq]
          omega
      have e15 : law_kinds_15 (ρK row unit pl.length (plT p1) a b c d e f g) = some (.nx (ρK row unit pl.length (plT (p1.set (pl.length - 1) (sz pl (pl.length - 1), srtN ((nx pl (pl.length - 1)).filter (fun k => decide (k ≠ pl.length - 2)) ++ [pl.length - 2])))) a b c d e f g)) := by
        unfold law_kinds_15
        have hft : fO1 gSortI (f2 gCatL (fGive (fLc (fSeq D.lstFl (f2 gIx (f2 gIx (nmW 4) (f2 FL.gSub (nm 3) (cst (.int 1)))) (cst (.int 1)))) (gNm 11) law_kinds_15t law_kinds_15e [11])) (fGive (fLst (aoCons (fSh (f2 FL.gSub (nm 3) (cst (.int 2)))) aoNil)))) (ρK row unit pl.length (plT p1) a b c d e f g) = some (.ls (((srtN ((nx pl (pl.length - 1)).filter (fun k => decide (k ≠ pl.length - 2)) ++ [pl.length - 2])).map eN).map T.sh)) := by
          refine fO1_at (d := .lst (((nx pl (pl.length - 1)).filter (fun k => decide (k ≠ pl.length - 2)) ++ [pl.length - 2]).map eN)) ?_ (sort_eN _)
          unfold f2 at el ⊢
          show ((fGive _ _).bind fun x => _) = _
          have e2 : fGive (fLst (aoCons (fSh (f2 FL.gSub (nm 3) (cst (.int 2)))) aoNil)) (ρK row unit pl.length (plT p1) a b c d e f g) = some (.lst ([pl.length - 2].map eN)) := by
            refine give_at ?_
            unfold fLst aoCons aoNil fSh
            rw [hs2]
            rfl
          unfold f2 at e2
          rw [el, e2, Option.bind_some, Option.bind_some, catL_at (by
            have := bound (pl.length - 1) (by omega)
            have := List.length_filter_le (fun k => decide (k ≠ pl.length - 2)) (nx pl (pl.length - 1))
            rw [List.length_map, List.length_map, List.length_singleton]
            omega), ← List.map_append]
        rw [nest_set (pl := p1) (i := pl.length - 1) rfl (hs1 p1) (by omega) hft]
        have : sz p1 (pl.length - 1) = sz pl (pl.length - 1) := by unfold sz; rw [hk1]
        rw [this]
        rfl
      unfold gSeq
      rw [e14, Option.bind_some]
      simp only
      rw [e15]
  · have tf : tAndF (tBl (f2 gEq (f2 gIx (nm 0) (cst (.int 3))) (cst (.int 1)))) (tAndF (tBl (f2 gGt (nm 3) (cst (.int 2)))) (tBl (f2 gGt (f1 gLen (f2 gIx (f2 gIx (nmW 4) (f2 FL.gSub (nm 3) (cst (.int 2)))) (cst (.int 1)))) (cst (.int 0))))) (ρK row unit pl.length (plT pl) a b c d e f g) = some false := by
      unfold tAndF
      rw [t1, Option.bind_some]
      cases decide (((row.getD 3 0 : Nat) : Int) = 1) with
      | false => rfl
      | true =>
        simp only
        rw [t2, decide_eq_false (by omega)]
        rfl
    exact ⟨pl, M.toPlain, rfl, if_false tf⟩
theorem kinds_place (R : RowOk kindZ row) (h0 : 0 < n) (h6 : n ≤ 6) {p : T} : ∃ place, Perm n place ∧ gSeq law_kinds_16 law_kinds_17 (ρK row unit n p a b c d e f g) = some (.nx (ρK row unit n p a b c (rwT place) e f g)) := by
  have hlim : (lim : Nat) = 1000000 := rfl
  let r := row.getD 1 0
  let pl0 := (List.range n).map fun j => (r + j) % n
  have P := perm_turn r h0
  have e16 : law_kinds_16 (ρK row unit n p a b c d e f g) = some (.nx (ρK row unit n p a b c (rwT pl0) e f g)) := by
    have : fLc (fRg1 (nm 3)) (gNm 5) tYesF law_kinds_16e [5] (ρK row unit n p a b c d e f g) = some (.ls ((pl0.map eN).map T.sh)) := by
      have hpm : pl0.map eN = (List.range n).map (eN ∘ fun j => (r + j) % n) := by
        simp only [pl0]
        rw [List.map_map]
      rw [hpm]
      refine fLc_all (enc := eN) _ (rg1_nat (n := n) rfl (by omega)) (by simp; omega) fun j hj => ?_
      have hr := row_ix R (j := 1) (fi := cst (.int 1)) (ρ := (wipeR (ρK row unit n p a b c d e f g) [5]).set 5 (.sh (eN j))) rfl rfl (by omega)
      show ((((f2 gIx (nm 0) (cst (.int 1)) ((wipeR (ρK row unit n p a b c d e f g) [5]).set 5 (.sh (eN j)))).bind fun x => (nm 5 _).bind fun y => gAddI x y).bind gInt).bind fun x => (nm 3 _).bind fun y => gMod x y) = _
      rw [hr]
      simp only [wipeR, List.set, nm_succ, nm_zero, Option.bind_some, eN, e_add, e_int]
      rw [e_mod (by omega)]
      rfl
    unfold law_kinds_16 gOwn
    rw [this]
    rfl
  have hr2 := row_ix R (j := 2) (fi := cst (.int 2)) (ρ := ρK row unit n p a b c (rwT pl0) e f g) rfl rfl (by omega)
  have t1 : tBl (f2 gEq (f2 gIx (nm 0) (cst (.int 2))) (cst (.int 1))) (ρK row unit n p a b c (rwT pl0) e f g) = some (decide (((row.getD 2 0 : Nat) : Int) = 1)) := by
    refine tBl_of ?_
    show (f2 gIx (nm 0) (cst (.int 2)) _).bind _ = _
    rw [hr2]
    simp only [cst_at, Option.bind_some, e_eq]
  unfold gSeq
  rw [e16, Option.bind_some]
  simp only
  unfold law_kinds_17
  refine gIf_ex (P := fun o => ∃ place, Perm n place ∧ o = some (.nx (ρK row unit n p a b c (rwT place) e f g))) ⟨_, t1⟩ (fun _ => ?_) fun _ => ⟨pl0, P, rfl⟩
  refine ⟨_, perm_back P, ?_⟩
  have hq : nmQ 8 (ρK row unit n p a b c (rwT pl0) e f g) = some (.lst (pl0.map eN)) := by simp only [nmQ_succ, nmQ_rw]
  have : fLc (fSeq D.lstOf (nmQ 8)) (gNm 11) tYesF law_kinds_18e [11] (ρK row unit n p a b c (rwT pl0) e f g) = some (.ls (((pl0.map fun k => n - 1 - k).map eN).map T.sh)) := by
    rw [List.map_map (f := fun k => n - 1 - k)]
    refine fLc_all (enc := eN) _ (by unfold fSeq; rw [hq]; rfl) (by rw [show pl0.length = n by simp [pl0]]; omega) fun k hk => ?_
    have := P.lt k hk
    simp only [law_kinds_18e, f2, wipeR, List.set, nm_succ, nm_zero, cst_at, Option.bind_some, eN, e_sub, Function.comp]
    congr 2
    omega
  unfold law_kinds_18 gOwn
  rw [this]
  rfl
theorem kinds_turn {pl : List Kd} (A : Plain pl) (hn : pl.length = n) {place : List Nat} (P : Perm n place) : ∃ x, gSeq law_kinds_20 law_kinds_22 (ρK row unit n (.sh (ksD pl)) a b c (rwT place) (kwT (turnF pl place 0)) f g) = some (.rt x) ∧ x = ksD (turnF pl place n) := by
  have hlim : (lim : Nat) = 1000000 := rfl
  have h6 := A.len
  subst hn
  unfold gSeq law_kinds_20
  obtain ⟨ρ', e20, y, rfl⟩ := for_inv (enc := eN) (it := fRg1 (nm 3)) (bind := gNm 5) (body := law_kinds_20b) (xs := List.range pl.length) (ρ := ρK row unit pl.length (.sh (ksD pl)) a b c (rwT place) (kwT (turnF pl place 0)) f g)
    (fun j ρ => ∃ y, ρ = ρK row unit pl.length (.sh (ksD pl)) y b c (rwT place) (kwT (turnF pl place j)) f g) (rg1_nat rfl (by omega)) ⟨a, rfl⟩ (fun j hj ρ ⟨y, e⟩ => by
      subst e
      rw [List.length_range] at hj
      refine ⟨_, _, rfl, .inl ?_, .sh (eN j), rfl⟩
      rw [List.getElem_range]
      show law_kinds_20b (ρK row unit pl.length (.sh (ksD pl)) (.sh (eN j)) b c (rwT place) (kwT (turnF pl place j)) f g) = _
      have hq : ∀ (x : T), nmQ 8 (ρK row unit pl.length (.sh (ksD pl)) (.sh (eN j)) b c (rwT place) (kwT (turnF pl place j)) f x) = some (.lst (place.map eN)) := fun x => by simp only [nmQ_succ, nmQ_rw]
      have hpl : ∀ i, i < pl.length → gIx (.lst (place.map eN)) (.int (i : Int)) = some (.int ((plc place i : Nat) : Int)) := fun i hi => ix_list (by rw [P.len]; exact hi)
      have h1 : f2 gIx (nmQ 8) (nm 5) (ρK row unit pl.length (.sh (ksD pl)) (.sh (eN j)) b c (rwT place) (kwT (turnF pl place j)) f g) = some (.int ((plc place j : Nat) : Int)) := by
        unfold f2
        rw [hq, Option.bind_some]
        exact hpl j hj
      have hrow : f2 gIx (nm 4) (nm 5) (ρK row unit pl.length (.sh (ksD pl)) (.sh (eN j)) b c (rwT place) (kwT (turnF pl place j)) f g) = some (kD (kat pl j)) := ix_ks hj
      have hl : fGive (fLc (fSeq D.lt (f2 gIx (f2 gIx (nm 4) (nm 5)) (cst (.int 1)))) (gNm 11) tYesF law_kinds_21e [11]) (ρK row unit pl.length (.sh (ksD pl)) (.sh (eN j)) b c (rwT place) (kwT (turnF pl place j)) f g) = some (.lst (((nx pl j).map (plc place)).map eN)) := by
        rw [List.map_map]
        refine give_all (enc := eN) _ (seq_lt (t := false) ?_) (by
          have := (A.nd j hj).length_le_of_subset (l₂ := List.range pl.length) fun m hm => List.mem_range.mpr (A.lt _ hj m hm)
          rw [List.length_range] at this
          omega) fun k hk => ?_
        · show (f2 gIx (nm 4) (nm 5) _).bind _ = _
          rw [hrow]
          rfl
        · show (nmQ 8 (ρK row unit pl.length (.sh (ksD pl)) (.sh (eN j)) b c (rwT place) (kwT (turnF pl place j)) f (.sh (eN k)))).bind _ = _
          rw [hq, Option.bind_some]
          exact hpl k (A.lt j hj k hk)
      have hs : fGive (fO1 gSortI (fGive (fLc (fSeq D.lt (f2 gIx (f2 gIx (nm 4) (nm 5)) (cst (.int 1)))) (gNm 11) tYesF law_kinds_21e [11]))) (ρK row unit pl.length (.sh (ksD pl)) (.sh (eN j)) b c (rwT place) (kwT (turnF pl place j)) f g) = some (.lst ((srtN ((nx pl j).map (plc place))).map eN)) := give_at (fO1_at hl (sort_eN _))
      have hz : f2 gIx (f2 gIx (nm 4) (nm 5)) (cst (.int 0)) (ρK row unit pl.length (.sh (ksD pl)) (.sh (eN j)) b c (rwT place) (kwT (turnF pl place j)) f g) = some (.int (sz pl j)) := by
        show (f2 gIx (nm 4) (nm 5) _).bind _ = _
        rw [hrow]
        rfl
      unfold law_kinds_20b law_kinds_21
      rw [setI_eval (i := 9) (ds := (turnF pl place j).map kD) (k := plc place j) (d := kD (turnK pl place j)) rfl h1 (by rw [List.length_map, turnF_len]; exact P.plt hj) (by
        refine give_at (ds := [.int (sz pl j), .lst ((srtN ((nx pl j).map (plc place))).map eN)]) ?_
        unfold fLst aoCons aoNil fSh
        rw [hz, hs]
        rfl), ← List.map_set, ← turnF_succ]
      rfl)
  rw [List.length_range] at e20
  rw [e20, Option.bind_some]
  simp only
  refine ⟨ksD (turnF pl place pl.length), ?_, rfl⟩
  unfold law_kinds_22 gFrz
  rw [show (ρK row unit pl.length (.sh (ksD pl)) y b c (rwT place) (kwT (turnF pl place pl.length)) f g)[9]? = some (kwT (turnF pl place pl.length)) from rfl, Option.bind_some, kwT_D, Option.bind_some]
  rfl
theorem law_kinds_ok (R : RowOk kindZ row) (unit : Bool) : ∃ ks, Wf ks ∧ Home ks ∧ 0 < ks.length ∧ m_law_kinds [.lst (row.map eN), .bl unit, .int 6] = some (ksD ks) := by
  have hlim : (lim : Nat) = 1000000 := rfl
  obtain ⟨r0, b0⟩ := row_at R (j := 0) (by decide)
  have b0 : row.getD 0 0 < 10 := b0
  let n := manyN.getD (row.getD 0 0) 0
  have hn : 0 < n ∧ n ≤ 6 := by
    have : ∀ i < 10, 0 < manyN.getD i 0 ∧ manyN.getD i 0 ≤ 6 := by decide
    exact this _ b0
  obtain ⟨h0, h6⟩ := hn
  have e1 : law_kinds_1 [.sh (.lst (row.map eN)), .sh (.bl unit), .sh (.int 6), .no, .no, .no, .no, .no, .no, .no, .no, .no] = some (.nx (ρK row unit n .no .no .no .no .no .no .no .no)) := by
    have hr := row_ix R (j := 0) (fi := cst (.int 0)) (ρ := [.sh (.lst (row.map eN)), .sh (.bl unit), .sh (.int 6), .no, .no, .no, .no, .no, .no, .no, .no, .no]) rfl rfl (by omega)
    unfold law_kinds_1 gSet
    have : f2 gIx (fGive (fLst (aoCons (fSh (cst (.int 3))) (aoCons (fSh (cst (.int 2))) (aoCons (fSh (cst (.int 3))) (aoCons (fSh (cst (.int 4))) (aoCons (fSh (cst (.int 2))) (aoCons (fSh (cst (.int 4))) (aoCons (fSh (cst (.int 5))) (aoCons (fSh (cst (.int 3))) (aoCons (fSh (cst (.int 1))) (aoCons (fSh (cst (.int 6))) aoNil)))))))))))) (f2 gIx (nm 0) (cst (.int 0))) [.sh (.lst (row.map eN)), .sh (.bl unit), .sh (.int 6), .no, .no, .no, .no, .no, .no, .no, .no, .no] = some (.int (n : Int)) := by
      show ((some (.lst (manyN.map eN)) : Option D).bind fun x => (f2 gIx (nm 0) (cst (.int 0)) _).bind fun y => gIx x y) = _
      rw [hr, Option.bind_some, Option.bind_some]
      exact ix_list b0
    show (((nm 2 _).bind fun x => (f2 gIx _ _ _).bind fun y => gMin2 x y).map _) = _
    rw [this]
    show ((gMin2 (.int 6) (.int (n : Int))).map _) = _
    have hm : gMin2 (.int 6) (.int (n : Int)) = some (.int (n : Int)) := by
      show some (D.int (if (n : Int) < 6 then (n : Int) else 6)) = _
      by_cases c : (n : Int) < 6
      · rw [if_pos c]
      · rw [if_neg c, show (n : Int) = 6 by omega]
    rw [hm]
    rfl
  obtain ⟨ρ', e3, pl, x5, x6, x7, hpl, A, rfl⟩ := for_inv (enc := eN) (it := fRg1 (nm 3)) (bind := gNm 5) (body := law_kinds_3b) (xs := List.range n) (ρ := ρK row unit n (plT []) .no .no .no .no .no .no .no)
    (fun j ρ => ∃ pl x5 x6 x7, pl.length = j ∧ Pl0 pl ∧ ρ = ρK row unit n (plT pl) x5 x6 x7 .no .no .no .no) (rg1_nat rfl (by omega)) ⟨[], .no, .no, .no, rfl, ⟨fun i h => absurd h (by simp), fun i h => absurd h (by simp), fun i h => absurd h (by simp), fun i h => absurd h (by simp)⟩, rfl⟩ (fun j hj ρ ⟨pl, x5, x6, x7, hl, A, e⟩ => by
      subst e
      rw [List.length_range] at hj
      obtain ⟨z, m, l, z1, z3, hs, hlt, e⟩ := kinds_body (row := row) (unit := unit) (n := n) R (show j < 6 by omega) (pl := pl) (by omega) x6 x7 .no .no .no .no
      refine ⟨_, _, rfl, .inl ?_, pl ++ [(z, l)], .sh (eN j), .sh (.int z), m, by simp [hl], A.snoc z1 z3 hs (by rw [hl]; exact hlt), rfl⟩
      rw [List.getElem_range]
      exact e)
  rw [List.length_range] at hpl
  obtain ⟨pl1, M, hl1, e11⟩ := kinds_11 (unit := unit) (a := x5) (b := x6) (c := x7) (d := .no) (e := .no) (f := .no) (g := .no) R A hpl h6 h0
  obtain ⟨pl2, A2, hl2, e13⟩ := kinds_13 (unit := unit) (a := x5) (b := x6) (c := x7) (d := .no) (e := .no) (f := .no) (g := .no) R M hl1
  obtain ⟨place, P, e16⟩ := kinds_place (unit := unit) (a := x5) (b := x6) (c := x7) (d := .no) (e := .no) (f := .no) (g := .no) (p := plT pl2) R h0 h6
  obtain ⟨x, e20, ex⟩ := kinds_turn (row := row) (unit := unit) (a := x5) (b := x6) (c := x7) (f := .no) (g := .no) A2 hl2 P
  subst ex
  have P2 : Perm pl2.length place := by rw [hl2]; exact P
  obtain ⟨W, Hm⟩ := turned A2 P2
  rw [hl2] at W Hm
  refine ⟨turnF pl2 place n, W, Hm, by rw [turnF_len, hl2]; exact h0, ?_⟩
  have e19 : law_kinds_19 (ρK row unit n (plT pl2) x5 x6 x7 (rwT place) .no .no .no) = some (.nx (ρK row unit n (.sh (ksD pl2)) x5 x6 x7 (rwT place) (kwT (turnF pl2 place 0)) .no .no)) := by
    unfold law_kinds_19 gFrz
    rw [show (ρK row unit n (plT pl2) x5 x6 x7 (rwT place) .no .no .no)[4]? = some (plT pl2) from rfl, Option.bind_some, plT_D, Option.bind_some]
    unfold gOwn
    rw [fLc_all (enc := kD) (fun _ => kD (1, [])) (xs := pl2) (seq_lt (t := false) rfl) (by omega) fun k _ => rfl]
    have : pl2.map (fun _ => kD (1, [])) = (turnF pl2 place 0).map kD := by
      unfold turnF
      simp [List.map_const']
    rw [this]
    rfl
  unfold gSeq at e16 e20
  unfold m_law_kinds mir law_kinds_g gSeq
  show ((law_kinds_1 [.sh (.lst (row.map eN)), .sh (.bl unit), .sh (.int 6), .no, .no, .no, .no, .no, .no, .no, .no, .no]).bind _).bind _ = _
  rw [e1, Option.bind_some]
  simp only
  rw [show law_kinds_2 (ρK row unit n .no .no .no .no .no .no .no .no) = some (.nx (ρK row unit n (plT []) .no .no .no .no .no .no .no)) from rfl, Option.bind_some]
  simp only
  rw [show law_kinds_3 = gFor (fRg1 (nm 3)) (gNm 5) law_kinds_3b from rfl, e3, Option.bind_some]
  simp only
  rw [e11, Option.bind_some]
  simp only
  rw [e13, Option.bind_some]
  simp only
  cases h16 : law_kinds_16 (ρK row unit n (plT pl2) x5 x6 x7 .no .no .no .no) with
  | none => rw [h16] at e16; cases e16
  | some o =>
    rw [h16, Option.bind_some] at e16
    rw [Option.bind_some]
    cases o with
    | nx ρ =>
      simp only at e16 ⊢
      rw [e16, Option.bind_some]
      simp only
      rw [e19, Option.bind_some]
      simp only
      rw [e20]
      rfl
    | rt d => cases e16
    | bk ρ => cases e16
    | ct ρ => cases e16
end
end G

/-! _law_wide_kinds: the order; one kind. -/
namespace G
open L2 PyProof.Rows PySem.Spec PySem SX C8 FL
def wideZ : List Nat := [10, 720, 4, 6, 4, 31, 64, 2, 6, 4, 31, 64, 2, 6, 4, 31, 64, 2, 6, 4, 31, 64, 2, 6, 4, 31, 64, 2, 6, 4, 31, 64, 2]
def manyW : List Nat := [3, 2, 3, 4, 5, 4, 5, 6, 1, 6]
def bitsN : List Nat := [1, 2, 4, 8, 16, 32]
theorem row_ixg {zs row : List Nat} (R : RowOk zs row) {fi : FX} {ρ : Rho} {j : Nat} (h0 : nm 0 ρ = some (.lst (row.map eN))) (h1 : fi ρ = some (.int (j : Int))) (hj : j < zs.length) : f2 gIx (nm 0) fi ρ = some (.int ((row.getD j 0 : Nat) : Int)) := by
  unfold f2
  rw [h0, h1, Option.bind_some, Option.bind_some]
  exact (row_at R (j := j) hj).1
theorem idx5 {ρ : Rho} {j : Nat} (c : Nat) (h : nm 7 ρ = some (.int (j : Int))) : f2 gAddI (cst (.int (c : Int))) (f2 gMul (cst (.int 5)) (nm 7)) ρ = some (.int ((c + 5 * j : Nat) : Int)) := by
  unfold f2
  rw [cst_at, Option.bind_some, cst_at, Option.bind_some, h, Option.bind_some, e_mul (.inl (by omega)), Option.bind_some, e_add]
  congr 2
theorem bits_ix {fi : FX} {ρ : Rho} {j : Nat} (h0 : nm 4 ρ = some (.lst (bitsN.map eN))) (h1 : fi ρ = some (.int (j : Int))) (hj : j < 6) : f2 gIx (nm 4) fi ρ = some (.int ((2 ^ j : Nat) : Int)) := by
  unfold f2
  rw [h0, h1, Option.bind_some, Option.bind_some, ix_list (by simpa [bitsN] using hj)]
  have : ∀ j < 6, bitsN.getD j 0 = 2 ^ j := by decide
  rw [this j hj]
theorem pow_le {k : Nat} (h : k < 6) : 0 < 2 ^ k ∧ 2 ^ k ≤ 32 := by
  have : ∀ k < 6, 0 < 2 ^ k ∧ 2 ^ k ≤ 32 := by decide
  exact this k h
theorem bit_ex : ∀ j < 6, ∀ m < 2 ^ j, 1 ≤ m → ∃ k < j, m / 2 ^ k % 2 = 1 := by decide
theorem notIn_eN (k : Nat) (l : List Nat) : gNotIn (.int (k : Int)) (.lst (l.map eN)) = some (.bl (!decide (k ∈ l))) := by
  have h := in_eN k false l
  unfold gIn at h
  unfold gNotIn
  rw [show (D.lst (l.map eN)).seq = some (l.map eN) from rfl, Option.bind_some] at *
  rw [show (sqD false (l.map eN)).seq = some (l.map eN) from rfl, Option.bind_some] at h
  rw [show D.fv (.int (k : Int)) = some (V.int k) from rfl, Option.bind_some] at *
  obtain ⟨vs, e1, e2⟩ := Option.map_eq_some_iff.mp h
  rw [e1, Option.map_some]
  injection e2 with e2
  rw [e2]
section
variable {row : List Nat} {unit : Bool} {n : Nat} {a b c d e f g h i : T}
abbrev ρW (row : List Nat) (unit : Bool) (n : Nat) (ord a b c d e f g h : T) : Rho := [.sh (.lst (row.map eN)), .sh (.bl unit), .sh (.int 6), .sh (.int (n : Int)), .sh (.lst (bitsN.map eN)), ord, a, b, c, d, e, f, g, h]
theorem wide_order (code : Int) (h6 : n ≤ 6) : ∃ order a b c, Perm n order ∧ law_wide_kinds_5 (ρW row unit n (rwT []) (.sh (.int code)) .no .no .no .no .no .no .no) = some (.nx (ρW row unit n (rwT order) a b c .no .no .no .no .no)) := by
  have hlim : (lim : Nat) = 1000000 := rfl
  unfold law_wide_kinds_5
  obtain ⟨ρ', e5, order, cd, x, y, h1, h2, h3, rfl⟩ := for_inv (enc := eN) (it := fRg1 (nm 3)) (bind := gNm 7) (body := law_wide_kinds_5b) (xs := List.range n) (ρ := ρW row unit n (rwT []) (.sh (.int code)) .no .no .no .no .no .no .no)
    (fun j ρ => ∃ (order : List Nat) (cd : Int) (x y : T), order.length = j ∧ order.Nodup ∧ (∀ k ∈ order, k < n) ∧ ρ = ρW row unit n (rwT order) (.sh (.int cd)) x y .no .no .no .no .no) (rg1_nat (n := n) rfl (by omega)) ⟨[], code, .no, .no, rfl, .nil, by simp, rfl⟩ (fun j hj ρ ⟨order, cd, x, y, h1, h2, h3, e⟩ => by
      subst e
      rw [List.length_range] at hj
      let left := (List.range n).filter fun k => !decide (k ∈ order)
      have hpos : 0 < left.length := by
        rcases Nat.eq_zero_or_pos left.length with h0 | h0
        · exfalso
          have he := List.length_eq_zero_iff.mp h0
          have := (List.nodup_range (n := n)).length_le_of_subset (l₂ := order) fun k hk => by
            have := List.filter_eq_nil_iff.mp he k hk
            simpa using this
          rw [List.length_range] at this
          omega
        · exact h0
      have hle : left.length ≤ n := by
        have := List.length_filter_le (fun k => !decide (k ∈ order)) (List.range n)
        rw [List.length_range] at this
        exact this
      have e6 : law_wide_kinds_6 (ρW row unit n (rwT order) (.sh (.int cd)) (.sh (eN (List.range n)[j])) y .no .no .no .no .no) = some (.nx (ρW row unit n (rwT order) (.sh (.int cd)) (.sh (eN (List.range n)[j])) (rwT left) .no .no .no .no .no)) := by
        have : fLc (fRg1 (nm 3)) (gNm 13) law_wide_kinds_6t law_wide_kinds_6e [13] (ρW row unit n (rwT order) (.sh (.int cd)) (.sh (eN (List.range n)[j])) y .no .no .no .no .no) = some (rwT left) := by
          refine fLc_eval (enc := eN) _ eN (rg1_nat (n := n) rfl (by omega)) (by simp; omega) fun k hk => ⟨tBl_of ?_, fun _ => rfl⟩
          have hq : nmQ 5 ((wipeR (ρW row unit n (rwT order) (.sh (.int cd)) (.sh (eN (List.range n)[j])) y .no .no .no .no .no) [13]).set 13 (.sh (eN k))) = some (.lst (order.map eN)) := by
            simp only [wipeR, List.set, nmQ_succ, nmQ_rw]
          show ((nm 13 _).bind fun x => (nmQ 5 ((wipeR (ρW row unit n (rwT order) (.sh (.int cd)) (.sh (eN (List.range n)[j])) y .no .no .no .no .no) [13]).set 13 (.sh (eN k)))).bind fun y => gNotIn x y) = _
          rw [hq]
          exact notIn_eN k order
        unfold law_wide_kinds_6 gOwn
        rw [this]
        rfl
      obtain ⟨q, eq, hq⟩ := nat_of (i := cd) hpos
      have hql : nmQ 8 (ρW row unit n (rwT order) (.sh (.int cd)) (.sh (eN (List.range n)[j])) (rwT left) .no .no .no .no .no) = some (.lst (left.map eN)) := by simp only [nmQ_succ, nmQ_rw]
      have hmem := List.getElem_mem (l := left) hq
      obtain ⟨m1, m2⟩ := List.mem_filter.mp hmem
      have e7 : law_wide_kinds_7 (ρW row unit n (rwT order) (.sh (.int cd)) (.sh (eN (List.range n)[j])) (rwT left) .no .no .no .no .no) = some (.nx (ρW row unit n (rwT (order ++ [left[q]])) (.sh (.int cd)) (.sh (eN (List.range n)[j])) (rwT left) .no .no .no .no .no)) := by
        unfold law_wide_kinds_7
        rw [app_row (row := order) (n := left[q]) rfl (by omega) (by
          show ((nmQ 8 _).bind fun x => (((nm 6 _).bind gInt).bind fun x => ((nmQ 8 (ρW row unit n (rwT order) (.sh (.int cd)) (.sh (eN (List.range n)[j])) (rwT left) .no .no .no .no .no)).bind gLen).bind fun y => gMod x y).bind fun y => gIx x y) = _
          rw [hql]
          simp only [nm_succ, nm_zero, Option.bind_some, e_int, e_len_l, List.length_map]
          rw [e_mod (by omega), Option.bind_some, eq, ix_l]
          simp [hq, eN])]
        rfl
      have e8 : law_wide_kinds_8 (ρW row unit n (rwT (order ++ [left[q]])) (.sh (.int cd)) (.sh (eN (List.range n)[j])) (rwT left) .no .no .no .no .no) = some (.nx (ρW row unit n (rwT (order ++ [left[q]])) (.sh (.int (cd / (left.length : Int)))) (.sh (eN (List.range n)[j])) (rwT left) .no .no .no .no .no)) := by
        have hql : nmQ 8 (ρW row unit n (rwT (order ++ [left[q]])) (.sh (.int cd)) (.sh (eN (List.range n)[j])) (rwT left) .no .no .no .no .no) = some (.lst (left.map eN)) := by simp only [nmQ_succ, nmQ_rw]
        unfold law_wide_kinds_8 gSet
        show ((((nm 6 _).bind gInt).bind fun x => ((nmQ 8 (ρW row unit n (rwT (order ++ [left[q]])) (.sh (.int cd)) (.sh (eN (List.range n)[j])) (rwT left) .no .no .no .no .no)).bind gLen).bind fun y => gFdiv x y).map _) = _
        rw [hql]
        simp only [nm_succ, nm_zero, Option.bind_some, e_int, e_len_l, List.length_map]
        rw [e_fdiv (by omega) (by omega)]
        rfl
      refine ⟨_, _, rfl, .inl ?_, order ++ [left[q]], cd / (left.length : Int), .sh (eN (List.range n)[j]), rwT left, by simp [h1], ?_, fun k hk => ?_, rfl⟩
      · unfold law_wide_kinds_5b gSeq
        show (law_wide_kinds_6 (ρW row unit n (rwT order) (.sh (.int cd)) (.sh (eN (List.range n)[j])) y .no .no .no .no .no)).bind _ = _
        rw [e6, Option.bind_some]
        simp only
        rw [e7, Option.bind_some]
        simp only
        exact e8
      · refine List.nodup_append.mpr ⟨h2, by simp, fun a ha b hb e => ?_⟩
        rw [List.mem_singleton.mp hb] at e
        subst e
        simp at m2
        exact m2 ha
      · rcases List.mem_append.mp hk with hk | hk
        · exact h3 k hk
        · rw [List.mem_singleton.mp hk]; exact List.mem_range.mp m1)
  rw [List.length_range] at h1
  exact ⟨order, _, x, y, ⟨h1, h2, h3⟩, e5⟩
/-- what a slot holds of a list of kinds: read, it is this -/
def Rd (t : T) (l : List Nat) : Prop := ∀ ρ : Rho, nmQ 0 (t :: ρ) = some (.lst (l.map eN))
theorem rd_rw (l : List Nat) : Rd (rwT l) l := fun ρ => nmQ_rw l ρ
theorem rd_sh (l : List Nat) : Rd (.sh (.lst (l.map eN))) l := fun ρ => rfl
theorem test_gt {fi : FX} {ρ : Rho} {v : Nat} {k : Int} (h : fi ρ = some (.int (v : Int))) : tBl (f2 gGt fi (cst (.int k))) ρ = some (decide (k < (v : Int))) := by
  refine tBl_of ?_
  unfold f2
  rw [h, Option.bind_some, cst_at, Option.bind_some, e_gt]
theorem test_eq {fi : FX} {ρ : Rho} {v : Nat} {k : Int} (h : fi ρ = some (.int (v : Int))) : tBl (f2 gEq fi (cst (.int k))) ρ = some (decide ((v : Int) = k)) := by
  refine tBl_of ?_
  unfold f2
  rw [h, Option.bind_some, cst_at, Option.bind_some, e_eq]
theorem tOr_ex {ta tb : Rho → Option Bool} {ρ : Rho} {a : Bool} (h1 : ta ρ = some a) (h2 : ∃ b, tb ρ = some b) : ∃ c, tOrF ta tb ρ = some c := by
  unfold tOrF
  rw [h1, Option.bind_some]
  cases a with
  | true => exact ⟨true, rfl⟩
  | false => exact h2
theorem rg2_nat {fa fb : FX} {ρ : Rho} {j n : Nat} (h1 : fa ρ = some (.int (j : Int))) (h2 : fb ρ = some (.int (n : Int))) (hj : j ≤ 1000) (hn : n ≤ 1000) : fRg2 fa fb ρ = some (((List.range (n - j)).map fun i => j + i).map eN) := by
  unfold fRg2
  rw [h1, h2, Option.bind_some, Option.bind_some]
  simp only
  rw [if_pos (by omega)]
  unfold rangeD
  rw [List.map_map, show ((n : Int) - (j : Int)).toNat = n - j by omega]
  congr 1
end
end G

/-! _law_wide_kinds: the next kinds of one kind. -/
namespace G
open L2 PyProof.Rows PySem.Spec PySem SX C8 FL
section
variable {row : List Nat} {unit : Bool} {n j : Nat} {ord a c d e f g h : T}
theorem wide_mask (R : RowOk wideZ row) (h0 : 0 < j) (hj : j < 6) : ∃ m : Nat, 1 ≤ m ∧ m < 2 ^ j ∧ law_wide_kinds_16 (ρW row unit n ord a (.sh (eN j)) c d e f g h) = some (.nx (ρW row unit n ord a (.sh (eN j)) c d e f (.sh (.int (m : Int))) h)) := by
  have h2 : 2 ≤ 2 ^ j := by
    have : ∀ j < 6, 0 < j → 2 ≤ 2 ^ j := by decide
    exact this j hj h0
  have hr := row_ixg R (ρ := ρW row unit n ord a (.sh (eN j)) c d e f g h) (j := 5 + 5 * j) rfl (idx5 5 rfl) (by show _ < 33; omega)
  have hb := bits_ix (fi := nm 7) (ρ := ρW row unit n ord a (.sh (eN j)) c d e f g h) (j := j) rfl rfl hj
  have hlt := Nat.mod_lt (row.getD (5 + 5 * j) 0) (show 0 < 2 ^ j - 1 by omega)
  refine ⟨1 + row.getD (5 + 5 * j) 0 % (2 ^ j - 1), by omega, by omega, ?_⟩
  have : f2 gAddI (cst (.int 1)) (f2 gMod (f1 gInt (f2 gIx (nm 0) (f2 gAddI (cst (.int 5)) (f2 gMul (cst (.int 5)) (nm 7))))) (f2 FL.gSub (f2 gIx (nm 4) (nm 7)) (cst (.int 1)))) (ρW row unit n ord a (.sh (eN j)) c d e f g h) = some (.int ((1 + row.getD (5 + 5 * j) 0 % (2 ^ j - 1) : Nat) : Int)) := by
    show ((cst (.int 1) _).bind fun x => (((f2 gIx (nm 0) (f2 gAddI (cst (.int ((5 : Nat) : Int))) (f2 gMul (cst (.int 5)) (nm 7))) _).bind gInt).bind fun x => ((f2 gIx (nm 4) (nm 7) _).bind fun x => (cst (.int 1) _).bind fun y => FL.gSub x y).bind fun y => gMod x y).bind fun y => gAddI x y) = _
    rw [hr, hb]
    simp only [cst_at, Option.bind_some, e_int, e_sub]
    rw [show ((2 ^ j : Nat) : Int) - 1 = ((2 ^ j - 1 : Nat) : Int) by omega, e_mod (by omega), Option.bind_some, e_add]
    congr 2
  unfold law_wide_kinds_16 gSet
  rw [this]
  rfl
theorem wide_mask2 (R : RowOk wideZ row) (h0 : 0 < j) (hj : j < 6) {m : Nat} (h1 : 1 ≤ m) (h2 : m < 2 ^ j) : ∃ m' : Nat, 1 ≤ m' ∧ m' < 2 ^ j ∧ law_wide_kinds_17 (ρW row unit n ord a (.sh (eN j)) c d e f (.sh (.int (m : Int))) h) = some (.nx (ρW row unit n ord a (.sh (eN j)) c d e f (.sh (.int (m' : Int))) h)) := by
  have hr2 := row_ixg R (fi := cst (.int 2)) (ρ := ρW row unit n ord a (.sh (eN j)) c d e f (.sh (.int (m : Int))) h) (j := 2) rfl rfl (by show _ < 33; omega)
  unfold law_wide_kinds_17
  refine gIf_ex (P := fun o => ∃ m' : Nat, 1 ≤ m' ∧ m' < 2 ^ j ∧ o = some (.nx (ρW row unit n ord a (.sh (eN j)) c d e f (.sh (.int (m' : Int))) h))) ⟨_, test_gt hr2⟩ (fun _ => ?_) fun _ => ⟨m, h1, h2, rfl⟩
  have hs : f2 FL.gSub (nm 7) (cst (.int 1)) (ρW row unit n ord a (.sh (eN j)) c d e f (.sh (.int (m : Int))) h) = some (.int ((j - 1 : Nat) : Int)) := by
    show some (D.int ((j : Int) - 1)) = _
    rw [show (j : Int) - 1 = ((j - 1 : Nat) : Int) by omega]
  have hb := bits_ix (fi := f2 FL.gSub (nm 7) (cst (.int 1))) (ρ := ρW row unit n ord a (.sh (eN j)) c d e f (.sh (.int (m : Int))) h) (j := j - 1) rfl hs (by omega)
  have hr := row_ixg R (ρ := ρW row unit n ord a (.sh (eN j)) c d e f (.sh (.int (m : Int))) h) (j := 4 + 5 * j) rfl (idx5 4 rfl) (by show _ < 33; omega)
  obtain ⟨p0, p1⟩ := pow_le (show j - 1 < 6 by omega)
  have hpow : 2 ^ j = 2 ^ (j - 1) + 2 ^ (j - 1) := by
    rw [show j = (j - 1) + 1 by omega, Nat.pow_succ]
    simp
    omega
  let bq : Nat := if ((row.getD (4 + 5 * j) 0 : Nat) : Int) = 0 then 1 else 0
  have hbq : bq ≤ 1 := by simp only [bq]; split <;> omega
  have hm := Nat.mod_lt m p0
  have hmul : m % 2 ^ (j - 1) * bq ≤ m % 2 ^ (j - 1) := by
    have := Nat.mul_le_mul_left (m % 2 ^ (j - 1)) hbq
    omega
  refine ⟨2 ^ (j - 1) + m % 2 ^ (j - 1) * bq, by omega, by omega, ?_⟩
  have hbi : (if (decide (((row.getD (4 + 5 * j) 0 : Nat) : Int) = 0)) = true then (1 : Int) else 0) = (bq : Int) := by
    simp only [bq, decide_eq_true_eq]
    split <;> rfl
  have : f2 gAddI (f2 gIx (nm 4) (f2 FL.gSub (nm 7) (cst (.int 1)))) (f2 gMul (f2 gMod (f1 gInt (nm 12)) (f2 gIx (nm 4) (f2 FL.gSub (nm 7) (cst (.int 1))))) (f1 gInt (f2 gEq (f2 gIx (nm 0) (f2 gAddI (cst (.int 4)) (f2 gMul (cst (.int 5)) (nm 7)))) (cst (.int 0))))) (ρW row unit n ord a (.sh (eN j)) c d e f (.sh (.int (m : Int))) h) = some (.int ((2 ^ (j - 1) + m % 2 ^ (j - 1) * bq : Nat) : Int)) := by
    show ((f2 gIx (nm 4) (f2 FL.gSub (nm 7) (cst (.int 1))) _).bind fun x => ((((nm 12 _).bind gInt).bind fun x => (f2 gIx (nm 4) (f2 FL.gSub (nm 7) (cst (.int 1))) _).bind fun y => gMod x y).bind fun x => (((f2 gIx (nm 0) (f2 gAddI (cst (.int ((4 : Nat) : Int))) (f2 gMul (cst (.int 5)) (nm 7))) _).bind fun x => (cst (.int 0) _).bind fun y => gEq x y).bind gInt).bind fun y => gMul x y).bind fun y => gAddI x y) = _
    rw [hb, hr]
    simp only [nm_succ, nm_zero, cst_at, Option.bind_some, e_int, e_eq, gInt]
    rw [e_mod (by omega), Option.bind_some, hbi, show (m : Int) % ((2 ^ (j - 1) : Nat) : Int) = ((m % 2 ^ (j - 1) : Nat) : Int) from rfl, e_mul (.inr (by omega)), Option.bind_some, e_add]
    congr 2
  unfold law_wide_kinds_18 gSet
  rw [this]
  rfl
theorem wide_next (R : RowOk wideZ row) (hjn : j < n) (h6 : n ≤ 6) : ∃ (l : List Nat) (t11 t12 : T), Rd t11 l ∧ l.Nodup ∧ (∀ k ∈ l, k < n) ∧ (l = [] ∨ ∃ m ∈ l, m < j) ∧
    law_wide_kinds_15 (ρW row unit n ord a (.sh (eN j)) c d e (.sh (.lst ([].map eN))) g h) = some (.nx (ρW row unit n ord a (.sh (eN j)) c d e t11 t12 h)) := by
  have hlim : (lim : Nat) = 1000000 := rfl
  have hj : j < 6 := by omega
  have hr2 := row_ixg R (fi := cst (.int 2)) (ρ := ρW row unit n ord a (.sh (eN j)) c d e (.sh (.lst ([].map eN))) g h) (j := 2) rfl rfl (by show _ < 33; omega)
  have hr4 := row_ixg R (ρ := ρW row unit n ord a (.sh (eN j)) c d e (.sh (.lst ([].map eN))) g h) (j := 4 + 5 * j) rfl (idx5 4 rfl) (by show _ < 33; omega)
  have t0 : tBl (f2 gGt (nm 7) (cst (.int 0))) (ρW row unit n ord a (.sh (eN j)) c d e (.sh (.lst ([].map eN))) g h) = some (decide ((0 : Int) < (j : Int))) := rfl
  unfold law_wide_kinds_15
  refine gIf_ex (P := fun o => ∃ (l : List Nat) (t11 t12 : T), Rd t11 l ∧ l.Nodup ∧ (∀ k ∈ l, k < n) ∧ (l = [] ∨ ∃ m ∈ l, m < j) ∧ o = some (.nx (ρW row unit n ord a (.sh (eN j)) c d e t11 t12 h))) (tAnd_ex t0 fun _ => tOr_ex (test_gt hr2) ⟨_, test_gt (k := 0) hr4⟩) (fun ht => ?_) fun _ => ⟨[], _, g, rd_sh [], .nil, by simp, .inl rfl, rfl⟩
  have h0 : 0 < j := by
    unfold tAndF at ht
    rw [t0, Option.bind_some] at ht
    by_cases hc : (0 : Int) < (j : Int)
    · omega
    · rw [decide_eq_false hc] at ht; cases ht
  obtain ⟨m0, a1, a2, e16⟩ := wide_mask (row := row) (unit := unit) (n := n) (ord := ord) (a := a) (c := c) (d := d) (e := e) (f := .sh (.lst ([].map eN))) (g := g) (h := h) R h0 hj
  obtain ⟨m, b1, b2, e17⟩ := wide_mask2 (row := row) (unit := unit) (n := n) (ord := ord) (a := a) (c := c) (d := d) (e := e) (f := .sh (.lst ([].map eN))) (h := h) R h0 hj a1 a2
  let p : Nat → Bool := fun k => decide (((m : Int) / ((2 ^ k : Nat) : Int)) % 2 = 1)
  let l1 := (List.range j).filter p
  have e19 : law_wide_kinds_19 (ρW row unit n ord a (.sh (eN j)) c d e (.sh (.lst ([].map eN))) (.sh (.int (m : Int))) h) = some (.nx (ρW row unit n ord a (.sh (eN j)) c d e (rwT l1) (.sh (.int (m : Int))) h)) := by
    have : fLc (fRg1 (nm 7)) (gNm 13) law_wide_kinds_19t law_wide_kinds_19e [13] (ρW row unit n ord a (.sh (eN j)) c d e (.sh (.lst ([].map eN))) (.sh (.int (m : Int))) h) = some (rwT l1) := by
      refine fLc_eval (enc := eN) p eN (rg1_nat (n := j) rfl (by omega)) (by simp; omega) fun k hk => ⟨tBl_of ?_, fun _ => rfl⟩
      have hk := List.mem_range.mp hk
      have hb := bits_ix (fi := nm 13) (ρ := (wipeR (ρW row unit n ord a (.sh (eN j)) c d e (.sh (.lst ([].map eN))) (.sh (.int (m : Int))) h) [13]).set 13 (.sh (eN k))) (j := k) rfl rfl (by omega)
      obtain ⟨p0, p1⟩ := pow_le (show k < 6 by omega)
      show (((nm 12 _).bind fun x => (f2 gIx (nm 4) (nm 13) ((wipeR (ρW row unit n ord a (.sh (eN j)) c d e (.sh (.lst ([].map eN))) (.sh (.int (m : Int))) h) [13]).set 13 (.sh (eN k)))).bind fun y => gFdiv x y).bind fun x => (cst (.int 2) _).bind fun y => gMod x y).bind _ = _
      rw [hb]
      simp only [wipeR, List.set, nm_succ, nm_zero, cst_at, Option.bind_some]
      rw [e_fdiv (by omega) (by omega), Option.bind_some, e_mod (by omega), Option.bind_some, e_eq]
    unfold law_wide_kinds_19 gOwn
    rw [this]
    rfl
  have hl1 : ∀ k ∈ l1, k < j := fun k hk => List.mem_range.mp (List.mem_filter.mp hk).1
  have hn1 : l1.Nodup := List.nodup_range.filter _
  have hx1 : ∃ k ∈ l1, k < j := by
    obtain ⟨k, k1, k2⟩ := bit_ex j hj m b2 b1
    refine ⟨k, List.mem_filter.mpr ⟨List.mem_range.mpr k1, ?_⟩, k1⟩
    simp only [p, decide_eq_true_eq]
    rw [show (m : Int) / ((2 ^ k : Nat) : Int) = ((m / 2 ^ k : Nat) : Int) from rfl]
    omega
  have e20 : ∃ (l : List Nat) (t11 : T), Rd t11 l ∧ l.Nodup ∧ (∀ k ∈ l, k < n) ∧ (l = [] ∨ ∃ m ∈ l, m < j) ∧ law_wide_kinds_20 (ρW row unit n ord a (.sh (eN j)) c d e (rwT l1) (.sh (.int (m : Int))) h) = some (.nx (ρW row unit n ord a (.sh (eN j)) c d e t11 (.sh (.int (m : Int))) h)) := by
    have hr2 := row_ixg R (fi := cst (.int 2)) (ρ := ρW row unit n ord a (.sh (eN j)) c d e (rwT l1) (.sh (.int (m : Int))) h) (j := 2) rfl rfl (by show _ < 33; omega)
    have hr7 := row_ixg R (ρ := ρW row unit n ord a (.sh (eN j)) c d e (rwT l1) (.sh (.int (m : Int))) h) (j := 7 + 5 * j) rfl (idx5 7 rfl) (by show _ < 33; omega)
    have t3 : f2 gMod (f2 gIx (nm 0) (cst (.int 2))) (cst (.int 3)) (ρW row unit n ord a (.sh (eN j)) c d e (rwT l1) (.sh (.int (m : Int))) h) = some (.int ((row.getD 2 0 % 3 : Nat) : Int)) := by
      show (f2 gIx (nm 0) (cst (.int 2)) _).bind _ = _
      rw [hr2]
      simp only [cst_at, Option.bind_some]
      rw [e_mod (by omega)]
      rfl
    unfold law_wide_kinds_20
    refine gIf_ex (P := fun o => ∃ (l : List Nat) (t11 : T), Rd t11 l ∧ l.Nodup ∧ (∀ k ∈ l, k < n) ∧ (l = [] ∨ ∃ m ∈ l, m < j) ∧ o = some (.nx (ρW row unit n ord a (.sh (eN j)) c d e t11 (.sh (.int (m : Int))) h))) (tAnd_ex (test_eq t3) fun _ => ⟨_, test_eq (k := 0) hr7⟩) (fun _ => ?_) fun _ => ⟨l1, _, rd_rw l1, hn1, fun k hk => Nat.lt_trans (hl1 k hk) hjn, .inr hx1, rfl⟩
    let xs := (List.range (n - j)).map fun i => j + i
    let q : Nat → Bool := fun k => decide ((((row.getD (6 + 5 * j) 0 : Nat) : Int) / ((2 ^ k : Nat) : Int)) % 2 = 1)
    have hxs : ∀ k ∈ xs, j ≤ k ∧ k < n := fun k hk => by
      obtain ⟨i, hi, rfl⟩ := List.mem_map.mp hk
      have := List.mem_range.mp hi
      omega
    have hxn : xs.Nodup := List.pairwise_map.mpr (List.nodup_range.imp fun h e => h (by omega))
    have el : fGive (fLc (fRg2 (nm 7) (nm 3)) (gNm 13) law_wide_kinds_21t law_wide_kinds_21e [13]) (ρW row unit n ord a (.sh (eN j)) c d e (rwT l1) (.sh (.int (m : Int))) h) = some (.lst ((xs.filter q).map eN)) := by
      refine give_eval (enc := eN) q eN (rg2_nat (j := j) (n := n) rfl rfl (by omega) (by omega)) (by simp [xs]; omega) fun k hk => ⟨tBl_of ?_, fun _ => rfl⟩
      obtain ⟨_, hkn⟩ := hxs k hk
      have hb := bits_ix (fi := nm 13) (ρ := (wipeR (ρW row unit n ord a (.sh (eN j)) c d e (rwT l1) (.sh (.int (m : Int))) h) [13]).set 13 (.sh (eN k))) (j := k) rfl rfl (by omega)
      have hr6 := row_ixg R (ρ := (wipeR (ρW row unit n ord a (.sh (eN j)) c d e (rwT l1) (.sh (.int (m : Int))) h) [13]).set 13 (.sh (eN k))) (j := 6 + 5 * j) rfl (idx5 6 rfl) (by show _ < 33; omega)
      obtain ⟨p0, p1⟩ := pow_le (show k < 6 by omega)
      show ((((f2 gIx (nm 0) (f2 gAddI (cst (.int ((6 : Nat) : Int))) (f2 gMul (cst (.int 5)) (nm 7))) ((wipeR (ρW row unit n ord a (.sh (eN j)) c d e (rwT l1) (.sh (.int (m : Int))) h) [13]).set 13 (.sh (eN k)))).bind gInt).bind fun x => (f2 gIx (nm 4) (nm 13) ((wipeR (ρW row unit n ord a (.sh (eN j)) c d e (rwT l1) (.sh (.int (m : Int))) h) [13]).set 13 (.sh (eN k)))).bind fun y => gFdiv x y).bind fun x => (cst (.int 2) _).bind fun y => gMod x y).bind _ = _
      rw [hr6, hb]
      simp only [cst_at, Option.bind_some, e_int]
      rw [e_fdiv (by omega) (by omega), Option.bind_some, e_mod (by omega), Option.bind_some, e_eq]
    have hq : nmQ 11 (ρW row unit n ord a (.sh (eN j)) c d e (rwT l1) (.sh (.int (m : Int))) h) = some (.lst (l1.map eN)) := by simp only [nmQ_succ, nmQ_rw]
    refine ⟨l1 ++ xs.filter q, .sh (.lst ((l1 ++ xs.filter q).map eN)), rd_sh _, ?_, fun k hk => ?_, .inr ?_, ?_⟩
    · refine List.nodup_append.mpr ⟨hn1, hxn.filter _, fun x hx y hy exy => ?_⟩
      have := hl1 x hx
      have := (hxs y (List.mem_filter.mp hy).1).1
      omega
    · rcases List.mem_append.mp hk with hk | hk
      · exact Nat.lt_trans (hl1 k hk) hjn
      · exact (hxs k (List.mem_filter.mp hk).1).2
    · obtain ⟨k, k1, k2⟩ := hx1
      exact ⟨k, List.mem_append_left _ k1, k2⟩
    · unfold law_wide_kinds_21 gSet
      show (((nmQ 11 _).bind fun x => (fGive _ _).bind fun y => gCatL x y).map _) = _
      rw [hq, el, Option.bind_some, Option.bind_some, catL_at (by
        have h1 := List.length_filter_le p (List.range j)
        have h2 := List.length_filter_le q xs
        rw [List.length_range] at h1
        have h3 : xs.length = n - j := by simp [xs]
        have h4 : l1.length ≤ j := h1
        rw [List.length_map, List.length_map]
        omega), ← List.map_append]
      rfl
  obtain ⟨l, t11, r1, r2, r3, r4, e20⟩ := e20
  refine ⟨l, t11, .sh (.int (m : Int)), r1, r2, r3, r4, ?_⟩
  unfold gSeq
  rw [e16, Option.bind_some]
  simp only
  rw [e17, Option.bind_some]
  simp only
  rw [e19, Option.bind_some]
  simp only
  exact e20
end
end G

/-! _law_wide_kinds: the whole. -/
namespace G
open L2 PyProof.Rows PySem.Spec PySem SX C8 FL
theorem Plain.set {pl : List Kd} (A : Plain pl) {j : Nat} {z : Int} {l : List Nat} (z1 : 1 ≤ z) (z3 : z ≤ 3) (hn : l.Nodup) (hl : ∀ k ∈ l, k < pl.length) (hh : l = [] ∨ ∃ m ∈ l, m < j) : Plain (pl.set j (z, l)) := by
  generalize hq : pl.set j (z, l) = q
  have hlen : q.length = pl.length := by rw [← hq]; simp
  have hk : ∀ i, kat q i = if j = i ∧ j < pl.length then (z, l) else kat pl i := fun i => by rw [← hq, kat_set]
  refine ⟨by rw [hlen]; exact A.len, fun i hi => ?_, fun i hi => ?_, fun i hi => ?_, fun i hi => ?_, fun i hi => ?_⟩
  all_goals rw [hlen] at *
  all_goals simp only [sz, nx]
  all_goals rw [hk]
  all_goals split
  · exact z1
  · exact A.sz1 i hi
  · exact z3
  · exact A.sz3 i hi
  · exact hn
  · exact A.nd i hi
  · exact hl
  · exact A.lt i hi
  · rename_i e
    rw [← e.1]; exact hh
  · exact A.home i hi
theorem turnF_set {pl : List Kd} {place : List Nat} {j : Nat} {x : Kd} : ∀ i, i ≤ j → turnF (pl.set j x) place i = turnF pl place i
  | 0 => fun _ => by unfold turnF; simp
  | i + 1 => fun h => by
    rw [turnF_succ, turnF_succ, turnF_set i (by omega)]
    congr 1
    have hk : kat (pl.set j x) i = kat pl i := by rw [kat_set, if_neg (by omega)]
    unfold turnK sz nx
    rw [hk]
section
variable {row : List Nat} {unit : Bool} {n j : Nat} {a c d e f g h : T}
theorem wide_body (R : RowOk wideZ row) (hjn : j < n) (h6 : n ≤ 6) {order : List Nat} (P : Perm n order) {pl : List Kd} (hlen : pl.length = n) (A : Plain pl) : ∃ (pl' : List Kd) (x y z : T), pl'.length = n ∧ Plain pl' ∧
    law_wide_kinds_10b (ρW row unit n (rwT order) a (.sh (eN j)) c (kwT (turnF pl order j)) e f g .no) = some (.nx (ρW row unit n (rwT order) a (.sh (eN j)) c (kwT (turnF pl' order (j + 1))) x y z .no)) := by
  have hlim : (lim : Nat) = 1000000 := rfl
  have e11 : ∃ z : Int, 1 ≤ z ∧ z ≤ 3 ∧ law_wide_kinds_11 (ρW row unit n (rwT order) a (.sh (eN j)) c (kwT (turnF pl order j)) e f g .no) = some (.nx (ρW row unit n (rwT order) a (.sh (eN j)) c (kwT (turnF pl order j)) (.sh (.int z)) f g .no)) := by
    have hr := row_ixg R (ρ := ρW row unit n (rwT order) a (.sh (eN j)) c (kwT (turnF pl order j)) e f g .no) (j := 3 + 5 * j) rfl (idx5 3 rfl) (by show _ < 33; omega)
    have hlt : row.getD (3 + 5 * j) 0 < 6 := by
      have := (row_at R (j := 3 + 5 * j) (by show _ < 33; omega)).2
      have h : ∀ j < 6, wideZ.getD (3 + 5 * j) 0 = 6 := by decide
      rw [h j (by omega)] at this
      exact this
    have hz : ∀ i < 6, 1 ≤ ([1, 1, 2, 1, 3, 2] : List Nat).getD i 0 ∧ ([1, 1, 2, 1, 3, 2] : List Nat).getD i 0 ≤ 3 := by decide
    obtain ⟨z1, z2⟩ := hz _ hlt
    refine ⟨((([1, 1, 2, 1, 3, 2] : List Nat).getD (row.getD (3 + 5 * j) 0) 0 : Nat) : Int), by omega, by omega, ?_⟩
    unfold law_wide_kinds_11 gSet
    show (((some (.lst (([1, 1, 2, 1, 3, 2] : List Nat).map eN)) : Option D).bind fun x => (f2 gIx (nm 0) (f2 gAddI (cst (.int ((3 : Nat) : Int))) (f2 gMul (cst (.int 5)) (nm 7))) _).bind fun y => gIx x y).map _) = _
    rw [hr, Option.bind_some, Option.bind_some, ix_list (by simpa using hlt)]
    rfl
  obtain ⟨z0, y1, y3, e11⟩ := e11
  have e12 : ∃ z : Int, 1 ≤ z ∧ z ≤ 3 ∧ law_wide_kinds_12 (ρW row unit n (rwT order) a (.sh (eN j)) c (kwT (turnF pl order j)) (.sh (.int z0)) f g .no) = some (.nx (ρW row unit n (rwT order) a (.sh (eN j)) c (kwT (turnF pl order j)) (.sh (.int z)) f g .no)) := by
    cases unit with
    | true => exact ⟨1, by omega, by omega, rfl⟩
    | false => exact ⟨z0, y1, y3, rfl⟩
  obtain ⟨z, z1, z3, e12⟩ := e12
  have e14 : law_wide_kinds_14 (ρW row unit n (rwT order) a (.sh (eN j)) c (kwT (turnF pl order j)) (.sh (.int z)) f g .no) = some (.nx (ρW row unit n (rwT order) a (.sh (eN j)) c (kwT (turnF pl order j)) (.sh (.int z)) (.sh (.lst ([].map eN))) g .no)) := rfl
  obtain ⟨l, t11, t12, r1, r2, r3, r4, e15⟩ := wide_next (row := row) (unit := unit) (ord := rwT order) (a := a) (c := c) (d := kwT (turnF pl order j)) (e := .sh (.int z)) (g := g) (h := .no) R hjn h6
  let pl' := pl.set j (z, l)
  have hl' : pl'.length = n := by simp [pl', hlen]
  have A' : Plain pl' := A.set z1 z3 r2 (by rw [hlen]; exact r3) r4
  have hkat : kat pl' j = (z, l) := by
    show kat (pl.set j (z, l)) j = _
    rw [kat_set, if_pos ⟨rfl, by omega⟩]
  have e22 : law_wide_kinds_22 (ρW row unit n (rwT order) a (.sh (eN j)) c (kwT (turnF pl order j)) (.sh (.int z)) t11 t12 .no) = some (.nx (ρW row unit n (rwT order) a (.sh (eN j)) c (kwT (turnF pl' order (j + 1))) (.sh (.int z)) t11 t12 .no)) := by
    have hq : ∀ x, nmQ 5 (ρW row unit n (rwT order) a (.sh (eN j)) c (kwT (turnF pl order j)) (.sh (.int z)) t11 t12 x) = some (.lst (order.map eN)) := fun x => by simp only [nmQ_succ, nmQ_rw]
    have hord : ∀ i, i < n → gIx (.lst (order.map eN)) (.int (i : Int)) = some (.int ((plc order i : Nat) : Int)) := fun i hi => ix_list (by rw [P.len]; exact hi)
    have h1 : f2 gIx (nmQ 5) (nm 7) (ρW row unit n (rwT order) a (.sh (eN j)) c (kwT (turnF pl order j)) (.sh (.int z)) t11 t12 .no) = some (.int ((plc order j : Nat) : Int)) := by
      unfold f2
      rw [hq, Option.bind_some]
      exact hord j hjn
    have hq11 : nmQ 11 (ρW row unit n (rwT order) a (.sh (eN j)) c (kwT (turnF pl order j)) (.sh (.int z)) t11 t12 .no) = some (.lst (l.map eN)) := r1 [t12, .no]
    have hl : fGive (fLc (fSeq D.lstOf (nmQ 11)) (gNm 13) tYesF law_wide_kinds_22e [13]) (ρW row unit n (rwT order) a (.sh (eN j)) c (kwT (turnF pl order j)) (.sh (.int z)) t11 t12 .no) = some (.lst ((l.map (plc order)).map eN)) := by
      have hm : (l.map (plc order)).map eN = l.map (eN ∘ plc order) := by rw [List.map_map]
      rw [hm]
      refine give_all (enc := eN) _ (by unfold fSeq; rw [hq11]; rfl) (by
        have := r2.length_le_of_subset (l₂ := List.range n) fun m hm => List.mem_range.mpr (r3 m hm)
        rw [List.length_range] at this
        omega) fun k hk => ?_
      show (nmQ 5 (ρW row unit n (rwT order) a (.sh (eN j)) c (kwT (turnF pl order j)) (.sh (.int z)) t11 t12 (.sh (eN k)))).bind _ = _
      rw [hq, Option.bind_some]
      exact hord k (r3 k hk)
    have hs : fGive (fO1 gSortI (fGive (fLc (fSeq D.lstOf (nmQ 11)) (gNm 13) tYesF law_wide_kinds_22e [13]))) (ρW row unit n (rwT order) a (.sh (eN j)) c (kwT (turnF pl order j)) (.sh (.int z)) t11 t12 .no) = some (.lst ((srtN (l.map (plc order))).map eN)) := give_at (fO1_at hl (sort_eN _))
    unfold law_wide_kinds_22
    rw [setI_eval (i := 9) (ds := (turnF pl order j).map kD) (k := plc order j) (d := kD (turnK pl' order j)) rfl h1 (by rw [List.length_map, turnF_len, hlen]; exact P.plt hjn) (by
      have hz : sz pl' j = z := by unfold sz; rw [hkat]
      have hx : nx pl' j = l := by unfold nx; rw [hkat]
      refine give_at (ds := [.int (sz pl' j), .lst ((srtN ((nx pl' j).map (plc order))).map eN)]) ?_
      rw [hz, hx]
      unfold fLst aoCons aoNil fSh
      rw [show nm 10 (ρW row unit n (rwT order) a (.sh (eN j)) c (kwT (turnF pl order j)) (.sh (.int z)) t11 t12 .no) = some (.int z) from rfl, hs]
      rfl), ← List.map_set]
    have : (turnF pl order j).set (plc order j) (turnK pl' order j) = turnF pl' order (j + 1) := by
      rw [turnF_succ, turnF_set j (Nat.le_refl _)]
    rw [this]
    rfl
  refine ⟨pl', .sh (.int z), t11, t12, hl', A', ?_⟩
  unfold law_wide_kinds_10b gSeq
  rw [e11, Option.bind_some]
  simp only
  rw [e12, Option.bind_some]
  simp only
  rw [e14, Option.bind_some]
  simp only
  rw [e15, Option.bind_some]
  simp only
  exact e22
theorem law_wide_kinds_ok (R : RowOk wideZ row) (unit : Bool) : ∃ ks, Wf ks ∧ Home ks ∧ 0 < ks.length ∧ m_law_wide_kinds [.lst (row.map eN), .bl unit, .int 6] = some (ksD ks) := by
  have hlim : (lim : Nat) = 1000000 := rfl
  obtain ⟨r0, b0⟩ := row_at R (j := 0) (by decide)
  have b0 : row.getD 0 0 < 10 := b0
  let n := manyW.getD (row.getD 0 0) 0
  have hn : 0 < n ∧ n ≤ 6 := by
    have : ∀ i < 10, 0 < manyW.getD i 0 ∧ manyW.getD i 0 ≤ 6 := by decide
    exact this _ b0
  obtain ⟨h0, h6⟩ := hn
  have e1 : law_wide_kinds_1 [.sh (.lst (row.map eN)), .sh (.bl unit), .sh (.int 6), .no, .no, .no, .no, .no, .no, .no, .no, .no, .no, .no] = some (.nx [.sh (.lst (row.map eN)), .sh (.bl unit), .sh (.int 6), .sh (.int (n : Int)), .no, .no, .no, .no, .no, .no, .no, .no, .no, .no]) := by
    have hr := row_ixg R (j := 0) (fi := cst (.int 0)) (ρ := [.sh (.lst (row.map eN)), .sh (.bl unit), .sh (.int 6), .no, .no, .no, .no, .no, .no, .no, .no, .no, .no, .no]) rfl rfl (by decide)
    have : f2 gIx (fGive (fLst (aoCons (fSh (cst (.int 3))) (aoCons (fSh (cst (.int 2))) (aoCons (fSh (cst (.int 3))) (aoCons (fSh (cst (.int 4))) (aoCons (fSh (cst (.int 5))) (aoCons (fSh (cst (.int 4))) (aoCons (fSh (cst (.int 5))) (aoCons (fSh (cst (.int 6))) (aoCons (fSh (cst (.int 1))) (aoCons (fSh (cst (.int 6))) aoNil)))))))))))) (f2 gIx (nm 0) (cst (.int 0))) [.sh (.lst (row.map eN)), .sh (.bl unit), .sh (.int 6), .no, .no, .no, .no, .no, .no, .no, .no, .no, .no, .no] = some (.int (n : Int)) := by
      show ((some (.lst (manyW.map eN)) : Option D).bind fun x => (f2 gIx (nm 0) (cst (.int 0)) _).bind fun y => gIx x y) = _
      rw [hr, Option.bind_some, Option.bind_some]
      exact ix_list b0
    unfold law_wide_kinds_1 gSet
    show (((nm 2 _).bind fun x => (f2 gIx _ _ _).bind fun y => gMin2 x y).map _) = _
    rw [this]
    show ((gMin2 (.int 6) (.int (n : Int))).map _) = _
    have hm : gMin2 (.int 6) (.int (n : Int)) = some (.int (n : Int)) := by
      show some (D.int (if (n : Int) < 6 then (n : Int) else 6)) = _
      by_cases c : (n : Int) < 6
      · rw [if_pos c]
      · rw [if_neg c, show (n : Int) = 6 by omega]
    rw [hm]
    rfl
  have e4 : law_wide_kinds_4 (ρW row unit n (rwT []) .no .no .no .no .no .no .no .no) = some (.nx (ρW row unit n (rwT []) (.sh (.int ((row.getD 1 0 : Nat) : Int))) .no .no .no .no .no .no .no)) := by
    have hr := row_ixg R (j := 1) (fi := cst (.int 1)) (ρ := ρW row unit n (rwT []) .no .no .no .no .no .no .no .no) rfl rfl (by decide)
    unfold law_wide_kinds_4 gSet
    rw [hr]
    rfl
  obtain ⟨order, x6, x7, x8, P, e5⟩ := wide_order (row := row) (unit := unit) ((row.getD 1 0 : Nat) : Int) h6
  have hrep : Plain (List.replicate n (1, []) : List Kd) := by
    have hk : ∀ i < n, kat (List.replicate n (1, []) : List Kd) i = (1, []) := fun i hi => by
      unfold kat
      rw [List.getD_eq_getElem?_getD, List.getElem?_replicate, if_pos hi]
      rfl
    have hl : (List.replicate n (1, []) : List Kd).length = n := by simp
    refine ⟨by rw [hl]; exact h6, fun i hi => ?_, fun i hi => ?_, fun i hi => ?_, fun i hi => ?_, fun i hi => ?_⟩ <;> rw [hl] at hi <;> simp only [sz, nx] <;> rw [hk i hi] <;> simp
  have e9 : law_wide_kinds_9 (ρW row unit n (rwT order) x6 x7 x8 .no .no .no .no .no) = some (.nx (ρW row unit n (rwT order) x6 x7 x8 (kwT (turnF (List.replicate n (1, [])) order 0)) .no .no .no .no)) := by
    unfold law_wide_kinds_9 gOwn
    rw [fLc_all (enc := eN) (fun _ => kD (1, [])) (xs := List.range n) (rg1_nat rfl (by omega)) (by simp; omega) fun k _ => rfl]
    have : (List.range n).map (fun _ => kD (1, [])) = (turnF (List.replicate n (1, [])) order 0).map kD := by
      unfold turnF
      simp [List.map_const']
    rw [this]
    rfl
  obtain ⟨ρ', e10, pl, y7, y10, y11, y12, hpl, A, rfl⟩ := for_inv (enc := eN) (it := fRg1 (nm 3)) (bind := gNm 7) (body := law_wide_kinds_10b) (xs := List.range n) (ρ := ρW row unit n (rwT order) x6 x7 x8 (kwT (turnF (List.replicate n (1, [])) order 0)) .no .no .no .no)
    (fun j ρ => ∃ (pl : List Kd) (y7 y10 y11 y12 : T), pl.length = n ∧ Plain pl ∧ ρ = ρW row unit n (rwT order) x6 y7 x8 (kwT (turnF pl order j)) y10 y11 y12 .no) (rg1_nat rfl (by omega)) ⟨List.replicate n (1, []), x7, .no, .no, .no, by simp, hrep, rfl⟩ (fun j hj ρ ⟨pl, y7, y10, y11, y12, hl, A, e⟩ => by
      subst e
      rw [List.length_range] at hj
      obtain ⟨pl', x, y, z, l1, A', e⟩ := wide_body (row := row) (unit := unit) (a := x6) (c := x8) (e := y10) (f := y11) (g := y12) R hj h6 P hl A
      refine ⟨_, _, rfl, .inl ?_, pl', .sh (eN j), x, y, z, l1, A', rfl⟩
      rw [List.getElem_range]
      exact e)
  rw [List.length_range] at e10
  have P2 : Perm pl.length order := by rw [hpl]; exact P
  obtain ⟨W, Hm⟩ := turned A P2
  rw [hpl] at W Hm
  refine ⟨turnF pl order n, W, Hm, by rw [turnF_len, hpl]; exact h0, ?_⟩
  unfold m_law_wide_kinds mir law_wide_kinds_g gSeq
  show ((law_wide_kinds_1 [.sh (.lst (row.map eN)), .sh (.bl unit), .sh (.int 6), .no, .no, .no, .no, .no, .no, .no, .no, .no, .no, .no]).bind _).bind _ = _
  rw [e1, Option.bind_some]
  simp only
  rw [show law_wide_kinds_2 [.sh (.lst (row.map eN)), .sh (.bl unit), .sh (.int 6), .sh (.int (n : Int)), .no, .no, .no, .no, .no, .no, .no, .no, .no, .no] = some (.nx [.sh (.lst (row.map eN)), .sh (.bl unit), .sh (.int 6), .sh (.int (n : Int)), .sh (.lst (bitsN.map eN)), .no, .no, .no, .no, .no, .no, .no, .no, .no]) from rfl, Option.bind_some]
  simp only
  rw [show law_wide_kinds_3 [.sh (.lst (row.map eN)), .sh (.bl unit), .sh (.int 6), .sh (.int (n : Int)), .sh (.lst (bitsN.map eN)), .no, .no, .no, .no, .no, .no, .no, .no, .no] = some (.nx (ρW row unit n (rwT []) .no .no .no .no .no .no .no .no)) from rfl, Option.bind_some]
  simp only
  rw [e4, Option.bind_some]
  simp only
  rw [e5, Option.bind_some]
  simp only
  rw [e9, Option.bind_some]
  simp only
  rw [show law_wide_kinds_10 = gFor (fRg1 (nm 3)) (gNm 7) law_wide_kinds_10b from rfl, e10, Option.bind_some]
  simp only
  unfold law_wide_kinds_23 gFrz
  rw [show (ρW row unit n (rwT order) x6 y7 x8 (kwT (turnF pl order n)) y10 y11 y12 .no)[9]? = some (kwT (turnF pl order n)) from rfl, Option.bind_some, kwT_D, Option.bind_some]
  rfl
end
end G

/-! _law_asked, law. -/
namespace G
open L2 PyProof.Rows PySem.Spec PySem SX C8 FL
def asD (ks : List Kd) (nms : List D) (b0 b1 : List Nat) (dr : Nat) : D := .lst [ksD ks, bkD nms ks, .lst [.tup (b0.map eN), .tup (b1.map eN)], .int (dr : Int)]
structure Ask (ks : List Kd) (nms : List D) (b0 b1 : List Nat) : Prop where
  wf : Wf ks
  nm : nms.length = ks.length
  h0 : ∀ k ∈ b0, k < ks.length
  h1 : ∀ k ∈ b1, k < ks.length
  l0 : b0.length ≤ 12
  l1 : b1.length ≤ 12
/-- the digits of a cell -/
theorem digits_at {ns : List Int} (hl : ns.length ≤ 63) {ρ : Rho} {fk fz : FX} {k : Nat} {zs : List Nat} (h0 : nm 0 ρ = some (.lst (ns.map D.int))) (h1 : fk ρ = some (.int (k : Int))) (hk : k ≤ 1000) (h2 : fz ρ = some (.lst (zs.map eN))) (hz : ∀ z ∈ zs, 0 < z ∧ z < 1073741824) (hzl : zs.length ≤ 1000) :
    ∃ row, RowOk zs row ∧ fCall 2 m_law_digits (aCons (fCall 2 m_law_cell (aCons (nm 0) (aCons fk aNil)) []) (aCons fz aNil)) [] ρ = some (.lst (row.map eN)) := by
  obtain ⟨c, hc⟩ := law_cell_ok ns k hk (by omega)
  obtain ⟨row, R, hd⟩ := law_digits_ok c zs hz hzl
  refine ⟨row, R, call_ok (n := 2) (ds := [.int c, .lst (zs.map eN)]) ?_ rfl hd⟩
  have e : fCall 2 m_law_cell (aCons (nm 0) (aCons fk aNil)) [] ρ = some (.int c) := call_ok (n := 2) (ds := [.lst (ns.map D.int), .int (k : Int)]) (by unfold aCons aNil; rw [h0, h1]; rfl) rfl hc
  unfold aCons aNil
  unfold aCons aNil at e
  rw [e, h2]
  rfl
theorem law_asked_ok (ns : List Int) (hl : ns.length ≤ 63) (k : Nat) (hk : k ≤ 10) : ∃ ks nms b0 b1 dr, Ask ks nms b0 b1 ∧ m_law_asked [.lst (ns.map D.int), .int (k : Int)] = some (asD ks nms b0 b1 dr) := by
  have hlim : (lim : Nat) = 1000000 := rfl
  obtain ⟨row, R, e1⟩ := digits_at hl (ρ := [.sh (.lst (ns.map D.int)), .sh (.int (k : Int)), .no, .no, .no, .no]) (fk := nm 1) (k := k) (zs := kindZ)
    (fz := f2 gCatL (f2 gCatL (fGive (fLst (aoCons (fSh (cst (.int 10))) (aoCons (fSh (cst (.int 6))) (aoCons (fSh (cst (.int 2))) (aoCons (fSh (cst (.int 6))) (aoCons (fSh (cst (.int 4))) aoNil))))))) (fGive (fRep (fLst (aoCons (fSh (cst (.int 6))) (aoCons (fSh (cst (.int 31))) aoNil))) (cst (.int 6))))) (fGive (fLst (aoCons (fSh (cst (.int 3))) (aoCons (fSh (cst (.int 10))) (aoCons (fSh (cst (.int 100))) (aoCons (fSh (cst (.int 2))) aoNil)))))))
    rfl rfl (by omega) rfl (by decide) (by decide)
  have s1 : law_asked_1 [.sh (.lst (ns.map D.int)), .sh (.int (k : Int)), .no, .no, .no, .no] = some (.nx [.sh (.lst (ns.map D.int)), .sh (.int (k : Int)), .sh (.lst (row.map eN)), .no, .no, .no]) := by
    unfold law_asked_1 gSet
    rw [e1]
    rfl
  have rd : ∀ (x y z : T) (j : Nat), j < 21 → f2 gIx (nm 2) (cst (.int (j : Int))) [.sh (.lst (ns.map D.int)), .sh (.int (k : Int)), .sh (.lst (row.map eN)), x, y, z] = some (.int ((row.getD j 0 : Nat) : Int)) := fun x y z j hj => (row_at R (j := j) hj).1
  let unit : Bool := decide (((row.getD 17 0 : Nat) : Int) = 0)
  have hunit : ∀ x y z : T, f2 gEq (f2 gIx (nm 2) (cst (.int 17))) (cst (.int 0)) [.sh (.lst (ns.map D.int)), .sh (.int (k : Int)), .sh (.lst (row.map eN)), x, y, z] = some (.bl unit) := fun x y z => by
    show ((f2 gIx (nm 2) (cst (.int ((17 : Nat) : Int))) _).bind fun x => (cst (.int 0) _).bind fun y => gEq x y) = _
    rw [rd x y z 17 (by omega)]
    simp only [cst_at, Option.bind_some, e_eq]
    rfl
  have s23 : ∃ ks, Wf ks ∧ Home ks ∧ 0 < ks.length ∧ gSeq law_asked_2 law_asked_3 [.sh (.lst (ns.map D.int)), .sh (.int (k : Int)), .sh (.lst (row.map eN)), .no, .no, .no] = some (.nx [.sh (.lst (ns.map D.int)), .sh (.int (k : Int)), .sh (.lst (row.map eN)), .sh (ksD ks), .no, .no]) := by
    obtain ⟨ka, Wa, Ha, pa, ea⟩ := law_kinds_ok R unit
    have s2 : law_asked_2 [.sh (.lst (ns.map D.int)), .sh (.int (k : Int)), .sh (.lst (row.map eN)), .no, .no, .no] = some (.nx [.sh (.lst (ns.map D.int)), .sh (.int (k : Int)), .sh (.lst (row.map eN)), .sh (ksD ka), .no, .no]) := by
      unfold law_asked_2 gSet
      rw [call_ok (n := 3) (ds := [.lst (row.map eN), .bl unit, .int 6]) (by unfold aCons aNil; rw [hunit]; rfl) rfl ea]
      rfl
    have t : tBl (f2 gEq (f2 gIx (nm 2) (cst (.int 20))) (cst (.int 1))) [.sh (.lst (ns.map D.int)), .sh (.int (k : Int)), .sh (.lst (row.map eN)), .sh (ksD ka), .no, .no] = some (decide (((row.getD 20 0 : Nat) : Int) = 1)) := test_eq (rd _ _ _ 20 (by omega))
    unfold gSeq
    rw [s2, Option.bind_some]
    simp only
    unfold law_asked_3
    refine gIf_ex (P := fun o => ∃ ks, Wf ks ∧ Home ks ∧ 0 < ks.length ∧ o = some (.nx [.sh (.lst (ns.map D.int)), .sh (.int (k : Int)), .sh (.lst (row.map eN)), .sh (ksD ks), .no, .no])) ⟨_, t⟩ (fun _ => ?_) fun _ => ⟨ka, Wa, Ha, pa, rfl⟩
    obtain ⟨row2, R2, e2⟩ := digits_at hl (ρ := [.sh (.lst (ns.map D.int)), .sh (.int (k : Int)), .sh (.lst (row.map eN)), .sh (ksD ka), .no, .no]) (fk := f2 gAddI (cst (.int 6)) (nm 1)) (k := 6 + k) (zs := wideZ)
      (fz := f2 gCatL (fGive (fLst (aoCons (fSh (cst (.int 10))) (aoCons (fSh (cst (.int 720))) (aoCons (fSh (cst (.int 4))) aoNil))))) (fGive (fRep (fLst (aoCons (fSh (cst (.int 6))) (aoCons (fSh (cst (.int 4))) (aoCons (fSh (cst (.int 31))) (aoCons (fSh (cst (.int 64))) (aoCons (fSh (cst (.int 2))) aoNil)))))) (cst (.int 6)))))
      rfl (by
        show some (D.int (6 + (k : Int))) = _
        congr 2) (by omega) rfl (by decide) (by decide)
    obtain ⟨kb, Wb, Hb, pb, eb⟩ := law_wide_kinds_ok R2 unit
    refine ⟨kb, Wb, Hb, pb, ?_⟩
    unfold law_asked_4 gSet
    rw [call_ok (n := 3) (ds := [.lst (row2.map eN), .bl unit, .int 6]) (by
      unfold aCons aNil at e2 ⊢
      rw [e2, hunit]
      rfl) rfl eb]
    rfl
  obtain ⟨ks, W, Hm, p0, s23⟩ := s23
  have bagAt : ∀ j < 2, ∃ bag : List Nat, (∀ k ∈ bag, k < ks.length) ∧ bag.length ≤ 12 ∧ law_asked_5e [.sh (.lst (ns.map D.int)), .sh (.int (k : Int)), .sh (.lst (row.map eN)), .sh (ksD ks), .no, .sh (eN j)] = some (.tup (bag.map eN)) := fun j hj => by
    obtain ⟨row3, R3, e3⟩ := digits_at hl (ρ := [.sh (.lst (ns.map D.int)), .sh (.int (k : Int)), .sh (.lst (row.map eN)), .sh (ksD ks), .no, .sh (eN j)]) (fk := f2 gAddI (f2 gAddI (cst (.int 2)) (f2 gMul (cst (.int 2)) (nm 1))) (nm 5)) (k := 2 + 2 * k + j) (zs := bagZ)
      (fz := f2 gCatL (fGive (fLst (aoCons (fSh (cst (.int 12))) (aoCons (fSh (cst (.int 4))) aoNil)))) (fGive (fRep (fLst (aoCons (fSh (cst (.int 6))) aoNil)) (cst (.int 12)))))
      rfl (by
        simp only [f2, nm_succ, nm_zero, cst_at, Option.bind_some, eN]
        rw [e_mul (.inl (by omega)), Option.bind_some, e_add, Option.bind_some, e_add]
        congr 2) (by omega) rfl (by decide) (by decide)
    obtain ⟨bag, b1, b2, b3⟩ := law_bag_ok W p0 R3
    refine ⟨bag, b1, b2, ?_⟩
    unfold law_asked_5e
    exact call_ok (n := 2) (ds := [ksD ks, .lst (row3.map eN)]) (by
      unfold aCons aNil at e3 ⊢
      rw [e3]
      rfl) rfl b3
  obtain ⟨b0, b01, b02, b03⟩ := bagAt 0 (by omega)
  obtain ⟨b1, b11, b12, b13⟩ := bagAt 1 (by omega)
  have s5 : law_asked_5 [.sh (.lst (ns.map D.int)), .sh (.int (k : Int)), .sh (.lst (row.map eN)), .sh (ksD ks), .no, .no] = some (.nx [.sh (.lst (ns.map D.int)), .sh (.int (k : Int)), .sh (.lst (row.map eN)), .sh (ksD ks), .ls ([.tup (b0.map eN), .tup (b1.map eN)].map T.sh), .no]) := by
    unfold law_asked_5 gOwn
    rw [fLc_all (enc := eN) (fun j => if j = 0 then .tup (b0.map eN) else .tup (b1.map eN)) (xs := List.range 2) (rg1_nat (n := 2) rfl (by omega)) (by decide) fun j hj => by
      have hj := List.mem_range.mp hj
      match j, hj with
      | 0, _ => exact b03
      | 1, _ => exact b13]
    rfl
  let dd := row.getD 18 0
  refine ⟨ks, namesD dd ks, b0, b1, row.getD 19 0, ⟨W, by simp [namesD], b01, b11, b02, b12⟩, ?_⟩
  have hmk : fMake "Book" 2 m_Book_init (aCons (fCall 2 m_law_triples (aCons (nm 3) (aCons (f2 gIx (nm 2) (cst (.int 18))) aNil)) []) aNil) [] [.sh (.lst (ns.map D.int)), .sh (.int (k : Int)), .sh (.lst (row.map eN)), .sh (ksD ks), .sh (.lst [.tup (b0.map eN), .tup (b1.map eN)]), .no] = some (bkD (namesD dd ks) ks) := by
    have ht : fCall 2 m_law_triples (aCons (nm 3) (aCons (f2 gIx (nm 2) (cst (.int 18))) aNil)) [] [.sh (.lst (ns.map D.int)), .sh (.int (k : Int)), .sh (.lst (row.map eN)), .sh (ksD ks), .sh (.lst [.tup (b0.map eN), .tup (b1.map eN)]), .no] = some (rowsD dd ks) := by
      refine call_ok (n := 2) (ds := [ksD ks, .int (dd : Int)]) ?_ rfl (law_triples_eq W dd)
      unfold aCons aNil
      rw [show f2 gIx (nm 2) (cst (.int 18)) [.sh (.lst (ns.map D.int)), .sh (.int (k : Int)), .sh (.lst (row.map eN)), .sh (ksD ks), .sh (.lst [.tup (b0.map eN), .tup (b1.map eN)]), .no] = some (.int (dd : Int)) from rd _ _ _ 18 (by omega)]
      rfl
    unfold fMake
    rw [show aCons (fCall 2 m_law_triples (aCons (nm 3) (aCons (f2 gIx (nm 2) (cst (.int 18))) aNil)) []) aNil [.sh (.lst (ns.map D.int)), .sh (.int (k : Int)), .sh (.lst (row.map eN)), .sh (ksD ks), .sh (.lst [.tup (b0.map eN), .tup (b1.map eN)]), .no] = some [rowsD dd ks] by
      show ((fCall 2 m_law_triples (aCons (nm 3) (aCons (f2 gIx (nm 2) (cst (.int 18))) aNil)) [] _).bind _) = _
      rw [ht]
      rfl, Option.bind_some]
    show ((m_Book_init [rowsD dd ks]).map _) = _
    rw [init_eq W Hm p0 dd]
    rfl
  have s6 : law_asked_6 [.sh (.lst (ns.map D.int)), .sh (.int (k : Int)), .sh (.lst (row.map eN)), .sh (ksD ks), .ls ([.tup (b0.map eN), .tup (b1.map eN)].map T.sh), .no] = some (.rt (asD ks (namesD dd ks) b0 b1 (row.getD 19 0))) := by
    unfold law_asked_6 gFrz
    show ((some (T.ls ([.tup (b0.map eN), .tup (b1.map eN)].map T.sh)) : Option T).bind _) = _
    rw [Option.bind_some, toD_ls, Option.bind_some]
    show gRet _ [.sh (.lst (ns.map D.int)), .sh (.int (k : Int)), .sh (.lst (row.map eN)), .sh (ksD ks), .sh (.lst [.tup (b0.map eN), .tup (b1.map eN)]), .no] = _
    have hg : fGive (fLst (aoCons (fSh (nm 3)) (aoCons (fSh (fMake "Book" 2 m_Book_init (aCons (fCall 2 m_law_triples (aCons (nm 3) (aCons (f2 gIx (nm 2) (cst (.int 18))) aNil)) []) aNil) [])) (aoCons (fSh (nm 4)) (aoCons (fSh (f2 gIx (nm 2) (cst (.int 19)))) aoNil))))) [.sh (.lst (ns.map D.int)), .sh (.int (k : Int)), .sh (.lst (row.map eN)), .sh (ksD ks), .sh (.lst [.tup (b0.map eN), .tup (b1.map eN)]), .no] = some (asD ks (namesD dd ks) b0 b1 (row.getD 19 0)) := by
      refine give_at ?_
      unfold fLst aoCons aoNil
      unfold fSh
      rw [hmk, show f2 gIx (nm 2) (cst (.int 19)) [.sh (.lst (ns.map D.int)), .sh (.int (k : Int)), .sh (.lst (row.map eN)), .sh (ksD ks), .sh (.lst [.tup (b0.map eN), .tup (b1.map eN)]), .no] = some (.int ((row.getD 19 0 : Nat) : Int)) from rd _ _ _ 19 (by omega)]
      rfl
    unfold gRet
    rw [hg]
    rfl
  unfold gSeq at s23
  unfold m_law_asked mir law_asked_g gSeq
  show ((law_asked_1 [.sh (.lst (ns.map D.int)), .sh (.int (k : Int)), .no, .no, .no, .no]).bind _).bind _ = _
  rw [s1, Option.bind_some]
  simp only
  cases h2 : law_asked_2 [.sh (.lst (ns.map D.int)), .sh (.int (k : Int)), .sh (.lst (row.map eN)), .no, .no, .no] with
  | none => rw [h2] at s23; cases s23
  | some o =>
    rw [h2, Option.bind_some] at s23
    rw [Option.bind_some]
    cases o with
    | nx ρ =>
      simp only at s23 ⊢
      rw [s23, Option.bind_some]
      simp only
      rw [s5, Option.bind_some]
      simp only
      rw [s6]
      rfl
    | rt d => cases s23
    | bk ρ => cases s23
    | ct ρ => cases s23
/-- one call of _law_right as a test -/
theorem right_test {ks : List Kd} {nms : List D} {bag : List Nat} {dr : Nat} {t : Bool} {fs : Rho → Option (List D)} {ρ : Rho} (W : Wf ks) (hn : nms.length = ks.length) (hb : ∀ k ∈ bag, k < ks.length) (hl : bag.length ≤ 12) (h : fs ρ = some [ksD ks, bkD nms ks, .tup (bag.map eN), sqD t (bag.map eN), .int (dr : Int)]) : fCall 5 m_law_right fs [] ρ = some (.bl true) :=
  call_ok (n := 5) h rfl (law_right_ok W hn hb hl dr)
theorem right_testW {ks : List Kd} {nms : List D} {bag : List Nat} {dr : Nat} {t : Bool} {fs : Rho → Option (List D)} {ρ : Rho} (W : Wf ks) (hn : nms.length = ks.length) (hb : ∀ k ∈ bag, k < ks.length) (hl : bag.length ≤ 12) (h : fs ρ = some [ksD ks, bkD nms ks, .tup (bag.map eN), sqD t (bag.map eN), .int (dr : Int)]) : fCallW 5 m_law_right fs [] ρ = some (.bl true) := by
  unfold fCallW
  rw [h, Option.bind_some, if_pos (by simp)]
  show ((m_law_right [ksD ks, bkD nms ks, .tup (bag.map eN), sqD t (bag.map eN), .int (dr : Int)]).bind D.flatD) = _
  rw [law_right_ok W hn hb hl dr]
  rfl
theorem not_true {f : FX} {ρ : Rho} (h : f ρ = some (.bl true)) : tNotF (tBl f) ρ = some false := by
  unfold tNotF tBl
  rw [h]
  rfl
theorem law_ok (ns : List Int) (hl : ns.length ≤ 63) : m_law [.lst (ns.map D.int)] = some (.bl true) := by
  have hlim : (lim : Nat) = 1000000 := rfl
  obtain ⟨ka, na, a0, a1, da, A, ea⟩ := law_asked_ok ns hl 0 (by omega)
  obtain ⟨kb, nb, b0, b1, db, B, eb⟩ := law_asked_ok ns hl 1 (by omega)
  have s1 : law_1 [.sh (.lst (ns.map D.int)), .no, .no, .no] = some (.nx [.sh (.lst (ns.map D.int)), .sh (asD ka na a0 a1 da), .no, .no]) := by
    unfold law_1 gSet
    rw [call_ok (n := 2) (ds := [.lst (ns.map D.int), .int ((0 : Nat) : Int)]) rfl rfl ea]
    rfl
  have s2 : law_2 [.sh (.lst (ns.map D.int)), .sh (asD ka na a0 a1 da), .no, .no] = some (.nx [.sh (.lst (ns.map D.int)), .sh (asD ka na a0 a1 da), .sh (asD kb nb b0 b1 db), .no]) := by
    unfold law_2 gSet
    rw [call_ok (n := 2) (ds := [.lst (ns.map D.int), .int ((1 : Nat) : Int)]) rfl rfl eb]
    rfl
  have s3 : law_3 [.sh (.lst (ns.map D.int)), .sh (asD ka na a0 a1 da), .sh (asD kb nb b0 b1 db), .no] = some (.nx [.sh (.lst (ns.map D.int)), .sh (asD ka na a0 a1 da), .sh (asD kb nb b0 b1 db), .no]) := by
    unfold law_3
    refine if_false (not_true (right_test (t := false) A.wf A.nm A.h0 A.l0 (dr := da) ?_))
    have hg : fGive (fO1 gList (f2 gIx (f2 gIx (nm 1) (cst (.int 2))) (cst (.int 0)))) [.sh (.lst (ns.map D.int)), .sh (asD ka na a0 a1 da), .sh (asD kb nb b0 b1 db), .no] = some (.lst (a0.map eN)) := give_at (fO1_at (d := .tup (a0.map eN)) rfl rfl)
    unfold aCons aNil
    rw [hg]
    rfl
  have s5 : law_5 [.sh (.lst (ns.map D.int)), .sh (asD ka na a0 a1 da), .sh (asD kb nb b0 b1 db), .no] = some (.nx [.sh (.lst (ns.map D.int)), .sh (asD ka na a0 a1 da), .sh (asD kb nb b0 b1 db), rwT b0]) := by
    unfold law_5 gOwn
    rw [fO1_at (d := .tup (b0.map eN)) (r := some (rwT b0)) rfl rfl]
    rfl
  have s6 : law_6 [.sh (.lst (ns.map D.int)), .sh (asD ka na a0 a1 da), .sh (asD kb nb b0 b1 db), rwT b0] = some (.nx [.sh (.lst (ns.map D.int)), .sh (asD ka na a0 a1 da), .sh (asD kb nb b0 b1 db), rwT b0]) := by
    unfold law_6
    refine if_false (not_true (right_testW (t := false) B.wf B.nm B.h0 B.l0 (dr := db) ?_))
    have hq : nmQ 3 [.sh (.lst (ns.map D.int)), .sh (asD ka na a0 a1 da), .sh (asD kb nb b0 b1 db), rwT b0] = some (.lst (b0.map eN)) := by simp only [nmQ_succ, nmQ_rw]
    unfold aCons aNil
    rw [hq]
    rfl
  have s8 : law_8 [.sh (.lst (ns.map D.int)), .sh (asD ka na a0 a1 da), .sh (asD kb nb b0 b1 db), rwT b0] = some (.nx [.sh (.lst (ns.map D.int)), .sh (asD ka na a0 a1 da), .sh (asD kb nb b0 b1 db), rwT b0]) := by
    unfold law_8
    exact if_false (not_true (right_test (t := true) A.wf A.nm A.h1 A.l1 (dr := da) rfl))
  have s10 : law_10 [.sh (.lst (ns.map D.int)), .sh (asD ka na a0 a1 da), .sh (asD kb nb b0 b1 db), rwT b0] = some (.nx [.sh (.lst (ns.map D.int)), .sh (asD ka na a0 a1 da), .sh (asD kb nb b0 b1 db), rwT []]) := rfl
  have s11 : law_11 [.sh (.lst (ns.map D.int)), .sh (asD ka na a0 a1 da), .sh (asD kb nb b0 b1 db), rwT []] = some (.nx [.sh (.lst (ns.map D.int)), .sh (asD ka na a0 a1 da), .sh (asD kb nb b0 b1 db), rwT b1]) := by
    unfold law_11 gUpd
    rw [show pNm 3 [.sh (.lst (ns.map D.int)), .sh (asD ka na a0 a1 da), .sh (asD kb nb b0 b1 db), rwT []] = some (3, []) from rfl, Option.bind_some]
    rw [fO1_at (d := .tup (b1.map eN)) (r := some (rwT b1)) rfl rfl, Option.bind_some]
    rw [show T.node [.sh (.lst (ns.map D.int)), .sh (asD ka na a0 a1 da), .sh (asD kb nb b0 b1 db), rwT []] (3, []) = some (rwT []) from rfl, Option.bind_some]
    have : hExt (rwT []) (rwT b1) = some (rwT b1) := by
      show (if _ then _ else _) = _
      rw [if_pos (by have := B.l1; simp; omega)]
      rfl
    rw [this]
    rfl
  have s12 : law_12 [.sh (.lst (ns.map D.int)), .sh (asD ka na a0 a1 da), .sh (asD kb nb b0 b1 db), rwT b1] = some (.nx [.sh (.lst (ns.map D.int)), .sh (asD ka na a0 a1 da), .sh (asD kb nb b0 b1 db), rwT b1]) := by
    unfold law_12
    refine if_false (not_true (right_testW (t := false) B.wf B.nm B.h1 B.l1 (dr := db) ?_))
    have hq : nmQ 3 [.sh (.lst (ns.map D.int)), .sh (asD ka na a0 a1 da), .sh (asD kb nb b0 b1 db), rwT b1] = some (.lst (b1.map eN)) := by simp only [nmQ_succ, nmQ_rw]
    unfold aCons aNil
    rw [hq]
    rfl
  have s14 : law_14 [.sh (.lst (ns.map D.int)), .sh (asD ka na a0 a1 da), .sh (asD kb nb b0 b1 db), rwT b1] = some (.rt (.bl true)) := by
    unfold law_14 gRet
    rw [right_test (t := true) A.wf A.nm A.h0 A.l0 (dr := da) rfl]
    rfl
  unfold m_law mir law_g gSeq
  show ((law_1 [.sh (.lst (ns.map D.int)), .no, .no, .no]).bind _).bind _ = _
  rw [s1, Option.bind_some]
  simp only
  rw [s2, Option.bind_some]
  simp only
  rw [s3, Option.bind_some]
  simp only
  rw [s5, Option.bind_some]
  simp only
  rw [s6, Option.bind_some]
  simp only
  rw [s8, Option.bind_some]
  simp only
  rw [s10, Option.bind_some]
  simp only
  rw [s11, Option.bind_some]
  simp only
  rw [s12, Option.bind_some]
  simp only
  rw [s14]
  rfl
end G

/-! the head of the law waysleft_k52_freest_bags and the walk over it (printed by gen.py) -/
namespace G
open L2 PyProof.Rows PySem.Spec PySem SX C8 FL
def d_homeward_kinds : He.DefD := ⟨("homeward_kinds", none), "homeward_kinds", "homeward_kinds", defArgs (top 26), defBody (top 26), defScope (top 26), [], []⟩
def d_is_name : He.DefD := ⟨("is_name", none), "is_name", "is_name", defArgs (top 24), defBody (top 24), defScope (top 24), [], []⟩
def d_is_right_kind : He.DefD := ⟨("is_right_kind", none), "is_right_kind", "is_right_kind", defArgs (top 25), defBody (top 25), defScope (top 25), [], []⟩
def d_Book_init : He.DefD := ⟨("Book", some "__init__"), "__init__", "Book.__init__", defArgs (inClass (top 27) 0), defBody (inClass (top 27) 0), defScope (inClass (top 27) 0), [], []⟩
def d_law_bag : He.DefD := ⟨("_law_bag", none), "_law_bag", "_law_bag", defArgs (top 42), defBody (top 42), defScope (top 42), [], []⟩
def d_law_cell : He.DefD := ⟨("_law_cell", none), "_law_cell", "_law_cell", defArgs (top 31), defBody (top 31), defScope (top 31), [], []⟩
def d_law_digits : He.DefD := ⟨("_law_digits", none), "_law_digits", "_law_digits", defArgs (top 32), defBody (top 32), defScope (top 32), [], []⟩
def d_law_kinds : He.DefD := ⟨("_law_kinds", none), "_law_kinds", "_law_kinds", defArgs (top 33), defBody (top 33), defScope (top 33), [], []⟩
def d_law_names : He.DefD := ⟨("_law_names", none), "_law_names", "_law_names", defArgs (top 35), defBody (top 35), defScope (top 35), [], []⟩
def d_law_triples : He.DefD := ⟨("_law_triples", none), "_law_triples", "_law_triples", defArgs (top 36), defBody (top 36), defScope (top 36), [], []⟩
def d_law_wide_kinds : He.DefD := ⟨("_law_wide_kinds", none), "_law_wide_kinds", "_law_wide_kinds", defArgs (top 34), defBody (top 34), defScope (top 34), [], []⟩
def d_law_asked : He.DefD := ⟨("_law_asked", none), "_law_asked", "_law_asked", defArgs (top 44), defBody (top 44), defScope (top 44), [], []⟩
def d_law_held : He.DefD := ⟨("_law_held", none), "_law_held", "_law_held", defArgs (top 38), defBody (top 38), defScope (top 38), [], []⟩
def d_law_belongs : He.DefD := ⟨("_law_belongs", none), "_law_belongs", "_law_belongs", defArgs (top 39), defBody (top 39), defScope (top 39), [], []⟩
def d_law_needed : He.DefD := ⟨("_law_needed", none), "_law_needed", "_law_needed", defArgs (top 41), defBody (top 41), defScope (top 41), [], []⟩
def d_law_overfull : He.DefD := ⟨("_law_overfull", none), "_law_overfull", "_law_overfull", defArgs (top 40), defBody (top 40), defScope (top 40), [], []⟩
def d_law_rests : He.DefD := ⟨("_law_rests", none), "_law_rests", "_law_rests", defArgs (top 37), defBody (top 37), defScope (top 37), [], []⟩
def d_law_whole : He.DefD := ⟨("_law_whole", none), "_law_whole", "_law_whole", defArgs (top 29), defBody (top 29), defScope (top 29), [], []⟩
def d_law_same : He.DefD := ⟨("_law_same", none), "_law_same", "_law_same", defArgs (top 30), defBody (top 30), defScope (top 30), [], []⟩
def d_held_by : He.DefD := ⟨("held_by", none), "held_by", "held_by", defArgs (top 14), defBody (top 14), defScope (top 14), [], []⟩
def d_Book_len : He.DefD := ⟨("Book", some "__len__"), "__len__", "Book.__len__", defArgs (inClass (top 27) 2), defBody (inClass (top 27) 2), defScope (inClass (top 27) 2), [], []⟩
def d_longest_sums : He.DefD := ⟨("longest_sums", none), "longest_sums", "longest_sums", defArgs (top 9), defBody (top 9), defScope (top 9), [], []⟩
def d_rests : He.DefD := ⟨("rests", none), "rests", "rests", defArgs (top 10), defBody (top 10), defScope (top 10), [], []⟩
def d_held : He.DefD := ⟨("held", none), "held", "held", defArgs (top 15), defBody (top 15), defScope (top 15), [], []⟩
def d_kinds_in : He.DefD := ⟨("kinds_in", none), "kinds_in", "kinds_in", defArgs (top 7), defBody (top 7), defScope (top 7), [], []⟩
def d_belongs : He.DefD := ⟨("belongs", none), "belongs", "belongs", defArgs (top 16), defBody (top 16), defScope (top 16), [], []⟩
def d_in_freest : He.DefD := ⟨("in_freest", none), "in_freest", "in_freest", defArgs (top 17), defBody (top 17), defScope (top 17), [], [("most_rest", .non)]⟩
def d_falls : He.DefD := ⟨("falls", none), "falls", "falls", defArgs (top 12), defBody (top 12), defScope (top 12), [], []⟩
def d_is_needed : He.DefD := ⟨("is_needed", none), "is_needed", "is_needed", defArgs (top 19), defBody (top 19), defScope (top 19), [], []⟩
def d_overfull : He.DefD := ⟨("overfull", none), "overfull", "overfull", defArgs (top 18), defBody (top 18), defScope (top 18), [], []⟩
def d_law_right : He.DefD := ⟨("_law_right", none), "_law_right", "_law_right", defArgs (top 43), defBody (top 43), defScope (top 43), [], []⟩
def d_law : He.DefD := ⟨("law", none), "law", "law", defArgs (top 45), defBody (top 45), defScope (top 45), [], []⟩
def fn : List He.DefD := [d_homeward_kinds, d_is_name, d_is_right_kind, d_Book_init, d_law_bag, d_law_cell, d_law_digits, d_law_kinds, d_law_names, d_law_triples, d_law_wide_kinds, d_law_asked, d_law_held, d_law_belongs, d_law_needed, d_law_overfull, d_law_rests, d_law_whole, d_law_same, d_held_by, d_Book_len, d_longest_sums, d_rests, d_held, d_kinds_in, d_belongs, d_in_freest, d_falls, d_is_needed, d_overfull, d_law_right, d_law]
def fa : List He.Fa := [.str "DIGITS" "0123456789", .int "KINDS" 6, .str "LETTERS" "abcdefghijklmnopqrstuvwxyz", .glo "RESERVED", .free "bool", .cls "Book", .noat "Book" "names", .noat "Book" "nexts", .noat "Book" "sizes", .free "int", .free "isinstance", .free "len", .free "list", .free "max", .free "min", .free "range", .free "set", .free "sorted", .free "str", .free "sum", .free "tuple", .glo "homeward_kinds", .glo "is_name", .glo "is_right_kind", .mkr "Book", .glo "Book", .glo "_law_bag", .glo "_law_cell", .glo "_law_digits", .glo "_law_kinds", .glo "_law_names", .glo "_law_triples", .glo "_law_wide_kinds", .glo "_law_asked", .glo "_law_held", .glo "_law_belongs", .glo "_law_needed", .glo "_law_overfull", .glo "_law_rests", .glo "_law_whole", .glo "_law_same", .glo "held_by", .meth "Book" "__len__", .glo "longest_sums", .glo "rests", .glo "held", .glo "kinds_in", .glo "belongs", .glo "in_freest", .glo "falls", .glo "is_needed", .glo "overfull", .glo "_law_right", .glo "law"]
def tb : Tbs := [("RESERVED", (["each", "if", "or", "and", "not", "always", "never", "free", "letters", "rest", "size", "least"] : List Str).map He.Dv.str)]
def nm0 : List PySem.Str := ["_wall", "NetError", "BadKind", "NoWayHome", "KINDS", "kinds_in", "longest_sums", "rests", "falls", "held_by", "held", "belongs", "in_freest", "overfull", "is_needed", "LETTERS", "DIGITS", "RESERVED", "is_name", "is_right_kind", "homeward_kinds", "Book", "_law_whole", "_law_same", "_law_cell", "_law_digits", "_law_kinds", "_law_wide_kinds", "_law_names", "_law_triples"]
def nm1 : List PySem.Str := ["_law_rests", "_law_held", "_law_belongs", "_law_overfull", "_law_needed", "_law_bag", "_law_right", "_law_asked"]
def nms : List PySem.Str := nm0 ++ nm1
abbrev R : PySem.W.OpenRow := PySem.W.OpenLaw.row PySem.Challenge.rw_waysleft_k52_freest_bags
abbrev hk : PySem.W.Hook := hookT 5 fa fn tb
def ob (s : PySem.W.SharedT) : Bool × He.AlD := obsT 5 fa fn tb (HandSHeadRun.getT s)
theorem ob_eq (s : PySem.W.SharedT) : ob s = hk.obs s.abs := obsT_eq (HandSHeadRun.getT_eq s)
theorem run (w : World) : HandSHeadRun.RunEq R (PySem.W.view R.prog [45]) hk ob 16000 nms w := by
  intro os
  kernel_rfl
theorem gx_of {K : PySem.W.Frag} {h : Heap} {mg : Str → Option Value} (X : K.In h) (Y : h.Ns mainGlobals mg) (c : SaysT fa fn tb K) : Gx K mg where
  DIGITS := gv_str X Y (c.2.fact 0 rfl)
  KINDS := gv_int X Y (c.2.fact 1 rfl)
  LETTERS := gv_str X Y (c.2.fact 2 rfl)
  RESERVED := gv_tup (xs := ["each", "if", "or", "and", "not", "always", "never", "free", "letters", "rest", "size", "least"]) X Y (c.2.fact 3 rfl) c.1 (by first | exact List.mem_cons_self | decide)
  bool := He.free_ok X Y (c.2.fact 4 rfl)
  f_names := ⟨He.cls_ok (c.2.fact 5 rfl), He.noat_ok (c.2.fact 6 rfl)⟩
  f_nexts := ⟨He.cls_ok (c.2.fact 5 rfl), He.noat_ok (c.2.fact 7 rfl)⟩
  f_sizes := ⟨He.cls_ok (c.2.fact 5 rfl), He.noat_ok (c.2.fact 8 rfl)⟩
  int := He.free_ok X Y (c.2.fact 9 rfl)
  isinstance := He.free_ok X Y (c.2.fact 10 rfl)
  len := He.free_ok X Y (c.2.fact 11 rfl)
  list := He.free_ok X Y (c.2.fact 12 rfl)
  max := He.free_ok X Y (c.2.fact 13 rfl)
  min := He.free_ok X Y (c.2.fact 14 rfl)
  range := He.free_ok X Y (c.2.fact 15 rfl)
  set := He.free_ok X Y (c.2.fact 16 rfl)
  sorted := He.free_ok X Y (c.2.fact 17 rfl)
  str := He.free_ok X Y (c.2.fact 18 rfl)
  sum := He.free_ok X Y (c.2.fact 19 rfl)
  tuple := He.free_ok X Y (c.2.fact 20 rfl)
theorem facts {P : Program} {w : World} {K : PySem.W.Frag} {h : Heap} {mg : Str → Option Value} {f : Addr} (X : K.In h) (Y : h.Ns mainGlobals mg) (hfa : mg ("law" : Str) = some (.ref f)) (c : SaysT fa fn tb K) :
    ∃ fd : FuncData, (∀ (s : Shared) (v : Value), BindsTo s fd ⟨[v], []⟩ [("script", v)]) ∧ ∀ base : Heap, K.In base → base.Ns mainGlobals mg → FnOk P w K mg base C8.CX0 7 f fd ["script"] (spF K 1 m_law) := by
  have gx := gx_of X Y c
  obtain ⟨fd, Fl⟩ := c.2.def_ 31 (d := d_law) rfl
  have e := hfa.symm.trans (He.glo_ok X Y (c.2.fact 53 rfl))
  cases e
  have bl := FunD.bindsA (ps := ["script"]) Fl fun _ _ _ _ _ _ us hl => match us, hl with | [_], _ => rfl
  refine ⟨fd, fun s v => bl s [v] rfl, fun base X2 Y2 => ?_⟩
  clear bl
  obtain ⟨fd0, F0⟩ := c.2.def_ 0 (d := d_homeward_kinds) rfl
  have b0 : Binds K fd0 ["nexts"] [] := F0.bindsN fun _ _ _ _ _ _ us hl => match us, hl with | [_], _ => rfl
  have g0 : mg "homeward_kinds" = some (.ref _) := He.glo_ok X2 Y2 (c.2.fact 21 rfl)
  have c_homeward_kinds : CalF P w K mg base 1 "homeward_kinds" 1 m_homeward_kinds [] := cal_of (ok_homeward_kinds gx F0 ) g0 F0.kp b0
  obtain ⟨fd1, F1⟩ := c.2.def_ 1 (d := d_is_name) rfl
  have b1 : Binds K fd1 ["text"] [] := F1.bindsN fun _ _ _ _ _ _ us hl => match us, hl with | [_], _ => rfl
  have g1 : mg "is_name" = some (.ref _) := He.glo_ok X2 Y2 (c.2.fact 22 rfl)
  have c_is_name : CalF P w K mg base 1 "is_name" 1 m_is_name [] := cal_of (ok_is_name gx F1 ) g1 F1.kp b1
  obtain ⟨fd2, F2⟩ := c.2.def_ 2 (d := d_is_right_kind) rfl
  have b2 : Binds K fd2 ["kinds", "index"] [] := F2.bindsN fun _ _ _ _ _ _ us hl => match us, hl with | [_, _], _ => rfl
  have g2 : mg "is_right_kind" = some (.ref _) := He.glo_ok X2 Y2 (c.2.fact 23 rfl)
  have c_is_right_kind : CalF P w K mg base 2 "is_right_kind" 2 m_is_right_kind [] := cal_of (ok_is_right_kind gx F2 c_is_name) g2 F2.kp b2
  obtain ⟨fd3, F3⟩ := c.2.def_ 3 (d := d_Book_init) rfl
  have b3 : Binds K fd3 ["self", "kinds"] [] := F3.bindsN fun _ _ _ _ _ _ us hl => match us, hl with | [_, _], _ => rfl
  have c_Book : MakF P w K mg base 3 "Book" 2 m_Book_init [] := mak_of (He.mkr_ok (c.2.fact 24 rfl)) (ok_Book_init gx F3 c_homeward_kinds c_is_right_kind) (He.glo_ok X2 Y2 (c.2.fact 25 rfl)) b3
  obtain ⟨fd4, F4⟩ := c.2.def_ 4 (d := d_law_bag) rfl
  have b4 : Binds K fd4 ["kinds", "row"] [] := F4.bindsN fun _ _ _ _ _ _ us hl => match us, hl with | [_, _], _ => rfl
  have g4 : mg "_law_bag" = some (.ref _) := He.glo_ok X2 Y2 (c.2.fact 26 rfl)
  have c_law_bag : CalF P w K mg base 1 "_law_bag" 2 m_law_bag [] := cal_of (ok_law_bag gx F4 ) g4 F4.kp b4
  obtain ⟨fd5, F5⟩ := c.2.def_ 5 (d := d_law_cell) rfl
  have b5 : Binds K fd5 ["script", "k"] [] := F5.bindsN fun _ _ _ _ _ _ us hl => match us, hl with | [_, _], _ => rfl
  have g5 : mg "_law_cell" = some (.ref _) := He.glo_ok X2 Y2 (c.2.fact 27 rfl)
  have c_law_cell : CalF P w K mg base 1 "_law_cell" 2 m_law_cell [] := cal_of (ok_law_cell gx F5 ) g5 F5.kp b5
  obtain ⟨fd6, F6⟩ := c.2.def_ 6 (d := d_law_digits) rfl
  have b6 : Binds K fd6 ["cell", "sizes"] [] := F6.bindsN fun _ _ _ _ _ _ us hl => match us, hl with | [_, _], _ => rfl
  have g6 : mg "_law_digits" = some (.ref _) := He.glo_ok X2 Y2 (c.2.fact 28 rfl)
  have c_law_digits : CalF P w K mg base 1 "_law_digits" 2 m_law_digits [] := cal_of (ok_law_digits gx F6 ) g6 F6.kp b6
  obtain ⟨fd7, F7⟩ := c.2.def_ 7 (d := d_law_kinds) rfl
  have b7 : Binds K fd7 ["row", "unit", "upto"] [] := F7.bindsN fun _ _ _ _ _ _ us hl => match us, hl with | [_, _, _], _ => rfl
  have g7 : mg "_law_kinds" = some (.ref _) := He.glo_ok X2 Y2 (c.2.fact 29 rfl)
  have c_law_kinds : CalF P w K mg base 1 "_law_kinds" 3 m_law_kinds [] := cal_of (ok_law_kinds gx F7 ) g7 F7.kp b7
  obtain ⟨fd8, F8⟩ := c.2.def_ 8 (d := d_law_names) rfl
  have b8 : Binds K fd8 ["digit", "many"] [] := F8.bindsN fun _ _ _ _ _ _ us hl => match us, hl with | [_, _], _ => rfl
  have g8 : mg "_law_names" = some (.ref _) := He.glo_ok X2 Y2 (c.2.fact 30 rfl)
  have c_law_names : CalF P w K mg base 1 "_law_names" 2 m_law_names [] := cal_of (ok_law_names gx F8 ) g8 F8.kp b8
  obtain ⟨fd9, F9⟩ := c.2.def_ 9 (d := d_law_triples) rfl
  have b9 : Binds K fd9 ["kinds", "digit"] [] := F9.bindsN fun _ _ _ _ _ _ us hl => match us, hl with | [_, _], _ => rfl
  have g9 : mg "_law_triples" = some (.ref _) := He.glo_ok X2 Y2 (c.2.fact 31 rfl)
  have c_law_triples : CalF P w K mg base 2 "_law_triples" 2 m_law_triples [] := cal_of (ok_law_triples gx F9 c_law_names) g9 F9.kp b9
  obtain ⟨fd10, F10⟩ := c.2.def_ 10 (d := d_law_wide_kinds) rfl
  have b10 : Binds K fd10 ["row", "unit", "upto"] [] := F10.bindsN fun _ _ _ _ _ _ us hl => match us, hl with | [_, _, _], _ => rfl
  have g10 : mg "_law_wide_kinds" = some (.ref _) := He.glo_ok X2 Y2 (c.2.fact 32 rfl)
  have c_law_wide_kinds : CalF P w K mg base 1 "_law_wide_kinds" 3 m_law_wide_kinds [] := cal_of (ok_law_wide_kinds gx F10 ) g10 F10.kp b10
  obtain ⟨fd11, F11⟩ := c.2.def_ 11 (d := d_law_asked) rfl
  have b11 : Binds K fd11 ["script", "k"] [] := F11.bindsN fun _ _ _ _ _ _ us hl => match us, hl with | [_, _], _ => rfl
  have g11 : mg "_law_asked" = some (.ref _) := He.glo_ok X2 Y2 (c.2.fact 33 rfl)
  have c_law_asked : CalF P w K mg base 5 "_law_asked" 2 m_law_asked [] := cal_of (ok_law_asked gx F11 c_Book c_law_bag c_law_cell c_law_digits c_law_kinds c_law_triples c_law_wide_kinds) g11 F11.kp b11
  obtain ⟨fd12, F12⟩ := c.2.def_ 12 (d := d_law_held) rfl
  have b12 : Binds K fd12 ["kinds", "rests_v", "bag", "least"] [] := F12.bindsN fun _ _ _ _ _ _ us hl => match us, hl with | [_, _, _, _], _ => rfl
  have g12 : mg "_law_held" = some (.ref _) := He.glo_ok X2 Y2 (c.2.fact 34 rfl)
  have c_law_held : CalF P w K mg base 1 "_law_held" 4 m_law_held [] := cal_of (ok_law_held gx F12 ) g12 F12.kp b12
  obtain ⟨fd13, F13⟩ := c.2.def_ 13 (d := d_law_belongs) rfl
  have b13 : Binds K fd13 ["kinds", "rests_v", "places", "bag"] [] := F13.bindsN fun _ _ _ _ _ _ us hl => match us, hl with | [_, _, _, _], _ => rfl
  have g13 : mg "_law_belongs" = some (.ref _) := He.glo_ok X2 Y2 (c.2.fact 35 rfl)
  have c_law_belongs : CalF P w K mg base 2 "_law_belongs" 4 m_law_belongs [] := cal_of (ok_law_belongs gx F13 c_law_held) g13 F13.kp b13
  obtain ⟨fd14, F14⟩ := c.2.def_ 14 (d := d_law_needed) rfl
  have b14 : Binds K fd14 ["kinds", "rests_v", "bag", "kind"] [] := F14.bindsN fun _ _ _ _ _ _ us hl => match us, hl with | [_, _, _, _], _ => rfl
  have g14 : mg "_law_needed" = some (.ref _) := He.glo_ok X2 Y2 (c.2.fact 36 rfl)
  have c_law_needed : CalF P w K mg base 1 "_law_needed" 4 m_law_needed [] := cal_of (ok_law_needed gx F14 ) g14 F14.kp b14
  obtain ⟨fd15, F15⟩ := c.2.def_ 15 (d := d_law_overfull) rfl
  have b15 : Binds K fd15 ["kinds", "rests_v", "places", "bag"] [] := F15.bindsN fun _ _ _ _ _ _ us hl => match us, hl with | [_, _, _, _], _ => rfl
  have g15 : mg "_law_overfull" = some (.ref _) := He.glo_ok X2 Y2 (c.2.fact 37 rfl)
  have c_law_overfull : CalF P w K mg base 2 "_law_overfull" 4 m_law_overfull [] := cal_of (ok_law_overfull gx F15 c_law_held) g15 F15.kp b15
  obtain ⟨fd16, F16⟩ := c.2.def_ 16 (d := d_law_rests) rfl
  have b16 : Binds K fd16 ["kinds"] [] := F16.bindsN fun _ _ _ _ _ _ us hl => match us, hl with | [_], _ => rfl
  have g16 : mg "_law_rests" = some (.ref _) := He.glo_ok X2 Y2 (c.2.fact 38 rfl)
  have c_law_rests : CalF P w K mg base 1 "_law_rests" 1 m_law_rests [] := cal_of (ok_law_rests gx F16 ) g16 F16.kp b16
  obtain ⟨fd17, F17⟩ := c.2.def_ 17 (d := d_law_whole) rfl
  have b17 : Binds K fd17 ["value"] [] := F17.bindsN fun _ _ _ _ _ _ us hl => match us, hl with | [_], _ => rfl
  have g17 : mg "_law_whole" = some (.ref _) := He.glo_ok X2 Y2 (c.2.fact 39 rfl)
  have c_law_whole : CalF P w K mg base 1 "_law_whole" 1 m_law_whole [] := cal_of (ok_law_whole gx F17 ) g17 F17.kp b17
  obtain ⟨fd18, F18⟩ := c.2.def_ 18 (d := d_law_same) rfl
  have b18 : Binds K fd18 ["told", "due"] [] := F18.bindsN fun _ _ _ _ _ _ us hl => match us, hl with | [_, _], _ => rfl
  have g18 : mg "_law_same" = some (.ref _) := He.glo_ok X2 Y2 (c.2.fact 40 rfl)
  have c_law_same : CalF P w K mg base 5 "_law_same" 2 (m_law_same 3) [] := cal_of (ok_law_same gx F18 g18 b18 c_law_whole 3) g18 F18.kp b18
  obtain ⟨fd19, F19⟩ := c.2.def_ 19 (d := d_held_by) rfl
  have b19 : Binds K fd19 ["book", "all_rests", "bag", "least_rest"] [] := F19.bindsN fun _ _ _ _ _ _ us hl => match us, hl with | [_, _, _, _], _ => rfl
  have g19 : mg "held_by" = some (.ref _) := He.glo_ok X2 Y2 (c.2.fact 41 rfl)
  have c_held_by : CalF P w K mg base 1 "held_by" 4 m_held_by [] := cal_of (ok_held_by gx F19 ) g19 F19.kp b19
  obtain ⟨fd20, F20⟩ := c.2.def_ 20 (d := d_Book_len) rfl
  have b20 : Binds K fd20 ["self"] [] := F20.bindsN fun _ _ _ _ _ _ us hl => match us, hl with | [_], _ => rfl
  have c_Book_len : MetF P w K mg base 1 "Book" "__len__" 1 m_Book_len [] := met_of (He.cls_ok (c.2.fact 5 rfl)) (He.meth_ok (c.2.fact 42 rfl)) (ok_Book_len gx F20 ) b20
  obtain ⟨fd21, F21⟩ := c.2.def_ 21 (d := d_longest_sums) rfl
  have b21 : Binds K fd21 ["book", "weights"] [] := F21.bindsN fun _ _ _ _ _ _ us hl => match us, hl with | [_, _], _ => rfl
  have g21 : mg "longest_sums" = some (.ref _) := He.glo_ok X2 Y2 (c.2.fact 43 rfl)
  have c_longest_sums : CalF P w K mg base 3 "longest_sums" 2 m_longest_sums [] := cal_of (ok_longest_sums gx F21 c_Book_len) g21 F21.kp b21
  obtain ⟨fd22, F22⟩ := c.2.def_ 22 (d := d_rests) rfl
  have b22 : Binds K fd22 ["book"] [] := F22.bindsN fun _ _ _ _ _ _ us hl => match us, hl with | [_], _ => rfl
  have g22 : mg "rests" = some (.ref _) := He.glo_ok X2 Y2 (c.2.fact 44 rfl)
  have c_rests : CalF P w K mg base 4 "rests" 1 m_rests [] := cal_of (ok_rests gx F22 c_longest_sums) g22 F22.kp b22
  obtain ⟨fd23, F23⟩ := c.2.def_ 23 (d := d_held) rfl
  have b23 : Binds K fd23 ["book", "bag", "least_rest"] [] := F23.bindsN fun _ _ _ _ _ _ us hl => match us, hl with | [_, _, _], _ => rfl
  have g23 : mg "held" = some (.ref _) := He.glo_ok X2 Y2 (c.2.fact 45 rfl)
  have c_held : CalF P w K mg base 5 "held" 3 m_held [] := cal_of (ok_held gx F23 c_held_by c_rests) g23 F23.kp b23
  obtain ⟨fd24, F24⟩ := c.2.def_ 24 (d := d_kinds_in) rfl
  have b24 : Binds K fd24 ["bag"] [] := F24.bindsN fun _ _ _ _ _ _ us hl => match us, hl with | [_], _ => rfl
  have g24 : mg "kinds_in" = some (.ref _) := He.glo_ok X2 Y2 (c.2.fact 46 rfl)
  have c_kinds_in : CalF P w K mg base 1 "kinds_in" 1 m_kinds_in [] := cal_of (ok_kinds_in gx F24 ) g24 F24.kp b24
  obtain ⟨fd25, F25⟩ := c.2.def_ 25 (d := d_belongs) rfl
  have b25 : Binds K fd25 ["book", "all_rests", "places", "bag", "most_rest"] [] := F25.bindsN fun _ _ _ _ _ _ us hl => match us, hl with | [_, _, _, _, _], _ => rfl
  have g25 : mg "belongs" = some (.ref _) := He.glo_ok X2 Y2 (c.2.fact 47 rfl)
  have c_belongs : CalF P w K mg base 2 "belongs" 5 m_belongs [] := cal_of (ok_belongs gx F25 c_held_by c_kinds_in) g25 F25.kp b25
  obtain ⟨fd26, F26⟩ := c.2.def_ 26 (d := d_in_freest) rfl
  have g26 : mg "in_freest" = some (.ref _) := He.glo_ok X2 Y2 (c.2.fact 48 rfl)
  have o26 := ok_in_freest (P := P) (w := w) (base := base) gx F26 c_belongs c_rests
  have c_in_freest : CalF P w K mg base 5 "in_freest" 4 m_in_freest [.non] := cal_dflt o26 g26 F26.kp (F26.binds0 3 (List.cons_ne_nil _ _) rfl fun D doc pm an cdv ct us ks l1 l2 => match us, l1, ks, l2 with | [_, _, _], _, [_], _ => ⟨_, _, _, _, _, _, rfl, rfl, rfl⟩) fun _ => ⟨_, _, rfl, rfl, rfl⟩
  have ck_in_freest : CalK P w K mg base 5 "in_freest" 3 ["most_rest"] 4 (fun x y => x ++ y) m_in_freest := calk_of F26 o26 g26 fun kV doc pm an cdv ct us ws l1 l2 => match us, l1, ws, l2 with | [_, _, _], _, [_], _ => rfl
  obtain ⟨fd27, F27⟩ := c.2.def_ 27 (d := d_falls) rfl
  have b27 : Binds K fd27 ["book", "all_rests", "bag", "kind"] [] := F27.bindsN fun _ _ _ _ _ _ us hl => match us, hl with | [_, _, _, _], _ => rfl
  have g27 : mg "falls" = some (.ref _) := He.glo_ok X2 Y2 (c.2.fact 49 rfl)
  have c_falls : CalF P w K mg base 1 "falls" 4 m_falls [] := cal_of (ok_falls gx F27 ) g27 F27.kp b27
  obtain ⟨fd28, F28⟩ := c.2.def_ 28 (d := d_is_needed) rfl
  have b28 : Binds K fd28 ["book", "bag", "kind"] [] := F28.bindsN fun _ _ _ _ _ _ us hl => match us, hl with | [_, _, _], _ => rfl
  have g28 : mg "is_needed" = some (.ref _) := He.glo_ok X2 Y2 (c.2.fact 50 rfl)
  have c_is_needed : CalF P w K mg base 5 "is_needed" 3 m_is_needed [] := cal_of (ok_is_needed gx F28 c_falls c_rests) g28 F28.kp b28
  obtain ⟨fd29, F29⟩ := c.2.def_ 29 (d := d_overfull) rfl
  have b29 : Binds K fd29 ["book", "places", "bag"] [] := F29.bindsN fun _ _ _ _ _ _ us hl => match us, hl with | [_, _, _], _ => rfl
  have g29 : mg "overfull" = some (.ref _) := He.glo_ok X2 Y2 (c.2.fact 51 rfl)
  have c_overfull : CalF P w K mg base 5 "overfull" 3 m_overfull [] := cal_of (ok_overfull gx F29 c_held_by c_rests) g29 F29.kp b29
  obtain ⟨fd30, F30⟩ := c.2.def_ 30 (d := d_law_right) rfl
  have b30 : Binds K fd30 ["kinds", "book", "bag", "passed", "drawn"] [] := F30.bindsN fun _ _ _ _ _ _ us hl => match us, hl with | [_, _, _, _, _], _ => rfl
  have g30 : mg "_law_right" = some (.ref _) := He.glo_ok X2 Y2 (c.2.fact 52 rfl)
  have c_law_right : CalF P w K mg base 6 "_law_right" 5 m_law_right [] := cal_of (ok_law_right gx F30 c_law_belongs c_law_held c_law_needed c_law_overfull c_law_rests c_law_same c_held c_in_freest ck_in_freest c_is_needed c_overfull) g30 F30.kp b30
  exact ok_law gx Fl c_law_asked c_law_right
theorem holds_of (math : ∀ ns : List Int, ns.length ≤ 63 → m_law [.lst (ns.map D.int)] = some (.bl true)) : PySem.Challenge.rw_waysleft_k52_freest_bags.Holds := by
  w_on; o_law
  refine HandSHeadRun.head_any (r := PySem.W.OpenLaw.row PySem.Challenge.rw_waysleft_k52_freest_bags) (q := PySem.W.view (PySem.W.OpenLaw.row PySem.Challenge.rw_waysleft_k52_freest_bags).prog [45]) (H := hk) (ob := ob) (M := 16000) (loose := nms) (d := HandSHeadRun.topDef (PySem.W.OpenLaw.row PySem.Challenge.rw_waysleft_k52_freest_bags).prog 45) (kwd := []) ob_eq
    (by kernel_rfl) (fun s => by kernel_rfl) run (by kernel_rfl) (by kernel_rfl) (by kernel_rfl) (by rfl) (by first | assumption | decide +kernel) (by decide +kernel) ⟨rfl, rfl, rfl, rfl, rfl, by decide +kernel⟩ ?hw ?hc
  case hw => w_witness2
  case hc =>
    refine L2.walk_ofE (l := PySem.Challenge.rw_waysleft_k52_freest_bags) (n := 63) (k := 7) (x := "script") (CX := C8.CX0) rfl (by decide) (by kernel_rfl) ⟨rfl, by decide, by decide⟩ ?F (fun _ _ _ _ z => z)
    intro w mg fa' h Z Y hmg0
    obtain ⟨K, X, c⟩ := Z
    have hmg : mg ("law" : PySem.Str) = some (.ref fa') := by
      have e : (HandSHeadRun.topDef (PySem.W.OpenLaw.row PySem.Challenge.rw_waysleft_k52_freest_bags).prog 45).name = ("law" : PySem.Str) := by kernel_rfl
      rw [← e]
      exact hmg0
    obtain ⟨fd, hb, hF⟩ := facts (P := (PySem.Challenge.rw_waysleft_k52_freest_bags).prog) (w := w) X Y hmg c
    refine ⟨K, fd, spF K 1 m_law, X, hb, fun H a ns hl _ hS => ?_, hF⟩
    exact ⟨H, [.lst (ns.map D.int)], .bl true, rfl, Sub.refl _, ⟨_, _, rfl, ⟨a, _, rfl, hS, reps_ints ns⟩, rfl⟩, math ns hl, fun v F' H' g r => r⟩
end G

theorem PySem.Challenge.cw_waysleft_k52_freest_bags_holds : PySem.Challenge.rw_waysleft_k52_freest_bags.Holds := by
  exact G.holds_of G.law_ok
