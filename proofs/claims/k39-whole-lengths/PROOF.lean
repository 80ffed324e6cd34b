import PyProof.Rows.All
import Wide.All
import OpenK.AllK
import Wide.FinOn
import KE.KStateDown
import KE.GoesNew
import HandS.ForMost
import HandS.More
import HandS.WordsExc
import HandS.Defaults
import HandS.Wide
import HandS.WideBits
import HandS.Style
import HandS.Deep
import HandS.IsInst
import HandS.DictComp
import HandS.Conv
import HandS.Zip
import HandS.HeadHook2
import HandS.Head0
import HandS.Head1
import HandS.Head2
import HandS.HeadEnd
import HandS.HeadHook1
import PySem.Challenge.RW_drawnbits_k39_whole_lengths_and_made_tai
set_option Elab.async false
set_option linter.all false
set_option maxRecDepth 100000
set_option maxHeartbeats 1000000
/-! S1: data that stands still (I), the slots' knowledge (G), the deck; what an expression comes to -/
namespace K39
open PySem L2

/-! ### data in a heap that stands still -/
mutual
inductive Rp (K : PySem.W.Frag) (I : Hp) : V → PyData → Prop
  | non : Rp K I .non .none
  | bl (b : Bool) : Rp K I (.bl b) (.bool b)
  | int (i : Int) : Rp K I (.int i) (.int i)
  | str (x : Str) : Rp K I (.str x) (.str x)
  | lst {a : Addr} {xs : List V} {ds : List PyData} : I a = some (.lst xs) → RpL K I xs ds → Rp K I (.ref a) (.list ds)
  | tup {a : Addr} {xs : List V} {ds : List PyData} : SqT K I a xs → RpL K I xs ds → Rp K I (.ref a) (.tuple ds)
inductive RpL (K : PySem.W.Frag) (I : Hp) : List V → List PyData → Prop
  | nil : RpL K I [] []
  | cons {v : V} {vs : List V} {d : PyData} {ds : List PyData} : Rp K I v d → RpL K I vs ds → RpL K I (v :: vs) (d :: ds)
end

theorem Same.sqt {K : PySem.W.Frag} {I J : Hp} {a : Addr} {xs : List V} (s : Same I J) (h : SqT K I a xs) : SqT K J a xs := by
  rcases h with (h | ⟨o, h⟩) | h
  · exact .inl (.inl (s _ _ h))
  · exact .inl (.inr ⟨o, s _ _ h⟩)
  · exact .inr h

mutual
theorem Rp.mono {K : PySem.W.Frag} {I J : Hp} (s : Same I J) : ∀ {v : V} {d : PyData}, Rp K I v d → Rp K J v d
  | _, _, .non => .non
  | _, _, .bl b => .bl b
  | _, _, .int i => .int i
  | _, _, .str x => .str x
  | _, _, .lst h r => .lst (s _ _ h) (RpL.mono s r)
  | _, _, .tup h r => .tup (Same.sqt s h) (RpL.mono s r)
theorem RpL.mono {K : PySem.W.Frag} {I J : Hp} (s : Same I J) : ∀ {vs : List V} {ds : List PyData}, RpL K I vs ds → RpL K J vs ds
  | _, _, .nil => .nil
  | _, _, .cons h r => .cons (Rp.mono s h) (RpL.mono s r)
end
mutual
theorem Rp.dp {K : PySem.W.Frag} {I : Hp} : ∀ {v : V} {d : PyData}, Rp K I v d → Dp K I v d
  | _, _, .non => .non
  | _, _, .bl b => .bl b
  | _, _, .int i => .int i
  | _, _, .str x => .str x
  | _, _, .lst h r => .lst (.inl (.inl h)) (RpL.dp r)
  | _, _, .tup h r => .tup h (RpL.dp r)
theorem RpL.dp {K : PySem.W.Frag} {I : Hp} : ∀ {vs : List V} {ds : List PyData}, RpL K I vs ds → DpAll K I vs ds
  | _, _, .nil => .nil
  | _, _, .cons h r => .cons (Rp.dp h) (RpL.dp r)
end
section
variable {K : PySem.W.Frag} {I J H : Hp} {v : V} {vs : List V} {ds es : List PyData} {d : PyData}
theorem RpL.len (r : RpL K I vs ds) : vs.length = ds.length := by
  induction vs generalizing ds with
  | nil => cases r; rfl
  | cons v vs ih => cases r with | cons _ r => simp [ih r]
theorem RpL.get : ∀ {vs : List V} {ds : List PyData} {i : Nat}, RpL K I vs ds → ∀ {d}, ds[i]? = some d → ∃ v, vs[i]? = some v ∧ Rp K I v d
  | _, _, _, .nil, _, e => by simp at e
  | _, _, 0, .cons h _, _, e => by simp at e; subst e; exact ⟨_, rfl, h⟩
  | _, _, i + 1, .cons _ r, d, e => by
    obtain ⟨v, h1, h2⟩ := RpL.get (i := i) r (d := d) (by simpa using e)
    exact ⟨v, by simpa using h1, h2⟩
theorem RpL.getV : ∀ {vs : List V} {ds : List PyData} {i : Nat}, RpL K I vs ds → ∀ {v}, vs[i]? = some v → ∃ d, ds[i]? = some d ∧ Rp K I v d
  | _, _, _, .nil, _, e => by simp at e
  | _, _, 0, .cons h _, _, e => by simp at e; subst e; exact ⟨_, rfl, h⟩
  | _, _, i + 1, .cons _ r, d, e => by
    obtain ⟨v, h1, h2⟩ := RpL.getV (i := i) r (v := d) (by simpa using e)
    exact ⟨v, by simpa using h1, h2⟩
theorem RpL.app : ∀ {vs ws : List V} {ds es : List PyData}, RpL K I vs ds → RpL K I ws es → RpL K I (vs ++ ws) (ds ++ es)
  | _, _, _, _, .nil, q => q
  | _, _, _, _, .cons h r, q => .cons h (RpL.app r q)
theorem RpL.set : ∀ {vs : List V} {ds : List PyData} {j : Nat}, RpL K I vs ds → Rp K I v d → RpL K I (vs.set j v) (ds.set j d)
  | _, _, _, .nil, _ => .nil
  | _, _, 0, .cons _ r, q => .cons q r
  | _, _, j + 1, .cons h r, q => .cons h (RpL.set (j := j) r q)
theorem RpL.take : ∀ {vs : List V} {ds : List PyData} (n : Nat), RpL K I vs ds → RpL K I (vs.take n) (ds.take n)
  | _, _, 0, _ => .nil
  | _, _, _ + 1, .nil => .nil
  | _, _, n + 1, .cons h r => .cons h (RpL.take n r)
theorem RpL.drop : ∀ {vs : List V} {ds : List PyData} (n : Nat), RpL K I vs ds → RpL K I (vs.drop n) (ds.drop n)
  | _, _, 0, r => r
  | _, _, _ + 1, .nil => .nil
  | _, _, n + 1, .cons _ r => RpL.drop n r
theorem RpL.ints : ∀ {vs : List V} {ns : List Int}, RpL K I vs (ns.map PyData.int) → vs = ns.map V.int
  | _, [], r => by cases r; rfl
  | _, n :: ns, r => by
    cases r with
    | cons h r => cases h; rw [RpL.ints (ns := ns) r]; rfl
theorem RpL.of_ints : ∀ (ns : List Int), RpL K I (ns.map V.int) (ns.map PyData.int)
  | [] => .nil
  | n :: ns => .cons (.int n) (RpL.of_ints ns)
theorem RpL.bools : ∀ {vs : List V} {ns : List Bool}, RpL K I vs (ns.map PyData.bool) → vs = ns.map V.bl
  | _, [], r => by cases r; rfl
  | _, n :: ns, r => by
    cases r with
    | cons h r => cases h; rw [RpL.bools (ns := ns) r]; rfl
end

/-! ### the deck -/
structure DeckAt (H : Hp) (d l : Addr) : Prop where
  ex : ∃ (cs : List Int) (m n : Int), H d = some (.dK [(.inr "cells", .ref l), (.inr "mixed", .int m), (.inr "draws", .int n)]) ∧ H l = some (.lst (cs.map V.int)) ∧ cs.length ≤ 100
theorem DeckAt.ne {H : Hp} {d l : Addr} (h : DeckAt H d l) : d ≠ l := by
  obtain ⟨cs, m, n, h1, h2, _⟩ := h.ex
  exact ne_of h1 h2 (by intro z; cases z)
abbrev Dk := Option (Addr × Addr)
def zone (dk : Dk) (a : Addr) : Prop := ∃ p, dk = some p ∧ (a = p.1 ∨ a = p.2)
theorem no_zone {a : Addr} : ¬ zone none a := by rintro ⟨p, h, _⟩; cases h

/-- I stands still within H; the deck, if there is one, stands in H alone -/
structure Ok (dk : Dk) (I H : Hp) : Prop where
  sub : Same I H
  dk : ∀ p, dk = some p → DeckAt H p.1 p.2 ∧ I p.1 = none ∧ I p.2 = none
/-- from (I, H) to (I', H'): nothing that is tracked has changed but the deck -/
structure Nx (dk : Dk) (I H I' H' : Hp) : Prop where
  ok : Ok dk I' H'
  ii : Same I I'
  hh : ∀ a o, H a = some o → ¬ zone dk a → H' a = some o
  fr : ∀ a o, H a = some o → I a = none → I' a = none
section
variable {dk : Dk} {I H I1 H1 I2 H2 : Hp}
theorem Ok.zoneH (o : Ok dk I H) {a : Addr} (z : zone dk a) : (∃ u, H a = some u) ∧ I a = none := by
  obtain ⟨p, e, q⟩ := z
  obtain ⟨D, n1, n2⟩ := o.dk p e
  obtain ⟨cs, m, n, h1, h2, _⟩ := D.ex
  rcases q with rfl | rfl
  · exact ⟨⟨_, h1⟩, n1⟩
  · exact ⟨⟨_, h2⟩, n2⟩
theorem Nx.refl (o : Ok dk I H) : Nx dk I H I H := ⟨o, Same.refl I, fun _ _ h _ => h, fun _ _ _ h => h⟩
theorem Nx.trans (a : Nx dk I H I1 H1) (b : Nx dk I1 H1 I2 H2) : Nx dk I H I2 H2 := by
  refine ⟨b.ok, a.ii.trans b.ii, fun x o h z => b.hh x o (a.hh x o h z) z, fun x o h n => ?_⟩
  have n1 := a.fr x o h n
  by_cases z : zone dk x
  · exact (b.ok.zoneH z).2
  · exact b.fr x o (a.hh x o h z) n1
/-- a new object that stands still from now on -/
theorem Ok.upd (o : Ok dk I H) {p : Addr} {u : HO} (n : H p = none) : Ok dk (upd I p u) (upd H p u) := by
  refine ⟨fun b x e => ?_, fun q e => ?_⟩
  · by_cases hb : b = p
    · subst hb; rw [upd_same] at e ⊢; exact e
    · rw [upd_ne hb] at e ⊢; exact o.sub b x e
  · obtain ⟨D, n1, n2⟩ := o.dk q e
    obtain ⟨cs, m, k, h1, h2, h3⟩ := D.ex
    have e1 := ne_of_none h1 n
    have e2 := ne_of_none h2 n
    exact ⟨⟨cs, m, k, by rw [upd_ne e1]; exact h1, by rw [upd_ne e2]; exact h2, h3⟩, by rw [upd_ne e1]; exact n1, by rw [upd_ne e2]; exact n2⟩
theorem Ok.none_of (o : Ok dk I H) {p : Addr} (n : H p = none) : I p = none := by
  cases e : I p with
  | none => rfl
  | some u => rw [o.sub p u e] at n; cases n
theorem Nx.new (o : Ok dk I H) {p : Addr} {u : HO} (n : H p = none) : Nx dk I H (upd I p u) (upd H p u) := by
  refine ⟨o.upd n, fun b x e => ?_, fun b x e _ => ?_, fun b x e k => ?_⟩
  · rw [upd_ne (ne_of_none e (o.none_of n))]; exact e
  · rw [upd_ne (ne_of_none e n)]; exact e
  · rw [upd_ne (ne_of_none e n)]; exact k
/-- a new object that may still change -/
theorem Nx.newM (o : Ok dk I H) {p : Addr} {u : HO} (n : H p = none) : Nx dk I H I (upd H p u) := by
  refine ⟨⟨fun b x e => ?_, fun q e => ?_⟩, Same.refl I, fun b x e _ => ?_, fun b x e k => k⟩
  · rw [upd_ne (ne_of_none e (o.none_of n))]; exact o.sub b x e
  · obtain ⟨D, n1, n2⟩ := o.dk q e
    obtain ⟨cs, m, k, h1, h2, h3⟩ := D.ex
    exact ⟨⟨cs, m, k, by rw [upd_ne (ne_of_none h1 n)]; exact h1, by rw [upd_ne (ne_of_none h2 n)]; exact h2, h3⟩, n1, n2⟩
  · rw [upd_ne (ne_of_none e n)]; exact e
end

/-! ### what is known of a slot -/
inductive G where
  | no
  | dat (d : PyData)
  | mut (ds : List PyData)
  | deck
structure Know (K : PySem.W.Frag) (dk : Dk) (I0 H0 : Hp) (Γ : List G) (σ : L2.St) (I H : Hp) : Prop where
  nx : Nx dk I0 H0 I H
  len : σ.length = Γ.length
  dat : ∀ (i : Nat) (d : PyData), Γ[i]? = some (.dat d) → ∃ v, σ[i]? = some (some v) ∧ Rp K I v d
  mu : ∀ (i : Nat) (ds : List PyData), Γ[i]? = some (.mut ds) → ∃ p vs, σ[i]? = some (some (.ref p)) ∧ H p = some (.lst vs) ∧ I p = none ∧ H0 p = none ∧ ¬ zone dk p ∧ RpL K I vs ds
  inj : ∀ (i j : Nat) (ds es : List PyData) (p : Addr), Γ[i]? = some (.mut ds) → Γ[j]? = some (.mut es) → σ[i]? = some (some (V.ref p)) → σ[j]? = some (some (V.ref p)) → i = j
  deck : ∀ (i : Nat), Γ[i]? = some .deck → ∃ p, dk = some p ∧ σ[i]? = some (some (.ref p.1))
section
variable {K : PySem.W.Frag} {dk : Dk} {I0 H0 I H I1 H1 : Hp} {Γ : List G} {σ : L2.St}
theorem Know.ok (e : Know K dk I0 H0 Γ σ I H) : Ok dk I H := e.nx.ok
theorem Know.step (e : Know K dk I0 H0 Γ σ I H) (n : Nx dk I H I1 H1) : Know K dk I0 H0 Γ σ I1 H1 := by
  refine ⟨e.nx.trans n, e.len, fun i d h => ?_, fun i ds h => ?_, e.inj, e.deck⟩
  · obtain ⟨v, h1, h2⟩ := e.dat i d h
    exact ⟨v, h1, h2.mono n.ii⟩
  · obtain ⟨p, vs, h1, h2, h3, h4, h5, h6⟩ := e.mu i ds h
    exact ⟨p, vs, h1, n.hh _ _ h2 h5, n.fr _ _ h2 h3, h4, h5, h6.mono n.ii⟩
/-- a slot takes a value of known data -/
theorem Know.set (e : Know K dk I0 H0 Γ σ I H) {i : Nat} {v : V} {d : PyData} (r : Rp K I v d) : Know K dk I0 H0 (Γ.set i (.dat d)) (σ.set i (some v)) I H := by
  have get : ∀ (j : Nat) (g : G), (Γ.set i (.dat d))[j]? = some g → (i = j ∧ i < Γ.length ∧ g = .dat d) ∨ (i ≠ j ∧ Γ[j]? = some g) := fun j g h => by
    by_cases q : i = j
    · subst q
      by_cases hl : i < Γ.length
      · rw [List.getElem?_set_self hl] at h
        exact .inl ⟨rfl, hl, (Option.some.inj h).symm⟩
      · rw [List.getElem?_eq_none (by simpa using hl)] at h; cases h
    · rw [List.getElem?_set_ne q] at h
      exact .inr ⟨q, h⟩
  refine ⟨e.nx, by simp [e.len], fun j d' h => ?_, fun j ds h => ?_, fun j k ds es p h1 h2 h3 h4 => ?_, fun j h => ?_⟩
  · rcases get j _ h with ⟨rfl, hl, q⟩ | ⟨q, h⟩
    · cases q
      exact ⟨v, by rw [List.getElem?_set_self (by rw [e.len]; exact hl)], r⟩
    · obtain ⟨w, h1, h2⟩ := e.dat j d' h
      exact ⟨w, by rw [List.getElem?_set_ne q]; exact h1, h2⟩
  · rcases get j _ h with ⟨rfl, hl, q⟩ | ⟨q, h⟩
    · cases q
    · obtain ⟨p, vs, h1, h2⟩ := e.mu j ds h
      exact ⟨p, vs, by rw [List.getElem?_set_ne q]; exact h1, h2⟩
  · rcases get j _ h1 with ⟨rfl, hl, q⟩ | ⟨q, h1⟩
    · cases q
    · rcases get k _ h2 with ⟨rfl, hl, q'⟩ | ⟨q', h2⟩
      · cases q'
      · rw [List.getElem?_set_ne q] at h3
        rw [List.getElem?_set_ne q'] at h4
        exact e.inj j k ds es p h1 h2 h3 h4
  · rcases get j _ h with ⟨rfl, hl, q⟩ | ⟨q, h⟩
    · cases q
    · obtain ⟨p, h1, h2⟩ := e.deck j h
      exact ⟨p, h1, by rw [List.getElem?_set_ne q]; exact h2⟩
/-- knowledge forgotten, slots that are not known changed at will -/
theorem Know.weak (e : Know K dk I0 H0 Γ σ I H) {Γ' : List G} {σ' : L2.St} (hl : Γ'.length = Γ.length) (hs : σ'.length = σ.length) (h : ∀ (i : Nat) (g : K39.G), Γ'[i]? = some g → g = K39.G.no ∨ (Γ[i]? = some g ∧ σ'[i]? = σ[i]?)) : Know K dk I0 H0 Γ' σ' I H := by
  have hm : ∀ (i : Nat) (g : K39.G), Γ'[i]? = some g → g ≠ K39.G.no → Γ[i]? = some g ∧ σ'[i]? = σ[i]? := fun i g q n => (h i g q).resolve_left n
  refine ⟨e.nx, by rw [hs, hl, e.len], fun i d q => ?_, fun i ds q => ?_, fun i j ds es p q1 q2 q3 q4 => ?_, fun i q => ?_⟩
  · obtain ⟨a, b⟩ := hm i _ q (by simp)
    rw [b]; exact e.dat i d a
  · obtain ⟨a, b⟩ := hm i _ q (by simp)
    rw [b]; exact e.mu i ds a
  · obtain ⟨a, b⟩ := hm i _ q1 (by simp)
    obtain ⟨a', b'⟩ := hm j _ q2 (by simp)
    rw [b] at q3
    rw [b'] at q4
    exact e.inj i j ds es p a a' q3 q4
  · obtain ⟨a, b⟩ := hm i _ q (by simp)
    rw [b]; exact e.deck i a
end
end K39

set_option Elab.async false
set_option linter.all false
set_option maxRecDepth 100000
set_option maxHeartbeats 1000000
/-! S2: what expressions, tests, arguments come to; statements -/
namespace K39
open PySem L2
section
variable {K : PySem.W.Frag} {dk : Dk} {I0 H0 I H I1 H1 : Hp} {Γ Γ' : List K39.G} {σ : L2.St}

/-! ### forgetting one address -/
def del (I : Hp) (p : Addr) : Hp := fun b => if b = p then none else I b
theorem del_same {p : Addr} : del I p p = none := by unfold del; rw [if_pos rfl]
theorem del_ne {p b : Addr} (h : b ≠ p) : del I p b = I b := by unfold del; rw [if_neg h]
theorem del_none {p b : Addr} (h : I b = none) : del I p b = none := by
  unfold del; split
  · rfl
  · exact h
theorem len_lt {i : Nat} {α : Type} {l : List α} {x : α} (h : l[i]? = some x) : i < l.length := (List.getElem?_eq_some_iff.mp h).1
theorem set_at {α : Type} {l : List α} {i j : Nat} {x y : α} (h : (l.set i x)[j]? = some y) : (i = j ∧ i < l.length ∧ y = x) ∨ (i ≠ j ∧ l[j]? = some y) := by
  by_cases q : i = j
  · subst q
    by_cases hl : i < l.length
    · rw [List.getElem?_set_self hl] at h
      exact .inl ⟨rfl, hl, (Option.some.inj h).symm⟩
    · rw [List.getElem?_eq_none (by simpa using hl)] at h; cases h
  · rw [List.getElem?_set_ne q] at h
    exact .inr ⟨q, h⟩

theorem Know.freeze (e : Know K dk I0 H0 Γ σ I H) {i : Nat} {ds : List PyData} (h : Γ[i]? = some (.mut ds)) :
    ∃ p vs, σ[i]? = some (some (.ref p)) ∧ H p = some (.lst vs) ∧ I p = none ∧ ¬ zone dk p ∧ RpL K I vs ds ∧ Know K dk I0 H0 (Γ.set i (.dat (.list ds))) σ (upd I p (.lst vs)) H := by
  obtain ⟨p, vs, h1, h2, h3, h4, h5, h6⟩ := e.mu i ds h
  have hi := len_lt h
  have hI0 : I0 p = none := by
    cases q : I0 p with
    | none => rfl
    | some u => rw [e.nx.ii p u q] at h3; cases h3
  have sm : Same I (upd I p (.lst vs)) := fun a o q => by rw [upd_ne (ne_of_none q h3)]; exact q
  refine ⟨p, vs, h1, h2, h3, h5, h6, ⟨⟨⟨fun a o q => ?_, fun q eq => ?_⟩, e.nx.ii.trans sm, e.nx.hh, fun a o q n => ?_⟩, by rw [List.length_set]; exact e.len, fun j d q => ?_, fun j es q => ?_, fun j k ds' es' p' q1 q2 q3 q4 => ?_, fun j q => ?_⟩⟩
  · by_cases hb : a = p
    · subst hb; rw [upd_same] at q; rw [h2]; exact q
    · rw [upd_ne hb] at q; exact e.nx.ok.sub a o q
  · obtain ⟨D, n1, n2⟩ := e.ok.dk q eq
    exact ⟨D, by rw [upd_ne (fun z => h5 ⟨q, eq, .inl z.symm⟩)]; exact n1, by rw [upd_ne (fun z => h5 ⟨q, eq, .inr z.symm⟩)]; exact n2⟩
  · rw [upd_ne (ne_of_none q h4)]; exact e.nx.fr a o q n
  · rcases set_at q with ⟨rfl, _, z⟩ | ⟨_, q⟩
    · cases z
      exact ⟨.ref p, h1, .lst upd_same (h6.mono sm)⟩
    · obtain ⟨v, a, b⟩ := e.dat j d q
      exact ⟨v, a, b.mono sm⟩
  · rcases set_at q with ⟨rfl, _, z⟩ | ⟨hne, q⟩
    · cases z
    · obtain ⟨p', vs', g1, g2, g3, g4, g5, g6⟩ := e.mu j es q
      refine ⟨p', vs', g1, g2, ?_, g4, g5, g6.mono sm⟩
      rw [upd_ne (fun z => hne (e.inj i j ds es p h q h1 (by rw [z] at g1; exact g1)))]
      exact g3
  · rcases set_at q1 with ⟨rfl, _, z⟩ | ⟨_, q1⟩
    · cases z
    · rcases set_at q2 with ⟨rfl, _, z⟩ | ⟨_, q2⟩
      · cases z
      · exact e.inj j k ds' es' p' q1 q2 q3 q4
  · rcases set_at q with ⟨rfl, _, z⟩ | ⟨_, q⟩
    · cases z
    · exact e.deck j q

/-! ### the judgements -/
def EvP (K : PySem.W.Frag) (dk : Dk) (te : TE) (Γ : List K39.G) (P : PyData → Prop) : Prop :=
  ∀ (I0 H0 : Hp) (σ : L2.St) (I H : Hp) (Q : VK), Know K dk I0 H0 Γ σ I H → (∀ v d I' H', P d → Nx dk I H I' H' → Rp K I' v d → Q v H') → te σ H Q
abbrev EvD (K : PySem.W.Frag) (dk : Dk) (te : TE) (Γ : List K39.G) (d : PyData) : Prop := EvP K dk te Γ (fun r => r = d)
def EvA (K : PySem.W.Frag) (dk : Dk) (ta : TA) (Γ : List K39.G) (P : List PyData → Prop) : Prop :=
  ∀ (I0 H0 : Hp) (σ : L2.St) (I H : Hp) (Q : List V → Hp → Prop), Know K dk I0 H0 Γ σ I H → (∀ vs ds I' H', P ds → Nx dk I H I' H' → RpL K I' vs ds → Q vs H') → ta σ H Q
abbrev EvAD (K : PySem.W.Frag) (dk : Dk) (ta : TA) (Γ : List K39.G) (ds : List PyData) : Prop := EvA K dk ta Γ (fun r => r = ds)
def EvT (K : PySem.W.Frag) (dk : Dk) (tt : TT) (Γ : List K39.G) (P : Bool → Prop) : Prop :=
  ∀ (I0 H0 : Hp) (σ : L2.St) (I H : Hp) (Q : Bool → Hp → Prop), Know K dk I0 H0 Γ σ I H → (∀ b I' H', P b → Nx dk I H I' H' → Q b H') → tt σ H Q
abbrev EvB (K : PySem.W.Frag) (dk : Dk) (tt : TT) (Γ : List K39.G) (b : Bool) : Prop := EvT K dk tt Γ (fun r => r = b)
/-- a new list that may still change -/
def EvM (K : PySem.W.Frag) (dk : Dk) (te : TE) (Γ : List K39.G) (P : List PyData → Prop) : Prop :=
  ∀ (I0 H0 : Hp) (σ : L2.St) (I H : Hp) (Q : VK), Know K dk I0 H0 Γ σ I H → (∀ p vs ds I' H', P ds → Nx dk I H I' H' → H p = none → H' p = some (.lst vs) → I' p = none → RpL K I' vs ds → Q (.ref p) H') → te σ H Q
/-- what a loop walks -/
def Walks (K : PySem.W.Frag) (dk : Dk) (J : It) (I : Hp) (items : List PyData) : Prop :=
  ∀ (i : Nat) (I2 H2 : Hp), Ok dk I2 H2 → Same I I2 → (i = items.length → J.stop i H2) ∧ ∀ d, items[i]? = some d → J.go i H2 ∧ ∀ x H3, J.yld i H2 x H3 → ∃ I3, Nx dk I2 H2 I3 H3 ∧ Rp K I3 x d
def EvI (K : PySem.W.Frag) (dk : Dk) (wi : TI) (Γ : List K39.G) (items : List PyData) : Prop :=
  ∀ (I0 H0 : Hp) (σ : L2.St) (I H : Hp) (R : It → Hp → Prop), Know K dk I0 H0 Γ σ I H → (∀ J I' H', Nx dk I H I' H' → Walks K dk J I' items → R J H') → wi σ H R
/-- a target takes an item -/
def Tg (K : PySem.W.Frag) (dk : Dk) (g : TG) (vs : List Nat) (x : PyData) (Γ Γ' : List K39.G) : Prop :=
  ∀ (I0 H0 : Hp) (v : V) (σ : L2.St) (I H : Hp) (Q : L2.St → Hp → Prop), Know K dk I0 H0 Γ σ I H → Rp K I v x → (∀ σ', Know K dk I0 H0 Γ' σ' I H → wipe σ' vs = wipe σ vs → Q σ' H) → g v σ H Q
/-- a statement, a block: N what is known behind it, R what it returns -/
def SOk (K : PySem.W.Frag) (dk : Dk) (ts : TS) (Γ : List K39.G) (N : List K39.G → Prop) (R : PyData → Prop) : Prop :=
  ∀ (I0 H0 : Hp) (σ : L2.St) (I H : Hp) (D : Ends), Know K dk I0 H0 Γ σ I H → (∀ Γ' σ' I' H', N Γ' → Know K dk I0 H0 Γ' σ' I' H' → Same I I' → D.nx σ' H') →
    (∀ v d I' H', R d → Nx dk I0 H0 I' H' → Rp K I' v d → D.rt v H') → ts D σ H
/-- an operator, a call, by data -/
def OpD (K : PySem.W.Frag) (dk : Dk) (r : R2) (x y : PyData) (P : PyData → Prop) : Prop :=
  ∀ (I H : Hp) (v u : V) (Q : VK), Ok dk I H → Rp K I v x → Rp K I u y → (∀ w d I' H', P d → Nx dk I H I' H' → Rp K I' w d → Q w H') → r v u H Q
def UnD (K : PySem.W.Frag) (dk : Dk) (r : V → Hp → VK → Prop) (x : PyData) (P : PyData → Prop) : Prop :=
  ∀ (I H : Hp) (v : V) (Q : VK), Ok dk I H → Rp K I v x → (∀ w d I' H', P d → Nx dk I H I' H' → Rp K I' w d → Q w H') → r v H Q
def CallD (K : PySem.W.Frag) (dk : Dk) (r : List V → Hp → VK → Prop) (xs : List PyData) (P : PyData → Prop) : Prop :=
  ∀ (I H : Hp) (vs : List V) (Q : VK), Ok dk I H → RpL K I vs xs → (∀ w d I' H', P d → Nx dk I H I' H' → Rp K I' w d → Q w H') → r vs H Q

/-! ### expressions -/
variable {ta tb tc te : TE} {P P1 P2 : PyData → Prop} {r : R2} {x y z d : PyData} {tt tu : TT} {B B1 B2 : Bool → Prop}
theorem EvP.imp (h : EvP K dk te Γ P) (i : ∀ d, P d → P1 d) : EvP K dk te Γ P1 := fun I0 H0 σ I H Q e k => h I0 H0 σ I H Q e fun v d I' H' p => k v d I' H' (i d p)
theorem EvP.cast (h : EvD K dk te Γ x) (e : x = y) : EvD K dk te Γ y := e ▸ h
theorem EvT.imp (h : EvT K dk tt Γ B) (i : ∀ b, B b → B1 b) : EvT K dk tt Γ B1 := fun I0 H0 σ I H Q e k => h I0 H0 σ I H Q e fun b I' H' p => k b I' H' (i b p)
theorem EvT.cast {a b : Bool} (h : EvB K dk tt Γ a) (e : a = b) : EvB K dk tt Γ b := e ▸ h
theorem EvD.any (h : EvD K dk te Γ x) (p : P x) : EvP K dk te Γ P := h.imp fun d e => e ▸ p
theorem ev_var {i : Nat} (h : Γ[i]? = some (.dat d)) : EvD K dk (tVar i) Γ d := fun I0 H0 σ I H Q e k => by
  obtain ⟨v, h1, h2⟩ := e.dat i d h
  exact ⟨v, h1, k v d I H rfl (Nx.refl e.ok) h2⟩
theorem ev_int {i : Int} : EvD K dk (tC (.int i)) Γ (.int i) := fun I0 H0 σ I H Q e k => k _ _ I H rfl (Nx.refl e.ok) (.int i)
theorem ev_str {s : Str} : EvD K dk (tC (.str s)) Γ (.str s) := fun I0 H0 σ I H Q e k => k _ _ I H rfl (Nx.refl e.ok) (.str s)
theorem ev_bl {b : Bool} : EvD K dk (tC (.bl b)) Γ (.bool b) := fun I0 H0 σ I H Q e k => k _ _ I H rfl (Nx.refl e.ok) (.bl b)
theorem ev_non : EvD K dk (tC .non) Γ .none := fun I0 H0 σ I H Q e k => k _ _ I H rfl (Nx.refl e.ok) .non
/-- a tuple of the module -/
theorem ev_con {a : Addr} {vs : List V} {ds : List PyData} (h : ∀ H, SqT K H a vs) (r : ∀ I, RpL K I vs ds) : EvD K dk (tC (.ref a)) Γ (.tuple ds) := fun I0 H0 σ I H Q e k => k _ _ I H rfl (Nx.refl e.ok) (.tup (h I) (r I))
theorem ev_op (ha : EvP K dk ta Γ P1) (hb : EvP K dk tb Γ P2) (hr : ∀ x y, P1 x → P2 y → OpD K dk r x y P) : EvP K dk (tOp r ta tb) Γ P := fun I0 H0 σ I H Q e k => by
  refine ha I0 H0 σ I H _ e fun v x I1 H1 p1 n1 r1 => ?_
  refine hb I0 H0 σ I1 H1 _ (e.step n1) fun u y I2 H2 p2 n2 r2 => ?_
  exact hr x y p1 p2 I2 H2 v u Q n2.ok (r1.mono n2.ii) r2 fun w d I3 H3 pd n3 r3 => k w d I3 H3 pd ((n1.trans n2).trans n3) r3
theorem ev_opD (ha : EvD K dk ta Γ x) (hb : EvD K dk tb Γ y) (hr : OpD K dk r x y P) : EvP K dk (tOp r ta tb) Γ P := ev_op ha hb fun _ _ e1 e2 => by subst e1 e2; exact hr
theorem ev_un {r : V → Hp → VK → Prop} (ha : EvD K dk ta Γ x) (hr : UnD K dk r x P) : EvP K dk (tUn r ta) Γ P := fun I0 H0 σ I H Q e k => by
  refine ha I0 H0 σ I H _ e fun v x' I1 H1 p1 n1 r1 => ?_
  subst p1
  exact hr I1 H1 v Q n1.ok r1 fun w d I3 H3 pd n3 r3 => k w d I3 H3 pd (n1.trans n3) r3
theorem ea_nil : EvAD K dk tNil Γ [] := fun I0 H0 σ I H Q e k => k [] [] I H rfl (Nx.refl e.ok) .nil
theorem ea_consP {PA : List PyData → Prop} {tr : TA} {PR : List PyData → Prop} (ha : EvP K dk ta Γ P) (hr : EvA K dk tr Γ PR) (hp : ∀ x xs, P x → PR xs → PA (x :: xs)) : EvA K dk (tCons ta tr) Γ PA := fun I0 H0 σ I H Q e k => by
  refine ha I0 H0 σ I H _ e fun v x I1 H1 p1 n1 r1 => ?_
  exact hr I0 H0 σ I1 H1 _ (e.step n1) fun vs xs I2 H2 p2 n2 r2 => k (v :: vs) (x :: xs) I2 H2 (hp x xs p1 p2) (n1.trans n2) (.cons (r1.mono n2.ii) r2)
theorem ea_cons {tr : TA} {xs : List PyData} (ha : EvD K dk ta Γ x) (hr : EvAD K dk tr Γ xs) : EvAD K dk (tCons ta tr) Γ (x :: xs) := ea_consP ha hr fun _ _ a b => by rw [a, b]
theorem EvA.imp {ta : TA} {PA PB : List PyData → Prop} (h : EvA K dk ta Γ PA) (i : ∀ d, PA d → PB d) : EvA K dk ta Γ PB := fun I0 H0 σ I H Q e k => h I0 H0 σ I H Q e fun v d I' H' p => k v d I' H' (i d p)
theorem small_line {n : Nat} (h : n ≤ 1000) : n ≤ sizeLine := Nat.le_of_lt (small1000 h)
theorem ev_tupP {ta : TA} {PA : List PyData → Prop} (ha : EvA K dk ta Γ PA) (hl : ∀ ds, PA ds → ds.length ≤ 1000) : EvP K dk (tTup ta) Γ (fun d => ∃ ds, d = .tuple ds ∧ PA ds) := fun I0 H0 σ I H Q e k => by
  refine ha I0 H0 σ I H _ e fun vs ds I1 H1 p1 n1 r1 => ⟨by rw [r1.len]; exact small_line (hl ds p1), fun p hp => ?_⟩
  have n2 := Nx.new (u := .tup vs) n1.ok hp
  exact k _ _ _ _ ⟨ds, rfl, p1⟩ (n1.trans n2) (.tup (.inl (.inl upd_same)) (r1.mono n2.ii))
theorem ev_tup {ta : TA} {ds : List PyData} (ha : EvAD K dk ta Γ ds) (hl : ds.length ≤ 1000) : EvD K dk (tTup ta) Γ (.tuple ds) :=
  (ev_tupP ha fun _ e => e ▸ hl).imp fun d ⟨_, e, e2⟩ => by rw [e, e2]
theorem em_lst {ta : TA} {PA : List PyData → Prop} (ha : EvA K dk ta Γ PA) (hl : ∀ ds, PA ds → ds.length ≤ 1000) : EvM K dk (tLst ta) Γ PA := fun I0 H0 σ I H Q e k => by
  refine ha I0 H0 σ I H _ e fun vs ds I1 H1 p1 n1 r1 => ⟨by rw [r1.len]; exact small_line (hl ds p1), fun p hp => ?_⟩
  have hp0 : H p = none := by
    cases q : H p with
    | none => rfl
    | some u =>
      by_cases z : zone dk p
      · obtain ⟨⟨w, hw⟩, _⟩ := n1.ok.zoneH z
        rw [hw] at hp; cases hp
      · rw [n1.hh p u q z] at hp; cases hp
  exact k p vs ds I1 (upd H1 p (.lst vs)) p1 (n1.trans (Nx.newM n1.ok hp)) hp0 upd_same (n1.ok.none_of hp) r1
theorem Nx.free (n : Nx dk I H I1 H1) {p : Addr} (hp : H1 p = none) : H p = none := by
  cases q : H p with
  | none => rfl
  | some u =>
    by_cases z : zone dk p
    · obtain ⟨⟨w, hw⟩, _⟩ := n.ok.zoneH z
      rw [hw] at hp; cases hp
    · rw [n.hh p u q z] at hp; cases hp
/-- a changeable object stands still from now on -/
theorem Nx.still (n : Nx dk I H I1 H1) {p : Addr} {u : HO} (h : H1 p = some u) (h0 : H p = none) (n1 : I1 p = none) (nz : ¬ zone dk p) : Nx dk I H (upd I1 p u) H1 := by
  refine ⟨⟨fun a o q => ?_, fun q eq => ?_⟩, fun a o q => ?_, n.hh, fun a o q k => ?_⟩
  · by_cases hb : a = p
    · subst hb; rw [upd_same] at q; rw [h]; exact q
    · rw [upd_ne hb] at q; exact n.ok.sub a o q
  · obtain ⟨D, k1, k2⟩ := n.ok.dk q eq
    exact ⟨D, by rw [upd_ne (fun z => nz ⟨q, eq, .inl z.symm⟩)]; exact k1, by rw [upd_ne (fun z => nz ⟨q, eq, .inr z.symm⟩)]; exact k2⟩
  · rw [upd_ne (ne_of_none (n.ii a o q) n1)]; exact n.ii a o q
  · rw [upd_ne (ne_of_none q h0)]; exact n.fr a o q k
theorem Ok.nz (o : Ok dk I H) {p : Addr} (h : H p = none) : ¬ zone dk p := fun z => by
  obtain ⟨⟨w, hw⟩, _⟩ := o.zoneH z
  rw [hw] at h; cases h
theorem EvM.still {PA : List PyData → Prop} (h : EvM K dk te Γ PA) : EvP K dk te Γ (fun d => ∃ ds, d = .list ds ∧ PA ds) := fun I0 H0 σ I H Q e k => by
  refine h I0 H0 σ I H Q e fun p vs ds I1 H1 p1 n1 h0 h1 h2 r1 => ?_
  have sm : Same I1 (upd I1 p (.lst vs)) := fun a o q => by rw [upd_ne (ne_of_none q h2)]; exact q
  exact k _ _ _ _ ⟨ds, rfl, p1⟩ (n1.still h1 h0 h2 (e.ok.nz h0)) (.lst upd_same (r1.mono sm))
theorem EvM.stillD {ds : List PyData} (h : EvM K dk te Γ (fun r => r = ds)) : EvD K dk te Γ (.list ds) := h.still.imp fun d ⟨_, e, e2⟩ => by rw [e, e2]
theorem EvM.imp {PA PB : List PyData → Prop} (h : EvM K dk te Γ PA) (i : ∀ d, PA d → PB d) : EvM K dk te Γ PB := fun I0 H0 σ I H Q e k => h I0 H0 σ I H Q e fun p vs ds I' H' q => k p vs ds I' H' (i ds q)
/-- a list that may change is read as if it stood still; the answer is an int -/
theorem ev_thaw {i : Nat} {ds : List PyData} {PI : Int → Prop} (h : Γ[i]? = some (.mut ds)) (hv : EvP K dk te (Γ.set i (.dat (.list ds))) (fun d => ∃ n, d = .int n ∧ PI n)) : EvP K dk te Γ (fun d => ∃ n, d = .int n ∧ PI n) := fun I0 H0 σ I H Q e k => by
  obtain ⟨p, vs, h1, h2, h3, h5, h6, e'⟩ := e.freeze h
  refine hv I0 H0 σ _ H Q e' fun v d I1 H1 ⟨n, ed, pn⟩ n1 r1 => ?_
  subst ed
  cases r1
  refine k _ _ (del I1 p) H1 ⟨n, rfl, pn⟩ ?_ (.int n)
  refine ⟨⟨fun a o q => ?_, fun q eq => ?_⟩, fun a o q => ?_, n1.hh, fun a o q kk => ?_⟩
  · by_cases hb : a = p
    · subst hb; rw [del_same] at q; cases q
    · rw [del_ne hb] at q; exact n1.ok.sub a o q
  · obtain ⟨D, k1, k2⟩ := n1.ok.dk q eq
    exact ⟨D, del_none k1, del_none k2⟩
  · rw [del_ne (ne_of_none q h3)]
    exact n1.ii a o (by rw [upd_ne (ne_of_none q h3)]; exact q)
  · by_cases hb : a = p
    · subst hb; exact del_same
    · rw [del_ne hb]
      exact n1.fr a o q (by rw [upd_ne hb]; exact kk)
theorem et_thaw {i : Nat} {ds : List PyData} (h : Γ[i]? = some (.mut ds)) (hv : EvT K dk tt (Γ.set i (.dat (.list ds))) B) : EvT K dk tt Γ B := fun I0 H0 σ I H Q e k => by
  obtain ⟨p, vs, h1, h2, h3, h5, h6, e'⟩ := e.freeze h
  refine hv I0 H0 σ _ H Q e' fun b I1 H1 pn n1 => ?_
  refine k b (del I1 p) H1 pn ?_
  refine ⟨⟨fun a o q => ?_, fun q eq => ?_⟩, fun a o q => ?_, n1.hh, fun a o q kk => ?_⟩
  · by_cases hb : a = p
    · subst hb; rw [del_same] at q; cases q
    · rw [del_ne hb] at q; exact n1.ok.sub a o q
  · obtain ⟨D, k1, k2⟩ := n1.ok.dk q eq
    exact ⟨D, del_none k1, del_none k2⟩
  · rw [del_ne (ne_of_none q h3)]
    exact n1.ii a o (by rw [upd_ne (ne_of_none q h3)]; exact q)
  · by_cases hb : a = p
    · subst hb; exact del_same
    · rw [del_ne hb]
      exact n1.fr a o q (by rw [upd_ne hb]; exact kk)
/-- an item of a list that may change -/
theorem ev_ixM {i : Nat} {ds : List PyData} {j : Int} (h : Γ[i]? = some (.mut ds)) (hb : EvD K dk tb Γ (.int j)) (ha : atI ds j = some d) : EvD K dk (tOp (rIx K) (tVar i) tb) Γ d := fun I0 H0 σ I H Q e k => by
  obtain ⟨p, vs, h1, h2, h3, h4, h5, h6⟩ := e.mu i ds h
  refine ⟨_, h1, hb I0 H0 σ I H _ e fun u y I1 H1 p1 n1 r1 => ?_⟩
  subst p1
  cases r1
  have hl := h6.len
  obtain ⟨v, hv, rv⟩ : ∃ v, atI vs j = some v ∧ Rp K I v d := by
    unfold atI at ha ⊢
    rw [hl]
    cases q : ixN ds.length j with
    | none => rw [q] at ha; cases ha
    | some n =>
      rw [q] at ha
      obtain ⟨v, a, b⟩ := h6.get (d := d) ha
      exact ⟨v, a, b⟩
  exact .inl ⟨p, vs, j, v, rfl, rfl, .inl (.inl (n1.hh _ _ h2 h5)), hv, k v d I1 H1 rfl n1 (rv.mono n1.ii)⟩
theorem ev_CB {r : List V → Hp → VK → Prop} {ta : TA} {xs : List PyData} (ha : EvAD K dk ta Γ xs) (hr : CallD K dk r xs P) : EvP K dk (tCB r ta) Γ P := fun I0 H0 σ I H Q e k => by
  refine ha I0 H0 σ I H _ e fun vs ds I1 H1 p1 n1 r1 => ?_
  subst p1
  exact hr I1 H1 vs Q n1.ok r1 fun w d I3 H3 pd n3 r3 => k w d I3 H3 pd (n1.trans n3) r3
theorem ev_CBP {r : List V → Hp → VK → Prop} {ta : TA} {PA : List PyData → Prop} (ha : EvA K dk ta Γ PA) (hr : ∀ xs, PA xs → CallD K dk r xs P) : EvP K dk (tCB r ta) Γ P := fun I0 H0 σ I H Q e k => by
  refine ha I0 H0 σ I H _ e fun vs ds I1 H1 p1 n1 r1 => ?_
  exact hr ds p1 I1 H1 vs Q n1.ok r1 fun w d I3 H3 pd n3 r3 => k w d I3 H3 pd (n1.trans n3) r3

/-! ### promises -/
/-- a def that changes nothing -/
def Pu (K : PySem.W.Frag) (pre : List PyData → Prop) (post : List PyData → PyData → Prop) : Sp := fun vs H Q _ =>
  ∃ (dk : Dk) (I : Hp) (ds : List PyData), Ok dk I H ∧ RpL K I vs ds ∧ pre ds ∧ ∀ v d I' H', post ds d → Nx dk I H I' H' → Rp K I' v d → Q v H'
/-- a def whose first argument is the deck -/
def PuD (K : PySem.W.Frag) (pre : List PyData → Prop) (post : List PyData → PyData → Prop) : Sp := fun vs H Q _ =>
  ∃ (p : Addr × Addr) (I : Hp) (ws : List V) (ds : List PyData), vs = .ref p.1 :: ws ∧ Ok (some p) I H ∧ RpL K I ws ds ∧ pre ds ∧ ∀ v d I' H', post ds d → Nx (some p) I H I' H' → Rp K I' v d → Q v H'
theorem ev_callP {pre : List PyData → Prop} {post : List PyData → PyData → Prop} {E : XK} {ta : TA} {PA : List PyData → Prop} (ha : EvA K dk ta Γ PA) (hp : ∀ ds, PA ds → pre ds) : EvP K dk (tCall (Pu K pre post) [] E ta) Γ (fun d => ∃ ds, PA ds ∧ post ds d) := fun I0 H0 σ I H Q e k => by
  refine ha I0 H0 σ I H _ e fun vs ds I1 H1 p1 n1 r1 => ?_
  rw [List.append_nil]
  exact ⟨dk, I1, ds, n1.ok, r1, hp ds p1, fun v d I2 H2 pd n2 r2 => k v d I2 H2 ⟨ds, p1, pd⟩ (n1.trans n2) r2⟩
theorem ev_call {pre : List PyData → Prop} {post : List PyData → PyData → Prop} {E : XK} {ta : TA} {xs : List PyData} (ha : EvAD K dk ta Γ xs) (hp : pre xs) (hq : ∀ d, post xs d → P d) : EvP K dk (tCall (Pu K pre post) [] E ta) Γ P :=
  (ev_callP ha fun ds e => e ▸ hp).imp fun d ⟨ds, e, q⟩ => by subst e; exact hq d q
theorem ev_callK {pre : List PyData → Prop} {post : List PyData → PyData → Prop} {E : XK} {gV : List V → List V → List V} {gD : List PyData → List PyData → List PyData} {ta tk : TA} {xs ys : List PyData}
    (hg : ∀ I vs ws xs ys, RpL K I vs xs → RpL K I ws ys → RpL K I (gV vs ws) (gD xs ys)) (ha : EvAD K dk ta Γ xs) (hk : EvAD K dk tk Γ ys) (hp : pre (gD xs ys)) (hq : ∀ d, post (gD xs ys) d → P d) : EvP K dk (tCallK (Pu K pre post) gV E ta tk) Γ P := fun I0 H0 σ I H Q e k => by
  refine ha I0 H0 σ I H _ e fun vs ds I1 H1 p1 n1 r1 => ?_
  subst p1
  refine hk I0 H0 σ I1 H1 _ (e.step n1) fun ws es I2 H2 p2 n2 r2 => ?_
  subst p2
  exact ⟨dk, I2, _, n2.ok, hg I2 vs ws _ _ (r1.mono n2.ii) r2, hp, fun v d I3 H3 pd n3 r3 => k v d I3 H3 (hq d pd) ((n1.trans n2).trans n3) r3⟩
/-- a call with the deck -/
theorem ev_draw {pre : List PyData → Prop} {post : List PyData → PyData → Prop} {E : XK} {i : Nat} {ta : TA} {PA : List PyData → Prop} (hi : Γ[i]? = some .deck) (ha : EvA K dk ta Γ PA) (hp : ∀ ds, PA ds → pre ds) :
    EvP K dk (tCall (PuD K pre post) [] E (tCons (tVar i) ta)) Γ (fun d => ∃ ds, PA ds ∧ post ds d) := fun I0 H0 σ I H Q e k => by
  obtain ⟨p, rfl, hs⟩ := e.deck i hi
  refine ⟨_, hs, ha I0 H0 σ I H _ e fun vs ds I1 H1 p1 n1 r1 => ?_⟩
  show PuD K pre post ((V.ref p.fst :: vs) ++ []) H1 Q E
  rw [List.append_nil]
  exact ⟨p, I1, vs, ds, rfl, n1.ok, r1, hp ds p1, fun v d I2 H2 pd n2 r2 => k v d I2 H2 ⟨ds, p1, pd⟩ (n1.trans n2) r2⟩
theorem ev_drawD {pre : List PyData → Prop} {post : List PyData → PyData → Prop} {E : XK} {i : Nat} {ta : TA} {xs : List PyData} (hi : Γ[i]? = some .deck) (ha : EvAD K dk ta Γ xs) (hp : pre xs) (hq : ∀ d, post xs d → P d) :
    EvP K dk (tCall (PuD K pre post) [] E (tCons (tVar i) ta)) Γ P :=
  (ev_draw hi ha fun ds e => e ▸ hp).imp fun d ⟨ds, e, q⟩ => by subst e; exact hq d q

/-! ### tests -/
theorem et_test (h : EvP K dk te Γ (fun d => ∃ b, d = .bool b ∧ B b)) : EvT K dk (tTest te) Γ B := fun I0 H0 σ I H Q e k => h I0 H0 σ I H _ e fun v d I1 H1 ⟨b, ed, pb⟩ n1 r1 => by
  subst ed
  cases r1
  exact ⟨b, rfl, k b I1 H1 pb n1⟩
theorem et_testB {b : Bool} (h : EvD K dk te Γ (.bool b)) : EvB K dk (tTest te) Γ b := et_test (h.imp fun _ e => ⟨b, e, rfl⟩)
theorem et_B (h : EvP K dk te Γ (fun d => ∃ b, d = .bool b ∧ B b)) : EvT K dk (tB te) Γ B := fun I0 H0 σ I H Q e k => h I0 H0 σ I H _ e fun v d I1 H1 ⟨b, ed, pb⟩ n1 r1 => by
  subst ed
  cases r1
  exact ⟨b, rfl, k b I1 H1 pb n1⟩
theorem et_BB {b : Bool} (h : EvD K dk te Γ (.bool b)) : EvB K dk (tB te) Γ b := et_B (h.imp fun _ e => ⟨b, e, rfl⟩)
theorem et_and (h1 : EvT K dk tt Γ B1) (hf : B1 false → B false) (h2 : B1 true → EvT K dk tu Γ B) : EvT K dk (tAnd tt tu) Γ B := fun I0 H0 σ I H Q e k => h1 I0 H0 σ I H _ e fun b I1 H1 pb n1 => by
  cases b with
  | true =>
    rw [if_pos rfl]
    exact h2 pb I0 H0 σ I1 H1 Q (e.step n1) fun b I2 H2 p2 n2 => k b I2 H2 p2 (n1.trans n2)
  | false =>
    rw [if_neg Bool.false_ne_true]
    exact k false I1 H1 (hf pb) n1
theorem et_or (h1 : EvT K dk tt Γ B1) (hf : B1 true → B true) (h2 : B1 false → EvT K dk tu Γ B) : EvT K dk (tOr tt tu) Γ B := fun I0 H0 σ I H Q e k => h1 I0 H0 σ I H _ e fun b I1 H1 pb n1 => by
  cases b with
  | false =>
    rw [if_neg Bool.false_ne_true]
    exact h2 pb I0 H0 σ I1 H1 Q (e.step n1) fun b I2 H2 p2 n2 => k b I2 H2 p2 (n1.trans n2)
  | true =>
    rw [if_pos rfl]
    exact k true I1 H1 (hf pb) n1
theorem et_not (h1 : EvT K dk tt Γ B1) (hf : ∀ b, B1 b → B (!b)) : EvT K dk (tNot tt) Γ B := fun I0 H0 σ I H Q e k => h1 I0 H0 σ I H _ e fun b I1 H1 pb n1 => k (!b) I1 H1 (hf b pb) n1
theorem et_andB {a b : Bool} (h1 : EvB K dk tt Γ a) (h2 : a = true → EvB K dk tu Γ b) : EvB K dk (tAnd tt tu) Γ (a && b) := et_and h1 (fun e => by rw [← e]; rfl) fun e => (h2 e.symm).imp fun c q => by rw [q, ← e]; rfl
theorem et_orB {a b : Bool} (h1 : EvB K dk tt Γ a) (h2 : a = false → EvB K dk tu Γ b) : EvB K dk (tOr tt tu) Γ (a || b) := et_or h1 (fun e => by rw [← e]; rfl) fun e => (h2 e.symm).imp fun c q => by rw [q, ← e]; rfl
theorem et_notB {a : Bool} (h1 : EvB K dk tt Γ a) : EvB K dk (tNot tt) Γ (!a) := et_not h1 fun b e => by rw [e]
theorem ev_if (h1 : EvT K dk tt Γ B1) (ha : B1 true → EvP K dk ta Γ P) (hb : B1 false → EvP K dk tb Γ P) : EvP K dk (tIf tt ta tb) Γ P := fun I0 H0 σ I H Q e k => h1 I0 H0 σ I H _ e fun b I1 H1 pb n1 => by
  cases b with
  | true =>
    rw [if_pos rfl]
    exact ha pb I0 H0 σ I1 H1 Q (e.step n1) fun v d I2 H2 p2 n2 => k v d I2 H2 p2 (n1.trans n2)
  | false =>
    rw [if_neg Bool.false_ne_true]
    exact hb pb I0 H0 σ I1 H1 Q (e.step n1) fun v d I2 H2 p2 n2 => k v d I2 H2 p2 (n1.trans n2)
theorem ev_andV {a b : Bool} (ha : EvD K dk ta Γ (.bool a)) (hb : a = true → EvD K dk tb Γ (.bool b)) : EvD K dk (tAndV ta tb) Γ (.bool (a && b)) := fun I0 H0 σ I H Q e k => ha I0 H0 σ I H _ e fun v d I1 H1 ed n1 r1 => by
  subst ed
  cases r1
  refine ⟨a, rfl, ?_⟩
  cases a with
  | true =>
    rw [if_pos rfl]
    exact hb rfl I0 H0 σ I1 H1 Q (e.step n1) fun v d I2 H2 p2 n2 => k v d I2 H2 p2 (n1.trans n2)
  | false =>
    rw [if_neg Bool.false_ne_true]
    exact k _ _ I1 H1 rfl n1 (.bl false)
theorem ev_orV {a b : Bool} (ha : EvD K dk ta Γ (.bool a)) (hb : a = false → EvD K dk tb Γ (.bool b)) : EvD K dk (tOrV ta tb) Γ (.bool (a || b)) := fun I0 H0 σ I H Q e k => ha I0 H0 σ I H _ e fun v d I1 H1 ed n1 r1 => by
  subst ed
  cases r1
  refine ⟨a, rfl, ?_⟩
  cases a with
  | false =>
    rw [if_neg Bool.false_ne_true]
    exact hb rfl I0 H0 σ I1 H1 Q (e.step n1) fun v d I2 H2 p2 n2 => k v d I2 H2 p2 (n1.trans n2)
  | true =>
    rw [if_pos rfl]
    exact k _ _ I1 H1 rfl n1 (.bl true)
theorem ev_notV {a : Bool} (ha : EvD K dk ta Γ (.bool a)) : EvD K dk (tNotV ta) Γ (.bool (!a)) := fun I0 H0 σ I H Q e k => ha I0 H0 σ I H _ e fun v d I1 H1 ed n1 r1 => by
  subst ed
  cases r1
  exact ⟨a, rfl, k _ _ I1 H1 rfl n1 (.bl _)⟩
end
end K39

set_option Elab.async false
set_option linter.all false
set_option maxRecDepth 100000
set_option maxHeartbeats 1000000
/-! S3: operators, calls, lists, what is walked, by data -/
namespace K39
open PySem L2
section
variable {K : PySem.W.Frag} {dk : Dk} {Γ Γ' : List K39.G} {ta tb te : TE} {x y z d : PyData} {P : PyData → Prop}

/-! ### ints -/
theorem opd_I0 {g : Int → Int → V} {i j : Int} (h : ∀ I, Rp K I (g i j) d) : OpD K dk (rI0 g) (.int i) (.int j) (fun r => r = d) := fun I H v u Q o r1 r2 k => by
  cases r1; cases r2
  exact ⟨i, j, rfl, rfl, k _ d I H rfl (Nx.refl o) (h I)⟩
theorem opd_I {C : Int → Int → Prop} {g : Int → Int → V} {i j : Int} (c : C i j) (h : ∀ I, Rp K I (g i j) d) : OpD K dk (rI C g) (.int i) (.int j) (fun r => r = d) := fun I H v u Q o r1 r2 k => by
  cases r1; cases r2
  exact ⟨i, j, rfl, rfl, c, k _ d I H rfl (Nx.refl o) (h I)⟩
abbrev rPlus : R2 := rI0 fun i j => .int (i + j)
abbrev rMinus : R2 := rI0 fun i j => .int (i - j)
abbrev rMulX : R2 := rI CMulX fun i j => .int (i * j)
abbrev rMul1 : R2 := rI CMul fun i j => .int (i * j)
abbrev rDivW : R2 := rI CDivW fun i j => .int (i / j)
abbrev rModP : R2 := rI (fun _ j => 0 < j) fun i j => .int (i % j)
abbrev rShlW : R2 := rI CShl fun i j => .int (i * 2 ^ j.toNat)
abbrev rPowS : R2 := rI CPow fun i j => .int (i ^ j.toNat)
abbrev rLtI : R2 := rI0 fun i j => .bl (decide (i < j))
abbrev rLeI : R2 := rI0 fun i j => .bl (decide (i ≤ j))
abbrev rGtI : R2 := rI0 fun i j => .bl (decide (j < i))
abbrev rGeI : R2 := rI0 fun i j => .bl (decide (j ≤ i))
abbrev rAndI : R2 := rI0 fun i j => .int (Builtin.bitAnd i j)
abbrev rShrI : R2 := rI (fun _ j => 0 ≤ j) fun i j => .int (i / 2 ^ j.toNat)
abbrev uNeg : V → Hp → VK → Prop := rU fun i => .int (-i)
section
variable {i j : Int}
theorem opd_add : OpD K dk rPlus (.int i) (.int j) (fun r => r = .int (i + j)) := opd_I0 fun _ => .int _
theorem opd_sub : OpD K dk rMinus (.int i) (.int j) (fun r => r = .int (i - j)) := opd_I0 fun _ => .int _
theorem opd_mulX (c : CMulX i j) : OpD K dk rMulX (.int i) (.int j) (fun r => r = .int (i * j)) := opd_I c fun _ => .int _
theorem opd_mul1 (c : CMul i j) : OpD K dk rMul1 (.int i) (.int j) (fun r => r = .int (i * j)) := opd_I c fun _ => .int _
theorem opd_div (c : CDivW i j) : OpD K dk rDivW (.int i) (.int j) (fun r => r = .int (i / j)) := opd_I c fun _ => .int _
theorem opd_mod (c : 0 < j) : OpD K dk rModP (.int i) (.int j) (fun r => r = .int (i % j)) := opd_I (C := fun _ j => 0 < j) c fun _ => .int _
theorem opd_shl (c : CShl i j) : OpD K dk rShlW (.int i) (.int j) (fun r => r = .int (i * 2 ^ j.toNat)) := opd_I c fun _ => .int _
theorem opd_pow (c : CPow i j) : OpD K dk rPowS (.int i) (.int j) (fun r => r = .int (i ^ j.toNat)) := opd_I c fun _ => .int _
theorem opd_lt : OpD K dk rLtI (.int i) (.int j) (fun r => r = .bool (decide (i < j))) := opd_I0 fun _ => .bl _
theorem opd_le : OpD K dk rLeI (.int i) (.int j) (fun r => r = .bool (decide (i ≤ j))) := opd_I0 fun _ => .bl _
theorem opd_gt : OpD K dk rGtI (.int i) (.int j) (fun r => r = .bool (decide (j < i))) := opd_I0 fun _ => .bl _
theorem opd_ge : OpD K dk rGeI (.int i) (.int j) (fun r => r = .bool (decide (j ≤ i))) := opd_I0 fun _ => .bl _
theorem opd_and : OpD K dk rAndI (.int i) (.int j) (fun r => r = .int (Builtin.bitAnd i j)) := opd_I0 fun _ => .int _
theorem opd_shr (c : 0 ≤ j) : OpD K dk rShrI (.int i) (.int j) (fun r => r = .int (i / 2 ^ j.toNat)) := opd_I (C := fun _ j => 0 ≤ j) c fun _ => .int _
theorem und_neg : UnD K dk uNeg (.int i) (fun r => r = .int (-i)) := fun I H v Q o r1 k => by
  cases r1
  exact ⟨i, rfl, k _ _ I H rfl (Nx.refl o) (.int _)⟩
theorem opd_eqI : OpD K dk rEq (.int i) (.int j) (fun r => r = .bool (decide (i = j))) := fun I H v u Q o r1 r2 k => by
  cases r1; cases r2
  refine ⟨rfl, k _ _ I H rfl (Nx.refl o) ?_⟩
  rw [show decide (V.int i = V.int j) = decide (i = j) by simp]
  exact .bl _
theorem opd_neI : OpD K dk rNe (.int i) (.int j) (fun r => r = .bool (!decide (i = j))) := fun I H v u Q o r1 r2 k => by
  cases r1; cases r2
  refine ⟨rfl, k _ _ I H rfl (Nx.refl o) ?_⟩
  rw [show decide (V.int i = V.int j) = decide (i = j) by simp]
  exact .bl _
end
theorem opd_eqS {i j : Str} : OpD K dk rEq (.str i) (.str j) (fun r => r = .bool (decide (i = j))) := fun I H v u Q o r1 r2 k => by
  cases r1; cases r2
  refine ⟨rfl, k _ _ I H rfl (Nx.refl o) ?_⟩
  rw [show decide (V.str i = V.str j) = decide (i = j) by simp]
  exact .bl _
theorem opd_neS {i j : Str} : OpD K dk rNe (.str i) (.str j) (fun r => r = .bool (!decide (i = j))) := fun I H v u Q o r1 r2 k => by
  cases r1; cases r2
  refine ⟨rfl, k _ _ I H rfl (Nx.refl o) ?_⟩
  rw [show decide (V.str i = V.str j) = decide (i = j) by simp]
  exact .bl _
theorem opd_eqD (hx : SeqAt.shaped x = true) (hy : SeqAt.shaped y = true) : OpD K dk (rEqD K) x y (fun r => r = .bool (PyData.eqv x y)) := fun I H v u Q o r1 r2 k =>
  ⟨x, y, (r1.mono o.sub).dp, (r2.mono o.sub).dp, hx, hy, k _ _ I H rfl (Nx.refl o) (.bl _)⟩
theorem opd_neD (hx : SeqAt.shaped x = true) (hy : SeqAt.shaped y = true) : OpD K dk (rNeD K) x y (fun r => r = .bool (!PyData.eqv x y)) := fun I H v u Q o r1 r2 k =>
  ⟨x, y, (r1.mono o.sub).dp, (r2.mono o.sub).dp, hx, hy, k _ _ I H rfl (Nx.refl o) (.bl _)⟩
def isNone : PyData → Bool
  | .none => true
  | _ => false
theorem rp_none {I : Hp} {v : V} (r : Rp K I v x) : decide (v = .non) = isNone x := by
  cases r <;> simp [isNone]
def rIsNone : R2 := fun x y H Q => y = .non ∧ Q (.bl (decide (x = .non))) H
def rNotNone : R2 := fun x y H Q => y = .non ∧ Q (.bl (!decide (x = .non))) H
theorem opd_isN : OpD K dk rIsNone x .none (fun r => r = .bool (isNone x)) := fun I H v u Q o r1 r2 k => by
  cases r2
  exact ⟨rfl, k _ _ I H rfl (Nx.refl o) (by rw [rp_none r1]; exact .bl _)⟩
theorem opd_notN : OpD K dk rNotNone x .none (fun r => r = .bool (!isNone x)) := fun I H v u Q o r1 r2 k => by
  cases r2
  exact ⟨rfl, k _ _ I H rfl (Nx.refl o) (by rw [rp_none r1]; exact .bl _)⟩
theorem opd_inD {ds : List PyData} (hx : SeqAt.shaped x = true) (hy : SeqAt.shaped (.list ds) = true) : OpD K dk (rInD K) x (.list ds) (fun r => r = .bool (ds.any fun z => PyData.eqv z x)) := fun I H v u Q o r1 r2 k =>
  ⟨x, ds, (r1.mono o.sub).dp, (r2.mono o.sub).dp, hx, hy, k _ _ I H rfl (Nx.refl o) (.bl _)⟩
theorem inV_ints (i : Int) : ∀ ns : List Int, inV (.int i) (ns.map V.int) = decide (i ∈ ns)
  | [] => rfl
  | n :: ns => by
    have ih := inV_ints i ns
    unfold inV at ih ⊢
    rw [List.map_cons, List.any_cons, ih]
    by_cases h : n = i
    · subst h; simp [eqV]
    · have h' : ¬ i = n := fun e => h e.symm
      simp [eqV, h, h']
theorem flat_ints (ns : List Int) : (ns.map V.int).all flatV = true := by simp [flatV]
theorem opd_inI {i : Int} {ns : List Int} : OpD K dk (rIn K false) (.int i) (.tuple (ns.map PyData.int)) (fun r => r = .bool (decide (i ∈ ns))) := fun I H v u Q o r1 r2 k => by
  cases r1
  cases r2 with
  | tup hs hr =>
    rw [hr.ints] at hs
    refine ⟨_, _, rfl, .inr (Same.sqt o.sub hs), rfl, flat_ints ns, k _ _ I H rfl (Nx.refl o) ?_⟩
    rw [inV_ints]
    exact .bl _
theorem opd_notInI {i : Int} {ns : List Int} : OpD K dk (rIn K true) (.int i) (.tuple (ns.map PyData.int)) (fun r => r = .bool (!decide (i ∈ ns))) := fun I H v u Q o r1 r2 k => by
  cases r1
  cases r2 with
  | tup hs hr =>
    rw [hr.ints] at hs
    refine ⟨_, _, rfl, .inr (Same.sqt o.sub hs), rfl, flat_ints ns, k _ _ I H rfl (Nx.refl o) ?_⟩
    rw [inV_ints]
    exact .bl _
/-- a text among written texts -/
theorem opd_inS {s a b : Str} : OpD K dk (rIn K false) (.str s) (.tuple [.str a, .str b]) (fun r => r = .bool (decide (s = a) || decide (s = b))) := fun I H v u Q o r1 r2 k => by
  cases r1
  cases r2 with
  | tup hs hr =>
    cases hr with
    | cons q1 hr =>
      cases q1
      cases hr with
      | cons q2 hr =>
        cases q2
        cases hr
        refine ⟨_, _, rfl, .inr (Same.sqt o.sub hs), rfl, rfl, k _ _ I H rfl (Nx.refl o) ?_⟩
        have e : inV (.str s) [.str a, .str b] = (decide (s = a) || decide (s = b)) := by
          have e1 : ∀ t : Str, (t == s) = decide (s = t) := fun t => by
            by_cases h : s = t
            · subst h; simp
            · have h' : ¬ t = s := fun z => h z.symm
              simp [h, h']
          simp [inV, eqV, e1]
        show Rp K I (.bl (inV (.str s) [.str a, .str b])) _
        rw [e]
        exact .bl _

/-! ### items -/
theorem rpl_at {I : Hp} {vs : List V} {ds : List PyData} {j : Int} (r : RpL K I vs ds) (h : atI ds j = some d) : ∃ v, atI vs j = some v ∧ Rp K I v d := by
  unfold atI at h ⊢
  rw [r.len]
  cases q : ixN ds.length j with
  | none => rw [q] at h; cases h
  | some n =>
    rw [q] at h
    exact r.get (d := d) h
theorem opd_ixL {ds : List PyData} {j : Int} (h : atI ds j = some d) : OpD K dk (rIx K) (.list ds) (.int j) (fun r => r = d) := fun I H v u Q o r1 r2 k => by
  cases r2
  cases r1 with
  | lst hs hr =>
    obtain ⟨v, a, b⟩ := rpl_at hr h
    exact .inl ⟨_, _, j, v, rfl, rfl, .inl (.inl (o.sub _ _ hs)), a, k v d I H rfl (Nx.refl o) b⟩
theorem opd_ixT {ds : List PyData} {j : Int} (h : atI ds j = some d) : OpD K dk (rIx K) (.tuple ds) (.int j) (fun r => r = d) := fun I H v u Q o r1 r2 k => by
  cases r2
  cases r1 with
  | tup hs hr =>
    obtain ⟨v, a, b⟩ := rpl_at hr h
    exact .inr (.inl ⟨_, _, j, v, rfl, rfl, Same.sqt o.sub hs, a, k v d I H rfl (Nx.refl o) b⟩)
theorem atN {ds : List PyData} {n : Nat} (h : ds[n]? = some d) : atI ds (n : Int) = some d := atI_nat h

/-! ### lists and tuples made of others -/
/-- a new list out of two values -/
def OpM (K : PySem.W.Frag) (dk : Dk) (r : R2) (x y : PyData) (ds : List PyData) : Prop :=
  ∀ (I H : Hp) (v u : V) (Q : VK), Ok dk I H → Rp K I v x → Rp K I u y → (∀ vs, RpL K I vs ds → ∀ p, H p = none → Q (.ref p) (upd H p (.lst vs))) → r v u H Q
theorem em_op {r : R2} {ds : List PyData} (ha : EvD K dk ta Γ x) (hb : EvD K dk tb Γ y) (hr : OpM K dk r x y ds) : EvM K dk (tOp r ta tb) Γ (fun r => r = ds) := fun I0 H0 σ I H Q e k => by
  refine ha I0 H0 σ I H _ e fun v x' I1 H1 p1 n1 r1 => ?_
  subst p1
  refine hb I0 H0 σ I1 H1 _ (e.step n1) fun u y' I2 H2 p2 n2 r2 => ?_
  subst p2
  refine hr I2 H2 v u Q n2.ok (r1.mono n2.ii) r2 fun vs rv p hp => ?_
  have n3 := (n1.trans n2).trans (Nx.newM (u := .lst vs) n2.ok hp)
  exact k p vs ds I2 _ rfl n3 ((n1.trans n2).free hp) upd_same (n2.ok.none_of hp) rv
theorem opm_cat {xs ys : List PyData} (hl : xs.length + ys.length ≤ 1000) : OpM K dk rCat (.list xs) (.list ys) (xs ++ ys) := fun I H v u Q o r1 r2 k => by
  cases r1 with
  | lst h1 q1 =>
    cases r2 with
    | lst h2 q2 => exact ⟨_, _, _, _, rfl, rfl, o.sub _ _ h1, o.sub _ _ h2, by rw [q1.len, q2.len]; exact small_line hl, k _ (q1.app q2)⟩
theorem rep_app {α : Type} (x : List α) : ∀ n : Nat, (List.replicate (n + 1) x).flatten = x ++ (List.replicate n x).flatten := fun n => by rw [List.replicate_succ, List.flatten_cons]
theorem rpl_rep {I : Hp} {vs : List V} {ds : List PyData} (r : RpL K I vs ds) : ∀ n : Nat, RpL K I (List.replicate n vs).flatten (List.replicate n ds).flatten
  | 0 => .nil
  | n + 1 => by rw [rep_app, rep_app]; exact r.app (rpl_rep r n)
theorem opm_rep {xs : List PyData} {n : Int} (h0 : 0 ≤ n) (hn : n ≤ 1000) (hl : xs.length ≤ 1) : OpM K dk rRep (.list xs) (.int n) (List.replicate n.toNat xs).flatten := fun I H v u Q o r1 r2 k => by
  cases r2
  cases r1 with
  | lst h1 q1 =>
    refine ⟨_, n, _, rfl, rfl, o.sub _ _ h1, by omega, by omega, ?_, k _ (rpl_rep q1 _)⟩
    rw [q1.len]
    refine Nat.le_trans (Nat.mul_le_mul hl (Nat.le_refl _)) ?_
    rw [Nat.one_mul]
    exact small_line (by omega)
theorem rep_one {α : Type} (x : α) : ∀ n : Nat, (List.replicate n [x]).flatten = List.replicate n x
  | 0 => rfl
  | n + 1 => by rw [rep_app, rep_one x n, List.replicate_succ]; rfl
theorem opd_catT {xs ys : List PyData} (hx : xs ≠ []) (hl : xs.length + ys.length ≤ 1000) : OpD K dk (rCatT K) (.tuple xs) (.tuple ys) (fun r => r = .tuple (xs ++ ys)) := fun I H v u Q o r1 r2 k => by
  cases r1 with
  | tup h1 q1 =>
    cases r2 with
    | tup h2 q2 =>
      refine ⟨_, _, _, _, rfl, rfl, Same.sqt o.sub h1, Same.sqt o.sub h2, fun z => ?_, by rw [q1.len, q2.len]; exact small_line hl, fun z => ?_, fun _ p hp => ?_⟩
      · subst z; have := q1.len; simp at this; exact hx (by simpa using this.symm)
      · subst z
        cases q2
        rw [List.append_nil] at k
        exact k _ _ I H rfl (Nx.refl o) (.tup h1 q1)
      · exact k _ _ _ _ rfl (Nx.new o hp) (.tup (.inl (.inl upd_same)) ((q1.app q2).mono (Nx.new o hp).ii))

/-! ### built-ins -/
def rLenQ (K : PySem.W.Frag) : List V → Hp → VK → Prop := fun xs H Q => ∃ p ys, xs = [.ref p] ∧ (SqL K H p ys ∨ SqT K H p ys) ∧ Q (.int ys.length) H
def rListQ (K : PySem.W.Frag) : List V → Hp → VK → Prop := fun xs H Q => ∃ p ys, xs = [.ref p] ∧ (SqL K H p ys ∨ SqT K H p ys) ∧ ∀ l, H l = none → Q (.ref l) (upd H l (.lst ys))
def rTupQ (K : PySem.W.Frag) : List V → Hp → VK → Prop := fun xs H Q => ∃ p ys, xs = [.ref p] ∧ ((SqL K H p ys ∧ ∀ l, H l = none → Q (.ref l) (upd H l (.tup ys))) ∨ (SqT K H p ys ∧ Q (.ref p) H))
def rAbs : List V → Hp → VK → Prop := fun xs H Q => ∃ i, xs = [.int i] ∧ Q (.int (if i < 0 then -i else i)) H
def rMaxQ : List V → Hp → VK → Prop := fun xs H Q => ∃ i j, xs = [.int i, .int j] ∧ Q (.int (if j > i then j else i)) H
def rMinQ : List V → Hp → VK → Prop := fun xs H Q => ∃ i j, xs = [.int i, .int j] ∧ Q (.int (if j < i then j else i)) H
def rIntQ : List V → Hp → VK → Prop := fun xs H Q => (∃ i, xs = [.int i] ∧ Q (.int i) H) ∨ ∃ k, xs = [.bl k] ∧ Q (.int (if k then 1 else 0)) H
theorem rpl1 {I : Hp} {vs : List V} (r : RpL K I vs [x]) : ∃ v, vs = [v] ∧ Rp K I v x := by
  cases r with
  | cons h r => cases r; exact ⟨_, rfl, h⟩
theorem rpl2 {I : Hp} {vs : List V} (r : RpL K I vs [x, y]) : ∃ v w, vs = [v, w] ∧ Rp K I v x ∧ Rp K I w y := by
  cases r with
  | cons h r =>
    cases r with
    | cons h' r => cases r; exact ⟨_, _, rfl, h, h'⟩
theorem cd_lenL {ds : List PyData} : CallD K dk (rLenQ K) [.list ds] (fun r => r = .int ds.length) := fun I H vs Q o r0 k => by
  obtain ⟨v, rfl, r⟩ := rpl1 r0
  cases r with
  | lst h q => exact ⟨_, _, rfl, .inl (.inl (.inl (o.sub _ _ h))), by rw [q.len]; exact k _ _ I H rfl (Nx.refl o) (.int _)⟩
theorem cd_lenT {ds : List PyData} : CallD K dk (rLenQ K) [.tuple ds] (fun r => r = .int ds.length) := fun I H vs Q o r0 k => by
  obtain ⟨v, rfl, r⟩ := rpl1 r0
  cases r with
  | tup h q => exact ⟨_, _, rfl, .inr (Same.sqt o.sub h), by rw [q.len]; exact k _ _ I H rfl (Nx.refl o) (.int _)⟩
theorem cd_tupL {ds : List PyData} : CallD K dk (rTupQ K) [.list ds] (fun r => r = .tuple ds) := fun I H vs Q o r0 k => by
  obtain ⟨v, rfl, r⟩ := rpl1 r0
  cases r with
  | lst h q =>
    refine ⟨_, _, rfl, .inl ⟨.inl (.inl (o.sub _ _ h)), fun l hl => ?_⟩⟩
    exact k _ _ _ _ rfl (Nx.new o hl) (.tup (.inl (.inl upd_same)) (q.mono (Nx.new o hl).ii))
theorem cd_tupT {ds : List PyData} : CallD K dk (rTupQ K) [.tuple ds] (fun r => r = .tuple ds) := fun I H vs Q o r0 k => by
  obtain ⟨v, rfl, r⟩ := rpl1 r0
  cases r with
  | tup h q => exact ⟨_, _, rfl, .inr ⟨Same.sqt o.sub h, k _ _ I H rfl (Nx.refl o) (.tup h q)⟩⟩
theorem cd_abs {i : Int} : CallD K dk rAbs [.int i] (fun r => r = .int i.natAbs) := fun I H vs Q o r0 k => by
  obtain ⟨v, rfl, r⟩ := rpl1 r0
  cases r
  refine ⟨i, rfl, ?_⟩
  rw [show (if i < 0 then -i else i) = (i.natAbs : Int) by split <;> omega]
  exact k _ _ I H rfl (Nx.refl o) (.int _)
theorem cd_max {i j : Int} : CallD K dk rMaxQ [.int i, .int j] (fun r => r = .int (max i j)) := fun I H vs Q o r0 k => by
  obtain ⟨v, w, rfl, r1, r2⟩ := rpl2 r0
  cases r1; cases r2
  refine ⟨i, j, rfl, ?_⟩
  rw [show (if j > i then j else i) = max i j by split <;> omega]
  exact k _ _ I H rfl (Nx.refl o) (.int _)
theorem cd_min {i j : Int} : CallD K dk rMinQ [.int i, .int j] (fun r => r = .int (min i j)) := fun I H vs Q o r0 k => by
  obtain ⟨v, w, rfl, r1, r2⟩ := rpl2 r0
  cases r1; cases r2
  refine ⟨i, j, rfl, ?_⟩
  rw [show (if j < i then j else i) = min i j by split <;> omega]
  exact k _ _ I H rfl (Nx.refl o) (.int _)
theorem cd_intI {i : Int} : CallD K dk rIntQ [.int i] (fun r => r = .int i) := fun I H vs Q o r0 k => by
  obtain ⟨v, rfl, r⟩ := rpl1 r0
  cases r
  exact .inl ⟨i, rfl, k _ _ I H rfl (Nx.refl o) (.int _)⟩
theorem cd_intB {b : Bool} : CallD K dk rIntQ [.bool b] (fun r => r = .int (if b then 1 else 0)) := fun I H vs Q o r0 k => by
  obtain ⟨v, rfl, r⟩ := rpl1 r0
  cases r
  exact .inr ⟨b, rfl, k _ _ I H rfl (Nx.refl o) (.int _)⟩
theorem cd_sum {ns : List Int} : CallD K dk (rSum K) [.list (ns.map PyData.int)] (fun r => r = .int ns.sum) := fun I H vs Q o r0 k => by
  obtain ⟨v, rfl, r⟩ := rpl1 r0
  cases r with
  | lst h q =>
    rw [q.ints] at h
    exact ⟨_, ns, rfl, .inl (.inl (o.sub _ _ h)), k _ _ I H rfl (Nx.refl o) (.int _)⟩
theorem cd_all {ns : List Bool} : CallD K dk (rAll K) [.list (ns.map PyData.bool)] (fun r => r = .bool (ns.all id)) := fun I H vs Q o r0 k => by
  obtain ⟨v, rfl, r⟩ := rpl1 r0
  cases r with
  | lst h q =>
    rw [q.bools] at h
    exact ⟨_, ns, rfl, .inl (.inl (o.sub _ _ h)), k _ _ I H rfl (Nx.refl o) (.bl _)⟩
/-- list(..) of a list or a tuple: a new list -/
theorem em_list {ta : TA} {ds : List PyData} (h : EvAD K dk ta Γ [x]) (hx : x = .list ds ∨ x = .tuple ds) : EvM K dk (tCB (rListQ K) ta) Γ (fun r => r = ds) := fun I0 H0 σ I H Q e k => by
  refine h I0 H0 σ I H _ e fun vs xs I1 H1 p1 n1 r1 => ?_
  subst p1
  obtain ⟨v, rfl, r⟩ := rpl1 r1
  have fin : ∀ (ws : List V), RpL K I1 ws ds → ∀ l, H1 l = none → Q (.ref l) (upd H1 l (.lst ws)) := fun ws rw_ l hl =>
    k l ws ds I1 _ rfl (n1.trans (Nx.newM n1.ok hl)) (n1.free hl) upd_same (n1.ok.none_of hl) rw_
  rcases hx with rfl | rfl
  · cases r with
    | lst h q => exact ⟨_, _, rfl, .inl (.inl (.inl (n1.ok.sub _ _ h))), fin _ q⟩
  · cases r with
    | tup h q => exact ⟨_, _, rfl, .inr (Same.sqt n1.ok.sub h), fin _ q⟩

/-! ### isinstance -/
def tyN : PyData → String
  | .none => "NoneType"
  | .bool _ => "bool"
  | .int _ => "int"
  | .str _ => "str"
  | .list _ => "list"
  | .tuple _ => "tuple"
  | .dict _ => "dict"
theorem rp_ty {I H : Hp} {v : V} (r : Rp K I v x) (o : Same I H) : TyX K H v (.type (tyN x)) := by
  cases r with
  | non => exact .base .non
  | bl b => exact .base (.bl b)
  | int i => exact .base (.int i)
  | str s => exact .base (.str s)
  | lst h q => exact .base (.lst (o _ _ h))
  | tup h q =>
    rcases h with (h | ⟨ob, h⟩) | ⟨ob, its, n, hk, hc, _⟩
    · exact .base (.tup (o _ _ h))
    · exact .fTuple (o _ _ h)
    · exact .kTuple hk hc
theorem ev_isi {T : String} {b : Bool} (ha : EvD K dk ta Γ x) (hb : kitB (tyN x) T = some b) : EvD K dk (tCB (rIsi K) (tCons ta (tCons (tC (.ty T)) tNil))) Γ (.bool b) := fun I0 H0 σ I H Q e k => by
  refine ha I0 H0 σ I H _ e fun v x' I1 H1 p1 n1 r1 => ?_
  subst p1
  exact ⟨v, .ty T, _, .type T, b, rfl, .ty T, rp_ty r1 n1.ok.sub, kit_ty hb, k _ _ I1 H1 rfl n1 (.bl b)⟩
theorem kit_int_int : kitB "int" "int" = some true := by decide +kernel
theorem kit_int_bool : kitB "int" "bool" = some false := by decide +kernel
theorem kit_tup_tup : kitB "tuple" "tuple" = some true := by decide +kernel
theorem kit_str_str : kitB "str" "str" = some true := by decide +kernel
theorem kit_tup_int : kitB "tuple" "int" = some false := by decide +kernel

/-! ### what is walked -/
theorem ei_list {ds : List PyData} (h : EvD K dk te Γ (.list ds)) : EvI K dk (iList K te) Γ ds := fun I0 H0 σ I H R e k => by
  refine h I0 H0 σ I H _ e fun v x I1 H1 p1 n1 r1 => ?_
  subst p1
  cases r1 with
  | @lst a vs _ hl hr =>
    refine ⟨a, rfl, ⟨vs, .inl (.inl (n1.ok.sub _ _ hl))⟩, k _ I1 H1 n1 fun i I2 H2 o2 s2 => ?_⟩
    have sq : SqL K H2 a vs := .inl (.inl (o2.sub _ _ (s2 _ _ hl)))
    refine ⟨fun q => ⟨vs, sq, by rw [hr.len, q]; exact Nat.le_refl _⟩, fun d q => ?_⟩
    obtain ⟨w, hw, rw_⟩ := hr.get q
    refine ⟨⟨vs, w, sq, hw⟩, fun x H3 y => ?_⟩
    obtain ⟨e3, f⟩ := y
    subst e3
    have e4 := f vs sq
    rw [hw] at e4
    cases e4
    exact ⟨I2, Nx.refl o2, rw_.mono s2⟩
theorem ei_tup {ds : List PyData} (h : EvD K dk te Γ (.tuple ds)) : EvI K dk (iTup K te) Γ ds := fun I0 H0 σ I H R e k => by
  refine h I0 H0 σ I H _ e fun v x I1 H1 p1 n1 r1 => ?_
  subst p1
  cases r1 with
  | @tup a vs _ hl hr =>
    refine ⟨a, rfl, ⟨vs, Same.sqt n1.ok.sub hl⟩, k _ I1 H1 n1 fun i I2 H2 o2 s2 => ?_⟩
    have sq : SqT K H2 a vs := Same.sqt o2.sub (Same.sqt s2 hl)
    refine ⟨fun q => ⟨vs, sq, by rw [hr.len, q]; exact Nat.le_refl _⟩, fun d q => ?_⟩
    obtain ⟨w, hw, rw_⟩ := hr.get q
    refine ⟨⟨vs, w, sq, hw⟩, fun x H3 y => ?_⟩
    obtain ⟨e3, f⟩ := y
    subst e3
    have e4 := f vs sq
    rw [hw] at e4
    cases e4
    exact ⟨I2, Nx.refl o2, rw_.mono s2⟩
def rangeD (lo : Int) (n : Nat) : List PyData := (List.range n).map fun (i : Nat) => PyData.int (lo + i)
theorem rangeD_len (lo : Int) (n : Nat) : (rangeD lo n).length = n := by simp [rangeD]
theorem rangeD_get {lo : Int} {n i : Nat} (h : (rangeD lo n)[i]? = some d) : i < n ∧ d = .int (lo + i) := by
  unfold rangeD at h
  rw [List.getElem?_map] at h
  by_cases hi : i < n
  · rw [List.getElem?_range hi] at h
    exact ⟨hi, (Option.some.inj h).symm⟩
  · rw [List.getElem?_eq_none (by simpa using hi)] at h; cases h
theorem walks_range {I : Hp} {lo : Int} {n : Nat} : Walks K dk (Itr lo n) I (rangeD lo n) := fun i I2 H2 o2 s2 => by
  refine ⟨fun q => by rw [q, rangeD_len]; exact Nat.le_refl _, fun d q => ?_⟩
  obtain ⟨hi, rfl⟩ := rangeD_get q
  refine ⟨hi, fun x H3 y => ?_⟩
  obtain ⟨e3, e4⟩ := y
  subst e3 e4
  exact ⟨I2, Nx.refl o2, .int _⟩
theorem ei_range1 {ta : TA} {n : Int} (h : EvAD K dk ta Γ [.int n]) (h1 : -(2 ^ 62) ≤ n) (h2 : n < 2 ^ 62) : EvI K dk (iRng1 ta) Γ (rangeD 0 n.toNat) := fun I0 H0 σ I H R e k => by
  refine h I0 H0 σ I H _ e fun vs xs I1 H1 p1 n1 r1 => ?_
  subst p1
  obtain ⟨v, rfl, r⟩ := rpl1 r1
  cases r
  exact ⟨n, rfl, h1, h2, k _ I1 H1 n1 walks_range⟩
theorem ei_range2 {ta : TA} {a n : Int} (h : EvAD K dk ta Γ [.int a, .int n]) (h0 : -(2 ^ 62) ≤ a ∧ a < 2 ^ 62 ∧ -(2 ^ 62) ≤ n ∧ n < 2 ^ 62) : EvI K dk (iRng2 ta) Γ (rangeD a (n - a).toNat) := fun I0 H0 σ I H R e k => by
  refine h I0 H0 σ I H _ e fun vs xs I1 H1 p1 n1 r1 => ?_
  subst p1
  obtain ⟨v, w, rfl, r, r'⟩ := rpl2 r1
  cases r; cases r'
  exact ⟨a, n, rfl, h0, k _ I1 H1 n1 walks_range⟩
end
end K39

set_option Elab.async false
set_option linter.all false
set_option maxRecDepth 100000
set_option maxHeartbeats 1000000
/-! S4: comprehensions, loops, statements -/
namespace K39
open PySem L2
section
variable {K : PySem.W.Frag} {dk : Dk} {I0 H0 I H I1 H1 : Hp} {Γ Γ' : List K39.G} {σ : L2.St} {ta tb te ti : TE} {x y z d : PyData} {P : PyData → Prop} {N : List K39.G → Prop} {R : PyData → Prop} {t u r : TS}

/-! ### slots wiped -/
def wipeG (Γ : List K39.G) : List Nat → List K39.G
  | [] => Γ
  | v :: vs => (wipeG Γ vs).set v .no
theorem wipeG_len : ∀ vs : List Nat, (wipeG Γ vs).length = Γ.length
  | [] => rfl
  | v :: vs => by unfold wipeG; rw [List.length_set, wipeG_len vs]
theorem wipe_know : ∀ (vs : List Nat) (i : Nat) (g : K39.G), (wipeG Γ vs)[i]? = some g → g = K39.G.no ∨ (Γ[i]? = some g ∧ (wipe σ vs)[i]? = σ[i]?)
  | [], i, g, h => .inr ⟨h, rfl⟩
  | v :: vs, i, g, h => by
    unfold wipeG at h
    rcases set_at h with ⟨_, _, e⟩ | ⟨hne, h⟩
    · exact .inl e
    · rcases wipe_know vs i g h with e | ⟨e1, e2⟩
      · exact .inl e
      · refine .inr ⟨e1, ?_⟩
        unfold wipe
        rw [List.getElem?_set_ne hne]
        exact e2
theorem Know.wipe (e : Know K dk I0 H0 Γ σ I H) (vs : List Nat) : Know K dk I0 H0 (wipeG Γ vs) (L2.wipe σ vs) I H := e.weak (wipeG_len vs) (wipe_length σ vs) (wipe_know vs)
theorem wipe_set {i : Nat} {x : Option V} : ∀ {vs : List Nat} {σ : L2.St}, i ∈ vs → wipe (σ.set i x) vs = wipe σ vs
  | [], _, h => by cases h
  | v :: vs, σ, h => by
    unfold wipe
    by_cases q : i ∈ vs
    · rw [wipe_set q]
    · have e : i = v := by rcases List.mem_cons.mp h with e | e; exact e; exact absurd e q
      subst e
      have comm : ∀ ws : List Nat, i ∉ ws → wipe (σ.set i x) ws = (wipe σ ws).set i x := fun ws => by
        induction ws with
        | nil => intro _; rfl
        | cons w ws ih =>
          intro hn
          have h1 : i ≠ w := fun z => hn (by rw [z]; exact List.mem_cons_self)
          unfold wipe
          rw [ih fun z => hn (List.mem_cons_of_mem _ z), List.set_comm _ _ h1]
      rw [comm vs q, List.set_set]
theorem wipe_none {i : Nat} : ∀ {vs : List Nat} {σ : L2.St}, (i ∉ vs ∧ σ[i]? = some none) ∨ i ∈ vs → i < σ.length → (wipe σ vs)[i]? = some none
  | [], σ, h, _ => by rcases h with h | h; exact h.2; cases h
  | v :: vs, σ, h, hl => by
    unfold wipe
    by_cases e : v = i
    · subst e; rw [List.getElem?_set_self (by rw [wipe_length]; exact hl)]
    · rw [List.getElem?_set_ne e]
      refine wipe_none ?_ hl
      rcases h with ⟨h1, h2⟩ | h
      · exact .inl ⟨fun z => h1 (List.mem_cons_of_mem _ z), h2⟩
      · rcases List.mem_cons.mp h with h | h
        · exact absurd h.symm e
        · exact .inr h
theorem wipe_twice (σ : L2.St) (vs : List Nat) : wipe (wipe σ vs) vs = wipe σ vs := by
  refine List.ext_getElem? fun i => ?_
  by_cases h : i ∈ vs
  · by_cases hl : i < σ.length
    · rw [wipe_none (.inr h) (by rw [wipe_length]; exact hl), wipe_none (.inr h) hl]
    · rw [List.getElem?_eq_none (by rw [wipe_length, wipe_length]; omega), List.getElem?_eq_none (by rw [wipe_length]; omega)]
  · rw [wipe_out h, wipe_out h]

/-! ### targets -/
theorem tg_name {i : Nat} {vs : List Nat} (h : i ∈ vs) : Tg K dk (gName i) vs x Γ (Γ.set i (.dat x)) := fun I0 H0 v σ I H Q e r k => k _ (e.set r) (wipe_set h)
theorem tg_two {i j : Nat} {vs : List Nat} (h : i ∈ vs) (h' : j ∈ vs) : Tg K dk (gTup K 2 (gCons (gName i) (gCons (gName j) gNil))) vs (.tuple [x, y]) Γ ((Γ.set i (.dat x)).set j (.dat y)) := fun I0 H0 v σ I H Q e r k => by
  cases r with
  | tup hs hr =>
    obtain ⟨v1, v2, rfl, r1, r2⟩ := rpl2 hr
    exact ⟨_, _, rfl, Same.sqt e.ok.sub hs, rfl, v1, [v2], rfl, v2, [], rfl, rfl, k _ ((e.set r1).set r2) (by rw [wipe_set h', wipe_set h])⟩
theorem tg_three {i j l : Nat} {vs : List Nat} (h : i ∈ vs) (h' : j ∈ vs) (h'' : l ∈ vs) : Tg K dk (gTup K 3 (gCons (gName i) (gCons (gName j) (gCons (gName l) gNil)))) vs (.tuple [x, y, z]) Γ (((Γ.set i (.dat x)).set j (.dat y)).set l (.dat z)) := fun I0 H0 v σ I H Q e r k => by
  cases r with
  | tup hs hr =>
    cases hr with
    | cons r0 hr =>
      obtain ⟨v1, v2, rfl, r1, r2⟩ := rpl2 hr
      exact ⟨_, _, rfl, Same.sqt e.ok.sub hs, rfl, _, [v1, v2], rfl, v1, [v2], rfl, v2, [], rfl, rfl, k _ (((e.set r0).set r1).set r2) (by rw [wipe_set h'', wipe_set h', wipe_set h])⟩

/-! ### comprehensions -/
theorem Nx.mutp (n : Nx dk I H I1 H1) {p : Addr} {w : HO} (h0 : H p = none) (h1 : I1 p = none) (nz : ¬ zone dk p) : Nx dk I H I1 (upd H1 p w) := by
  refine ⟨⟨fun a o q => ?_, fun q eq => ?_⟩, n.ii, fun a o q z => ?_, n.fr⟩
  · rw [upd_ne (ne_of_none q h1)]; exact n.ok.sub a o q
  · obtain ⟨D, k1, k2⟩ := n.ok.dk q eq
    obtain ⟨cs, m, c, g1, g2, g3⟩ := D.ex
    exact ⟨⟨cs, m, c, by rw [upd_ne (fun z => nz ⟨q, eq, .inl z.symm⟩)]; exact g1, by rw [upd_ne (fun z => nz ⟨q, eq, .inr z.symm⟩)]; exact g2, g3⟩, k1, k2⟩
  · rw [upd_ne (ne_of_none q h0)]; exact n.hh a o q z
theorem em_lc {wi : TI} {g : TG} {tt : TT} {vs : List Nat} {items : List PyData} (hi : EvI K dk wi Γ items) (hl : items.length ≤ 1000) (S : Nat → Option PyData → Prop) (PB : Nat → Bool → Prop)
    (hb : ∀ (i : Nat) (x : PyData), items[i]? = some x → ∃ Γx, Tg K dk g vs x (wipeG Γ vs) Γx ∧ EvT K dk tt Γx (PB i) ∧ (PB i true → EvP K dk te Γx (fun y => S i (some y))) ∧ (PB i false → S i none)) :
    EvM K dk (tLc wi g tt te vs) Γ (fun ds => ∃ os : List (Option PyData), os.length = items.length ∧ (∀ (i : Nat) (o : Option PyData), os[i]? = some o → S i o) ∧ ds = os.filterMap id) := fun I0 H0 σ I H Q e k => by
  refine hi I0 H0 σ I H _ e fun J I1 H1 n1 w => fun D hD => ?_
  have hD0 : H D = none := n1.free hD
  have nz : ¬ zone dk D := n1.ok.nz hD
  have app1 : ∀ (os : List (Option PyData)) (o : Option PyData), (os ++ [o]).filterMap id = os.filterMap id ++ (match o with | some y => [y] | none => []) := fun os o => by
    rw [List.filterMap_append]; cases o <;> rfl
  refine ⟨fun i m H2 => m = items.length - i ∧ ∃ I2 os acc, i ≤ items.length ∧ Nx dk I1 H1 I2 H2 ∧ H2 D = some (.lst acc) ∧ I2 D = none ∧ RpL K I2 acc (os.filterMap id) ∧ os.length = i ∧ ∀ (j : Nat) (o : Option PyData), os[j]? = some o → S j o,
    ⟨_, rfl, I1, [], [], Nat.zero_le _, Nx.newM n1.ok hD, upd_same, n1.ok.none_of hD, .nil, rfl, fun j o h => by simp at h⟩, ?_⟩
  rintro i m H2 ⟨rfl, I2, os, acc, hile, n2, hacc, hI2, hr, hos, hS⟩
  obtain ⟨ws, wg⟩ := w i I2 H2 n2.ok n2.ii
  by_cases hlt : i < items.length
  · refine .inr ?_
    have hx : items[i]? = some items[i] := List.getElem?_eq_getElem hlt
    obtain ⟨go, yld⟩ := wg _ hx
    refine ⟨go, fun H' => ∃ I2 os acc, Nx dk I1 H1 I2 H' ∧ H' D = some (.lst acc) ∧ I2 D = none ∧ RpL K I2 acc (os.filterMap id) ∧ os.length = i + 1 ∧ ∀ (j : Nat) (o : Option PyData), os[j]? = some o → S j o,
      fun H' ⟨I3, os', acc', a1, a2, a3, a4, a5, a6⟩ => ⟨items.length - (i + 1), by omega, rfl, I3, os', acc', hlt, a1, a2, a3, a4, a5, a6⟩, fun v H3 hy => ?_⟩
    obtain ⟨I3, n3, rv⟩ := yld v H3 hy
    obtain ⟨Γx, tg, et, ev, eno⟩ := hb i _ hx
    have n13 : Nx dk I H I3 H3 := (n1.trans n2).trans n3
    have e3 := (e.step n13).wipe vs
    refine tg I0 H0 v _ I3 H3 _ e3 rv fun σ2 e2 hw => ⟨hw.trans (wipe_twice σ vs), ?_⟩
    refine et I0 H0 σ2 I3 H3 _ e2 fun b I4 H4 pb n4 => ?_
    have n24 : Nx dk I1 H1 I4 H4 := (n2.trans n3).trans n4
    have keep : ∀ {I5 H5}, Nx dk I4 H4 I5 H5 → Nx dk I2 H2 I5 H5 := fun n => (n3.trans n4).trans n
    cases b with
    | true =>
      rw [if_pos rfl]
      refine ev pb I0 H0 σ2 I4 H4 _ (e2.step n4) fun y dy I5 H5 sy n5 ry => ?_
      have n25 := keep n5
      have hacc5 : H5 D = some (.lst acc) := n25.hh _ _ hacc nz
      have hI5 : I5 D = none := n25.fr _ _ hacc hI2
      have hlen : acc.length < sizeLine := by
        have h1 := hr.len
        have h2 : (os.filterMap id).length ≤ os.length := List.length_filterMap_le _ _
        exact small1000 (by omega)
      refine ⟨acc, hacc5, hlen, I5, os ++ [some dy], acc ++ [y], (n2.trans n25).mutp hD hI5 nz, upd_same, hI5, ?_, by simp [hos], fun j o h => ?_⟩
      · rw [app1]
        exact (hr.mono n25.ii).app (.cons ry .nil)
      · by_cases hj : j < os.length
        · rw [List.getElem?_append_left hj] at h; exact hS j o h
        · rw [List.getElem?_append_right (by omega)] at h
          have ej : j = i := by
            have := len_lt h
            simp at this
            omega
          subst ej
          simp [hos] at h
          subst h
          exact sy
    | false =>
      rw [if_neg Bool.false_ne_true]
      have n24' := n3.trans n4
      refine ⟨I4, os ++ [none], acc, n2.trans n24', n24'.hh _ _ hacc nz, n24'.fr _ _ hacc hI2, ?_, by simp [hos], fun j o h => ?_⟩
      · rw [app1, List.append_nil]
        exact hr.mono n24'.ii
      · by_cases hj : j < os.length
        · rw [List.getElem?_append_left hj] at h; exact hS j o h
        · rw [List.getElem?_append_right (by omega)] at h
          have ej : j = i := by
            have := len_lt h
            simp at this
            omega
          subst ej
          simp [hos] at h
          subst h
          exact eno pb
  · have ei : i = items.length := by omega
    exact .inl ⟨ws ei, k D acc _ I2 H2 ⟨os, by rw [hos, ei], hS, rfl⟩ (n1.trans n2) hD0 hacc hI2 hr⟩
theorem et_yes : EvB K dk tYes Γ true := fun I0 H0 σ I H Q e k => k true I H rfl (Nx.refl e.ok)
theorem all_some {os : List (Option PyData)} {rs : List PyData} (hl : os.length = rs.length) (h : ∀ (i : Nat) (o : Option PyData), os[i]? = some o → o = rs[i]?) : os.filterMap id = rs := by
  have e : os = rs.map some := by
    refine List.ext_getElem? fun i => ?_
    by_cases hi : i < os.length
    · have h1 := h i os[i] (List.getElem?_eq_getElem hi)
      rw [List.getElem?_eq_getElem hi, h1, List.getElem?_map, List.getElem?_eq_getElem (by omega : i < rs.length)]
      rfl
    · rw [List.getElem?_eq_none (by omega), List.getElem?_eq_none (by simp; omega)]
  rw [e, List.filterMap_map]
  simp
/-- [e for ..]: the results are known -/
theorem em_map {wi : TI} {g : TG} {vs : List Nat} {items : List PyData} (rs : List PyData) (hi : EvI K dk wi Γ items) (hl : items.length ≤ 1000) (hrs : rs.length = items.length)
    (hb : ∀ (i : Nat) (x y : PyData), items[i]? = some x → rs[i]? = some y → ∃ Γx, Tg K dk g vs x (wipeG Γ vs) Γx ∧ EvD K dk te Γx y) : EvM K dk (tLc wi g tYes te vs) Γ (fun ds => ds = rs) := by
  refine (em_lc hi hl (fun i o => o = rs[i]?) (fun _ b => b = true) fun i x hx => ?_).imp fun ds ⟨os, h1, h2, h3⟩ => by rw [h3]; exact all_some (by omega) h2
  have hil : i < rs.length := by rw [hrs]; exact len_lt hx
  obtain ⟨Γx, tg, ev⟩ := hb i x _ hx (List.getElem?_eq_getElem hil)
  exact ⟨Γx, tg, et_yes, fun _ => ev.imp fun d e => by rw [e, List.getElem?_eq_getElem hil], fun z => by cases z⟩
/-- [e for .. if ..]: what is left out is none -/
theorem em_filter {wi : TI} {g : TG} {tt : TT} {vs : List Nat} {items : List PyData} (os : List (Option PyData)) (hi : EvI K dk wi Γ items) (hl : items.length ≤ 1000) (hos : os.length = items.length)
    (hb : ∀ (i : Nat) (x : PyData) (o : Option PyData), items[i]? = some x → os[i]? = some o → ∃ Γx, Tg K dk g vs x (wipeG Γ vs) Γx ∧ EvB K dk tt Γx o.isSome ∧ ∀ y, o = some y → EvD K dk te Γx y) : EvM K dk (tLc wi g tt te vs) Γ (fun ds => ds = os.filterMap id) := by
  refine (em_lc hi hl (fun i o => os[i]? = some o) (fun i b => ∃ o, os[i]? = some o ∧ b = o.isSome) fun i x hx => ?_).imp fun ds ⟨qs, h1, h2, h3⟩ => ?_
  · have hil : i < os.length := by rw [hos]; exact len_lt hx
    have ho := List.getElem?_eq_getElem hil
    obtain ⟨Γx, tg, et, ev⟩ := hb i x _ hx ho
    refine ⟨Γx, tg, et.imp fun b e => ⟨_, ho, e⟩, fun ⟨o, h1, h2⟩ => ?_, fun ⟨o, h1, h2⟩ => ?_⟩
    · cases o with
      | none => cases h2
      | some y =>
        rw [ho] at h1
        exact (ev y (Option.some.inj h1)).imp fun d e => by rw [e, ho]; exact h1
    · cases o with
      | none => exact h1
      | some y => cases h2
  · have e : qs = os := by
      refine List.ext_getElem? fun i => ?_
      by_cases hi : i < qs.length
      · rw [List.getElem?_eq_getElem hi]
        exact (h2 i _ (List.getElem?_eq_getElem hi)).symm
      · rw [List.getElem?_eq_none (by omega), List.getElem?_eq_none (by omega)]
    rw [h3, e]

/-! ### statements -/
theorem s_next (h : N Γ) : SOk K dk tNext Γ N R := fun I0 H0 σ I H D e k1 k2 => k1 Γ σ I H h e (Same.refl I)
theorem s_end (h : SOk K dk (tSeq t tNext) Γ N R) : SOk K dk t Γ N R := fun I0 H0 σ I H D e k1 k2 => h I0 H0 σ I H D e k1 k2
theorem q_next (h : SOk K dk r Γ N R) : SOk K dk (tSeq tNext r) Γ N R := fun I0 H0 σ I H D e k1 k2 => h I0 H0 σ I H D e k1 k2
theorem q_assoc (h : SOk K dk (tSeq t (tSeq u r)) Γ N R) : SOk K dk (tSeq (tSeq t u) r) Γ N R := fun I0 H0 σ I H D e k1 k2 => h I0 H0 σ I H D e k1 k2
theorem q_seq {N1 : List K39.G → Prop} (h : SOk K dk t Γ N1 R) (hr : ∀ Γ', N1 Γ' → SOk K dk r Γ' N R) : SOk K dk (tSeq t r) Γ N R := fun I0 H0 σ I H D e k1 k2 =>
  h I0 H0 σ I H _ e (fun Γ' σ' I' H' n e' s => hr Γ' n I0 H0 σ' I' H' D e' (fun Γ2 σ2 I2 H2 n2 e2 s2 => k1 Γ2 σ2 I2 H2 n2 e2 (s.trans s2)) k2) k2
theorem SOk.imp {N1 : List K39.G → Prop} {R1 : PyData → Prop} (h : SOk K dk t Γ N1 R1) (hN : ∀ Γ', N1 Γ' → N Γ') (hR : ∀ d, R1 d → R d) : SOk K dk t Γ N R := fun I0 H0 σ I H D e k1 k2 =>
  h I0 H0 σ I H D e (fun Γ' σ' I' H' n => k1 Γ' σ' I' H' (hN Γ' n)) fun v d I' H' q => k2 v d I' H' (hR d q)
theorem q_freeze {i : Nat} {ds : List PyData} (h : Γ[i]? = some (.mut ds)) (hr : SOk K dk r (Γ.set i (.dat (.list ds))) N R) : SOk K dk r Γ N R := fun I0 H0 σ I H D e k1 k2 => by
  obtain ⟨p, vs, h1, h2, h3, h5, h6, e'⟩ := e.freeze h
  exact hr I0 H0 σ _ H D e' (fun Γ' σ' I' H' n e2 s => k1 Γ' σ' I' H' n e2 fun a o q => s a o (by rw [upd_ne (ne_of_none q h3)]; exact q)) k2
/-- a slot's knowledge given up -/
theorem q_forget {i : Nat} (hr : SOk K dk r (Γ.set i .no) N R) : SOk K dk r Γ N R := fun I0 H0 σ I H D e k1 k2 =>
  hr I0 H0 σ I H D (e.weak (List.length_set ..) rfl fun j g h => by
    rcases set_at h with ⟨_, _, e⟩ | ⟨_, h⟩
    · exact .inl e
    · exact .inr ⟨h, rfl⟩) k1 k2
theorem q_setP {i : Nat} (h : EvP K dk te Γ P) (hr : ∀ d, P d → SOk K dk r (Γ.set i (.dat d)) N R) : SOk K dk (tSeq (tAsg te (gName i)) r) Γ N R := fun I0 H0 σ I H D e k1 k2 => by
  refine h I0 H0 σ I H _ e fun v d I1 H1 p1 n1 r1 => ?_
  exact hr d p1 I0 H0 _ I1 H1 D ((e.step n1).set r1) (fun Γ' σ' I' H' n e2 s => k1 Γ' σ' I' H' n e2 (n1.ii.trans s)) k2
theorem q_set {i : Nat} (h : EvD K dk te Γ d) (hr : SOk K dk r (Γ.set i (.dat d)) N R) : SOk K dk (tSeq (tAsg te (gName i)) r) Γ N R := q_setP h fun d e => by subst e; exact hr
theorem Know.setM (e : Know K dk I0 H0 Γ σ I H) {i : Nat} {p : Addr} {vs : List V} {ds : List PyData} (h1 : H p = some (.lst vs)) (h2 : I p = none) (h3 : H0 p = none) (h4 : ¬ zone dk p) (h5 : RpL K I vs ds)
    (hd : ∀ (j : Nat) (es : List PyData), Γ[j]? = some (.mut es) → i ≠ j → σ[j]? ≠ some (some (V.ref p))) : Know K dk I0 H0 (Γ.set i (.mut ds)) (σ.set i (some (.ref p))) I H := by
  refine ⟨e.nx, by simp [e.len], fun j d' h => ?_, fun j es h => ?_, fun j k es es' q g1 g2 g3 g4 => ?_, fun j h => ?_⟩
  · rcases set_at h with ⟨rfl, hl, z⟩ | ⟨hne, h⟩
    · cases z
    · obtain ⟨w, a, b⟩ := e.dat j d' h
      exact ⟨w, by rw [List.getElem?_set_ne hne]; exact a, b⟩
  · rcases set_at h with ⟨rfl, hl, z⟩ | ⟨hne, h⟩
    · cases z
      exact ⟨p, vs, by rw [List.getElem?_set_self (by rw [e.len]; exact hl)], h1, h2, h3, h4, h5⟩
    · obtain ⟨q, ws, a, b⟩ := e.mu j es h
      exact ⟨q, ws, by rw [List.getElem?_set_ne hne]; exact a, b⟩
  · rcases set_at g1 with ⟨ej, hl, z⟩ | ⟨hne, g1⟩ <;> rcases set_at g2 with ⟨ek, hl', z'⟩ | ⟨hne', g2⟩
    · rw [← ej, ← ek]
    · subst ej
      rw [List.getElem?_set_self (by rw [e.len]; exact hl)] at g3
      cases g3
      rw [List.getElem?_set_ne hne'] at g4
      exact absurd g4 (hd k es' g2 hne')
    · subst ek
      rw [List.getElem?_set_self (by rw [e.len]; exact hl')] at g4
      cases g4
      rw [List.getElem?_set_ne hne] at g3
      exact absurd g3 (hd j es g1 hne)
    · rw [List.getElem?_set_ne hne] at g3
      rw [List.getElem?_set_ne hne'] at g4
      exact e.inj j k es es' q g1 g2 g3 g4
  · rcases set_at h with ⟨rfl, hl, z⟩ | ⟨hne, h⟩
    · cases z
    · obtain ⟨q, a, b⟩ := e.deck j h
      exact ⟨q, a, by rw [List.getElem?_set_ne hne]; exact b⟩
theorem Nx.free0 (n : Nx dk I0 H0 I H) {p : Addr} (hp : H p = none) : H0 p = none := n.free hp
theorem q_setM {i : Nat} {PA : List PyData → Prop} (h : EvM K dk te Γ PA) (hr : ∀ ds, PA ds → SOk K dk r (Γ.set i (.mut ds)) N R) : SOk K dk (tSeq (tAsg te (gName i)) r) Γ N R := fun I0 H0 σ I H D e k1 k2 => by
  refine h I0 H0 σ I H _ e fun p vs ds I1 H1 p1 n1 h0 h1 h2 r1 => ?_
  have e1 := e.step n1
  refine hr ds p1 I0 H0 _ I1 H1 D (e1.setM h1 h2 (e.nx.free h0) (e.ok.nz h0) r1 fun j es hj hne hs => ?_) (fun Γ' σ' I' H' n e2 s => k1 Γ' σ' I' H' n e2 (n1.ii.trans s)) k2
  obtain ⟨q, ws, a, b, _⟩ := e.mu j es hj
  rw [a] at hs
  cases hs
  rw [b] at h0; cases h0
theorem q_setMD {i : Nat} {ds : List PyData} (h : EvM K dk te Γ (fun r => r = ds)) (hr : SOk K dk r (Γ.set i (.mut ds)) N R) : SOk K dk (tSeq (tAsg te (gName i)) r) Γ N R := q_setM h fun _ e => by subst e; exact hr
theorem q_par2P {i j : Nat} {ta : TA} {PA : List PyData → Prop} (h : EvA K dk ta Γ PA) (h2 : ∀ xs, PA xs → ∃ x y, xs = [x, y]) (hr : ∀ x y, PA [x, y] → SOk K dk r ((Γ.set i (.dat x)).set j (.dat y)) N R) : SOk K dk (tSeq (tPar i j ta) r) Γ N R := fun I0 H0 σ I H D e k1 k2 => by
  refine h I0 H0 σ I H _ e fun vs ds I1 H1 p1 n1 r1 => ?_
  obtain ⟨x, y, rfl⟩ := h2 ds p1
  obtain ⟨v, w, rfl, q1, q2⟩ := rpl2 r1
  exact ⟨v, w, rfl, hr x y p1 I0 H0 _ I1 H1 D (((e.step n1).set q1).set q2) (fun Γ' σ' I' H' n e2 s => k1 Γ' σ' I' H' n e2 (n1.ii.trans s)) k2⟩
theorem q_par2 {i j : Nat} {ta : TA} (h : EvAD K dk ta Γ [x, y]) (hr : SOk K dk r ((Γ.set i (.dat x)).set j (.dat y)) N R) : SOk K dk (tSeq (tPar i j ta) r) Γ N R :=
  q_par2P h (fun xs e => ⟨x, y, e⟩) fun a b e => by cases e; exact hr
/-- a, b = v, []: the second list may change -/
theorem q_par2M {i j : Nat} {t1 t2 : TE} {ds : List PyData} (hij : i ≠ j) (h : EvD K dk t1 Γ x) (h2 : EvM K dk t2 Γ (fun r => r = ds)) (hr : SOk K dk r ((Γ.set i (.dat x)).set j (.mut ds)) N R) : SOk K dk (tSeq (tPar i j (tCons t1 (tCons t2 tNil))) r) Γ N R := fun I0 H0 σ I H D e k1 k2 => by
  refine h I0 H0 σ I H _ e fun v d I1 H1 p1 n1 r1 => ?_
  subst p1
  refine h2 I0 H0 σ I1 H1 _ (e.step n1) fun p vs ds' I2 H2 p2 n2 g0 g1 g2 r2 => ?_
  subst p2
  have n12 := n1.trans n2
  have h0 : H p = none := n1.free g0
  refine ⟨v, .ref p, rfl, hr I0 H0 _ I2 H2 D (((e.step n12).set (r1.mono n2.ii)).setM g1 g2 (e.nx.free h0) (e.ok.nz h0) r2 fun k es hk hne hs => ?_) (fun Γ' σ' I' H' n e2 s => k1 Γ' σ' I' H' n e2 (n12.ii.trans s)) k2⟩
  rcases set_at hk with ⟨_, _, z⟩ | ⟨hk', hk⟩
  · cases z
  · rw [List.getElem?_set_ne hk'] at hs
    obtain ⟨q, ws, a, b, _⟩ := e.mu k es hk
    rw [a] at hs
    cases hs
    rw [b] at h0; cases h0
/-- a, b = [], v: the first list may change -/
theorem q_par2M1 {i j : Nat} {t1 t2 : TE} {ds : List PyData} (hij : i ≠ j) (h2 : EvM K dk t1 Γ (fun r => r = ds)) (h : EvD K dk t2 Γ x) (hr : SOk K dk r ((Γ.set j (.dat x)).set i (.mut ds)) N R) : SOk K dk (tSeq (tPar i j (tCons t1 (tCons t2 tNil))) r) Γ N R := fun I0 H0 σ I H D e k1 k2 => by
  refine h2 I0 H0 σ I H _ e fun p vs ds' I1 H1 p1 n1 g0 g1 g2 r1 => ?_
  subst p1
  refine h I0 H0 σ I1 H1 _ (e.step n1) fun v d I2 H2 p2 n2 r2 => ?_
  subst p2
  have n12 := n1.trans n2
  have nz := e.ok.nz g0
  refine ⟨.ref p, v, rfl, ?_⟩
  show r D ((σ.set i (some (.ref p))).set j (some v)) H2
  rw [List.set_comm _ _ hij]
  refine hr I0 H0 _ I2 H2 D (((e.step n12).set r2).setM (n2.hh _ _ g1 nz) (n2.fr _ _ g1 g2) (e.nx.free g0) nz (r1.mono n2.ii) fun k es hk hne hs => ?_) (fun Γ' σ' I' H' n e2 s => k1 Γ' σ' I' H' n e2 (n12.ii.trans s)) k2
  rcases set_at hk with ⟨_, _, z⟩ | ⟨hk', hk⟩
  · cases z
  · rw [List.getElem?_set_ne hk'] at hs
    obtain ⟨q, ws, a, b, _⟩ := e.mu k es hk
    rw [a] at hs
    cases hs
    rw [b] at g0; cases g0
theorem q_par3P {i j l : Nat} {ta : TA} {PA : List PyData → Prop} (h : EvA K dk ta Γ PA) (h2 : ∀ xs, PA xs → ∃ x y z, xs = [x, y, z]) (hr : ∀ x y z, PA [x, y, z] → SOk K dk r (((Γ.set i (.dat x)).set j (.dat y)).set l (.dat z)) N R) : SOk K dk (tSeq (tPar3 i j l ta) r) Γ N R := fun I0 H0 σ I H D e k1 k2 => by
  refine h I0 H0 σ I H _ e fun vs ds I1 H1 p1 n1 r1 => ?_
  obtain ⟨x, y, z, rfl⟩ := h2 ds p1
  cases r1 with
  | cons q0 r1 =>
    obtain ⟨v, w, rfl, q1, q2⟩ := rpl2 r1
    exact ⟨_, v, w, rfl, hr x y z p1 I0 H0 _ I1 H1 D ((((e.step n1).set q0).set q1).set q2) (fun Γ' σ' I' H' n e2 s => k1 Γ' σ' I' H' n e2 (n1.ii.trans s)) k2⟩
theorem q_par3 {i j l : Nat} {ta : TA} (h : EvAD K dk ta Γ [x, y, z]) (hr : SOk K dk r (((Γ.set i (.dat x)).set j (.dat y)).set l (.dat z)) N R) : SOk K dk (tSeq (tPar3 i j l ta) r) Γ N R :=
  q_par3P h (fun xs e => ⟨x, y, z, e⟩) fun a b c e => by cases e; exact hr
/-- a target takes a value -/
theorem q_tgP {g : TG} {vs : List Nat} (h : EvP K dk te Γ P) (hr : ∀ d, P d → ∃ Γ', Tg K dk g vs d Γ Γ' ∧ SOk K dk r Γ' N R) : SOk K dk (tSeq (tAsg te g) r) Γ N R := fun I0 H0 σ I H D e k1 k2 => by
  refine h I0 H0 σ I H _ e fun v d I1 H1 p1 n1 r1 => ?_
  obtain ⟨Γ', tg, s⟩ := hr d p1
  exact tg I0 H0 v σ I1 H1 _ (e.step n1) r1 fun σ' e' _ => s I0 H0 σ' I1 H1 D e' (fun Γ' σ' I' H' n e2 s => k1 Γ' σ' I' H' n e2 (n1.ii.trans s)) k2
theorem q_unp2 {i j : Nat} (h : EvD K dk te Γ (.tuple [x, y])) (hr : SOk K dk r ((Γ.set i (.dat x)).set j (.dat y)) N R) : SOk K dk (tSeq (tAsg te (gTup K 2 (gCons (gName i) (gCons (gName j) gNil)))) r) Γ N R :=
  q_tgP (vs := [i, j]) h fun d e => by subst e; exact ⟨_, tg_two (by simp) (by simp), hr⟩
theorem q_unp3 {i j l : Nat} (h : EvD K dk te Γ (.tuple [x, y, z])) (hr : SOk K dk r (((Γ.set i (.dat x)).set j (.dat y)).set l (.dat z)) N R) : SOk K dk (tSeq (tAsg te (gTup K 3 (gCons (gName i) (gCons (gName j) (gCons (gName l) gNil))))) r) Γ N R :=
  q_tgP (vs := [i, j, l]) h fun d e => by subst e; exact ⟨_, tg_three (by simp) (by simp) (by simp), hr⟩
/-- a change of a list that may change -/
theorem Know.mutate (e : Know K dk I0 H0 Γ σ I H) {i : Nat} {p : Addr} {ds es : List PyData} {ws : List V} (h : Γ[i]? = some (.mut ds)) (hs : σ[i]? = some (some (.ref p))) (hr : RpL K I ws es) :
    Know K dk I0 H0 (Γ.set i (.mut es)) σ I (upd H p (.lst ws)) := by
  obtain ⟨p', vs, h1, h2, h3, h4, h5, h6⟩ := e.mu i ds h
  rw [hs] at h1
  cases h1
  have hi := len_lt h
  refine ⟨e.nx.mutp h4 h3 h5, by rw [List.length_set]; exact e.len, fun j d' q => ?_, fun j es' q => ?_, fun j k es1 es2 q g1 g2 g3 g4 => ?_, fun j q => ?_⟩
  · rcases set_at q with ⟨rfl, hl, z⟩ | ⟨hne, q⟩
    · cases z
    · exact e.dat j d' q
  · rcases set_at q with ⟨rfl, hl, z⟩ | ⟨hne, q⟩
    · cases z
      exact ⟨p, ws, hs, upd_same, h3, h4, h5, hr⟩
    · obtain ⟨q', ws', a, b, c⟩ := e.mu j es' q
      refine ⟨q', ws', a, ?_, c⟩
      rw [upd_ne fun z => hne (e.inj i j ds es' p h q hs (by rw [z] at a; exact a))]
      exact b
  · have f1 : ∃ a, Γ[j]? = some (.mut a) := by
      rcases set_at g1 with ⟨rfl, _, _⟩ | ⟨_, g1⟩
      · exact ⟨_, h⟩
      · exact ⟨_, g1⟩
    have f2 : ∃ a, Γ[k]? = some (.mut a) := by
      rcases set_at g2 with ⟨rfl, _, _⟩ | ⟨_, g2⟩
      · exact ⟨_, h⟩
      · exact ⟨_, g2⟩
    obtain ⟨a, f1⟩ := f1
    obtain ⟨b, f2⟩ := f2
    exact e.inj j k a b q f1 f2 g3 g4
  · rcases set_at q with ⟨rfl, hl, z⟩ | ⟨hne, q⟩
    · cases z
    · exact e.deck j q
theorem q_app {i : Nat} {ds : List PyData} (hi : Γ[i]? = some (.mut ds)) (hl : ds.length < 1000) (h : EvP K dk te Γ P) (hr : ∀ d, P d → SOk K dk r (Γ.set i (.mut (ds ++ [d]))) N R) :
    SOk K dk (tSeq (tDrop (tBM K "list" rAppend (tVar i) (tCons te tNil))) r) Γ N R := fun I0 H0 σ I H D e k1 k2 => by
  obtain ⟨p, vs, h1, h2, h3, h4, h5, h6⟩ := e.mu i ds hi
  refine ⟨_, h1, .inl ⟨rfl, vs, .inl (.inl h2)⟩, h I0 H0 σ I H _ e fun v d I1 H1 p1 n1 r1 => ?_⟩
  have e1 := e.step n1
  have h2' := n1.hh _ _ h2 h5
  refine ⟨p, vs, v, rfl, rfl, h2', by rw [h6.len]; exact small1000 (by omega), ?_⟩
  exact hr d p1 I0 H0 σ I1 _ D (e1.mutate hi h1 ((h6.mono n1.ii).app (.cons r1 .nil))) (fun Γ' σ' I' H' n e2 s => k1 Γ' σ' I' H' n e2 (n1.ii.trans s)) k2
theorem q_setix {i : Nat} {ds : List PyData} {j : Int} {m : Nat} (hi : Γ[i]? = some (.mut ds)) (h : EvP K dk te Γ P) (ht : EvD K dk ti Γ (.int j)) (hj : ixN ds.length j = some m) (hr : ∀ d, P d → SOk K dk r (Γ.set i (.mut (ds.set m d))) N R) :
    SOk K dk (tSeq (tAsg te (gSub (tVar i) ti rSetL)) r) Γ N R := fun I0 H0 σ I H D e k1 k2 => by
  obtain ⟨p, vs, h1, h2, h3, h4, h5, h6⟩ := e.mu i ds hi
  refine h I0 H0 σ I H _ e fun v d I1 H1 p1 n1 r1 => ?_
  refine ⟨_, h1, ht I0 H0 σ I1 H1 _ (e.step n1) fun w dj I2 H2 p2 n2 r2 => ?_⟩
  subst p2
  cases r2
  have n12 := n1.trans n2
  have h2' := n12.hh _ _ h2 h5
  refine ⟨p, vs, j, m, rfl, rfl, h2', by rw [h6.len]; exact hj, ?_⟩
  exact hr d p1 I0 H0 σ I2 _ D ((e.step n12).mutate hi h1 ((h6.mono n12.ii).set (r1.mono n2.ii))) (fun Γ' σ' I' H' n e2 s => k1 Γ' σ' I' H' n e2 (n12.ii.trans s)) k2
theorem q_aug {i : Nat} {f : Int → Int → Int} {a b : Int} (hi : Γ[i]? = some (.dat (.int a))) (h : EvD K dk te Γ (.int b)) (hr : SOk K dk r (Γ.set i (.dat (.int (f a b)))) N R) : SOk K dk (tSeq (tAug i te (ipI f)) r) Γ N R := fun I0 H0 σ I H D e k1 k2 => by
  obtain ⟨v, h1, h2⟩ := e.dat i _ hi
  cases h2
  refine ⟨_, h1, h I0 H0 σ I H _ e fun w dw I1 H1 p1 n1 r1 => ?_⟩
  subst p1
  cases r1
  exact ⟨a, b, rfl, rfl, hr I0 H0 _ I1 H1 D ((e.step n1).set (.int _)) (fun Γ' σ' I' H' n e2 s => k1 Γ' σ' I' H' n e2 (n1.ii.trans s)) k2⟩
theorem q_ret (h : EvP K dk te Γ R) : SOk K dk (tSeq (tRet te) r) Γ N R := fun I0 H0 σ I H D e k1 k2 => h I0 H0 σ I H _ e fun v d I1 H1 p1 n1 r1 => k2 v d I1 H1 p1 (e.nx.trans n1) r1
theorem s_ret (h : EvP K dk te Γ R) : SOk K dk (tRet te) Γ N R := fun I0 H0 σ I H D e k1 k2 => h I0 H0 σ I H _ e fun v d I1 H1 p1 n1 r1 => k2 v d I1 H1 p1 (e.nx.trans n1) r1
theorem q_if {c : TT} {B : Bool → Prop} (h : EvT K dk c Γ B) (ht : B true → SOk K dk (tSeq t r) Γ N R) (hu : B false → SOk K dk (tSeq u r) Γ N R) : SOk K dk (tSeq (tIfS c t u) r) Γ N R := fun I0 H0 σ I H D e k1 k2 => by
  refine h I0 H0 σ I H _ e fun b I1 H1 pb n1 => ?_
  cases b with
  | true =>
    rw [if_pos rfl]
    exact ht pb I0 H0 σ I1 H1 D (e.step n1) (fun Γ' σ' I' H' n e2 s => k1 Γ' σ' I' H' n e2 (n1.ii.trans s)) k2
  | false =>
    rw [if_neg Bool.false_ne_true]
    exact hu pb I0 H0 σ I1 H1 D (e.step n1) (fun Γ' σ' I' H' n e2 s => k1 Γ' σ' I' H' n e2 (n1.ii.trans s)) k2
theorem q_ifB {c : TT} {b : Bool} (h : EvB K dk c Γ b) (ht : b = true → SOk K dk (tSeq t r) Γ N R) (hu : b = false → SOk K dk (tSeq u r) Γ N R) : SOk K dk (tSeq (tIfS c t u) r) Γ N R := q_if h (fun e => ht e.symm) fun e => hu e.symm
theorem q_ifT {c : TT} (h : EvB K dk c Γ true) (ht : SOk K dk (tSeq t r) Γ N R) : SOk K dk (tSeq (tIfS c t u) r) Γ N R := q_ifB h (fun _ => ht) fun e => by cases e
theorem q_ifF {c : TT} (h : EvB K dk c Γ false) (hu : SOk K dk (tSeq u r) Γ N R) : SOk K dk (tSeq (tIfS c t u) r) Γ N R := q_ifB h (fun e => by cases e) fun _ => hu
theorem q_for {wi : TI} {g : TG} {tb : TS} {items : List PyData} (hi : EvI K dk wi Γ items) (Iv : Nat → List K39.G → Prop) (h0 : Iv 0 Γ)
    (hs : ∀ (i : Nat) (x : PyData) (Γ1 : List K39.G), items[i]? = some x → Iv i Γ1 → ∃ (Γx : List K39.G) (vs : List Nat), Tg K dk g vs x Γ1 Γx ∧ SOk K dk tb Γx (Iv (i + 1)) R) (hd : ∀ Γ1, Iv items.length Γ1 → SOk K dk r Γ1 N R) :
    SOk K dk (tSeq (tFor wi g tb) r) Γ N R := fun I0 H0 σ I H D e k1 k2 => by
  refine hi I0 H0 σ I H _ e fun J Iw Hw nw w => ?_
  refine ⟨fun i m σ' H' => m = items.length - i ∧ i ≤ items.length ∧ ∃ Γ1 I1, Iv i Γ1 ∧ Know K dk I0 H0 Γ1 σ' I1 H' ∧ Same Iw I1, ⟨_, rfl, Nat.zero_le _, Γ, Iw, h0, e.step nw, Same.refl _⟩, ?_⟩
  rintro i m σ1 H1 ⟨rfl, hile, Γ1, I1, iv, e1, s1⟩
  obtain ⟨ws, wg⟩ := w i I1 H1 e1.ok s1
  by_cases hlt : i < items.length
  · refine .inr ?_
    have hx : items[i]? = some items[i] := List.getElem?_eq_getElem hlt
    obtain ⟨go, yld⟩ := wg _ hx
    obtain ⟨Γx, vs, tg, body⟩ := hs i _ Γ1 hx iv
    refine ⟨go, fun σ' H' => ∃ Γ1 I1, Iv (i + 1) Γ1 ∧ Know K dk I0 H0 Γ1 σ' I1 H' ∧ Same Iw I1, fun σ' H' q => ⟨items.length - (i + 1), by omega, rfl, hlt, q⟩, fun v H3 hy => ?_⟩
    obtain ⟨I3, n3, rv⟩ := yld v H3 hy
    refine tg I0 H0 v σ1 I3 H3 _ (e1.step n3) rv fun σ2 e2 _ => ?_
    exact body I0 H0 σ2 I3 H3 _ e2 (fun Γ' σ' I' H' n e' s => ⟨Γ', I', n, e', (s1.trans n3.ii).trans s⟩) k2
  · have ei : i = items.length := by omega
    subst ei
    exact .inl ⟨ws rfl, hd Γ1 iv I0 H0 σ1 I1 H1 D e1 (fun Γ' σ' I' H' n e2 s => k1 Γ' σ' I' H' n e2 ((nw.ii.trans s1).trans s)) k2⟩
theorem q_while {c : TT} {tb : TS} {α : Type} (st : α → List K39.G) (Iv : α → Prop) (μ : α → Nat) (a0 : α) (h0 : Γ = st a0) (i0 : Iv a0)
    (hs : ∀ a, Iv a → ∃ b, EvB K dk c (st a) b ∧ (b = true → SOk K dk tb (st a) (fun Γ2 => ∃ a', Γ2 = st a' ∧ Iv a' ∧ μ a' < μ a) R) ∧ (b = false → SOk K dk r (st a) N R)) :
    SOk K dk (tSeq (tWhile c tb) r) Γ N R := fun I0 H0 σ I H D e k1 k2 => by
  subst h0
  refine ⟨fun m σ' H' => ∃ a I1, m = μ a ∧ Iv a ∧ Know K dk I0 H0 (st a) σ' I1 H' ∧ Same I I1, ⟨_, a0, I, rfl, i0, e, Same.refl _⟩, ?_⟩
  rintro m σ1 H1 ⟨a, I1, rfl, iv, e1, s1⟩
  obtain ⟨b, hc, ht, hf⟩ := hs a iv
  refine hc I0 H0 σ1 I1 H1 _ e1 fun b' I2 H2 eb n2 => ?_
  subst eb
  cases b' with
  | true =>
    rw [if_pos rfl]
    refine ⟨fun σ' H' => ∃ a' I1, Iv a' ∧ μ a' < μ a ∧ Know K dk I0 H0 (st a') σ' I1 H' ∧ Same I I1, fun σ' H' ⟨a', I3, g1, g2, g3, g4⟩ => ⟨_, g2, a', I3, rfl, g1, g3, g4⟩, ?_⟩
    exact ht rfl I0 H0 σ1 I2 H2 _ (e1.step n2) (fun Γ' σ' I' H' ⟨a', ea, g1, g2⟩ e' s => ⟨a', I', g1, g2, ea ▸ e', (s1.trans n2.ii).trans s⟩) k2
  | false =>
    rw [if_neg Bool.false_ne_true]
    exact hf rfl I0 H0 σ1 I2 H2 D (e1.step n2) (fun Γ' σ' I' H' n e2 s => k1 Γ' σ' I' H' n e2 ((s1.trans n2.ii).trans s)) k2
end
end K39

set_option Elab.async false
set_option linter.all false
set_option maxRecDepth 100000
set_option maxHeartbeats 1000000
/-! S5: zip and enumerate over lists and tuples alike -/
namespace K39
open PySem PySem.Spec PyProof.Rows L2

/-- enumerate(v): its two new cells -/
theorem enum_new {v : Value} {o : Obj} {H : Heap → Prop} (B : Begins v o H) :
    Meets (Builtin.«enumerate.__new__» ⟨[.type "enumerate", v], []⟩) (fun _ R s => H s.heap ∧
      R (.ok (.ret (.ref (s.heap.push o).objs.size))) { s with heap := (s.heap.push o).push { cls := .type "enumerate", data := .fields #[.none, .bool false, .ref s.heap.objs.size, rawInt 0, .none, .none] } }) :=
  .of_wp fun prog w A R s h => by
    obtain ⟨hp, g, d, tk, os⟩ := s; obtain ⟨h1, h⟩ := h
    have hsub := sub_enumerate
    have q1 : ∀ {A' : Around} {E : Value → Shared → Prop} {Q : Value → Shared → Prop}, Q (.ref hp.objs.size) ⟨hp.push o, g, d, tk, os⟩ → wpAny (model prog w) A' (pyIter v) Q E ⟨hp, g, d, tk, os⟩ :=
      fun q => B.iter prog w _ _ ⟨hp, g, d, tk, os⟩ _ h1 q
    wp_walk using q1
    refine wpAny_stack_any fun st => wpAny_pure ?_
    split
    · rename_i c _ _ _ _ _
      cases (c == Value.type "enumerate")
      · wp_walk using q1
        exact ⟨_, rfl, h⟩
      · wp_walk using q1
        exact ⟨_, rfl, h⟩
    · wp_walk using q1
      exact ⟨_, rfl, h⟩
theorem enum_call {prog : Program} {w : World} {A : Around} {E : Value → Shared → Prop} {s : Shared} {v : Value} {o : Obj} {H : Heap → Prop} {Q : Value → Shared → Prop} (B : Begins v o H) (h1 : H s.heap)
    (h : ∀ h', IsEnum h' (s.heap.objs.size + 1) s.heap.objs.size 0 .none → h'.get? s.heap.objs.size = some o → (∀ b o, s.heap.get? b = some o → h'.get? b = some o) → Q (.ref (s.heap.objs.size + 1)) { s with heap := h' }) :
    wpAny (model prog w) A (call (.type "enumerate") [v]) Q E s := by
  refine callType_new F.called_enumerate (by decide) (F.typeCall_enumerate_1 _) (F.newCall_enumerate_1 _) (fun obj => F.args_object_init_2 obj _) F.entry_enumerate_new (enum_new B) ⟨h1, ?_⟩
  have hz : (s.heap.push o).objs.size = s.heap.objs.size + 1 := Heap.size_push ..
  have g1 := Heap.get?_push_size (s.heap.push o) (o := { cls := .type "enumerate", data := .fields #[.none, .bool false, .ref s.heap.objs.size, rawInt 0, .none, .none] }) rfl
  show _ ∧ _
  rw [hz] at g1 ⊢
  exact ⟨⟨_, g1, rfl⟩, h _ g1 (Heap.get?_push_of_some _ (Heap.get?_push_size _ B.free)) fun b u x => Heap.get?_push_of_some _ (Heap.get?_push_of_some _ x)⟩

/-! ### a list (true) or a tuple (false) -/
def SqS (b : Bool) (K : PySem.W.Frag) (H : Hp) (a : Addr) (xs : List V) : Prop := match b with
  | true => SqL K H a xs
  | false => SqT K H a xs
/-- its items as they lie in the heap -/
def HasS (b : Bool) (h : Heap) (a : Addr) (its : Array Value) : Prop := match b with
  | true => h.IsList a its
  | false => h.IsTuple a its
def IterS (b : Bool) (h : Heap) (it a : Addr) (i : Nat) : Prop := match b with
  | true => h.IsListIter it a i
  | false => h.IsTupleIter it a i
def iterO (b : Bool) (a : Addr) : Obj := match b with
  | true => { cls := .type "list_iterator", data := .fields #[.ref a, .int 0 0] }
  | false => { cls := .type "tuple_iterator", data := .fields #[.ref a, .int 0 0] }
theorem begins_S (b : Bool) (a : Addr) (its : Array Value) : Begins (.ref a) (iterO b a) fun h => HasS b h a its := match b with
  | true => begins_list a its
  | false => begins_tuple a its
theorem draws_S {prog : Program} {w : World} {A : Around} (hh : A.handled = none) (b : Bool) (it a : Addr) (hne : a ≠ it) (its : Array Value) : Draws prog w A it [it, a] its.size (fun i v => its[i]? = some v) (fun i h => IterS b h it a i ∧ HasS b h a its) := match b with
  | true => Draws.list hh it a hne its
  | false => Draws.tuple hh it a hne its
theorem iterS_new (b : Bool) {h : Heap} {it a : Addr} (e : h.get? it = some (iterO b a)) : IterS b h it a 0 := match b, e with
  | true, e => ⟨_, e, rfl, rfl⟩
  | false, e => ⟨_, e, rfl, rfl⟩
theorem iterS_at (b : Bool) {h h' : Heap} {it a : Addr} {i : Nat} (x : IterS b h it a i) (k : ∀ o, h.get? it = some o → h'.get? it = some o) : IterS b h' it a i := match b, x with
  | true, x => Heap.IsListIter.at x k
  | false, x => Heap.IsTupleIter.at x k
theorem iterS_obj (b : Bool) {h : Heap} {it a : Addr} {i : Nat} (x : IterS b h it a i) : ∃ o, h.get? it = some o ∧ ∀ v, o.data ≠ .cell v := match b, x with
  | true, ⟨o, e, _, d⟩ => ⟨o, e, fun v q => by rw [d] at q; cases q⟩
  | false, ⟨o, e, _, d⟩ => ⟨o, e, fun v q => by rw [d] at q; cases q⟩
section
variable {X : Cx} {pins : List (Addr × Obj)} {σ : L2.St} {H : Hp} {s : Shared} {a : Addr} {xs ys : List V}
theorem Inv.seqS (I : Inv X pins σ H s) (b : Bool) (h : SqS b X.K H a xs) : ∃ its : List Value, Vals xs its ∧ HasS b s.heap a its.toArray ∧ a < s.heap.objs.size := match b, h with
  | true, h => let ⟨its, r, p, _⟩ := I.list h; ⟨its, r, p.isList, p.lt⟩
  | false, h => let ⟨its, r, p, _⟩ := I.tuple h; ⟨its, r, p, by obtain ⟨o, e, _⟩ := p; exact Heap.lt_size e⟩
theorem Inv.seqS_inj (I : Inv X pins σ H s) (b : Bool) (h : SqS b X.K H a xs) (h' : SqS b X.K H a ys) : xs = ys := match b, h, h' with
  | true, h, h' => I.list_inj h h'
  | false, h, h' => I.tuple_inj h h'
end

/-! ### enumerate -/
def IteS (b : Bool) (K : PySem.W.Frag) (a : Addr) : It :=
  ⟨fun i H => ∃ (xs : List V) (x : V), SqS b K H a xs ∧ xs[i]? = some x, fun i H v H' => ∃ T x, v = .ref T ∧ H T = none ∧ H' = upd H T (.tup [.int (i : Nat), x]) ∧ ∀ xs, SqS b K H a xs → xs[i]? = some x, fun i H => ∃ xs : List V, SqS b K H a xs ∧ xs.length = i⟩
theorem turn_enumS {P : Program} {w : World} {K : PySem.W.Frag} {elts : List Expr} {kk : Nat} {tpos : Pos} (b : Bool) (a e it : Addr) (hne : e ≠ it) (hea : e ≠ a) (hia : a ≠ it) :
    Turn P w K (.Tuple elts kk tpos) (IteS b K a) [e, it] e (fun i h => (∃ old, IsEnum h e it (0 + (i : Int)) old) ∧ IterS b h it a i) where
  mem := by simp
  obj := fun i h st c hc => by
    obtain ⟨⟨old, he⟩, hit⟩ := st
    have e' : c = e ∨ c = it := by simpa using hc
    rcases e' with z | z
    · rw [z]; exact ⟨_, he, fun v q => nomatch q⟩
    · rw [z]; exact iterS_obj b hit
  keep := fun i h h' st k => let ⟨⟨old, he⟩, hi⟩ := st; ⟨⟨old, k e (by simp) _ he⟩, iterS_at b hi fun o q => k it (by simp) o q⟩
  item := by
    intro X hP hw hK hc i pins s σ H E I hf st hg
    subst hP hw hK
    obtain ⟨⟨old, he⟩, hit⟩ := st
    obtain ⟨xs, x, hq, hx⟩ := hg
    obtain ⟨its, rv, hs, hlt⟩ := Inv.seqS I b hq
    obtain ⟨u, hu, ru⟩ := rv.get hx
    have hi : i < its.toArray.size := by rw [List.size_toArray]; exact len_lt hu
    have W := GoesN.enumFrom (elts := elts) (x1 := kk) (pos := tpos) 0 (draws_S (prog := X.prog) (w := X.w) (A := X.A.in1) (I.ok.hd hc) b it a hia its.toArray) e hne (by simp; exact ⟨hne, hea⟩) (by simp)
    refine wpAny_mono (W.goes i s (fun v s2 => ∃ x H', Inv X pins σ H' s2 ∧ RelV x v ∧ (IteS b X.K a).yld i H x H' ∧ ((∃ old, IsEnum s2.heap e it (0 + ((i + 1 : Nat) : Int)) old) ∧ IterS b s2.heap it a (i + 1)) ∧ ∀ c ∈ [e, it], H' c = none) E hi ⟨⟨old, he⟩, hit, hs⟩
      fun v h' tk hY hst hk _ => ?_) (fun r s1 ⟨v, er, h⟩ => ⟨v, er, wpAny_mono h (fun _ s2 q => q) fun _ _ q => q⟩) fun _ _ q => q
    obtain ⟨T, t, y, rfl, hnew, hy, hT⟩ := hY
    have ey : y = u := by
      have h1 : its.toArray[i]? = some u := by simpa using hu
      rw [h1] at hy
      exact (Option.some.inj hy).symm
    subst ey
    have new : ObjOk X.prog X.w (upd H T (.tup [.int (i : Nat), x])) h' T (.tup [.int (i : Nat), x]) :=
      ⟨by show 2 ≤ sizeLine; decide, [.int (0 + (i : Int)) t, y], .cons ⟨t, by rw [Int.zero_add]⟩ (.cons ru .nil), hT⟩
    have hfp : ∀ c ∈ [e, it], FpOk X pins H c := hf
    have I1 : Inv X pins σ (upd H T (.tup [.int (i : Nat), x])) { s with heap := h', toks := tk } := I.turnedNew (ch := [e, it]) hk hfp hnew new
    have hfr : H T = none := I.hok.fresh hnew
    refine ⟨.ref T, _, I1, rfl, ⟨T, x, rfl, hfr, rfl, fun zs hz => by rw [Inv.seqS_inj I b hz hq]; exact hx⟩, ⟨hst.1, hst.2.1⟩, fun c hc' => ?_⟩
    obtain ⟨n1, _⟩ := hf c hc'
    by_cases hcT : c = T
    · subst hcT
      have hcl : c < s.heap.objs.size := by
        have e' : c = e ∨ c = it := by simpa using hc'
        rcases e' with z | z
        · rw [z]; exact Heap.lt_size he
        · rw [z]; obtain ⟨o, q, _⟩ := iterS_obj b hit; exact Heap.lt_size q
      exact absurd (Nat.lt_of_lt_of_le hcl hnew) (Nat.lt_irrefl _)
    · rw [upd_ne hcT]; exact n1
  done := by
    intro X hP hw hK hc i pins s σ H E I hf st hg
    subst hP hw hK
    obtain ⟨⟨old, he⟩, hit⟩ := st
    obtain ⟨xs, hq, hx⟩ := hg
    obtain ⟨its, rv, hs, hlt⟩ := Inv.seqS I b hq
    have hl := rv.length
    have ei : i = its.toArray.size := by rw [List.size_toArray]; omega
    have W := GoesN.enumFrom (elts := elts) (x1 := kk) (pos := tpos) 0 (draws_S (prog := X.prog) (w := X.w) (A := X.A.in1) (I.ok.hd hc) b it a hia its.toArray) e hne (by simp; exact ⟨hne, hea⟩) (by simp)
    exact W.stops s (fun s1 => Inv X pins σ H s1) E (by rw [← ei]; exact ⟨⟨old, he⟩, hit, hs⟩) fun h' tk hk _ => I.turnedL (ch := [e, it]) hk hf
  self := fun A i s Q E st h => let ⟨⟨_, he⟩, _⟩ := st; wpAny_pyIter_enum he h
def iEnumS (K : PySem.W.Frag) (ta : TA) : TI := fun σ H R => ta σ H fun vs H1 => ∃ b a xs, vs = [.ref a] ∧ SqS b K H1 a xs ∧ R (IteS b K a) H1
theorem pi_enumS {X : Cx} {e : Expr} {ta : TA} {p pos tpos : Pos} {elts : List Expr} {kk : Nat} (hg : Gl X "enumerate") (hm : X.mg "enumerate" = none) (ha : PA X [e] ta) (hs : starEach [e] X.env = [(false, eval e X.env)] := by rfl) :
    PI X (.Tuple elts kk tpos) (.Call (.Name "enumerate" p) [e] [] pos) (iEnumS X.K ta) := by
  refine ⟨fun pins s σ H R I h => ?_⟩
  refine Call_ (ld_blt I hg hm boot_enumerate (PyProof.Rows.callWith_type1 (thn (ha.run pos pins s σ H _ I h) fun us s1 ⟨vs, H1, I1, r1, q1⟩ => ?_) hs rfl))
  obtain ⟨b, a, xs, ex, hq, q⟩ := q1
  subst ex
  cases r1 with
  | cons r rr =>
    cases rr
    cases r
    obtain ⟨its, rv, hs, hlt⟩ := Inv.seqS I1 b hq
    refine enum_call (begins_S b a its.toArray) hs fun h' he hit hk => wpAny_pyIter_enum he ?_
    have I2 : Inv X pins σ H1 { s1 with heap := h' } := I1.kept (t' := s1.toks) hk
    refine ⟨s1.heap.objs.size + 1, [s1.heap.objs.size + 1, s1.heap.objs.size], _, _, H1, rfl, I2, turn_enumS b a (s1.heap.objs.size + 1) s1.heap.objs.size (Nat.succ_ne_self _) (fun z => ?_) (Nat.ne_of_lt hlt), ⟨⟨.none, he⟩, iterS_new b hit⟩, fun c hc => ?_, q⟩
    · exact absurd (Nat.lt_of_lt_of_le hlt (Nat.le_trans (Nat.le_succ _) (Nat.le_of_eq z))) (Nat.lt_irrefl _)
    · have e' : c = s1.heap.objs.size + 1 ∨ c = s1.heap.objs.size := by simpa using hc
      have hle : s1.heap.objs.size ≤ c := by
        rcases e' with z | z
        · rw [z]; exact Nat.le_add_right _ _
        · rw [z]; exact Nat.le_refl _
      exact I1.fpOk hle (I1.hok.fresh hle)

/-! ### zip of two -/
def ItzS (b c : Bool) (K : PySem.W.Frag) (a a' : Addr) : It :=
  ⟨fun i H => ∃ (xs ys : List V) (x y : V), SqS b K H a xs ∧ SqS c K H a' ys ∧ xs[i]? = some x ∧ ys[i]? = some y,
    fun i H v H' => ∃ T x y, v = .ref T ∧ H T = none ∧ H' = upd H T (.tup [x, y]) ∧ (∀ xs, SqS b K H a xs → xs[i]? = some x) ∧ ∀ ys, SqS c K H a' ys → ys[i]? = some y,
    fun i H => ∃ xs ys : List V, SqS b K H a xs ∧ SqS c K H a' ys ∧ min xs.length ys.length = i⟩
theorem sep_S {z TI TO i1 i2 a a' : Addr} (n : Nat) (hz : z = n + 4) (h1 : TI = n + 2) (h2 : TO = n + 3) (h3 : i1 = n) (h4 : i2 = n + 1) (ha : a < n) (ha' : a' < n) : ZipSep2 z TI TO i1 i2 [i1, a] [i2, a'] := by
  subst hz h1 h2 h3 h4
  exact zip_sep2 (fun c hc => by rw [List.mem_singleton.mp hc]; exact ha) (fun c hc => by rw [List.mem_singleton.mp hc]; exact ha')
theorem turn_zipS {P : Program} {w : World} {K : PySem.W.Frag} {elts : List Expr} {kk : Nat} {tpos : Pos} (b c : Bool) {a a' z TI TO i1 i2 : Addr} (S : ZipSep2 z TI TO i1 i2 [i1, a] [i2, a']) (h1a : a ≠ i1) (h2a : a' ≠ i2) :
    Turn P w K (.Tuple elts kk tpos) (ItzS b c K a a') [z, TI, TO, i1, i2] z (fun i h => IsZip h z TI TO .none ∧ IsTupOf2 h TI (.ref i1) (.ref i2) ∧ (∃ x y, IsTupOf2 h TO x y) ∧ IterS b h i1 a i ∧ IterS c h i2 a' i) where
  mem := by simp
  obj := fun i h st q hq => by
    obtain ⟨hz, hTI, ⟨x, y, hTO⟩, h1, h2⟩ := st
    have e' : q = z ∨ q = TI ∨ q = TO ∨ q = i1 ∨ q = i2 := by simpa using hq
    rcases e' with e | e | e | e | e
    · rw [e]; exact ⟨_, hz, fun v q => nomatch q⟩
    · rw [e]; exact ⟨_, hTI, fun v q => nomatch q⟩
    · rw [e]; exact ⟨_, hTO, fun v q => nomatch q⟩
    · rw [e]; exact iterS_obj b h1
    · rw [e]; exact iterS_obj c h2
  keep := fun i h h' st k => by
    obtain ⟨hz, hTI, ⟨x, y, hTO⟩, h1, h2⟩ := st
    exact ⟨k z (by simp) _ hz, k TI (by simp) _ hTI, ⟨x, y, k TO (by simp) _ hTO⟩, iterS_at b h1 fun o q => k i1 (by simp) o q, iterS_at c h2 fun o q => k i2 (by simp) o q⟩
  item := by
    intro X hP hw hK hc i pins s σ H E I hf st hg
    subst hP hw hK
    obtain ⟨hz, hTI, hTO, h1, h2⟩ := st
    obtain ⟨xs, ys, x, y, hqx, hqy, hx, hy⟩ := hg
    obtain ⟨its, rv, hs, hlt⟩ := Inv.seqS I b hqx
    obtain ⟨its2, rv2, hs2, hlt2⟩ := Inv.seqS I c hqy
    obtain ⟨u, hu, ru⟩ := rv.get hx
    obtain ⟨u2, hu2, ru2⟩ := rv2.get hy
    have hi : i < min its.toArray.size its2.toArray.size := by
      rw [List.size_toArray, List.size_toArray]
      have := len_lt hu; have := len_lt hu2; omega
    have W := GoesN.zip2 (elts := elts) (x1 := kk) (pos := tpos) S (draws_S (prog := X.prog) (w := X.w) (A := X.A.in1) (I.ok.hd hc) b i1 a h1a its.toArray) (draws_S (prog := X.prog) (w := X.w) (A := X.A.in1) (I.ok.hd hc) c i2 a' h2a its2.toArray)
    refine wpAny_mono (W.goes i s (fun v s2 => ∃ x H', Inv X pins σ H' s2 ∧ RelV x v ∧ (ItzS b c X.K a a').yld i H x H' ∧ (IsZip s2.heap z TI TO .none ∧ IsTupOf2 s2.heap TI (.ref i1) (.ref i2) ∧ (∃ x y, IsTupOf2 s2.heap TO x y) ∧ IterS b s2.heap i1 a (i + 1) ∧ IterS c s2.heap i2 a' (i + 1)) ∧ ∀ q ∈ [z, TI, TO, i1, i2], H' q = none) E hi ⟨hz, hTI, hTO, ⟨h1, hs⟩, ⟨h2, hs2⟩⟩
      fun v h' tk hY hst hk _ => ?_) (fun r s1 ⟨v, er, h⟩ => ⟨v, er, wpAny_mono h (fun _ s2 q => q) fun _ _ q => q⟩) fun _ _ q => q
    obtain ⟨T, w1, w2, rfl, hnew, e1, e2, hT⟩ := hY
    have ew1 : w1 = u := by
      have g : its.toArray[i]? = some u := by simpa using hu
      rw [g] at e1
      exact (Option.some.inj e1).symm
    have ew2 : w2 = u2 := by
      have g : its2.toArray[i]? = some u2 := by simpa using hu2
      rw [g] at e2
      exact (Option.some.inj e2).symm
    subst ew1 ew2
    have new : ObjOk X.prog X.w (upd H T (.tup [x, y])) h' T (.tup [x, y]) := ⟨by show 2 ≤ sizeLine; decide, [w1, w2], .cons ru (.cons ru2 .nil), hT⟩
    have I1 : Inv X pins σ (upd H T (.tup [x, y])) { s with heap := h', toks := tk } :=
      I.turnedNew (ch := [z, TI, TO, i1, i2]) (fun q o hq e => hk q o (fun m => hq (by simp at m ⊢; rcases m with m | m | m | m <;> simp [m])) e) hf hnew new
    have hfr : H T = none := I.hok.fresh hnew
    obtain ⟨g1, g2, g3, g4, g5⟩ := hst
    refine ⟨.ref T, _, I1, rfl, ⟨T, x, y, rfl, hfr, rfl, fun zs hz' => by rw [Inv.seqS_inj I b hz' hqx]; exact hx, fun zs hz' => by rw [Inv.seqS_inj I c hz' hqy]; exact hy⟩, ⟨g1, g2, g3, g4.1, g5.1⟩, fun q hq => ?_⟩
    obtain ⟨n1, _⟩ := hf q hq
    by_cases hcT : q = T
    · subst hcT
      have hcl : q < s.heap.objs.size := by
        have e' : q = z ∨ q = TI ∨ q = TO ∨ q = i1 ∨ q = i2 := by simpa using hq
        rcases e' with m | m | m | m | m
        · rw [m]; exact Heap.lt_size hz
        · rw [m]; exact Heap.lt_size hTI
        · rw [m]; obtain ⟨_, _, g⟩ := hTO; exact Heap.lt_size g
        · rw [m]; obtain ⟨o, g, _⟩ := iterS_obj b h1; exact Heap.lt_size g
        · rw [m]; obtain ⟨o, g, _⟩ := iterS_obj c h2; exact Heap.lt_size g
      exact absurd (Nat.lt_of_lt_of_le hcl hnew) (Nat.lt_irrefl _)
    · rw [upd_ne hcT]; exact n1
  done := by
    intro X hP hw hK hc i pins s σ H E I hf st hg
    subst hP hw hK
    obtain ⟨hz, hTI, hTO, h1, h2⟩ := st
    obtain ⟨xs, ys, hqx, hqy, hend⟩ := hg
    obtain ⟨its, rv, hs, hlt⟩ := Inv.seqS I b hqx
    obtain ⟨its2, rv2, hs2, hlt2⟩ := Inv.seqS I c hqy
    have l1 := rv.length
    have l2 := rv2.length
    have ei : i = min its.toArray.size its2.toArray.size := by rw [List.size_toArray, List.size_toArray]; omega
    have W := GoesN.zip2 (elts := elts) (x1 := kk) (pos := tpos) S (draws_S (prog := X.prog) (w := X.w) (A := X.A.in1) (I.ok.hd hc) b i1 a h1a its.toArray) (draws_S (prog := X.prog) (w := X.w) (A := X.A.in1) (I.ok.hd hc) c i2 a' h2a its2.toArray)
    exact W.stops s (fun s1 => Inv X pins σ H s1) E (by rw [← ei]; exact ⟨hz, hTI, hTO, ⟨h1, hs⟩, ⟨h2, hs2⟩⟩) fun h' tk hk _ =>
      I.turnedL (ch := [z, TI, TO, i1, i2]) (fun q o hq e => hk q o (fun m => hq (by simp at m ⊢; rcases m with m | m | m | m <;> simp [m])) e) hf
  self := fun A i s Q E st h => wpAny_pyIter_zip st.1 h
def iZipS (K : PySem.W.Frag) (ta : TA) : TI := fun σ H R => ta σ H fun vs H1 => ∃ b c a a' xs ys, vs = [.ref a, .ref a'] ∧ SqS b K H1 a xs ∧ SqS c K H1 a' ys ∧ R (ItzS b c K a a') H1
theorem pi_zipS {X : Cx} {e e2 : Expr} {ta : TA} {p pos tpos : Pos} {elts : List Expr} {kk : Nat} (hg : Gl X "zip") (hm : X.mg "zip" = none) (ha : PA X [e, e2] ta)
    (hs : starEach [e, e2] X.env = (false, eval e X.env) :: starEach [e2] X.env := by rfl) (hpl : (backTo pos (starEach [e2] X.env)).any (·.1) = false := by rfl) :
    PI X (.Tuple elts kk tpos) (.Call (.Name "zip" p) [e, e2] [] pos) (iZipS X.K ta) := by
  refine ⟨fun pins s σ H R I h => ?_⟩
  refine Call_ (ld_blt I hg hm PyProof.Rows.boot_zip (PyProof.Rows.callWith_type1 (thn (ha.run pos pins s σ H _ I h) fun us s1 ⟨vs, H1, I1, r1, q1⟩ => ?_) hs hpl))
  obtain ⟨b, c, a, a', xs, ys, ex, hqx, hqy, q⟩ := q1
  subst ex
  cases r1 with
  | cons r rr =>
    cases rr with
    | cons r' rr =>
      cases rr
      cases r
      cases r'
      obtain ⟨its, rv, hs, hlt⟩ := Inv.seqS I1 b hqx
      obtain ⟨its2, rv2, hs2, hlt2⟩ := Inv.seqS I1 c hqy
      refine zip_begins2 (begins_S b a its.toArray) (begins_S c a' its2.toArray) hs hs2 fun h' hz hTI hTO h1 h2 hsz hk => wpAny_pyIter_zip hz ?_
      have I2 : Inv X pins σ H1 { s1 with heap := h' } := I1.kept (t' := s1.toks) hk
      refine ⟨s1.heap.objs.size + 4, [s1.heap.objs.size + 4, s1.heap.objs.size + 2, s1.heap.objs.size + 3, s1.heap.objs.size, s1.heap.objs.size + 1], _, _, H1, rfl, I2, turn_zipS b c (sep_S s1.heap.objs.size rfl rfl rfl rfl rfl hlt hlt2) (Nat.ne_of_lt hlt) (Nat.ne_of_lt (Nat.lt_succ_of_lt hlt2)), ⟨hz, hTI, ⟨_, _, hTO⟩, iterS_new b h1, iterS_new c h2⟩, fun d hd => ?_, q⟩
      have e' : d = s1.heap.objs.size + 4 ∨ d = s1.heap.objs.size + 2 ∨ d = s1.heap.objs.size + 3 ∨ d = s1.heap.objs.size ∨ d = s1.heap.objs.size + 1 := by simpa using hd
      have hle : s1.heap.objs.size ≤ d := by
        rcases e' with z | z | z | z | z
        · rw [z]; exact Nat.le_add_right _ _
        · rw [z]; exact Nat.le_add_right _ _
        · rw [z]; exact Nat.le_add_right _ _
        · rw [z]; exact Nat.le_refl _
        · rw [z]; exact Nat.le_add_right _ _
      exact I1.fpOk hle (I1.hok.fresh hle)

/-! ### by data -/
section
variable {K : PySem.W.Frag} {dk : Dk} {Γ : List K39.G} {ta : TA} {x y : PyData}
def seqOf : PyData → Option (List PyData)
  | .list ds => some ds
  | .tuple ds => some ds
  | _ => none
theorem rp_seq {I H : Hp} {v : V} {ds : List PyData} (r : Rp K I v x) (h : seqOf x = some ds) : ∃ b a xs, v = .ref a ∧ RpL K I xs ds ∧ ∀ J, Same I J → SqS b K J a xs := by
  cases r with
  | lst hs hr => cases h; exact ⟨true, _, _, rfl, hr, fun J s => .inl (.inl (s _ _ hs))⟩
  | tup hs hr => cases h; exact ⟨false, _, _, rfl, hr, fun J s => Same.sqt s hs⟩
  | _ => cases h
def enumD (ds : List PyData) : List PyData := ds.mapIdx fun i d => PyData.tuple [.int (i : Nat), d]
theorem enumD_get {ds : List PyData} {i : Nat} {d : PyData} (h : (enumD ds)[i]? = some d) : ∃ e, ds[i]? = some e ∧ d = .tuple [.int (i : Nat), e] := by
  unfold enumD at h
  rw [List.getElem?_mapIdx] at h
  cases q : ds[i]? with
  | none => rw [q] at h; cases h
  | some e => rw [q] at h; exact ⟨e, rfl, (Option.some.inj h).symm⟩
theorem enumD_len (ds : List PyData) : (enumD ds).length = ds.length := by simp [enumD]
theorem ei_enum {ds : List PyData} (h : EvAD K dk ta Γ [x]) (hx : seqOf x = some ds) : EvI K dk (iEnumS K ta) Γ (enumD ds) := fun I0 H0 σ I H R e k => by
  refine h I0 H0 σ I H _ e fun vs xs I1 H1 p1 n1 r1 => ?_
  subst p1
  obtain ⟨v, rfl, r⟩ := rpl1 r1
  obtain ⟨b, a, ws, rfl, hr, sq⟩ := rp_seq (H := H) r hx
  refine ⟨b, a, ws, rfl, sq _ n1.ok.sub, k _ I1 H1 n1 fun i I2 H2 o2 s2 => ?_⟩
  have s12 := sq H2 (s2.trans o2.sub)
  refine ⟨fun q => ⟨ws, s12, by rw [hr.len, q, enumD_len]⟩, fun d q => ?_⟩
  obtain ⟨dd, hd, rfl⟩ := enumD_get q
  obtain ⟨w, hw, rw_⟩ := hr.get hd
  refine ⟨⟨ws, w, s12, hw⟩, fun v H3 hy => ?_⟩
  obtain ⟨T, w', rfl, hT, rfl, f⟩ := hy
  have ew := f ws s12
  rw [hw] at ew
  cases ew
  exact ⟨_, Nx.new o2 hT, .tup (.inl (.inl upd_same)) (.cons (.int _) (.cons (rw_.mono (s2.trans (Nx.new (u := .tup [.int (i : Nat), w]) o2 hT).ii)) .nil))⟩
def zipD (xs ys : List PyData) : List PyData := List.zipWith (fun a b => PyData.tuple [a, b]) xs ys
theorem zipD_len (xs ys : List PyData) : (zipD xs ys).length = min xs.length ys.length := by simp [zipD]
theorem zipD_get {xs ys : List PyData} {i : Nat} {d : PyData} (h : (zipD xs ys)[i]? = some d) : ∃ a b, xs[i]? = some a ∧ ys[i]? = some b ∧ d = .tuple [a, b] := by
  unfold zipD at h
  rw [List.getElem?_zipWith] at h
  cases q : xs[i]? with
  | none => rw [q] at h; simp at h
  | some a =>
    cases q' : ys[i]? with
    | none => rw [q, q'] at h; simp at h
    | some b => rw [q, q'] at h; exact ⟨a, b, rfl, rfl, (Option.some.inj h).symm⟩
theorem ei_zip {ds es : List PyData} (h : EvAD K dk ta Γ [x, y]) (hx : seqOf x = some ds) (hy : seqOf y = some es) : EvI K dk (iZipS K ta) Γ (zipD ds es) := fun I0 H0 σ I H R e k => by
  refine h I0 H0 σ I H _ e fun vs xs I1 H1 p1 n1 r1 => ?_
  subst p1
  obtain ⟨v, v', rfl, r, r'⟩ := rpl2 r1
  obtain ⟨b, a, ws, rfl, hr, sq⟩ := rp_seq (H := H) r hx
  obtain ⟨c, a', us, rfl, hr', sq'⟩ := rp_seq (H := H) r' hy
  refine ⟨b, c, a, a', ws, us, rfl, sq _ n1.ok.sub, sq' _ n1.ok.sub, k _ I1 H1 n1 fun i I2 H2 o2 s2 => ?_⟩
  have s12 := sq H2 (s2.trans o2.sub)
  have s12' := sq' H2 (s2.trans o2.sub)
  refine ⟨fun q => ⟨ws, us, s12, s12', by rw [hr.len, hr'.len, q, zipD_len]⟩, fun d q => ?_⟩
  obtain ⟨p, p', hp, hp', rfl⟩ := zipD_get q
  obtain ⟨w, hw, rw_⟩ := hr.get hp
  obtain ⟨w', hw', rw'⟩ := hr'.get hp'
  refine ⟨⟨ws, us, w, w', s12, s12', hw, hw'⟩, fun v H3 hy => ?_⟩
  obtain ⟨T, q1, q2, rfl, hT, rfl, f, f'⟩ := hy
  have ew := f ws s12
  rw [hw] at ew
  cases ew
  have ew' := f' us s12'
  rw [hw'] at ew'
  cases ew'
  have n := Nx.new (u := .tup [w, w']) o2 hT
  exact ⟨_, n, .tup (.inl (.inl upd_same)) (.cons (rw_.mono (s2.trans n.ii)) (.cons (rw'.mono (s2.trans n.ii)) .nil))⟩
end
end K39

set_option Elab.async false
set_option linter.all false
set_option maxRecDepth 100000
set_option maxHeartbeats 1000000
/-! S6: a def's promise from its body; calls; repr where no guard is up -/
namespace K39
open PySem PySem.Spec PyProof.Rows L2
section
variable {P : Program} {w : World} {K : PySem.W.Frag} {mg : Str → Option Value} {base : Heap}

/-- a def as callers know it -/
structure Cal (P : Program) (w : World) (K : PySem.W.Frag) (mg : Str → Option Value) (base : Heap) (x : Str) (k : Nat) (ps : List Str) (sp : Sp) : Prop where
  ex : ∃ f fd, mg x = some (.ref f) ∧ PySem.W.keepIn K (.ref f) = true ∧ Binds K fd ps [] ∧ FnOk P w K mg base CX0 k f fd ps sp
theorem Cal.up {x : Str} {j k : Nat} {ps : List Str} {sp : Sp} (c : Cal P w K mg base x j ps sp) (h : j ≤ k) : Cal P w K mg base x k ps sp := by
  obtain ⟨f, fd, h1, h2, h3, h4⟩ := c.ex
  exact ⟨f, fd, h1, h2, h3, h4.mono h⟩
theorem pe_never {X : Cx} {e : Expr} : PE X e (fun _ _ _ => False) := ⟨fun _ _ _ _ _ _ h => h.elim⟩
theorem pe_cal {X : Cx} {x : Str} {k : Nat} {ps : List Str} {sp : Sp} {p pos : Pos} {e : Expr} {es : List Expr} {t : TA} (c : Cal X.prog X.w X.K X.mg X.base x k ps sp) (hr : Room k X.A) (hg : Gl X x) (ha : PA X (e :: es) t)
    (hdb : (x == ("__debug__" : Str)) = false := by decide) (he : starEach (e :: es) X.env = (false, eval e X.env) :: starEach es X.env := by rfl) (hpl : (backTo pos (starEach es X.env)).any (·.1) = false := by rfl) :
    PE X (.Call (.Name x p) (e :: es) [] pos) (tCall sp [] E0 t) := by
  obtain ⟨f, fd, h1, h2, h3, h4⟩ := c.ex
  exact pe_call h4 hr hg h1 h2 h3 .nil pass0 ha hdb he hpl
theorem pe_cal0 {X : Cx} {x : Str} {k : Nat} {ps : List Str} {sp : Sp} {p pos : Pos} (c : Cal X.prog X.w X.K X.mg X.base x k ps sp) (hr : Room k X.A) (hg : Gl X x)
    (hdb : (x == ("__debug__" : Str)) = false := by decide) : PE X (.Call (.Name x p) [] [] pos) (tCall sp [] E0 tNil) := by
  obtain ⟨f, fd, h1, h2, h3, h4⟩ := c.ex
  exact pe_call0 h4 hr hg h1 h2 h3 .nil pass0 hdb
/-- f(k = v, ..): every argument by its name -/
theorem pe_calK {X : Cx} {x : Str} {k : Nat} {f : Addr} {fd : FuncData} {ps ks : List Str} {sp : Sp} {p pos : Pos} {kws : List Keyword} {tk : TA} {g : List Value → List Value → List Value} {gV : List V → List V → List V}
    (F : FnOk X.prog X.w X.K X.mg X.base CX0 k f fd ps sp) (hr : Room k X.A) (hg : Gl X x) (hm : X.mg x = some (.ref f)) (hk : PySem.W.keepIn X.K (.ref f) = true) (hb : KBinds X.K fd ps ks g gV)
    (hkw : PK X kws tk) (hall : (backToKw pos (keywordEach kws X.env)).all (·.1.isSome) = true := by rfl) (hks : (backToKw pos (keywordEach kws X.env)).filterMap (·.1) = ks := by rfl)
    (hdb : (x == ("__debug__" : Str)) = false := by decide) (hpl : ((backTo pos (starEach [] X.env)).any (·.1) || (backToKw pos (keywordEach kws X.env)).any (·.1.isNone)) = false := by rfl) :
    PE X (.Call (.Name x p) [] kws pos) (tCallK sp gV E0 tNil tk) := by
  refine ⟨fun pins s σ H Q I h => ?_⟩
  refine wpAny_Call_Name_kw (ld_glob I hg hm ?_ hdb)
  refine PySem.W.callWith_KW0 (h₀ := X.base) I.ok.mod.kin hk hall (thn (hkw.run pos pins s σ H _ I h) fun ws s2 ⟨zs, H2, I2, rz, q2⟩ => ⟨I2.kIn, ?_⟩) hpl
  rw [hks]
  exact run_fnk F hr hb pass0 I2 .nil rz q2

/-! ### the slots at the entry -/
def startG (n : Nat) (ds : List PyData) : List K39.G := ds.map .dat ++ List.replicate (n - ds.length) .no
def startGD (n : Nat) (ds : List PyData) : List K39.G := .deck :: (ds.map .dat ++ List.replicate (n - (ds.length + 1)) .no)
theorem startG_get {n i : Nat} {ds : List PyData} {g : K39.G} (h : (startG n ds)[i]? = some g) : g = K39.G.no ∨ ∃ d, ds[i]? = some d ∧ g = .dat d := by
  unfold startG at h
  by_cases hi : i < ds.length
  · rw [List.getElem?_append_left (by simpa using hi), List.getElem?_map, List.getElem?_eq_getElem hi] at h
    exact .inr ⟨_, List.getElem?_eq_getElem hi, (Option.some.inj h).symm⟩
  · rw [List.getElem?_append_right (by simpa using hi), List.getElem?_replicate] at h
    split at h
    · exact .inl (Option.some.inj h).symm
    · cases h
theorem start_get {N : List Str} {vs : List V} {i : Nat} {v : V} (h : vs[i]? = some v) : (start N vs)[i]? = some (some v) := by
  have hi := len_lt h
  unfold L2.start
  rw [List.getElem?_append_left (by simpa using hi), List.getElem?_map, h]
  rfl
theorem know_start {dk : Dk} {I H : Hp} {N : List Str} {vs : List V} {ds : List PyData} (o : Ok dk I H) (r : RpL K I vs ds) (hl : vs.length ≤ N.length) : Know K dk I H (startG N.length ds) (start N vs) I H := by
  have hlen := r.len
  refine ⟨Nx.refl o, by simp [L2.start, startG]; omega, fun i d h => ?_, fun i es h => ?_, fun i j es es' p h => ?_, fun i h => ?_⟩
  · rcases startG_get h with z | ⟨d', h1, z⟩
    · cases z
    · cases z
      obtain ⟨v, a, b⟩ := r.get h1
      exact ⟨v, start_get a, b⟩
  · rcases startG_get h with z | ⟨d', h1, z⟩ <;> cases z
  · rcases startG_get h with z | ⟨d', h1, z⟩ <;> cases z
  · rcases startG_get h with z | ⟨d', h1, z⟩ <;> cases z
theorem startGD_get {n i : Nat} {ds : List PyData} {g : K39.G} (h : (startGD n ds)[i]? = some g) : g = K39.G.no ∨ (i = 0 ∧ g = .deck) ∨ ∃ j d, i = j + 1 ∧ ds[j]? = some d ∧ g = .dat d := by
  unfold startGD at h
  cases i with
  | zero => exact .inr (.inl ⟨rfl, (Option.some.inj h).symm⟩)
  | succ j =>
    rw [List.getElem?_cons_succ] at h
    rcases startG_get (n := n - 1) (ds := ds) (g := g) (i := j) (by unfold startG; rw [show n - 1 - ds.length = n - (ds.length + 1) by omega]; exact h) with z | ⟨d, h1, z⟩
    · exact .inl z
    · exact .inr (.inr ⟨j, d, rfl, h1, z⟩)
theorem know_startD {p : Addr × Addr} {I H : Hp} {N : List Str} {ws : List V} {ds : List PyData} (o : Ok (some p) I H) (r : RpL K I ws ds) (hl : ws.length + 1 ≤ N.length) : Know K (some p) I H (startGD N.length ds) (start N (.ref p.1 :: ws)) I H := by
  have hlen := r.len
  refine ⟨Nx.refl o, by simp [L2.start, startGD]; omega, fun i d h => ?_, fun i es h => ?_, fun i j es es' q h => ?_, fun i h => ?_⟩
  · rcases startGD_get h with z | ⟨_, z⟩ | ⟨j, d', rfl, h1, z⟩
    · cases z
    · cases z
    · cases z
      obtain ⟨v, a, b⟩ := r.get h1
      exact ⟨v, start_get (by rw [List.getElem?_cons_succ]; exact a), b⟩
  · rcases startGD_get h with z | ⟨_, z⟩ | ⟨j, d', _, h1, z⟩ <;> cases z
  · rcases startGD_get h with z | ⟨_, z⟩ | ⟨j, d', _, h1, z⟩ <;> cases z
  · rcases startGD_get h with z | ⟨rfl, z⟩ | ⟨j, d', _, h1, z⟩
    · cases z
    · exact ⟨p, rfl, start_get rfl⟩
    · cases z

/-! ### promises from bodies -/
abbrev FnD (K : PySem.W.Frag) (x : Str) (st : Stmt) (f : Addr) (fd : FuncData) : Prop := FunD K x x (defArgs st) (defBody st) (defScope st) [] [] f fd
theorem FunD.okT {x : Str} {st : Stmt} {f : Addr} {fd : FuncData} {N ps : List Str} {k : Nat} {sp : Sp} (F : FnD K x st f fd) (S : FnScope N ps (defScope st)) (len : ∀ vs H Q E, sp vs H Q E → vs.length = ps.length) (t : TS)
    (term : ∀ (cdv : Value) (A : Around) (outer : List PySem.Env) (s : Shared) (H : Hp) (E : XK), Room k (A.deeper (envOfC x (defScope st) s.heap.objs.size f cdv)) → PSs (cxOf CX0 P w K mg base N x (defScope st) f cdv A outer s H E).nox (defBody st) t)
    (sem : ∀ (vs : List V) (H : Hp) (Q : VK) (E : XK), sp vs H Q E → t { nx := fun _ H' => Q .non H', rt := Q } (start N vs) H) : FnOk P w K mg base CX0 (k + 1) f fd ps sp :=
  FunD.ok F S len fun cdv A outer s H vs Q E hr hsp => ⟨t, (term cdv A outer s H E hr).nox, sem vs H Q E hsp⟩
theorem ok_pure {x : Str} {st : Stmt} {f : Addr} {fd : FuncData} {N ps : List Str} {k : Nat} {pre : List PyData → Prop} {post : List PyData → PyData → Prop} (F : FnD K x st f fd) (S : FnScope N ps (defScope st)) (t : TS) (hN : ps.length ≤ N.length) (len : ∀ ds, pre ds → ds.length = ps.length)
    (term : ∀ (cdv : Value) (A : Around) (outer : List PySem.Env) (s : Shared) (H : Hp) (E : XK), Room k (A.deeper (envOfC x (defScope st) s.heap.objs.size f cdv)) → PSs (cxOf CX0 P w K mg base N x (defScope st) f cdv A outer s H E).nox (defBody st) t)
    (sem : ∀ (dk : Dk) (ds : List PyData), pre ds → SOk K dk t (startG N.length ds) (fun _ => post ds .none) (post ds)) : FnOk P w K mg base CX0 (k + 1) f fd ps (Pu K pre post) := by
  refine FunD.okT F S (fun vs H Q E h => ?_) t term fun vs H Q E h => ?_
  · obtain ⟨dk, I, ds, _, r, hp, _⟩ := h
    rw [r.len]; exact len ds hp
  · obtain ⟨dk, I, ds, o, r, hp, q⟩ := h
    refine sem dk ds hp I H _ I H _ (know_start o r (by rw [r.len, len ds hp]; exact hN)) (fun Γ' σ' I' H' n e _ => q _ _ I' H' n e.nx .non) fun v d I' H' pd n rv => q v d I' H' pd n rv
theorem ok_deck {x : Str} {st : Stmt} {f : Addr} {fd : FuncData} {N ps : List Str} {k : Nat} {pre : List PyData → Prop} {post : List PyData → PyData → Prop} (F : FnD K x st f fd) (S : FnScope N ps (defScope st)) (t : TS) (hN : ps.length ≤ N.length) (len : ∀ ds, pre ds → ds.length + 1 = ps.length)
    (term : ∀ (cdv : Value) (A : Around) (outer : List PySem.Env) (s : Shared) (H : Hp) (E : XK), Room k (A.deeper (envOfC x (defScope st) s.heap.objs.size f cdv)) → PSs (cxOf CX0 P w K mg base N x (defScope st) f cdv A outer s H E).nox (defBody st) t)
    (sem : ∀ (p : Addr × Addr) (ds : List PyData), pre ds → SOk K (some p) t (startGD N.length ds) (fun _ => post ds .none) (post ds)) : FnOk P w K mg base CX0 (k + 1) f fd ps (PuD K pre post) := by
  refine FunD.okT F S (fun vs H Q E h => ?_) t term fun vs H Q E h => ?_
  · obtain ⟨p, I, ws, ds, rfl, _, r, hp, _⟩ := h
    rw [List.length_cons, r.len]; exact len ds hp
  · obtain ⟨p, I, ws, ds, rfl, o, r, hp, q⟩ := h
    refine sem p ds hp I H _ I H _ (know_startD o r (by rw [r.len, len ds hp]; exact hN)) (fun Γ' σ' I' H' n e _ => q _ _ I' H' n e.nx .non) fun v d I' H' pd n rv => q v d I' H' pd n rv

/-! ### where no guard is up: repr tells the data -/
structure FnG (P : Program) (w : World) (K : PySem.W.Frag) (mg : Str → Option Value) (base : Heap) (k : Nat) (f : Addr) (fd : FuncData) (ps : List Str) (sp : Sp) : Prop where
  len : ∀ vs H Q E, sp vs H Q E → vs.length = ps.length
  run : ∀ (A : Around) (outer : List PySem.Env) (s : Shared) (H : Hp) (args : Args) (us : List Value) (vs : List V) (Q : VK) (E : XK), A.guards = some [] → Room k A → Env0 P w K mg base A outer s H → BindsTo s fd args (ps.zip us) → Vals vs us → sp vs H Q E →
    codeAny (model P w) A (.call (.ref f) args) (CR CX0 outer P w H s Q E) s
theorem fnG_of {x : Str} {st : Stmt} {f : Addr} {fd : FuncData} {N ps : List Str} {k : Nat} {sp : Sp} (F : FnD K x st f fd) (S : FnScope N ps (defScope st)) (len : ∀ vs H Q E, sp vs H Q E → vs.length = ps.length) (t : TS)
    (term : ∀ (cdv : Value) (A : Around) (outer : List PySem.Env) (s : Shared) (H : Hp) (E : XK), A.guards = some [] → Room k (A.deeper (envOfC x (defScope st) s.heap.objs.size f cdv)) → PSs (cxOf CX0 P w K mg base N x (defScope st) f cdv A outer s H E).nox (defBody st) t)
    (sem : ∀ (vs : List V) (H : Hp) (Q : VK) (E : XK), sp vs H Q E → t { nx := fun _ H' => Q .non H', rt := Q } (L2.start N vs) H) : FnG P w K mg base (k + 1) f fd ps sp := by
  obtain ⟨oc, od, dV, kV, doc, pm, an, cdv, ct, osl, rfl, lk, hcd, _, _⟩ := F.ex
  refine ⟨len, fun A outer s H args us vs Q E hgd hr e0 hb r hsp => ?_⟩
  have hl := len _ _ _ _ hsp
  have old : ∀ b o, base.get? b = some o → s.heap.get? b = some o := fun b o e => (e0.bs b o e).1
  have KX := e0.mod.kin.keeps old
  have lim := e0.mod.nolimit.keeps old
  refine codeAny_call_function hr.depth (KX _ _ lk) rfl S.co S.gen rfl (PySem.W.codeRec_of KX hcd) (hb _ _ _ _ ?_)
  refine wpAny_newFunctionEnv_cells S.kind (fun y hy => ?_) fun env he s1 z => ?_
  · rcases S.par y.1 (List.of_mem_zip (a := y.1) (b := y.2) hy).1 with q | q
    · exact .inl q
    · exact .inr ⟨q, PySem.W.cellsFrom_some _ _ _ (.inl q)⟩
  · subst he
    refine ⟨lim.keeps z.toInCall.keep, codeAny_func ?_⟩
    have I0 := inv_start (CX := CX0) (mg := mg) (E := E) S hr.hd e0 hl r z
    have body := (term cdv A outer s H E hgd (hr.deeper _)).nox.run [] s1 (L2.start N vs) H _ I0 (sem vs H Q E hsp)
    refine wpAny_mono body (fun fl s' hs => ?_) fun e s' hs => hs
    cases fl with
    | ret u =>
      obtain ⟨v, σ', H', J, rv, q⟩ := hs
      exact ⟨v, H', J.os, J.bare, J.base, J.hok, rv, q⟩
    | next =>
      obtain ⟨σ', H', J, q⟩ := hs
      exact ⟨.non, H', J.os, J.bare, J.base, J.hok, rfl, q⟩
    | brk => obtain ⟨_, _, _, q⟩ := hs; exact q.elim
    | cont => obtain ⟨_, _, _, q⟩ := hs; exact q.elim
/-- a def that wants no guard up, as callers know it -/
structure CalG (P : Program) (w : World) (K : PySem.W.Frag) (mg : Str → Option Value) (base : Heap) (x : Str) (k : Nat) (ps : List Str) (sp : Sp) : Prop where
  ex : ∃ f fd, mg x = some (.ref f) ∧ PySem.W.keepIn K (.ref f) = true ∧ Binds K fd ps [] ∧ FnG P w K mg base k f fd ps sp
theorem pe_calG {X : Cx} {x : Str} {k : Nat} {ps : List Str} {sp : Sp} {p pos : Pos} {e : Expr} {es : List Expr} {t : TA} (c : CalG X.prog X.w X.K X.mg X.base x k ps sp) (hgd : X.A.guards = some []) (hr : Room k X.A) (hg : Gl X x) (ha : PA X (e :: es) t)
    (hdb : (x == ("__debug__" : Str)) = false := by decide) (he : starEach (e :: es) X.env = (false, eval e X.env) :: starEach es X.env := by rfl) (hpl : (backTo pos (starEach es X.env)).any (·.1) = false := by rfl) :
    PE X (.Call (.Name x p) (e :: es) [] pos) (tCall sp [] E0 t) := by
  obtain ⟨f, fd, h1, h2, h3, h4⟩ := c.ex
  refine ⟨fun pins s σ H Q I h => ?_⟩
  refine wpAny_Call_Name_kw (ld_glob I hg h1 ?_ hdb)
  refine PySem.W.callWith_K (h₀ := X.base) I.ok.mod.kin h2 (thn (ha.run pos pins s σ H _ I h) fun us s1 ⟨vs, H1, I1, r, q⟩ => ⟨I1.kIn, ?_⟩) he hpl
  have q' : sp (vs ++ []) H1 Q E0 := q
  rw [List.append_nil] at q'
  have hl : (us ++ []).length = ps.length := by rw [List.append_nil, ← r.length]; exact h4.len _ _ _ _ q'
  have hb := h3 s1 us I1.kIn hl
  rw [List.append_nil] at hb
  refine wpAny_call (codeAny_mono (h4.run X.A X.stack s1 H1 ⟨us, []⟩ us vs Q E0 hgd hr I1.env0 hb r q') fun r s' hq => ?_)
  cases r with
  | error e => exact hq.elim
  | ok fl =>
    cases fl with
    | ret u => exact I1.after hq
    | next => exact hq.elim
    | brk => exact hq.elim
    | cont => exact hq.elim
/-- repr of data -/
def rRepr (K : PySem.W.Frag) : List V → Hp → VK → Prop := fun xs H Q => ∃ (a : Addr) (d : PyData), xs = [.ref a] ∧ Dp K H (.ref a) d ∧ d.showable = true ∧ d.hasDict = false ∧ d.depth ≤ 8 ∧ d.shown.length ≤ sizeLine ∧ Q (.str d.shown) H
theorem call_reprD {X : Cx} (hgd : X.A.guards = some []) (hu : X.A.units + 64 < cLine) : CallR X (.builtin "repr") (rRepr X.K) := by
  intro pins s σ H xs us Q I r h
  obtain ⟨a, d, rfl, hd, hs, hn, hdp, hz, q⟩ := h
  obtain ⟨u, rfl, ru⟩ := Vals.one r
  obtain ⟨as, rd⟩ := Dp.reads I d _ _ hd ru
  cases ru
  refine repr_of_reads' rd hs (fun z => by rw [hn] at z; cases z) hgd (by omega) (fun b o e => e) (fun h' u tk hk => ?_) hz
  exact ⟨.str d.shown, H, I.kept (t' := tk) hk, ⟨u, rfl⟩, q⟩
/-- xs[i], read for an op= -/
def gIxL (K : PySem.W.Frag) : V → V → Hp → VK → Prop := rIxL K
theorem pget_list {X : Cx} : PGet X (gIxL X.K) := by
  intro pins s σ H o i ov iv Q I ro ri h
  obtain ⟨p, xs, k, z, rfl, rfl, hq, he, q⟩ := h
  cases ro
  obtain ⟨t, rfl⟩ := ri
  obtain ⟨its, r, pl, hz⟩ := I.list hq
  obtain ⟨j, h1, h2, h3, h4, h5⟩ := atI_get he
  obtain ⟨u, ew, rw'⟩ := r.get h2
  have hl := r.length
  have hn := line63
  have fin : EP X pins σ Q u s := ⟨z, H, I, rw', q⟩
  by_cases h0 : 0 ≤ k
  · have hj : k.toNat = j := by
      rw [seqIndex_of h0 h5] at h1
      exact Option.some.inj h1
    exact wpAny_getItem_list pl.isList h0 (by omega) (by rw [hj]; simpa using ew) fin
  · have hj : (k + (its.toArray.size : Int)).toNat = j := by
      rw [seqIndex_neg (by omega) h4] at h1
      rw [List.size_toArray, ← hl]
      exact Option.some.inj h1
    exact wpAny_getItem_list_neg pl.isList (by omega) (by rw [List.size_toArray] <;> omega) (by omega) (by rw [hj]; simpa using ew) fin
end
end K39

set_option Elab.async false
set_option linter.all false
set_option maxRecDepth 100000
set_option maxHeartbeats 1000000
/-! S7: what the printed terms lean on -/
namespace K39
open PySem PySem.Spec PyProof.Rows L2
/-! ### a walk over a list or a tuple -/
def ItqS (b : Bool) (K : PySem.W.Frag) (a : Addr) : It := match b with
  | true => Itl K a
  | false => Itt K a
def iSeq (K : PySem.W.Frag) (tl : TE) : TI := fun σ H R => tl σ H fun x H1 => ∃ b a xs, x = .ref a ∧ SqS b K H1 a xs ∧ R (ItqS b K a) H1
theorem pi_seq {X : Cx} {tg l : Expr} {tl : TE} (hl : PE X l tl) : PI X tg l (iSeq X.K tl) := by
  refine ⟨fun pins s σ H R I h => ?_⟩
  refine thn (hl.run pins s σ H _ I h) fun v s1 ⟨x, H1, I1, r1, q1⟩ => ?_
  obtain ⟨b, a, xs, e, hq, q⟩ := q1
  subst e
  cases r1
  have fp : ∀ c ∈ [s1.heap.objs.size], FpOk X pins H1 c := fun c hc => by
    rw [List.mem_singleton.mp hc]
    exact I1.fpOk (Nat.le_refl _) (I1.hok.fresh (Nat.le_refl _))
  cases b with
  | true =>
    obtain ⟨its, rv, p, _⟩ := I1.list hq
    exact wpAny_pyIter_list p.isList ⟨s1.heap.objs.size, [s1.heap.objs.size], _, _, H1, rfl, I1.kept (t' := s1.toks) fun c o e => Heap.get?_push_of_some _ e, turn_list a _, ⟨_, Heap.get?_push_size _ rfl, rfl, rfl⟩, fp, q⟩
  | false =>
    obtain ⟨its, rv, p, _⟩ := I1.tuple hq
    exact wpAny_pyIter_tuple (show s1.heap.IsTuple a its.toArray from p) ⟨s1.heap.objs.size, [s1.heap.objs.size], _, _, H1, rfl, I1.kept (t' := s1.toks) fun c o e => Heap.get?_push_of_some _ e, turn_tuple a _, ⟨_, Heap.get?_push_size _ rfl, rfl, rfl⟩, fp, q⟩
section
variable {K : PySem.W.Frag} {dk : Dk} {Γ : List K39.G} {te : TE} {x : PyData}
theorem ei_seq {ds : List PyData} (h : EvD K dk te Γ x) (hx : seqOf x = some ds) : EvI K dk (iSeq K te) Γ ds := fun I0 H0 σ I H R e k => by
  refine h I0 H0 σ I H _ e fun v x' I1 H1 p1 n1 r1 => ?_
  subst p1
  obtain ⟨b, a, ws, rfl, hr, sq⟩ := rp_seq (H := H) r1 hx
  refine ⟨b, a, ws, rfl, sq _ n1.ok.sub, k _ I1 H1 n1 fun i I2 H2 o2 s2 => ?_⟩
  have s12 := sq H2 (s2.trans o2.sub)
  cases b with
  | true =>
    have sL : SqL K H2 a ws := s12
    refine ⟨fun q => ⟨ws, sL, by rw [hr.len, q]; exact Nat.le_refl _⟩, fun d q => ?_⟩
    obtain ⟨w, hw, rw_⟩ := hr.get q
    refine ⟨⟨ws, w, sL, hw⟩, fun x H3 y => ?_⟩
    obtain ⟨e3, f⟩ := y
    subst e3
    have e4 := f ws sL
    rw [hw] at e4
    cases e4
    exact ⟨I2, Nx.refl o2, rw_.mono s2⟩
  | false =>
    have sT : SqT K H2 a ws := s12
    refine ⟨fun q => ⟨ws, sT, by rw [hr.len, q]; exact Nat.le_refl _⟩, fun d q => ?_⟩
    obtain ⟨w, hw, rw_⟩ := hr.get q
    refine ⟨⟨ws, w, sT, hw⟩, fun x H3 y => ?_⟩
    obtain ⟨e3, f⟩ := y
    subst e3
    have e4 := f ws sT
    rw [hw] at e4
    cases e4
    exact ⟨I2, Nx.refl o2, rw_.mono s2⟩
/-- a chain of two comparisons of ints -/
theorem ev_chain {r r' : R2} {ta tb tc : TE} {x y z : PyData} {a b : Bool} (ha : EvD K dk ta Γ x) (hb : EvD K dk tb Γ y) (hc : EvD K dk tc Γ z) (h1 : OpD K dk r x y (fun d => d = .bool a)) (h2 : OpD K dk r' y z (fun d => d = .bool b)) :
    EvD K dk (tChain r r' ta tb tc) Γ (.bool (a && b)) := fun I0 H0 σ I H Q e k => by
  refine ha I0 H0 σ I H _ e fun v x' I1 H1 p1 n1 r1 => ?_
  subst p1
  refine hb I0 H0 σ I1 H1 _ (e.step n1) fun u y' I2 H2 p2 n2 r2 => ?_
  subst p2
  have n12 := n1.trans n2
  refine h1 I2 H2 v u _ n2.ok (r1.mono n2.ii) r2 fun w d I3 H3 pd n3 r3 => ?_
  subst pd
  cases r3
  have n13 := n12.trans n3
  refine ⟨a, rfl, ?_⟩
  cases a with
  | true =>
    rw [if_pos rfl]
    refine hc I0 H0 σ I3 H3 _ (e.step n13) fun w d I4 H4 p4 n4 r4 => ?_
    subst p4
    exact h2 I4 H4 u w Q n4.ok ((r2.mono n3.ii).mono n4.ii) r4 fun w d I5 H5 p5 n5 r5 => k w d I5 H5 p5 ((n13.trans n4).trans n5) r5
  | false =>
    rw [if_neg Bool.false_ne_true]
    exact k _ _ I3 H3 rfl n13 (.bl false)
end
/-! ### constants of the module, built-ins -/
theorem pe_cst {X : Cx} {x : Str} {i : Int} {pos : Pos} (hg : Gl X x) (hm : ∃ t, X.mg x = some (.int i t)) (hd : (x == ("__debug__" : Str)) = false := by decide) : PE X (.Name x pos) (tC (.int i)) := by
  obtain ⟨t, e⟩ := hm
  exact pe_glob hg e ⟨t, rfl⟩ hd
theorem bt_all : bootBuiltins "all" = some (.builtin "all") := by decide +kernel
theorem bt_abs : bootBuiltins "abs" = some (.builtin "abs") := by decide +kernel
theorem bt_len : bootBuiltins "len" = some (.builtin "len") := by decide +kernel
theorem bt_max : bootBuiltins "max" = some (.builtin "max") := by decide +kernel
theorem bt_min : bootBuiltins "min" = some (.builtin "min") := by decide +kernel
theorem bt_sum : bootBuiltins "sum" = some (.builtin "sum") := by decide +kernel
theorem bt_repr : bootBuiltins "repr" = some (.builtin "repr") := by decide +kernel
theorem bt_sorted : bootBuiltins "sorted" = some (.builtin "sorted") := by decide +kernel
theorem bt_isinstance : bootBuiltins "isinstance" = some (.builtin "isinstance") := by decide +kernel
theorem bt_int : bootBuiltins "int" = some (.type "int") := by decide +kernel
theorem bt_bool : bootBuiltins "bool" = some (.type "bool") := by decide +kernel
theorem bt_str : bootBuiltins "str" = some (.type "str") := by decide +kernel
theorem bt_tuple : bootBuiltins "tuple" = some (.type "tuple") := by decide +kernel
theorem bt_list : bootBuiltins "list" = some (.type "list") := by decide +kernel
/-- what the top leaves of names that are not defs -/
structure Top (K : PySem.W.Frag) (mg : Str → Option Value) : Prop where
  n_abs : mg "abs" = none
  n_all : mg "all" = none
  n_bool : mg "bool" = none
  n_enumerate : mg "enumerate" = none
  n_int : mg "int" = none
  n_isinstance : mg "isinstance" = none
  n_len : mg "len" = none
  n_list : mg "list" = none
  n_max : mg "max" = none
  n_min : mg "min" = none
  n_range : mg "range" = none
  n_repr : mg "repr" = none
  n_sorted : mg "sorted" = none
  n_str : mg "str" = none
  n_sum : mg "sum" = none
  n_tuple : mg "tuple" = none
  n_zip : mg "zip" = none
  zero : mg "ZERO" = some (.ref (He.ga K "ZERO"))
  one : mg "ONE" = some (.ref (He.ga K "ONE"))
  zeroT : ∀ H, SqT K H (He.ga K "ZERO") [.int 0, .int 1]
  oneT : ∀ H, SqT K H (He.ga K "ONE") [.int 1, .int 1]
  most_outcomes : ∃ t, mg "MOST_OUTCOMES" = some (.int 8 t)
  most_name : ∃ t, mg "MOST_NAME" = some (.int 3 t)
  most_parts : ∃ t, mg "MOST_PARTS" = some (.int 40 t)
  most_deep : ∃ t, mg "MOST_DEEP" = some (.int 8 t)
end K39

set_option Elab.async false
set_option linter.all false
set_option maxRecDepth 100000
set_option maxHeartbeats 1000000
/-! S8: calls with every argument by its name -/
namespace K39
open PySem PySem.Spec PyProof.Rows L2
theorem kbinds0 {K : PySem.W.Frag} {x qual : Str} {params : Arguments} {body : List Stmt} {scope : Scope} {f : Addr} {fd : FuncData} {ps ks : List Str} {g : List Value → List Value → List Value} {gV : List V → List V → List V}
    (F : FunD K x qual params body scope [] [] f fd)
    (h : ∀ (kV doc pm : Value) (an : Option Addr) (cdv ct : Value) (us ws : List Value), (g us ws).length = ps.length → bindArgs (PySem.W.fnOf x qual params body scope .none kV doc pm an cdv ct) ⟨us, ks.zip ws⟩ = pure (ps.zip (g us ws)))
    (rel : ∀ {vs : List V} {us : List Value} {zs : List V} {ws : List Value}, Vals vs us → Vals zs ws → Vals (gV vs zs) (g us ws)) : KBinds K fd ps ks g gV := by
  obtain ⟨oc, od, dV, kV, doc, pm, an, cdv, ct, osl, rfl, lk, hcd, hD, hK⟩ := F.ex
  rcases hD with ⟨_, rfl⟩ | ⟨e, _⟩
  · exact ⟨fun s us ws _ hl => .of_eq (h kV doc pm an cdv ct us ws hl), rel⟩
  · exact absurd rfl e
theorem units65 {k : Nat} {A : Around} (hr : Room k A) : A.units + 65 < cLine := by have := hr.un; omega
/-- two, three values in the other order -/
def gv_2 {α : Type} : List α → List α → List α
  | [], [a, b] => [b, a]
  | _, _ => []
def gv_3 {α : Type} : List α → List α → List α
  | [], [a, b, c] => [c, b, a]
  | _, _ => []
theorem gv2_rel {vs : List V} {us : List Value} {zs : List V} {ws : List Value} (r : Vals vs us) (q : Vals zs ws) : Vals (gv_2 vs zs) (gv_2 us ws) := by
  cases r with
  | cons _ _ => exact .nil
  | nil =>
    cases q with
    | nil => exact .nil
    | cons q1 q =>
      cases q with
      | nil => exact .nil
      | cons q2 q =>
        cases q with
        | nil => exact .cons q2 (.cons q1 .nil)
        | cons _ _ => exact .nil
theorem gv3_rel {vs : List V} {us : List Value} {zs : List V} {ws : List Value} (r : Vals vs us) (q : Vals zs ws) : Vals (gv_3 vs zs) (gv_3 us ws) := by
  cases r with
  | cons _ _ => exact .nil
  | nil =>
    cases q with
    | nil => exact .nil
    | cons q1 q =>
      cases q with
      | nil => exact .nil
      | cons q2 q =>
        cases q with
        | nil => exact .nil
        | cons q3 q =>
          cases q with
          | nil => exact .cons q3 (.cons q2 (.cons q1 .nil))
          | cons _ _ => exact .nil
structure CalK (P : Program) (w : World) (K : PySem.W.Frag) (mg : Str → Option Value) (base : Heap) (x : Str) (k : Nat) (ps ks : List Str) (gV : List V → List V → List V) (sp : Sp) : Prop where
  ex : ∃ f fd g, mg x = some (.ref f) ∧ PySem.W.keepIn K (.ref f) = true ∧ KBinds K fd ps ks g gV ∧ FnOk P w K mg base CX0 k f fd ps sp
theorem pe_calKX {X : Cx} {x : Str} {k : Nat} {ps ks : List Str} {sp : Sp} {p pos : Pos} {kws : List Keyword} {tk : TA} {gV : List V → List V → List V}
    (c : CalK X.prog X.w X.K X.mg X.base x k ps ks gV sp) (hr : Room k X.A) (hg : Gl X x)
    (hkw : PK X kws tk) (hall : (backToKw pos (keywordEach kws X.env)).all (·.1.isSome) = true := by rfl) (hks : (backToKw pos (keywordEach kws X.env)).filterMap (·.1) = ks := by rfl)
    (hdb : (x == ("__debug__" : Str)) = false := by decide) (hpl : ((backTo pos (starEach [] X.env)).any (·.1) || (backToKw pos (keywordEach kws X.env)).any (·.1.isNone)) = false := by rfl) :
    PE X (.Call (.Name x p) [] kws pos) (tCallK sp gV E0 tNil tk) := by
  obtain ⟨f, fd, g, h1, h2, h3, h4⟩ := c.ex
  exact pe_calK h4 hr hg h1 h2 h3 hkw hall hks hdb hpl
section
variable {K : PySem.W.Frag} {dk : Dk} {Γ : List K39.G} {P : PyData → Prop} {x y z : PyData}
theorem ev_callK2 {pre : List PyData → Prop} {post : List PyData → PyData → Prop} {E : XK} {tk : TA} (hk : EvAD K dk tk Γ [x, y]) (hp : pre [y, x]) (hq : ∀ d, post [y, x] d → P d) : EvP K dk (tCallK (Pu K pre post) gv_2 E tNil tk) Γ P :=
  fun I0 H0 σ I H Q e k => by
    refine hk I0 H0 σ I H _ e fun ws es I2 H2 p2 n2 r2 => ?_
    subst p2
    obtain ⟨v, w, rfl, r1, r2⟩ := rpl2 r2
    exact ⟨dk, I2, _, n2.ok, .cons r2 (.cons r1 .nil), hp, fun v d I3 H3 pd n3 r3 => k v d I3 H3 (hq d pd) (n2.trans n3) r3⟩
theorem ev_callK3 {pre : List PyData → Prop} {post : List PyData → PyData → Prop} {E : XK} {tk : TA} (hk : EvAD K dk tk Γ [x, y, z]) (hp : pre [z, y, x]) (hq : ∀ d, post [z, y, x] d → P d) : EvP K dk (tCallK (Pu K pre post) gv_3 E tNil tk) Γ P :=
  fun I0 H0 σ I H Q e k => by
    refine hk I0 H0 σ I H _ e fun ws es I2 H2 p2 n2 r2 => ?_
    subst p2
    cases r2 with
    | cons r0 r2 =>
      obtain ⟨v, w, rfl, r1, r2⟩ := rpl2 r2
      exact ⟨dk, I2, _, n2.ok, .cons r2 (.cons r1 (.cons r0 .nil)), hp, fun v d I3 H3 pd n3 r3 => k v d I3 H3 (hq d pd) (n2.trans n3) r3⟩
end
end K39

set_option Elab.async false
set_option linter.all false
set_option maxRecDepth 100000
set_option maxHeartbeats 1000000
/-! S9: promises with a datum that is told aside; fractions, tables, sums -/
namespace K39
open PySem PySem.Spec PyProof.Rows L2
/-- a def that changes nothing: args the data it takes, by a datum -/
def PuL {α : Type} (K : PySem.W.Frag) (args : α → List PyData) (pre : α → Prop) (post : α → PyData → Prop) : Sp := fun vs H Q _ =>
  ∃ (dk : Dk) (I : Hp) (a : α), Ok dk I H ∧ RpL K I vs (args a) ∧ pre a ∧ ∀ v d I' H', post a d → Nx dk I H I' H' → Rp K I' v d → Q v H'
abbrev PuF {α : Type} (K : PySem.W.Frag) (args : α → List PyData) (pre : α → Prop) (res : α → PyData) : Sp := PuL K args pre fun a d => d = res a
def PuDL {α : Type} (K : PySem.W.Frag) (args : α → List PyData) (pre : α → Prop) (post : α → PyData → Prop) : Sp := fun vs H Q _ =>
  ∃ (p : Addr × Addr) (I : Hp) (ws : List V) (a : α), vs = .ref p.1 :: ws ∧ Ok (some p) I H ∧ RpL K I ws (args a) ∧ pre a ∧ ∀ v d I' H', post a d → Nx (some p) I H I' H' → Rp K I' v d → Q v H'
section
variable {P : Program} {w : World} {K : PySem.W.Frag} {mg : Str → Option Value} {base : Heap} {dk : Dk} {Γ : List K39.G} {α : Type} {args : α → List PyData} {pre : α → Prop} {post : α → PyData → Prop} {PP : PyData → Prop}
theorem ev_callL {E : XK} {ta : TA} (a : α) (ha : EvAD K dk ta Γ (args a)) (hp : pre a) (hq : ∀ d, post a d → PP d) : EvP K dk (tCall (PuL K args pre post) [] E ta) Γ PP := fun I0 H0 σ I H Q e k => by
  refine ha I0 H0 σ I H _ e fun vs ds I1 H1 p1 n1 r1 => ?_
  subst p1
  rw [List.append_nil]
  exact ⟨dk, I1, a, n1.ok, r1, hp, fun v d I2 H2 pd n2 r2 => k v d I2 H2 (hq d pd) (n1.trans n2) r2⟩
theorem ev_callF {res : α → PyData} {E : XK} {ta : TA} (a : α) (ha : EvAD K dk ta Γ (args a)) (hp : pre a) : EvD K dk (tCall (PuF K args pre res) [] E ta) Γ (res a) := ev_callL a ha hp fun _ e => e
/-- the arguments are not known for sure -/
theorem ev_callLP {E : XK} {ta : TA} {PA : List PyData → Prop} (ha : EvA K dk ta Γ PA) (h : ∀ ds, PA ds → ∃ a, ds = args a ∧ pre a ∧ ∀ d, post a d → PP d) : EvP K dk (tCall (PuL K args pre post) [] E ta) Γ PP := fun I0 H0 σ I H Q e k => by
  refine ha I0 H0 σ I H _ e fun vs ds I1 H1 p1 n1 r1 => ?_
  obtain ⟨a, rfl, hp, hq⟩ := h ds p1
  rw [List.append_nil]
  exact ⟨dk, I1, a, n1.ok, r1, hp, fun v d I2 H2 pd n2 r2 => k v d I2 H2 (hq d pd) (n1.trans n2) r2⟩
theorem ev_drawLP {E : XK} {i : Nat} {ta : TA} {PA : List PyData → Prop} (hi : Γ[i]? = some .deck) (ha : EvA K dk ta Γ PA) (h : ∀ ds, PA ds → ∃ a, ds = args a ∧ pre a ∧ ∀ d, post a d → PP d) :
    EvP K dk (tCall (PuDL K args pre post) [] E (tCons (tVar i) ta)) Γ PP := fun I0 H0 σ I H Q e k => by
  obtain ⟨p, rfl, hs⟩ := e.deck i hi
  refine ⟨_, hs, ha I0 H0 σ I H _ e fun vs ds I1 H1 p1 n1 r1 => ?_⟩
  obtain ⟨a, rfl, hp, hq⟩ := h ds p1
  show PuDL K args pre post ((V.ref p.fst :: vs) ++ []) H1 Q E
  rw [List.append_nil]
  exact ⟨p, I1, vs, a, rfl, n1.ok, r1, hp, fun v d I2 H2 pd n2 r2 => k v d I2 H2 (hq d pd) (n1.trans n2) r2⟩
theorem ev_drawL {E : XK} {i : Nat} {ta : TA} (a : α) (hi : Γ[i]? = some .deck) (ha : EvAD K dk ta Γ (args a)) (hp : pre a) (hq : ∀ d, post a d → PP d) :
    EvP K dk (tCall (PuDL K args pre post) [] E (tCons (tVar i) ta)) Γ PP := ev_drawLP hi ha fun ds e => ⟨a, e, hp, hq⟩
theorem ev_callK2L {E : XK} {tk : TA} {x y : PyData} (a : α) (hk : EvAD K dk tk Γ [x, y]) (ea : args a = [y, x]) (hp : pre a) (hq : ∀ d, post a d → PP d) : EvP K dk (tCallK (PuL K args pre post) gv_2 E tNil tk) Γ PP :=
  fun I0 H0 σ I H Q e k => by
    refine hk I0 H0 σ I H _ e fun ws es I2 H2 p2 n2 r2 => ?_
    subst p2
    obtain ⟨v, w, rfl, r1, r2⟩ := rpl2 r2
    exact ⟨dk, I2, a, n2.ok, by rw [ea]; exact .cons r2 (.cons r1 .nil), hp, fun v d I3 H3 pd n3 r3 => k v d I3 H3 (hq d pd) (n2.trans n3) r3⟩
theorem ev_callK3L {E : XK} {tk : TA} {x y z : PyData} (a : α) (hk : EvAD K dk tk Γ [x, y, z]) (ea : args a = [z, y, x]) (hp : pre a) (hq : ∀ d, post a d → PP d) : EvP K dk (tCallK (PuL K args pre post) gv_3 E tNil tk) Γ PP :=
  fun I0 H0 σ I H Q e k => by
    refine hk I0 H0 σ I H _ e fun ws es I2 H2 p2 n2 r2 => ?_
    subst p2
    cases r2 with
    | cons r0 r2 =>
      obtain ⟨v, w, rfl, r1, r2⟩ := rpl2 r2
      exact ⟨dk, I2, a, n2.ok, by rw [ea]; exact .cons r2 (.cons r1 (.cons r0 .nil)), hp, fun v d I3 H3 pd n3 r3 => k v d I3 H3 (hq d pd) (n2.trans n3) r3⟩
theorem ok_pureL {x : Str} {st : Stmt} {f : Addr} {fd : FuncData} {N ps : List Str} {k : Nat} (F : FnD K x st f fd) (S : FnScope N ps (defScope st)) (t : TS) (hN : ps.length ≤ N.length) (len : ∀ a, pre a → (args a).length = ps.length)
    (term : ∀ (cdv : Value) (A : Around) (outer : List PySem.Env) (s : Shared) (H : Hp) (E : XK), Room k (A.deeper (envOfC x (defScope st) s.heap.objs.size f cdv)) → PSs (cxOf CX0 P w K mg base N x (defScope st) f cdv A outer s H E).nox (defBody st) t)
    (sem : ∀ (dk : Dk) (a : α), pre a → SOk K dk t (startG N.length (args a)) (fun _ => post a .none) (post a)) : FnOk P w K mg base CX0 (k + 1) f fd ps (PuL K args pre post) := by
  refine FunD.okT F S (fun vs H Q E h => ?_) t term fun vs H Q E h => ?_
  · obtain ⟨dk, I, a, _, r, hp, _⟩ := h
    rw [r.len]; exact len a hp
  · obtain ⟨dk, I, a, o, r, hp, q⟩ := h
    refine sem dk a hp I H _ I H _ (know_start o r (by rw [r.len, len a hp]; exact hN)) (fun Γ' σ' I' H' n e _ => q _ _ I' H' n e.nx .non) fun v d I' H' pd n rv => q v d I' H' pd n rv
theorem ok_deckL {x : Str} {st : Stmt} {f : Addr} {fd : FuncData} {N ps : List Str} {k : Nat} (F : FnD K x st f fd) (S : FnScope N ps (defScope st)) (t : TS) (hN : ps.length ≤ N.length) (len : ∀ a, pre a → (args a).length + 1 = ps.length)
    (term : ∀ (cdv : Value) (A : Around) (outer : List PySem.Env) (s : Shared) (H : Hp) (E : XK), Room k (A.deeper (envOfC x (defScope st) s.heap.objs.size f cdv)) → PSs (cxOf CX0 P w K mg base N x (defScope st) f cdv A outer s H E).nox (defBody st) t)
    (sem : ∀ (p : Addr × Addr) (a : α), pre a → SOk K (some p) t (startGD N.length (args a)) (fun _ => post a .none) (post a)) : FnOk P w K mg base CX0 (k + 1) f fd ps (PuDL K args pre post) := by
  refine FunD.okT F S (fun vs H Q E h => ?_) t term fun vs H Q E h => ?_
  · obtain ⟨p, I, ws, a, rfl, _, r, hp, _⟩ := h
    rw [List.length_cons, r.len]; exact len a hp
  · obtain ⟨p, I, ws, a, rfl, o, r, hp, q⟩ := h
    refine sem p a hp I H _ I H _ (know_startD o r (by rw [r.len, len a hp]; exact hN)) (fun Γ' σ' I' H' n e _ => q _ _ I' H' n e.nx .non) fun v d I' H' pd n rv => q v d I' H' pd n rv
theorem ok_false {f : Addr} {fd : FuncData} {ps : List Str} {k : Nat} {sp : Sp} (h : ∀ vs H Q E, ¬ sp vs H Q E) : FnOk P w K mg base CX0 k f fd ps sp := ⟨fun vs H Q E q => (h vs H Q E q).elim, fun A outer s H args us vs Q E _ _ _ _ q => (h vs H Q E q).elim⟩
end

/-! ### sums -/
def sm {α : Type} [Add α] [OfNat α 0] : Nat → (Nat → α) → α
  | 0, _ => 0
  | n + 1, f => sm n f + f n
section
variable {n : Nat} {f g : Nat → Rat}
theorem sm_congr {α : Type} [Add α] [OfNat α 0] {n : Nat} {f g : Nat → α} (h : ∀ i, i < n → f i = g i) : sm n f = sm n g := by
  induction n with
  | zero => rfl
  | succ n ih => simp only [sm]; rw [ih fun i hi => h i (by omega), h n (by omega)]
theorem sm_add (n : Nat) (f g : Nat → Rat) : sm n (fun i => f i + g i) = sm n f + sm n g := by
  induction n with
  | zero => simp only [sm]; grind
  | succ n ih => simp only [sm, ih]; grind
theorem sm_sub (n : Nat) (f g : Nat → Rat) : sm n (fun i => f i - g i) = sm n f - sm n g := by
  induction n with
  | zero => simp only [sm]; grind
  | succ n ih => simp only [sm, ih]; grind
theorem sm_mul (n : Nat) (c : Rat) (f : Nat → Rat) : sm n (fun i => c * f i) = c * sm n f := by
  induction n with
  | zero => simp only [sm]; grind
  | succ n ih => simp only [sm, ih]; grind
theorem sm_mulr (n : Nat) (c : Rat) (f : Nat → Rat) : sm n (fun i => f i * c) = sm n f * c := by
  induction n with
  | zero => simp only [sm]; grind
  | succ n ih => simp only [sm, ih]; grind
theorem sm_zero (n : Nat) : sm n (fun _ => (0 : Rat)) = 0 := by
  induction n with
  | zero => rfl
  | succ n ih => simp only [sm, ih]; grind
theorem sm_le (h : ∀ i, i < n → f i ≤ g i) : sm n f ≤ sm n g := by
  induction n with
  | zero => simp only [sm]; grind
  | succ n ih =>
    have h1 := ih fun i hi => h i (by omega)
    have h2 := h n (by omega)
    simp only [sm]; grind
theorem sm_nonneg (h : ∀ i, i < n → 0 ≤ f i) : 0 ≤ sm n f := by
  have := sm_le (n := n) (f := fun _ => 0) (g := f) h
  rwa [sm_zero] at this
theorem sm_term (h : ∀ i, i < n → 0 ≤ f i) {j : Nat} (hj : j < n) : f j ≤ sm n f := by
  induction n with
  | zero => omega
  | succ n ih =>
    have h0 := sm_nonneg (n := n) (f := f) fun i hi => h i (by omega)
    have h1 := h n (by omega)
    simp only [sm]
    by_cases e : j = n
    · subst e; grind
    · have := ih (fun i hi => h i (by omega)) (by omega); grind
theorem sm_swap (n m : Nat) (f : Nat → Nat → Rat) : sm n (fun i => sm m (fun j => f i j)) = sm m (fun j => sm n (fun i => f i j)) := by
  induction n with
  | zero => simp only [sm]; exact (sm_zero m).symm
  | succ n ih => simp only [sm, ih]; exact (sm_add m _ _).symm
theorem sm_one {n : Nat} {f : Nat → Rat} {j : Nat} (hj : j < n) (h : ∀ i, i < n → i ≠ j → f i = 0) : sm n f = f j := by
  induction n with
  | zero => omega
  | succ n ih =>
    simp only [sm]
    by_cases e : j = n
    · subst e
      rw [show sm j f = 0 from (sm_congr fun i hi => h i (by omega) (by omega)).trans (sm_zero j)]; grind
    · rw [ih (by omega) fun i hi hne => h i (by omega) hne, h n (by omega) (by omega)]; grind
theorem sm_cast (n : Nat) (f : Nat → Int) : ((sm n f : Int) : Rat) = sm n (fun i => ((f i : Int) : Rat)) := by
  induction n with
  | zero => rfl
  | succ n ih => simp only [sm, Rat.intCast_add, ih]
theorem sm_list (n : Nat) (f : Nat → Int) : ((List.range n).map f).sum = sm n f := by
  induction n with
  | zero => rfl
  | succ n ih => rw [List.range_succ, List.map_append, List.sum_append, ih]; simp [sm]
theorem sm_shift {α : Type} [Add α] [OfNat α 0] (n : Nat) (f : Nat → Rat) : sm (n + 1) f = f 0 + sm n (fun i => f (i + 1)) := by
  induction n with
  | zero => simp only [sm]; grind
  | succ n ih => rw [sm, ih]; simp only [sm]; grind
end
end K39

set_option Elab.async false
set_option linter.all false
set_option maxRecDepth 100000
set_option maxHeartbeats 1000000
/-! Spec: what is drawn, what each def promises -/
namespace K39
open PySem PySem.Spec PyProof.Rows L2
/-! ### data -/
def mp {α : Type} (n : Nat) (f : Nat → α) : List α := (List.range n).map f
def fr (q : Rat) : PyData := .tuple [.int q.num, .int q.den]
def tabD (n : Nat) (f : Nat → Rat) : PyData := .tuple (mp n fun i => fr (f i))
def rowD (n : Nat) (f : Nat → Int) : PyData := .list (mp n fun i => .int (f i))
def tupI (n : Nat) (f : Nat → Nat) : PyData := .tuple (mp n fun i => .int (f i))
def lotL (n : Nat) (l : Nat → Bool) : List Nat := (List.range n).filter l
def lotD (n : Nat) (l : Nat → Bool) : PyData := .tuple ((lotL n l).map fun (i : Nat) => .int i)
/-! ### numbers -/
def In (N : Nat) (q : Rat) : Prop := 0 < N ∧ ∃ a : Int, q = (a : Rat) / ((N : Nat) : Rat)
def Sm (q : Rat) : Prop := q.den < 2 ^ 4000 ∧ q.num.natAbs < 2 ^ 4400
def fracQ (x : Rat) : Rat := x - (x.floor : Rat)
def p2 (k : Nat) : Rat := ((2 ^ k : Nat) : Rat)
def dig (q : Rat) : Nat → Int
  | 0 => q.floor
  | k + 1 => (q * p2 (k + 1)).floor - 2 * (q * p2 k).floor
def lotS (n : Nat) (f : Nat → Rat) (l : Nat → Bool) : Rat := sm n fun i => if l i then f i else 0
def floQ (n : Nat) (f : Nat → Rat) (t : Nat) : Rat := sm n (fun i => fracQ (f i * p2 t)) / p2 t
structure Tab (n : Nat) (f : Nat → Rat) : Prop where
  n1 : 1 ≤ n
  n8 : n ≤ 8
  ex : ∃ N : Nat, N < 2 ^ 300 ∧ ∀ i, i < n → In N (f i)
  nn : ∀ i, i < n → 0 ≤ f i
  one : sm n f = 1
/-! ### weights: small bottoms alone -/
def Sml (q : Rat) : Prop := q.den ≤ 16 ∧ 0 ≤ q.num ∧ q.num ≤ q.den
def twosN (n : Nat) : Nat := [0, 0, 1, 0, 2, 0, 1, 0, 3, 0, 1, 0, 2, 0, 1, 0, 4].getD n 0
/-- the rest behind i doublings -/
def remF (a b i : Nat) : Nat := a * 2 ^ i % b
def digF (a b i : Nat) : Nat := remF a b i * 2 / b
def aheadL (a b : Nat) : List Nat := mp (twosN b) (digF a b)
def stopF (a b e j : Nat) : Bool := remF a b (e + j) == 0 || (j != 0 && remF a b (e + j) == remF a b e)
def perF (a b : Nat) : Nat := ((List.range 20).find? (stopF a b (twosN b))).getD 0
def digitsL (a b : Nat) : List Nat := mp (perF a b) fun j => digF a b (twosN b + j)
def sumP (bits : List Nat) : Nat := sm bits.length fun i => if bits.getD i 0 = 1 then 2 ^ (bits.length - 1 - i) else 0
def sumH (bits : List Nat) : Nat := sm bits.length fun i => if bits.getD i 0 = 1 then (i + 1) * 2 ^ (bits.length - 1 - i) else 0
def plainQ (bits : List Nat) : Rat := (sumP bits : Rat) / p2 bits.length
def heavyQ (bits : List Nat) : Rat := (sumH bits : Rat) / p2 bits.length
def wF (a b : Nat) : Rat :=
  let u := aheadL a b
  let d := digitsL a b
  if d.length = 0 then heavyQ u else
    let size : Rat := p2 d.length - 1
    heavyQ u + (((u.length : Rat) * plainQ d + heavyQ d) * ((size + 1) / size) + ((d.length : Rat) * plainQ d) * ((size + 1) / (size * size))) / p2 u.length
def wQ (q : Rat) : Rat := wF q.num.toNat q.den
/-! ### programs -/
inductive Prog where
  | value (n k : Nat)
  | draw (n B : Nat) (a : Nat → Nat)
  | bind (f : Prog) (k : Nat) (cs : Nat → Prog)
  | again (p : Prog) (l : Nat → Bool)
  | ren (p : Prog) (nm : Nat → Nat) (n : Nat)
def drT (B : Nat) (a : Nat → Nat) (i : Nat) : Rat := ((a i : Nat) : Rat) / ((B : Nat) : Rat)
def outs : Prog → Nat
  | .value n _ => n
  | .draw n _ _ => n
  | .bind _ _ cs => outs (cs 0)
  | .again p _ => outs p
  | .ren _ _ n => n
def enc : Prog → PyData
  | .value n k => .tuple [.str "value", .int n, .int k]
  | .draw n B a => .tuple [.str "draw", tabD n (drT B a)]
  | .bind f k cs => .tuple [.str "bind", enc f, .tuple (mp k fun j => enc (cs j))]
  | .again p l => .tuple [.str "again", enc p, lotD (outs p) l]
  | .ren p nm n => .tuple [.str "map", enc p, tupI (outs p) nm, .int n]
def mean : Prog → Nat → Rat
  | .value _ k => fun i => if i = k then 1 else 0
  | .draw _ B a => drT B a
  | .bind f k cs => fun i => sm k fun j => mean f j * mean (cs j) i
  | .again p l => fun i => if l i then mean p i / lotS (outs p) (mean p) l else 0
  | .ren p nm _ => fun i => sm (outs p) fun j => if nm j = i then mean p j else 0
def cost : Prog → Rat
  | .value _ _ => 0
  | .draw n B a => sm n fun i => wQ (drT B a i)
  | .bind f k cs => cost f + sm k fun j => mean f j * cost (cs j)
  | .again p l => cost p / lotS (outs p) (mean p) l
  | .ren p _ _ => cost p
def parts : Prog → Nat
  | .value _ _ => 1
  | .draw _ _ _ => 1
  | .bind f k cs => 1 + parts f + sm k fun j => parts (cs j)
  | .again p _ => 1 + parts p
  | .ren p _ _ => 1 + parts p
/-- how often, and how far behind, one is thrown away: times of d -/
def ttF (D : Nat → Int) : Nat → Nat → Int
  | 0, _ => 1
  | n + 1, m => if m ≤ n then ttF D n m else sm (n + 1) fun k => D (k + 1) * ttF D n (n - k)
def tms (D : Nat → Int) (n : Nat) : Int := ttF D n n
def conv (u v : Nat → Int) (s : Nat) : Int := sm (s + 1) fun a => u a * v (s - a)
def thr (n : Nat) (l : Nat → Bool) (L : Nat → Nat → Int) (s : Nat) : Int := sm n fun o => if l o then 0 else L s o
def len : Prog → Nat → Nat → Int
  | .value _ k => fun s i => if s = 0 ∧ i = k then 1 else 0
  | .draw _ B a => fun s i => dig (drT B a i) s
  | .bind f k cs => fun s i => sm k fun j => conv (fun a => len f a j) (fun b => len (cs j) b i) s
  | .again p l => fun s i => if l i then conv (tms (thr (outs p) l (len p))) (fun b => len p b i) s else 0
  | .ren p nm _ => fun s i => sm (outs p) fun j => if nm j = i then len p s j else 0
def tail (p : Prog) (t : Nat) : Rat := 1 - sm (t + 1) fun s => sm (outs p) (fun i => (len p s i : Rat)) / p2 s
structure Dr (n B : Nat) (a : Nat → Nat) : Prop where
  n1 : 1 ≤ n
  n8 : n ≤ 8
  b1 : 1 ≤ B
  b16 : B ≤ 16
  sum : sm n a = B
def Wf : Prog → Nat → Prop
  | .value n k, _ => k < n ∧ n ≤ 8
  | .draw n B a, _ => Dr n B a
  | .bind f k cs, d => ∃ e, d = e + 1 ∧ Wf f e ∧ outs f = k ∧ 1 ≤ k ∧ k ≤ 3 ∧ ∀ j, j < k → Wf (cs j) e ∧ outs (cs j) = outs (cs 0)
  | .again p l, d => ∃ e, d = e + 1 ∧ Wf p e ∧ lotS (outs p) (mean p) l ≠ 0
  | .ren p nm n, d => ∃ e, d = e + 1 ∧ Wf p e ∧ 1 ≤ n ∧ n ≤ 8 ∧ ∀ j, j < outs p → nm j < n
/-- what a recursive def is told of: a program of less than n floors -/
def At (n : Nat) (p : Prog) : Prop := ∃ d, n = d + 1 ∧ d ≤ 3 ∧ Wf p d
def lensD (p : Prog) (T : Nat) : PyData := .list (mp (T + 1) fun s => rowD (outs p) (len p s))
def rowsD (n : Nat) (L : Nat → Nat → Int) (T : Nat) : PyData := .list (mp n fun i => rowD (T + 1) fun s => L s i)
/-! ### promises: looks -/
section
variable (K : PySem.W.Frag)
def sp_is_integer : Sp := PuF K (fun i : Int => [.int i]) (fun _ => True) fun _ => .bool true
def sp_is_between : Sp := PuF K (fun a : Int × Int × Int => [.int a.1, .int a.2.1, .int a.2.2]) (fun _ => True) fun a => .bool (decide (a.2.1 ≤ a.1) && decide (a.1 ≤ a.2.2))
def sp_are_between : Sp := PuF K (fun a : List Int × Int × Int => [.tuple (a.1.map PyData.int), .int a.2.1, .int a.2.2]) (fun a => a.1.length ≤ 100 ∧ ∀ i ∈ a.1, a.2.1 ≤ i ∧ i ≤ a.2.2) fun _ => .bool true
def sp_is_count : Sp := PuF K (fun i : Int => [.int i]) (fun i => 0 ≤ i) fun _ => .bool true
def sp_is_word : Sp := PuF K (fun a : Str × List PyData × Str => [.tuple (.str a.1 :: a.2.1), .str a.2.2]) (fun _ => True) fun a => .bool (decide (a.1 = a.2.2))
def sp_is_ascending : Sp := PuF K (fun a : Nat × (Nat → Bool) => [lotD a.1 a.2]) (fun a => a.1 ≤ 100 ∧ lotL a.1 a.2 ≠ []) fun _ => .bool true
def sp_is_lot_value : Sp := PuF K (fun a : Nat × (Nat → Bool) => [.int a.1, lotD a.1 a.2]) (fun a => a.1 ≤ 100 ∧ lotL a.1 a.2 ≠ []) fun _ => .bool true
/-! fractions -/
def sp_divisor_of : Sp := PuF K (fun a : Int × Int => [.int a.1, .int a.2]) (fun a => 0 ≤ a.2) fun a => .int (Int.gcd a.1 a.2)
def sp_is_fraction_value : Sp := PuF K (fun q : Rat => [fr q]) (fun _ => True) fun _ => .bool true
def sp_is_share_value : Sp := PuF K (fun q : Rat => [fr q]) (fun q => 0 ≤ q) fun _ => .bool true
def sp_lowest : Sp := PuF K (fun a : Int × Int => [.int a.1, .int a.2]) (fun a => 0 < a.2 ∧ a.2 < 2 ^ 9000) fun a => fr ((a.1 : Rat) / (a.2 : Rat))
def sp_plus : Sp := PuF K (fun a : Rat × Rat => [fr a.1, fr a.2]) (fun a => Sm a.1 ∧ Sm a.2) fun a => fr (a.1 + a.2)
def sp_minus : Sp := PuF K (fun a : Rat × Rat => [fr a.1, fr a.2]) (fun a => Sm a.1 ∧ Sm a.2) fun a => fr (a.1 - a.2)
def sp_times : Sp := PuF K (fun a : Rat × Rat => [fr a.1, fr a.2]) (fun a => Sm a.1 ∧ Sm a.2) fun a => fr (a.1 * a.2)
def sp_over : Sp := PuF K (fun a : Rat × Rat => [fr a.1, fr a.2]) (fun a => Sm a.1 ∧ Sm a.2 ∧ 0 < a.2 ∧ a.2.num < 2 ^ 4000) fun a => fr (a.1 / a.2)
def seqB (b : Bool) (ds : List PyData) : PyData := if b then .list ds else .tuple ds
def Tot (qs : List Rat) : Prop := qs.length ≤ 64 ∧ ∃ N : Nat, N < 2 ^ 3900 ∧ ∀ q, q ∈ qs → In N q ∧ 0 ≤ q ∧ q ≤ p2 190
def sp_total : Sp := PuF K (fun a : Bool × List Rat => [seqB a.1 (a.2.map fr)]) (fun a => Tot a.2) fun a => fr a.2.sum
def sp_whole_of : Sp := PuF K (fun q : Rat => [fr q]) (fun q => Sm q) fun q => .int (dig q 0)
def sp_shifted : Sp := PuF K (fun a : Rat × Nat => [fr a.1, .int a.2]) (fun a => Sm a.1 ∧ a.2 ≤ 300) fun a => fr (a.1 / p2 a.2)
def sp_is_table_value : Sp := PuF K (fun a : Nat × (Nat → Rat) => [tabD a.1 a.2]) (fun a => Tab a.1 a.2) fun _ => .bool true
/-! figures -/
def sp_power_by : Sp := PuF K (fun a : Nat × Nat => [.int a.1, .int a.2]) (fun a => 0 < a.2 ∧ a.2 < 2 ^ 4000) fun a => .int ((2 ^ a.1 % a.2 : Nat) : Int)
def sp_raw_rest : Sp := PuF K (fun a : Rat × Nat => [fr a.1, .int a.2]) (fun a => Sm a.1) fun a => fr (fracQ (a.1 * p2 a.2))
def sp_raw_digit : Sp := PuF K (fun a : Rat × Nat => [fr a.1, .int a.2]) (fun a => Sm a.1 ∧ 1 ≤ a.2) fun a => .int (dig a.1 a.2)
def sp_twos_of : Sp := PuF K (fun n : Nat => [.int n]) (fun n => 1 ≤ n ∧ n ≤ 16) fun n => .int (twosN n)
def sp_raw_figures : Sp := PuF K (fun q : Rat => [fr q]) (fun q => Sml q) fun q => .tuple [.int (q.num.toNat / q.den : Nat), .tuple ((aheadL q.num.toNat q.den).map fun (i : Nat) => .int i), .tuple ((digitsL q.num.toNat q.den).map fun (i : Nat) => .int i)]
def sp_sums_of : Sp := PuF K (fun a : List Nat => [.tuple (a.map fun (i : Nat) => .int i)]) (fun a => a.length ≤ 20) fun a => .tuple [fr (plainQ a), fr (heavyQ a)]
def sp_raw_weight : Sp := PuF K (fun q : Rat => [fr q]) (fun q => Sml q) fun q => fr (wQ q)
/-! tables -/
def sp_need_table : Sp := PuF K (fun a : Nat × (Nat → Rat) => [tabD a.1 a.2]) (fun a => Tab a.1 a.2) fun _ => .none
def sp_need_count : Sp := PuF K (fun i : Nat => [.int i]) (fun _ => True) fun _ => .none
def sp_raw_floor : Sp := PuF K (fun a : (Nat × (Nat → Rat)) × Nat => [tabD a.1.1 a.1.2, .int a.2]) (fun a => Tab a.1.1 a.1.2 ∧ a.2 ≤ 300) fun a => fr (floQ a.1.1 a.1.2 a.2)
def sp_raw_least_mean : Sp := PuF K (fun a : Nat × Nat × (Nat → Nat) => [tabD a.1 (drT a.2.1 a.2.2)]) (fun a => Dr a.1 a.2.1 a.2.2) fun a => fr (sm a.1 fun i => wQ (drT a.2.1 a.2.2 i))
def sp_floor_at : Sp := PuF K (fun a : (Nat × (Nat → Rat)) × Nat => [tabD a.1.1 a.1.2, .int a.2]) (fun a => Tab a.1.1 a.1.2 ∧ a.2 ≤ 300) fun a => fr (floQ a.1.1 a.1.2 a.2)
def sp_raw_lot_chance : Sp := PuF K (fun a : (Nat × (Nat → Rat)) × (Nat → Bool) => [tabD a.1.1 a.1.2, lotD a.1.1 a.2]) (fun a => Tab a.1.1 a.1.2) fun a => fr (lotS a.1.1 a.1.2 a.2)
def sp_raw_given : Sp := PuF K (fun a : (Nat × (Nat → Rat)) × (Nat → Bool) => [tabD a.1.1 a.1.2, lotD a.1.1 a.2]) (fun a => Tab a.1.1 a.1.2 ∧ lotS a.1.1 a.1.2 a.2 ≠ 0) fun a => tabD a.1.1 fun i => if a.2 i then a.1.2 i / lotS a.1.1 a.1.2 a.2 else 0
def sp_raw_renamed : Sp := PuF K (fun a : (Nat × (Nat → Rat)) × (Nat → Nat) × Nat => [tabD a.1.1 a.1.2, tupI a.1.1 a.2.1, .int a.2.2]) (fun a => Tab a.1.1 a.1.2 ∧ a.2.2 ≤ 8) fun a => tabD a.2.2 fun i => sm a.1.1 fun j => if a.2.1 j = i then a.1.2 j else 0
def MixOk (k : Nat) (f : Nat → Rat) (n : Nat) (g : Nat → Nat → Rat) : Prop := Tab k f ∧ (∀ j, j < k → Tab n (g j)) ∧ ∃ N : Nat, N < 2 ^ 300 ∧ ∀ j, j < k → ∀ i, i < n → In N (f j * g j i)
def sp_raw_mixed : Sp := PuF K (fun a : (Nat × (Nat → Rat)) × Nat × (Nat → Nat → Rat) => [tabD a.1.1 a.1.2, .tuple (mp a.1.1 fun j => tabD a.2.1 (a.2.2 j))]) (fun a => MixOk a.1.1 a.1.2 a.2.1 a.2.2) fun a => tabD a.2.1 fun i => sm a.1.1 fun j => a.1.2 j * a.2.2 j i
/-! programs -/
def LookOk (p : Prog) (d : Nat) (deep : Nat) : Prop := Wf p d ∧ d ≤ 3 ∧ deep + d ≤ 7 ∧ parts p ≤ 40
def lookD (p : Prog) : PyData := .tuple [.int (outs p), .list [], .int (parts p)]
def sp_looked_at (n : Nat) : Sp := PuF K (fun a : Prog × Nat => [enc a.1, .int a.2]) (fun a => ∃ d, n = d + 1 ∧ LookOk a.1 d a.2) fun a => lookD a.1
def isBind : Prog → Prop
  | .bind _ _ _ => True
  | _ => False
def isAgain : Prog → Prop
  | .again _ _ => True
  | _ => False
def isRen : Prog → Prop
  | .ren _ _ _ => True
  | _ => False
def sp_bind_looked_at (n : Nat) : Sp := PuF K (fun a : Prog × Nat => [enc a.1, .int a.2]) (fun a => isBind a.1 ∧ LookOk a.1 n a.2) fun a => lookD a.1
def sp_again_looked_at (n : Nat) : Sp := PuF K (fun a : Prog × Nat => [enc a.1, .int a.2]) (fun a => isAgain a.1 ∧ LookOk a.1 n a.2) fun a => lookD a.1
def sp_map_looked_at (n : Nat) : Sp := PuF K (fun a : Prog × Nat => [enc a.1, .int a.2]) (fun a => isRen a.1 ∧ LookOk a.1 n a.2) fun a => lookD a.1
def sp_are_of_one_size : Sp := PuF K (fun _ : Unit => [.list []]) (fun _ => True) fun _ => .bool true
def Fit (p : Prog) : Prop := Wf p 3 ∧ parts p ≤ 40
def sp_is_program_value : Sp := PuF K (fun p : Prog => [enc p]) (fun p => Fit p) fun _ => .bool true
def sp_need_closed : Sp := PuF K (fun p : Prog => [enc p]) (fun p => Fit p) fun _ => .none
def sp_raw_outcomes (n : Nat) : Sp := PuF K (fun p : Prog => [enc p]) (fun p => At n p) fun p => .int (outs p)
def innerL : Prog → List PyData
  | .value _ _ => []
  | .draw _ _ _ => []
  | .bind f k cs => enc f :: mp k fun j => enc (cs j)
  | .again p _ => [enc p]
  | .ren p _ _ => [enc p]
def sp_inner_of : Sp := PuF K (fun p : Prog => [enc p]) (fun p => Wf p 3) fun p => .tuple (innerL p)
def sp_places_in (n : Nat) : Sp := PuF K (fun p : Prog => [enc p]) (fun p => At n p) fun _ => .list []
def sp_raw_places : Sp := PuF K (fun p : Prog => [enc p]) (fun p => Wf p 3) fun _ => .tuple []
def sp_raw_meaning (n : Nat) : Sp := PuF K (fun p : Prog => [enc p]) (fun p => At n p) fun p => tabD (outs p) (mean p)
def sp_raw_cost (n : Nat) : Sp := PuF K (fun p : Prog => [enc p]) (fun p => At n p) fun p => fr (cost p)
def sp_draw_lengths : Sp := PuF K (fun a : (Nat × (Nat → Rat)) × Nat => [tabD a.1.1 a.1.2, .int a.2]) (fun a => Tab a.1.1 a.1.2 ∧ a.2 ≤ 300) fun a => .list (mp (a.2 + 1) fun s => rowD a.1.1 fun i => dig (a.1.2 i) s)
end
/-! made behind one another: rows that change -/
/-- a list at f of lists at rs that are its own, and hold X -/
structure Mx (dk : Dk) (f : Addr) (rs : Nat → Addr) (n T : Nat) (X : Nat → Nat → Int) (I H : Hp) : Prop where
  ok : Ok dk I H
  hf : H f = some (.lst (mp (T + 1) fun r => V.ref (rs r)))
  nf : I f = none
  zf : ¬ zone dk f
  row : ∀ r, r ≤ T → H (rs r) = some (.lst (mp n fun i => V.int (X r i)))
  nr : ∀ r, r ≤ T → I (rs r) = none
  zr : ∀ r, r ≤ T → ¬ zone dk (rs r)
  ne : ∀ r, r ≤ T → rs r ≠ f
  inj : ∀ r r', r ≤ T → r' ≤ T → rs r = rs r' → r = r'
/-- nothing changed but those rows -/
structure Kp (dk : Dk) (rs : Nat → Addr) (T : Nat) (I H I' H' : Hp) : Prop where
  ii : Same I I'
  hh : ∀ a o, H a = some o → ¬ zone dk a → (∀ r, r ≤ T → a ≠ rs r) → H' a = some o
  fr : ∀ a o, H a = some o → I a = none → I' a = none
def sumLt (L : Nat → Nat → Int) (n T : Nat) : Prop := ∀ s i, s ≤ T → i < n → 0 ≤ L s i ∧ L s i ≤ 2 ^ 400
section
variable (K : PySem.W.Frag)
def BindOk (k : Nat) (F : Nat → Nat → Int) (n : Nat) (C : Nat → Nat → Nat → Int) (T : Nat) : Prop := 1 ≤ k ∧ k ≤ 8 ∧ n ≤ 8 ∧ T ≤ 300 ∧ sumLt F k T ∧ ∀ j, j < k → sumLt (C j) n T
def sp_put_behind : Sp := fun vs H Q _ => ∃ (dk : Dk) (I : Hp) (f : Addr) (rs : Nat → Addr) (n T s : Nat) (X : Nat → Nat → Int) (ways : Int) (C : Nat → Nat → Int) (cv : V),
  vs = [.ref f, .int s, .int ways, cv] ∧ Mx dk f rs n T X I H ∧ n ≤ 8 ∧ T ≤ 300 ∧ s ≤ T ∧ 0 ≤ ways ∧ ways ≤ 2 ^ 400 ∧ sumLt C n T ∧ Rp K I cv (.list (mp (T + 1) fun b => rowD n (C b))) ∧
  ∀ I' H', Mx dk f rs n T (fun r i => X r i + if s ≤ r then ways * C (r - s) i else 0) I' H' → Kp dk rs T I H I' H' → Q .non H'
def bindS (k : Nat) (F : Nat → Nat → Int) (C : Nat → Nat → Nat → Int) (s i : Nat) : Int := sm k fun j => conv (fun a => F a j) (fun b => C j b i) s
def sp_bind_lengths : Sp := PuF K (fun a : (Nat × (Nat → Nat → Int)) × (Nat × (Nat → Nat → Nat → Int)) × Nat => [.list (mp (a.2.2 + 1) fun s => rowD a.1.1 (a.1.2 s)), .list (mp a.1.1 fun j => .list (mp (a.2.2 + 1) fun s => rowD a.2.1.1 (a.2.1.2 j s)))])
  (fun a => BindOk a.1.1 a.1.2 a.2.1.1 a.2.1.2 a.2.2) fun a => .list (mp (a.2.2 + 1) fun s => rowD a.2.1.1 (bindS a.1.1 a.1.2 a.2.1.2 s))
def AgOk (n : Nat) (L : Nat → Nat → Int) (l : Nat → Bool) (T : Nat) : Prop := n ≤ 8 ∧ T ≤ 300 ∧ sumLt L n T ∧ ∀ s, s ≤ T → 0 ≤ tms (thr n l L) s ∧ tms (thr n l L) s ≤ 2 ^ 400
def agL (n : Nat) (L : Nat → Nat → Int) (l : Nat → Bool) (s i : Nat) : Int := if l i then conv (tms (thr n l L)) (fun b => L b i) s else 0
def sp_again_lengths : Sp := PuF K (fun a : (Nat × (Nat → Nat → Int)) × (Nat → Bool) × Nat => [.list (mp (a.2.2 + 1) fun s => rowD a.1.1 (a.1.2 s)), lotD a.1.1 a.2.1]) (fun a => AgOk a.1.1 a.1.2 a.2.1 a.2.2) fun a => .list (mp (a.2.2 + 1) fun s => rowD a.1.1 (agL a.1.1 a.1.2 a.2.1 s))
def sp_raw_lengths (n : Nat) : Sp := PuF K (fun a : Prog × Nat => [enc a.1, .int a.2]) (fun a => At n a.1 ∧ a.2 ≤ 300) fun a => lensD a.1 a.2
def sp_raw_made_tails : Sp := PuF K (fun a : Prog × Nat => [enc a.1, .int a.2]) (fun a => Wf a.1 3 ∧ a.2 ≤ 300) fun a => .list (mp (a.2 + 1) fun t => fr (tail a.1 t))
def sp_plain_cost : Sp := PuF K (fun p : Prog => [enc p]) (fun p => Fit p) fun p => fr (cost p)
def lenQ (p : Prog) (i t : Nat) : Rat := (len p t i : Rat) / p2 t
def sp_length_chance : Sp := PuF K (fun a : Prog × Nat × Nat => [enc a.1, .int a.2.1, .int a.2.2]) (fun a => Fit a.1 ∧ a.2.1 < outs a.1 ∧ a.2.2 ≤ 300) fun a => fr (lenQ a.1 a.2.1 a.2.2)
def sp_made_tail : Sp := PuF K (fun a : Prog × Nat => [enc a.1, .int a.2]) (fun a => Fit a.1 ∧ a.2 ≤ 300) fun a => fr (tail a.1 a.2)
/-! ### the law -/
def sp_law_deck : Sp := fun vs H Q _ => ∃ (a : Addr) (ns : List Int), vs = [.ref a] ∧ SqL K H a (ns.map V.int) ∧ True ∧ ns.length ≤ 63 ∧ ∀ d l H', H d = none → H l = none → DeckAt H' d l → Q (.ref d) H'
def sp_law_draw : Sp := PuDL K (fun m : Nat => [.int m]) (fun m => 1 ≤ m ∧ m < 2 ^ 60) fun m d => ∃ i : Nat, i < m ∧ d = .int i
def sp_law_pick : Sp := PuDL K (fun ns : List Int => [.list (ns.map PyData.int)]) (fun ns => 1 ≤ ns.length ∧ ns.length ≤ 100) fun ns d => ∃ i, i ∈ ns ∧ d = .int i
def sp_law_common : Sp := sp_divisor_of K
def sp_law_fraction : Sp := sp_lowest K
def sp_law_plus : Sp := sp_plus K
def sp_law_minus : Sp := sp_minus K
def sp_law_times : Sp := sp_times K
def sp_law_over : Sp := sp_over K
def sp_law_total : Sp := sp_total K
def sp_law_is_less : Sp := PuF K (fun a : Rat × Rat => [fr a.1, fr a.2]) (fun a => Sm a.1 ∧ Sm a.2) fun a => .bool (decide (a.1 < a.2))
def DrLaw (n : Nat) (d : PyData) : Prop := ∃ B a, Dr n B a ∧ d = tabD n (drT B a)
def sp_law_table : Sp := PuDL K (fun a : Nat × List Int => [.int a.1, .list (a.2.map PyData.int)]) (fun a => 1 ≤ a.1 ∧ a.1 ≤ 5 ∧ 1 ≤ a.2.length ∧ a.2.length ≤ 100 ∧ ∀ i, i ∈ a.2 → 2 ≤ i ∧ i ≤ 16) fun a d => DrLaw a.1 d
def sp_law_digits : Sp := PuF K (fun a : Rat × Nat => [fr a.1, .int a.2]) (fun a => Sm a.1 ∧ 0 ≤ a.1 ∧ a.2 ≤ 300) fun a => rowD (a.2 + 1) (dig a.1)
def sp_law_lot_chance : Sp := sp_raw_lot_chance K
def sp_law_outcomes (n : Nat) : Sp := sp_raw_outcomes K n
def sp_law_meaning (n : Nat) : Sp := sp_raw_meaning K n
def bdL (u : Nat → Int) (T : Nat) : Prop := ∀ s, s ≤ T → 0 ≤ u s ∧ u s ≤ 2 ^ 400
def sp_law_behind : Sp := PuF K (fun a : (Nat → Int) × (Nat → Int) × Nat => [rowD (a.2.2 + 1) a.1, rowD (a.2.2 + 1) a.2.1, .int a.2.2]) (fun a => a.2.2 ≤ 300 ∧ bdL a.1 a.2.2 ∧ bdL a.2.1 a.2.2) fun a => rowD (a.2.2 + 1) (conv a.1 a.2.1)
def sp_law_rows (n : Nat) : Sp := PuF K (fun a : Prog × Nat => [enc a.1, .int a.2]) (fun a => At n a.1 ∧ a.2 ≤ 300) fun a => rowsD (outs a.1) (len a.1) a.2
def sp_law_made_tail : Sp := PuF K (fun a : Prog × Nat × Nat => [rowsD (outs a.1) (len a.1) a.2.1, .int a.2.2]) (fun a => Wf a.1 3 ∧ a.2.1 ≤ 300 ∧ a.2.2 ≤ a.2.1) fun a => fr (tail a.1 a.2.2)
def lawFl (n : Nat) (f : Nat → Rat) (t : Nat) : Rat := 1 - sm n (fun i => ((f i * p2 t).floor : Rat)) / p2 t
def sp_law_floor : Sp := PuF K (fun a : (Nat × (Nat → Rat)) × Nat => [tabD a.1.1 a.1.2, .int a.2]) (fun a => Tab a.1.1 a.1.2 ∧ a.2 ≤ 300) fun a => fr (lawFl a.1.1 a.1.2 a.2)
def sp_law_bottoms : Sp := PuF K (fun _ : Unit => []) (fun _ => True) fun _ => .list (([2, 3, 4, 5, 2, 6, 8, 7, 3, 4, 10, 12, 16] : List Int).map PyData.int)
def ProgD (m d : Nat) (x : PyData) : Prop := ∃ p, x = enc p ∧ Wf p d ∧ outs p = m
def sp_law_closed (n : Nat) : Sp := PuDL K (fun a : Nat × Nat => [.int a.1, .int a.2]) (fun a => 1 ≤ a.1 ∧ a.1 ≤ 5 ∧ a.2 < n ∧ a.2 ≤ 3) fun a d => ProgD a.1 a.2 d
def sp_law_is_let : Sp := PuL K (fun a : Nat × (Nat → Rat) => [tabD a.1 a.2]) (fun a => Tab a.1 a.2) fun _ d => ∃ b, d = .bool b
def sp_law_size (n : Nat) : Sp := PuL K (fun p : Prog => [enc p]) (fun p => At n p) fun _ d => ∃ i : Int, d = .int i
def sp_law_parts (n : Nat) : Sp := PuF K (fun p : Prog => [enc p]) (fun p => At n p) fun p => .int (parts p)
def sp_law_program : Sp := PuDL K (fun m : Nat => [.int m]) (fun m => 1 ≤ m ∧ m ≤ 5) fun m d => ∃ p, d = enc p ∧ Fit p ∧ 1 ≤ outs p ∧ outs p ≤ m
def sp_law_are_lengths_right : Sp := PuDL K (fun a : Prog × Nat => [enc a.1, rowsD (outs a.1) (len a.1) a.2, .int a.2]) (fun a => Fit a.1 ∧ 1 ≤ outs a.1 ∧ a.2 ≤ 9) fun _ d => d = .bool true
def sp_law_falls : Sp := PuF K (fun a : Prog × Nat => [enc a.1, .int (outs a.1), .int a.2]) (fun a => Fit a.1 ∧ a.2 ≤ 9) fun _ => .bool true
def sp_law_is_far_right : Sp := PuDL K (fun _ : Unit => []) (fun _ => True) fun _ d => d = .bool true
def sp_law : Sp := fun vs H Q _ => ∃ (a : Addr) (ns : List Int), vs = [.ref a] ∧ SqL K H a (ns.map V.int) ∧ True ∧ ns.length ≤ 63 ∧ ∀ H', Q (.bl true) H'
end
end K39

set_option Elab.async false
set_option linter.all false
set_option maxRecDepth 100000
set_option maxHeartbeats 1000000
/-! Num: fractions, sizes: no program in sight -/
namespace K39
open PySem PySem.Spec PyProof.Rows L2
theorem den_pos (q : Rat) : (0 : Rat) < ((q.den : Nat) : Rat) := Rat.natCast_pos.mpr q.den_pos
theorem den_ne (q : Rat) : ((q.den : Nat) : Rat) ≠ 0 := fun e => by have := den_pos q; rw [e] at this; exact absurd this (by grind)
theorem rat_eq (q : Rat) : (q.num : Rat) / ((q.den : Nat) : Rat) = q := by
  have h := Rat.divInt_eq_div q.num (q.den : Int)
  rw [Rat.num_divInt_den, Rat.intCast_natCast] at h
  exact h.symm
theorem num_eq (q : Rat) : (q.num : Rat) = q * ((q.den : Nat) : Rat) := by
  have h := rat_eq q
  have := den_ne q
  grind
theorem fr_div (a b : Int) (hb : 0 < b) : fr ((a : Rat) / (b : Rat)) = .tuple [.int (a / (Int.gcd a b : Int)), .int (b / (Int.gcd a b : Int))] := by
  rw [← Rat.divInt_eq_div]
  unfold fr
  rw [Rat.num_divInt, Rat.den_divInt, if_neg (by omega), Int.sign_eq_one_of_pos hb, Int.one_mul, Int.gcd_comm b a, Int.natCast_ediv, Int.natAbs_of_nonneg (by omega)]
theorem p2_pos (k : Nat) : 0 < p2 k := Rat.natCast_pos.mpr (Nat.two_pow_pos k)
theorem p2_ne (k : Nat) : p2 k ≠ 0 := fun e => by have := p2_pos k; rw [e] at this; exact absurd this (by grind)
theorem p2_add (a b : Nat) : p2 (a + b) = p2 a * p2 b := by unfold p2; rw [Nat.pow_add, Rat.natCast_mul]
theorem p2_zero : p2 0 = 1 := rfl
theorem p2_succ (a : Nat) : p2 (a + 1) = 2 * p2 a := by rw [p2_add, show p2 1 = 2 from rfl]; grind
theorem p2_one (a : Nat) : 1 ≤ p2 a := by
  have : ((1 : Nat) : Rat) ≤ ((2 ^ a : Nat) : Rat) := Rat.natCast_le_natCast.mpr (Nat.one_le_two_pow)
  exact this
theorem p2_le {a b : Nat} (h : a ≤ b) : p2 a ≤ p2 b := Rat.natCast_le_natCast.mpr (Nat.pow_le_pow_right (by omega) h)

/-! ### common bottoms -/
theorem In.int {N : Nat} (h : 0 < N) (a : Int) : In N (a : Rat) := ⟨h, a * N, by
  have : ((N : Nat) : Rat) ≠ 0 := fun e => by have := Rat.natCast_pos.mpr h; rw [e] at this; exact absurd this (by grind)
  rw [Rat.intCast_mul, Rat.intCast_natCast]; grind⟩
theorem natne {N : Nat} (h : 0 < N) : ((N : Nat) : Rat) ≠ 0 := fun e => by have := Rat.natCast_pos.mpr h; rw [e] at this; exact absurd this (by grind)
theorem In.add {N : Nat} {q r : Rat} (h : In N q) (h' : In N r) : In N (q + r) := by
  obtain ⟨h0, a, rfl⟩ := h
  obtain ⟨_, b, rfl⟩ := h'
  exact ⟨h0, a + b, by rw [Rat.intCast_add]; have := natne h0; grind⟩
theorem In.sub {N : Nat} {q r : Rat} (h : In N q) (h' : In N r) : In N (q - r) := by
  obtain ⟨h0, a, rfl⟩ := h
  obtain ⟨_, b, rfl⟩ := h'
  exact ⟨h0, a - b, by rw [Rat.intCast_sub]; have := natne h0; grind⟩
theorem In.mul {N M : Nat} {q r : Rat} (h : In N q) (h' : In M r) : In (N * M) (q * r) := by
  obtain ⟨h0, a, rfl⟩ := h
  obtain ⟨h1, b, rfl⟩ := h'
  exact ⟨Nat.mul_pos h0 h1, a * b, by rw [Rat.intCast_mul, Rat.natCast_mul]; have := natne h0; have := natne h1; grind⟩
theorem In.up {N : Nat} {q : Rat} (h : In N q) {M : Nat} (hM : 0 < M) : In (N * M) q := by
  have := h.mul (In.int hM 1)
  rwa [show q * ((1 : Int) : Rat) = q by rw [Rat.intCast_one]; grind] at this
theorem In.dvd {N M : Nat} {q : Rat} (h : In N q) (hd : N ∣ M) (hM : 0 < M) : In M q := by
  obtain ⟨k, rfl⟩ := hd
  exact h.up (Nat.pos_of_ne_zero fun e => by subst e; simp at hM)
theorem In.zero {N : Nat} (h : 0 < N) : In N 0 := by simpa using In.int h 0
theorem In.sm {N n : Nat} {f : Nat → Rat} (h0 : 0 < N) (h : ∀ i, i < n → In N (f i)) : In N (sm n f) := by
  induction n with
  | zero => exact In.zero h0
  | succ n ih => exact (ih fun i hi => h i (by omega)).add (h n (by omega))
theorem In.den {N : Nat} {q : Rat} (h : In N q) : q.den ≤ N := by
  obtain ⟨h0, a, e⟩ := h
  have e' : q = Rat.divInt a (N : Int) := by rw [e, Rat.divInt_eq_div]; rfl
  rw [e', Rat.den_divInt, if_neg (by omega)]
  exact Nat.div_le_self _ _
theorem In.self (q : Rat) : In q.den q := ⟨q.den_pos, q.num, (rat_eq q).symm⟩
theorem Sm.of {N : Nat} {q : Rat} (h : In N q) (hN : N < 2 ^ 4000) (h0 : 0 ≤ q) (h1 : q ≤ p2 200) : Sm q := by
  have hd := h.den
  refine ⟨by omega, ?_⟩
  have hn : 0 ≤ q.num := Rat.num_nonneg.mpr h0
  have hle : (q.num : Rat) ≤ p2 200 * ((q.den : Nat) : Rat) := by
    rw [num_eq]
    exact Rat.mul_le_mul_of_nonneg_right h1 (Rat.le_of_lt (den_pos q))
  have hle2 : q.num ≤ (2 ^ 200 * q.den : Nat) := by
    have : (q.num : Rat) ≤ (((2 ^ 200 * q.den : Nat) : Int) : Rat) := by
      rw [Rat.intCast_natCast, Rat.natCast_mul]; exact hle
    exact Rat.intCast_le_intCast.mp this
  have h3 : q.num.natAbs ≤ 2 ^ 200 * q.den := by omega
  refine Nat.lt_of_le_of_lt h3 (Nat.lt_of_lt_of_le (Nat.mul_lt_mul_of_pos_left (show q.den < 2 ^ 4000 by omega) (Nat.two_pow_pos 200)) ?_)
  rw [← Nat.pow_add]
  exact Nat.pow_le_pow_right (by omega) (by omega)
theorem Sm.natnum {q : Rat} (h : Sm q) (h0 : 0 ≤ q) : q.num < 2 ^ 4400 := by
  have := h.2
  have hn : 0 ≤ q.num := Rat.num_nonneg.mpr h0
  have e : ((q.num.natAbs : Nat) : Int) < ((2 ^ 4400 : Nat) : Int) := Int.ofNat_lt.mpr this
  rw [Int.natAbs_of_nonneg hn] at e
  simpa using e
/-! ### what the machine asks of sizes -/
theorem bits_le {x : Int} {k : Nat} (h : x.natAbs < 2 ^ k) (hk : 1 ≤ k) : Builtin.Int.intBits x ≤ k := by
  have e : Builtin.Int.intBits x = if x = 0 then 0 else x.natAbs.log2 + 1 := by
    unfold Builtin.Int.intBits
    by_cases hx : x = 0
    · subst hx; rfl
    · simp [hx]
  rw [e]
  split
  · omega
  · rename_i hx
    have : x.natAbs.log2 < k := (Nat.log2_lt (by omega)).mpr h
    omega
theorem cmulx {i j : Int} {a b : Nat} (h1 : i.natAbs < 2 ^ a) (h2 : j.natAbs < 2 ^ b) (ha : 1 ≤ a := by omega) (hb : 1 ≤ b := by omega) (hab : a + b ≤ 100000 := by omega) : CMulX i j := by
  have := bits_le h1 ha
  have := bits_le h2 hb
  unfold CMulX
  omega
theorem cshl {i : Int} {k : Nat} {a : Nat} (h1 : i.natAbs < 2 ^ a) (ha : 1 ≤ a := by omega) (hab : a + k ≤ 100000 := by omega) : CShl i (k : Int) := by
  have := bits_le h1 ha
  unfold CShl
  refine ⟨by omega, ?_⟩
  have : (2 : Int) ^ 27 = 134217728 := by decide
  omega
theorem cdivw {i j : Int} (h : 0 < j) (h2 : j.natAbs < 2 ^ 9000) : CDivW i j := ⟨h, (Nat.log2_lt (by omega)).mpr h2⟩
theorem absmul {i j : Int} {a b : Nat} (h1 : i.natAbs < 2 ^ a) (h2 : j.natAbs < 2 ^ b) : (i * j).natAbs < 2 ^ (a + b) := by
  rw [Int.natAbs_mul, Nat.pow_add]
  exact Nat.mul_lt_mul'' h1 h2
theorem den_abs {q : Rat} (h : Sm q) : ((q.den : Nat) : Int).natAbs < 2 ^ 4000 := by rw [Int.natAbs_natCast]; exact h.1
/-! ### lists -/
section
variable {α β : Type} {n i : Nat} {f g : Nat → α}
theorem mp_len : (mp n f).length = n := by simp [mp]
theorem mp_get (h : i < n) : (mp n f)[i]? = some (f i) := by unfold mp; rw [List.getElem?_map, List.getElem?_range h]; rfl
theorem mp_get' {x : α} (h : (mp n f)[i]? = some x) : i < n ∧ x = f i := by
  by_cases hi : i < n
  · rw [mp_get hi] at h; exact ⟨hi, (Option.some.inj h).symm⟩
  · rw [List.getElem?_eq_none (by rw [mp_len]; omega)] at h; cases h
theorem mp_congr (h : ∀ i, i < n → f i = g i) : mp n f = mp n g := by
  unfold mp
  exact List.map_congr_left fun i hi => h i (List.mem_range.mp hi)
theorem mp_map {h : α → β} : (mp n f).map h = mp n fun i => h (f i) := by unfold mp; rw [List.map_map]; rfl
theorem mp_succ : mp (n + 1) f = mp n f ++ [f n] := by unfold mp; rw [List.range_succ, List.map_append]; rfl
theorem mp_succ' : mp (n + 1) f = f 0 :: mp n (fun i => f (i + 1)) := by unfold mp; rw [List.range_succ_eq_map, List.map_cons, List.map_map]; rfl
theorem mp_take {m : Nat} : (mp n f).take m = mp (min m n) f := by unfold mp; rw [← List.map_take, List.take_range]
theorem mp_set {j : Nat} {x : α} : (mp n f).set j x = mp n fun i => if i = j then x else f i := by
  refine List.ext_getElem? fun i => ?_
  by_cases hi : i < n
  · rw [mp_get hi]
    by_cases e : j = i
    · subst e; rw [List.getElem?_set_self (by rw [mp_len]; exact hi), if_pos rfl]
    · rw [List.getElem?_set_ne e, mp_get hi, if_neg (fun z => e z.symm)]
  · rw [List.getElem?_eq_none (by rw [List.length_set, mp_len]; omega), List.getElem?_eq_none (by rw [mp_len]; omega)]
theorem mp_mem {x : α} : x ∈ mp n f ↔ ∃ i, i < n ∧ f i = x := by unfold mp; simp
theorem mp_rep {x : α} : List.replicate n x = mp n fun _ => x := by
  unfold mp
  refine List.ext_getElem? fun i => ?_
  by_cases hi : i < n
  · rw [List.getElem?_replicate, if_pos hi, List.getElem?_map, List.getElem?_range hi]; rfl
  · rw [List.getElem?_eq_none (by simp; omega), List.getElem?_eq_none (by simp; omega)]
theorem rangeD_mp {n : Nat} : rangeD 0 n = mp n fun i => PyData.int (i : Int) := by
  unfold rangeD mp
  exact List.map_congr_left fun i _ => by rw [Int.zero_add]
end
theorem sum_mp (n : Nat) (f : Nat → Rat) : (mp n f).sum = sm n f := by
  induction n with
  | zero => rfl
  | succ n ih => rw [mp_succ, List.sum_append, ih]; simp only [sm, List.sum_cons, List.sum_nil]; grind
theorem sum_mpI (n : Nat) (f : Nat → Int) : (mp n f).sum = sm n f := sm_list n f
theorem lot_sum (n : Nat) (f : Nat → Rat) (l : Nat → Bool) : ((lotL n l).map f).sum = lotS n f l := by
  unfold lotL lotS
  induction n with
  | zero => rfl
  | succ n ih =>
    rw [List.range_succ, List.filter_append, List.map_append, List.sum_append, ih]
    simp only [sm]
    cases h : l n <;> simp [h] <;> grind
theorem lot_mem {n : Nat} {l : Nat → Bool} {i : Nat} : i ∈ lotL n l ↔ i < n ∧ l i = true := by unfold lotL; simp
theorem lot_memI {n : Nat} {l : Nat → Bool} {i : Nat} (hi : i < n) : decide ((i : Int) ∈ (lotL n l).map fun (i : Nat) => (i : Int)) = l i := by
  have : ((i : Int) ∈ (lotL n l).map fun (i : Nat) => (i : Int)) ↔ l i = true := by
    rw [List.mem_map]
    constructor
    · rintro ⟨j, hj, e⟩
      have : j = i := by omega
      subst this
      exact (lot_mem.mp hj).2
    · intro h
      exact ⟨i, lot_mem.mpr ⟨hi, h⟩, rfl⟩
  cases h : l i
  · rw [decide_eq_false]; rw [this, h]; simp
  · rw [decide_eq_true]; rw [this, h]
theorem lot_lenle (n : Nat) (l : Nat → Bool) : (lotL n l).length ≤ n := by
  unfold lotL
  exact Nat.le_trans (List.length_filter_le _ _) (by simp)
theorem lotD_ints (n : Nat) (l : Nat → Bool) : lotD n l = .tuple (((lotL n l).map fun (i : Nat) => (i : Int)).map PyData.int) := by unfold lotD; rw [List.map_map]; rfl
end K39

set_option Elab.async false
set_option linter.all false
set_option maxRecDepth 100000
set_option maxHeartbeats 0
/-! the head: each def's datum, facts by names, the run of the top (printed by gen_head.py) -/
namespace K39
open PySem PySem.Spec PyProof.Rows L2
def top (i : Nat) : Stmt := PySem.Challenge.pw_drawnbits_k39_whole_lengths_and_made_tai.main.body.getD i (.Pass ⟨0, 0, 0, 0⟩)
def mkD (i : Nat) (x : Str) : He.DefD := ⟨(x, none), x, x, defArgs (top i), defBody (top i), defScope (top i), [], []⟩
def fn0 : List He.DefD := [mkD 1 "is_integer", mkD 2 "is_between", mkD 3 "are_between", mkD 4 "is_count", mkD 5 "is_word", mkD 6 "is_ascending", mkD 7 "is_lot_value", mkD 11 "divisor_of", mkD 12 "is_fraction_value", mkD 13 "is_share_value", mkD 14 "lowest", mkD 15 "plus", mkD 16 "minus", mkD 17 "times", mkD 18 "over", mkD 19 "total", mkD 20 "whole_of", mkD 21 "shifted", mkD 22 "is_table_value", mkD 24 "power_by", mkD 25 "raw_rest", mkD 26 "raw_digit", mkD 27 "twos_of", mkD 28 "raw_figures", mkD 29 "sums_of"]
def fn1 : List He.DefD := [mkD 30 "raw_weight", mkD 38 "need_table", mkD 39 "need_count", mkD 41 "raw_floor", mkD 42 "raw_least_mean", mkD 43 "floor_at", mkD 45 "raw_lot_chance", mkD 46 "raw_given", mkD 47 "raw_renamed", mkD 48 "raw_mixed", mkD 54 "looked_at", mkD 55 "bind_looked_at", mkD 56 "again_looked_at", mkD 57 "map_looked_at", mkD 58 "are_of_one_size", mkD 59 "is_program_value", mkD 60 "need_closed", mkD 61 "raw_outcomes", mkD 62 "inner_of", mkD 63 "places_in", mkD 64 "raw_places", mkD 65 "raw_meaning", mkD 67 "raw_cost", mkD 68 "draw_lengths", mkD 69 "put_behind"]
def fn2 : List He.DefD := [mkD 70 "bind_lengths", mkD 71 "again_lengths", mkD 72 "raw_lengths", mkD 73 "raw_made_tails", mkD 75 "plain_cost", mkD 76 "length_chance", mkD 77 "made_tail", mkD 79 "_law_deck", mkD 80 "_law_draw", mkD 81 "_law_pick", mkD 82 "_law_common", mkD 83 "_law_fraction", mkD 84 "_law_plus", mkD 85 "_law_minus", mkD 86 "_law_times", mkD 87 "_law_over", mkD 88 "_law_total", mkD 89 "_law_is_less", mkD 90 "_law_table", mkD 91 "_law_digits", mkD 92 "_law_lot_chance", mkD 93 "_law_outcomes", mkD 94 "_law_meaning", mkD 95 "_law_behind", mkD 96 "_law_rows"]
def fn3 : List He.DefD := [mkD 97 "_law_made_tail", mkD 98 "_law_floor", mkD 99 "_law_bottoms", mkD 100 "_law_closed", mkD 101 "_law_is_let", mkD 102 "_law_size", mkD 103 "_law_parts", mkD 104 "_law_program", mkD 105 "_law_are_lengths_right", mkD 106 "_law_falls", mkD 107 "_law_is_far_right", mkD 108 "law"]
def fn : List He.DefD := fn0 ++ fn1 ++ fn2 ++ fn3
def fa0 : List He.Fa := [.glo "is_integer", .glo "is_between", .glo "are_between", .glo "is_count", .glo "is_word", .glo "is_ascending", .glo "is_lot_value", .glo "divisor_of", .glo "is_fraction_value", .glo "is_share_value", .glo "lowest", .glo "plus", .glo "minus", .glo "times", .glo "over", .glo "total", .glo "whole_of", .glo "shifted", .glo "is_table_value", .glo "power_by", .glo "raw_rest", .glo "raw_digit", .glo "twos_of", .glo "raw_figures", .glo "sums_of"]
def fa1 : List He.Fa := [.glo "raw_weight", .glo "need_table", .glo "need_count", .glo "raw_floor", .glo "raw_least_mean", .glo "floor_at", .glo "raw_lot_chance", .glo "raw_given", .glo "raw_renamed", .glo "raw_mixed", .glo "looked_at", .glo "bind_looked_at", .glo "again_looked_at", .glo "map_looked_at", .glo "are_of_one_size", .glo "is_program_value", .glo "need_closed", .glo "raw_outcomes", .glo "inner_of", .glo "places_in", .glo "raw_places", .glo "raw_meaning", .glo "raw_cost", .glo "draw_lengths", .glo "put_behind"]
def fa2 : List He.Fa := [.glo "bind_lengths", .glo "again_lengths", .glo "raw_lengths", .glo "raw_made_tails", .glo "plain_cost", .glo "length_chance", .glo "made_tail", .glo "_law_deck", .glo "_law_draw", .glo "_law_pick", .glo "_law_common", .glo "_law_fraction", .glo "_law_plus", .glo "_law_minus", .glo "_law_times", .glo "_law_over", .glo "_law_total", .glo "_law_is_less", .glo "_law_table", .glo "_law_digits", .glo "_law_lot_chance", .glo "_law_outcomes", .glo "_law_meaning", .glo "_law_behind", .glo "_law_rows"]
def fa3 : List He.Fa := [.glo "_law_made_tail", .glo "_law_floor", .glo "_law_bottoms", .glo "_law_closed", .glo "_law_is_let", .glo "_law_size", .glo "_law_parts", .glo "_law_program", .glo "_law_are_lengths_right", .glo "_law_falls", .glo "_law_is_far_right", .glo "law", .glo "ZERO", .glo "ONE", .int "MOST_OUTCOMES" 8, .int "MOST_NAME" 3, .int "MOST_PARTS" 40, .int "MOST_DEEP" 8, .free "abs", .free "all", .free "bool", .free "enumerate", .free "int", .free "isinstance", .free "len"]
def fa4 : List He.Fa := [.free "list", .free "max", .free "min", .free "range", .free "repr", .free "sorted", .free "str", .free "sum", .free "tuple", .free "zip"]
def fa : List He.Fa := fa0 ++ fa1 ++ fa2 ++ fa3 ++ fa4
def more (K : PySem.W.Frag) : Bool := He.tupB K "ZERO" [.int 0, .int 1] && He.tupB K "ONE" [.int 1, .int 1]
def loose0 : List Str := ["is_integer", "is_between", "are_between", "is_count", "is_word", "is_ascending", "is_lot_value", "divisor_of", "is_fraction_value", "is_share_value", "lowest", "plus", "minus", "times", "over", "total", "whole_of", "shifted", "is_table_value", "power_by", "raw_rest", "raw_digit", "twos_of", "raw_figures", "sums_of"]
def loose1 : List Str := ["raw_weight", "need_table", "need_count", "raw_floor", "raw_least_mean", "floor_at", "raw_lot_chance", "raw_given", "raw_renamed", "raw_mixed", "looked_at", "bind_looked_at", "again_looked_at", "map_looked_at", "are_of_one_size", "is_program_value", "need_closed", "raw_outcomes", "inner_of", "places_in", "raw_places", "raw_meaning", "raw_cost", "draw_lengths", "put_behind"]
def loose2 : List Str := ["bind_lengths", "again_lengths", "raw_lengths", "raw_made_tails", "plain_cost", "length_chance", "made_tail", "_law_deck", "_law_draw", "_law_pick", "_law_common", "_law_fraction", "_law_plus", "_law_minus", "_law_times", "_law_over", "_law_total", "_law_is_less", "_law_table", "_law_digits", "_law_lot_chance", "_law_outcomes", "_law_meaning", "_law_behind", "_law_rows"]
def loose3 : List Str := ["_law_made_tail", "_law_floor", "_law_bottoms", "_law_closed", "_law_is_let", "_law_size", "_law_parts", "_law_program", "_law_are_lengths_right", "_law_falls", "_law_is_far_right", "ZERO", "ONE", "DrawError", "BadTable", "BadOutcome", "BadNumber", "BadProgram", "MOST_OUTCOMES", "MOST_NAME", "MOST_PARTS", "MOST_DEEP"]
def loose : List Str := loose0 ++ loose1 ++ loose2 ++ loose3
abbrev LAWIX : Nat := 108
/-! the Hook: the library's, with one more Bool -/
abbrev AlM : Type := He.AlD × Bool
def obsM (K : PySem.W.Frag) : AlM := (He.obsD fa fn K, more K)
def codeR (g : Addr → Option Obj) (a : Addr) : List Addr := match g a with
  | some ⟨_, _, .func fd, _⟩ => He.refV fd.code
  | _ => []
def asM (g : Addr → Option Obj) : List Addr := match g mainGlobals with
  | some o => mainGlobals :: (He.refsO o ++ (He.refsO o).flatMap (codeR g))
  | none => []
def obsMG (g : Addr → Option Obj) : AlM := obsM (He.frG g (asM g))
def SaysM (K : PySem.W.Frag) : Prop := obsM K = (He.valD fn, true)
def hkM : PySem.W.Hook where
  α := AlM
  obs := fun s => obsMG s.heap.get?
  val := fun _ => (He.valD fn, true)
  says := fun _ h => ∃ K : PySem.W.Frag, K.In h ∧ SaysM K
  of := fun _ _ e => ⟨_, He.frG_in, e⟩
  keeps := fun _ _ _ ⟨K, hK, c⟩ k => ⟨K, PySem.W.Frag.In.keeps hK k, c⟩
abbrev R : PySem.W.OpenRow := PySem.W.OpenLaw.row PySem.Challenge.rw_drawnbits_k39_whole_lengths_and_made_tai
def ob (s : PySem.W.SharedT) : AlM := obsMG (HandSHeadRun.getT s)
theorem ob_eq (s : PySem.W.SharedT) : ob s = hkM.obs s.abs := by
  have e : HandSHeadRun.getT s = s.abs.heap.get? := funext (HandSHeadRun.getT_eq s)
  show obsMG (HandSHeadRun.getT s) = obsMG s.abs.heap.get?
  rw [e]
end K39

set_option Elab.async false
set_option linter.all false
set_option maxRecDepth 100000
set_option maxHeartbeats 1000000
namespace K39
open PySem PySem.Spec PyProof.Rows L2
section
variable {P : Program} {w : World} {K : PySem.W.Frag} {mg : Str → Option Value} {base : Heap}
abbrev nm_is_integer : List Str := ["thing"]
abbrev ps_is_integer : List Str := ["thing"]
abbrev nm_is_between : List Str := ["thing", "least", "most"]
abbrev ps_is_between : List Str := ["thing", "least", "most"]
abbrev nm_are_between : List Str := ["thing", "least", "most", "part"]
abbrev ps_are_between : List Str := ["thing", "least", "most"]
abbrev nm_is_count : List Str := ["thing"]
abbrev ps_is_count : List Str := ["thing"]
abbrev nm_is_word : List Str := ["thing", "word"]
abbrev ps_is_word : List Str := ["thing", "word"]
abbrev nm_is_ascending : List Str := ["some", "one", "other"]
abbrev ps_is_ascending : List Str := ["some"]
abbrev nm_is_lot_value : List Str := ["n", "thing"]
abbrev ps_is_lot_value : List Str := ["n", "thing"]
abbrev nm_divisor_of : List Str := ["one", "other"]
abbrev ps_divisor_of : List Str := ["one", "other"]
abbrev nm_is_fraction_value : List Str := ["thing"]
abbrev ps_is_fraction_value : List Str := ["thing"]
abbrev nm_is_share_value : List Str := ["thing"]
abbrev ps_is_share_value : List Str := ["thing"]
abbrev nm_lowest : List Str := ["top", "bottom", "common"]
abbrev ps_lowest : List Str := ["top", "bottom"]
abbrev nm_plus : List Str := ["one", "other"]
abbrev ps_plus : List Str := ["one", "other"]
abbrev nm_minus : List Str := ["one", "other"]
abbrev ps_minus : List Str := ["one", "other"]
abbrev nm_times : List Str := ["one", "other"]
abbrev ps_times : List Str := ["one", "other"]
abbrev nm_over : List Str := ["one", "other"]
abbrev ps_over : List Str := ["one", "other"]
abbrev nm_total : List Str := ["some", "found", "one"]
abbrev ps_total : List Str := ["some"]
abbrev nm_whole_of : List Str := ["one"]
abbrev ps_whole_of : List Str := ["one"]
abbrev nm_shifted : List Str := ["one", "k"]
abbrev ps_shifted : List Str := ["one", "k"]
abbrev nm_is_table_value : List Str := ["thing", "part"]
abbrev ps_is_table_value : List Str := ["thing"]
abbrev nm_power_by : List Str := ["k", "modulus", "found", "base", "left"]
abbrev ps_power_by : List Str := ["k", "modulus"]
abbrev nm_raw_rest : List Str := ["fraction", "k", "top", "bottom"]
abbrev ps_raw_rest : List Str := ["fraction", "k"]
abbrev nm_raw_digit : List Str := ["fraction", "k", "top", "bottom"]
abbrev ps_raw_digit : List Str := ["fraction", "k"]
abbrev nm_twos_of : List Str := ["number", "found"]
abbrev ps_twos_of : List Str := ["number"]
abbrev nm_raw_figures : List Str := ["fraction", "top", "bottom", "ahead", "left", "place", "digits", "first"]
abbrev ps_raw_figures : List Str := ["fraction"]
abbrev nm_sums_of : List Str := ["bits", "many", "plain", "heavy", "at", "bit"]
abbrev ps_sums_of : List Str := ["bits"]
abbrev nm_raw_weight : List Str := ["fraction", "whole", "ahead", "again", "found", "many", "size", "plain", "heavy", "first", "second"]
abbrev ps_raw_weight : List Str := ["fraction"]
abbrev nm_need_table : List Str := ["table"]
abbrev ps_need_table : List Str := ["table"]
abbrev nm_need_count : List Str := ["number"]
abbrev ps_need_count : List Str := ["number"]
abbrev nm_raw_floor : List Str := ["table", "t", "chance"]
abbrev ps_raw_floor : List Str := ["table", "t"]
abbrev nm_raw_least_mean : List Str := ["table", "chance"]
abbrev ps_raw_least_mean : List Str := ["table"]
abbrev nm_floor_at : List Str := ["table", "t"]
abbrev ps_floor_at : List Str := ["table", "t"]
abbrev nm_raw_lot_chance : List Str := ["table", "lot", "i"]
abbrev ps_raw_lot_chance : List Str := ["table", "lot"]
abbrev nm_raw_given : List Str := ["table", "lot", "whole", "i", "chance"]
abbrev ps_raw_given : List Str := ["table", "lot"]
abbrev nm_raw_renamed : List Str := ["table", "names", "many", "i", "chance", "name"]
abbrev ps_raw_renamed : List Str := ["table", "names", "many"]
abbrev nm_raw_mixed : List Str := ["table", "tables", "found", "i", "chance", "part"]
abbrev ps_raw_mixed : List Str := ["table", "tables"]
abbrev nm_looked_at : List Str := ["thing", "deep", "is_right"]
abbrev ps_looked_at : List Str := ["thing", "deep"]
abbrev nm_bind_looked_at : List Str := ["thing", "deep", "first", "cases", "case", "places", "parts"]
abbrev ps_bind_looked_at : List Str := ["thing", "deep"]
abbrev nm_again_looked_at : List Str := ["thing", "deep", "found"]
abbrev ps_again_looked_at : List Str := ["thing", "deep"]
abbrev nm_map_looked_at : List Str := ["thing", "deep", "found"]
abbrev ps_map_looked_at : List Str := ["thing", "deep"]
abbrev nm_are_of_one_size : List Str := ["places", "sizes", "name", "many"]
abbrev ps_are_of_one_size : List Str := ["places"]
abbrev nm_is_program_value : List Str := ["thing", "found"]
abbrev ps_is_program_value : List Str := ["thing"]
abbrev nm_need_closed : List Str := ["program"]
abbrev ps_need_closed : List Str := ["program"]
abbrev nm_raw_outcomes : List Str := ["program", "word"]
abbrev ps_raw_outcomes : List Str := ["program"]
abbrev nm_inner_of : List Str := ["program"]
abbrev ps_inner_of : List Str := ["program"]
abbrev nm_places_in : List Str := ["program", "found", "part"]
abbrev ps_places_in : List Str := ["program"]
abbrev nm_raw_meaning : List Str := ["program", "word", "i", "case"]
abbrev ps_raw_meaning : List Str := ["program"]
abbrev nm_raw_cost : List Str := ["program", "word", "first", "chances", "chance", "case"]
abbrev ps_raw_cost : List Str := ["program"]
abbrev nm_draw_lengths : List Str := ["table", "t", "found", "chance", "s"]
abbrev ps_draw_lengths : List Str := ["table", "t"]
abbrev nm_put_behind : List Str := ["found", "s", "ways", "case", "more", "row", "outcome", "number"]
abbrev ps_put_behind : List Str := ["found", "s", "ways", "case"]
abbrev nm_bind_lengths : List Str := ["first", "cases", "found", "row", "s", "ways", "case"]
abbrev ps_bind_lengths : List Str := ["first", "cases"]
abbrev nm_again_lengths : List Str := ["inner", "lot", "found", "s", "row", "ended", "less", "ways", "outcome", "number", "more"]
abbrev ps_again_lengths : List Str := ["inner", "lot"]
abbrev nm_raw_lengths : List Str := ["program", "t", "word", "row", "outcome", "s", "inner", "case", "found", "named", "number", "name"]
abbrev ps_raw_lengths : List Str := ["program", "t"]
abbrev nm_raw_made_tails : List Str := ["program", "t", "found", "left", "s", "row"]
abbrev ps_raw_made_tails : List Str := ["program", "t"]
abbrev nm_plain_cost : List Str := ["program"]
abbrev ps_plain_cost : List Str := ["program"]
abbrev nm_length_chance : List Str := ["program", "outcome", "t"]
abbrev ps_length_chance : List Str := ["program", "outcome", "t"]
abbrev nm_made_tail : List Str := ["program", "t"]
abbrev ps_made_tail : List Str := ["program", "t"]
abbrev nm_law_deck : List Str := ["_law_script", "_law_mixed", "_law_cell"]
abbrev ps_law_deck : List Str := ["_law_script"]
abbrev nm_law_draw : List Str := ["_law_deck_here", "_law_many", "_law_number", "_law_cell"]
abbrev ps_law_draw : List Str := ["_law_deck_here", "_law_many"]
abbrev nm_law_pick : List Str := ["_law_deck_here", "_law_some"]
abbrev ps_law_pick : List Str := ["_law_deck_here", "_law_some"]
abbrev nm_law_common : List Str := ["_law_one", "_law_other"]
abbrev ps_law_common : List Str := ["_law_one", "_law_other"]
abbrev nm_law_fraction : List Str := ["_law_top", "_law_bottom", "_law_part"]
abbrev ps_law_fraction : List Str := ["_law_top", "_law_bottom"]
abbrev nm_law_plus : List Str := ["_law_one", "_law_other"]
abbrev ps_law_plus : List Str := ["_law_one", "_law_other"]
abbrev nm_law_minus : List Str := ["_law_one", "_law_other"]
abbrev ps_law_minus : List Str := ["_law_one", "_law_other"]
abbrev nm_law_times : List Str := ["_law_one", "_law_other"]
abbrev ps_law_times : List Str := ["_law_one", "_law_other"]
abbrev nm_law_over : List Str := ["_law_one", "_law_other"]
abbrev ps_law_over : List Str := ["_law_one", "_law_other"]
abbrev nm_law_total : List Str := ["_law_some", "_law_found", "_law_it"]
abbrev ps_law_total : List Str := ["_law_some"]
abbrev nm_law_is_less : List Str := ["_law_one", "_law_other"]
abbrev ps_law_is_less : List Str := ["_law_one", "_law_other"]
abbrev nm_law_table : List Str := ["_law_deck_here", "_law_n", "_law_bottoms_here", "_law_bottom", "_law_parts_here", "_law_left", "_law_at", "_law_part"]
abbrev ps_law_table : List Str := ["_law_deck_here", "_law_n", "_law_bottoms_here"]
abbrev nm_law_digits : List Str := ["_law_fraction_here", "_law_most", "_law_top", "_law_bottom", "_law_found", "_law_k"]
abbrev ps_law_digits : List Str := ["_law_fraction_here", "_law_most"]
abbrev nm_law_lot_chance : List Str := ["_law_table_here", "_law_lot", "_law_at"]
abbrev ps_law_lot_chance : List Str := ["_law_table_here", "_law_lot"]
abbrev nm_law_outcomes : List Str := ["_law_program_here"]
abbrev ps_law_outcomes : List Str := ["_law_program_here"]
abbrev nm_law_meaning : List Str := ["_law_program_here", "_law_word", "_law_n", "_law_at", "_law_some", "_law_found", "_law_chance", "_law_case", "_law_x", "_law_y", "_law_part", "_law_it", "_law_name"]
abbrev ps_law_meaning : List Str := ["_law_program_here"]
abbrev nm_law_behind : List Str := ["_law_one", "_law_other", "_law_most", "_law_found", "_law_at", "_law_many", "_law_length"]
abbrev ps_law_behind : List Str := ["_law_one", "_law_other", "_law_most"]
abbrev nm_law_rows : List Str := ["_law_program_here", "_law_most", "_law_word", "_law_n", "_law_at", "_law_it", "_law_some", "_law_found", "_law_name", "_law_row", "_law_x", "_law_y", "_law_case", "_law_later", "_law_thrown", "_law_times_here", "_law_length", "_law_k"]
abbrev ps_law_rows : List Str := ["_law_program_here", "_law_most"]
abbrev nm_law_made_tail : List Str := ["_law_rows_here", "_law_t", "_law_left", "_law_row", "_law_length", "_law_many"]
abbrev ps_law_made_tail : List Str := ["_law_rows_here", "_law_t"]
abbrev nm_law_floor : List Str := ["_law_table_here", "_law_t", "_law_top", "_law_bottom"]
abbrev ps_law_floor : List Str := ["_law_table_here", "_law_t"]
abbrev nm_law_bottoms : List Str := []
abbrev ps_law_bottoms : List Str := []
abbrev nm_law_closed : List Str := ["_law_deck_here", "_law_n", "_law_deep", "_law_way", "_law_k", "_law_first", "_law_cases", "_law_at", "_law_inner", "_law_lot"]
abbrev ps_law_closed : List Str := ["_law_deck_here", "_law_n", "_law_deep"]
abbrev nm_law_is_let : List Str := ["_law_table_here", "_law_top", "_law_bottom"]
abbrev ps_law_is_let : List Str := ["_law_table_here"]
abbrev nm_law_size : List Str := ["_law_program_here", "_law_many", "_law_top", "_law_bottom", "_law_odd", "_law_places", "_law_size_here", "_law_case"]
abbrev ps_law_size : List Str := ["_law_program_here"]
abbrev nm_law_parts : List Str := ["_law_program_here", "_law_found", "_law_case"]
abbrev ps_law_parts : List Str := ["_law_program_here"]
abbrev nm_law_program : List Str := ["_law_deck_here", "_law_most", "_law_n", "_law_program_here"]
abbrev ps_law_program : List Str := ["_law_deck_here", "_law_most"]
abbrev nm_law_are_lengths_right : List Str := ["_law_deck_here", "_law_program_here", "_law_rows_here", "_law_most", "_law_table_here", "_law_tails", "_law_t", "_law_turn", "_law_due", "_law_told", "_law_i", "_law_floor_here"]
abbrev ps_law_are_lengths_right : List Str := ["_law_deck_here", "_law_program_here", "_law_rows_here", "_law_most"]
abbrev nm_law_falls : List Str := ["_law_program_here", "_law_n", "_law_t", "_law_some", "_law_i"]
abbrev ps_law_falls : List Str := ["_law_program_here", "_law_n", "_law_t"]
abbrev nm_law_is_far_right : List Str := ["_law_deck_here", "_law_table_here", "_law_program_here", "_law_t", "_law_i", "_law_due"]
abbrev ps_law_is_far_right : List Str := ["_law_deck_here"]
abbrev nm_law : List Str := ["_law_script", "_law_deck_here", "_law_turn", "_law_rows_here", "_law_program_here", "_law_most"]
abbrev ps_law : List Str := ["_law_script"]
abbrev ps_raw_places : List Str := ["program"]
end
end K39

set_option Elab.async false
set_option linter.all false
set_option maxRecDepth 100000
set_option maxHeartbeats 1000000
namespace K39
open PySem PySem.Spec PyProof.Rows L2
section
variable {P : Program} {w : World} {K : PySem.W.Frag} {mg : Str → Option Value} {base : Heap}
theorem sc_is_integer : FnScope nm_is_integer ps_is_integer (defScope (top 1)) := ⟨rfl, rfl, rfl, by decide +kernel, rfl, by decide +kernel, by decide +kernel⟩
def t_is_integer (K : PySem.W.Frag) : TS := (tRet (tAndV (tCB (rIsi K) (tCons (tVar 0) (tCons (tC (.ty "int")) tNil))) (tNotV (tCB (rIsi K) (tCons (tVar 0) (tCons (tC (.ty "bool")) tNil))))))
theorem tm_is_integer {f : Addr} (T : Top K mg) (cdv : Value) (A : Around) (outer : List PySem.Env) (s : Shared) (H : Hp) (E : XK) : Room 0 (A.deeper (envOfC "is_integer" (defScope (top 1)) s.heap.objs.size f cdv)) → PSs (cxOf CX0 P w K mg base nm_is_integer "is_integer" (defScope (top 1)) f cdv A outer s H E).nox (defBody (top 1)) (t_is_integer K) := fun hr => by
  have nd := sc_is_integer.nd
  exact (pss_one (ps_ret (pe_and (pe_callB call_isi (by rfl) T.n_isinstance bt_isinstance (pa_cons (pv 0) (pa_cons (pe_bltn (v := .ty "int") (by rfl) T.n_int bt_int rfl) pa_nil))) (pe_one (pe_not (pe_callB call_isi (by rfl) T.n_isinstance bt_isinstance (pa_cons (pv 0) (pa_cons (pe_bltn (v := .ty "bool") (by rfl) T.n_bool bt_bool rfl) pa_nil))))))))
theorem sc_is_fraction_value : FnScope nm_is_fraction_value ps_is_fraction_value (defScope (top 12)) := ⟨rfl, rfl, rfl, by decide +kernel, rfl, by decide +kernel, by decide +kernel⟩
def t_is_fraction_value (K : PySem.W.Frag) : TS := (tSeq (tIfS (tOr (tNot (tB (tCB (rIsi K) (tCons (tVar 0) (tCons (tC (.ty "tuple")) tNil))))) (tOr (tTest (tOp rNe (tCB (rLenQ K) (tCons (tVar 0) tNil)) (tC (.int 2)))) (tOr (tNot (tB (tCall (sp_is_integer K) [] E0 (tCons (tOp (rIx K) (tVar 0) (tC (.int 0))) tNil)))) (tNot (tB (tCall (sp_is_integer K) [] E0 (tCons (tOp (rIx K) (tVar 0) (tC (.int 1))) tNil))))))) (tRet (tC (.bl false))) tNext) (tRet (tAndV (tOp rGtI (tOp (rIx K) (tVar 0) (tC (.int 1))) (tC (.int 0))) (tOp rEq (tCall (sp_divisor_of K) [] E0 (tCons (tOp (rIx K) (tVar 0) (tC (.int 0))) (tCons (tOp (rIx K) (tVar 0) (tC (.int 1))) tNil))) (tC (.int 1))))))
theorem tm_is_fraction_value {f : Addr} (T : Top K mg) (c_is_integer : Cal P w K mg base "is_integer" 1 ps_is_integer (sp_is_integer K)) (c_divisor_of : Cal P w K mg base "divisor_of" 1 ps_divisor_of (sp_divisor_of K)) (cdv : Value) (A : Around) (outer : List PySem.Env) (s : Shared) (H : Hp) (E : XK) : Room 1 (A.deeper (envOfC "is_fraction_value" (defScope (top 12)) s.heap.objs.size f cdv)) → PSs (cxOf CX0 P w K mg base nm_is_fraction_value "is_fraction_value" (defScope (top 12)) f cdv A outer s H E).nox (defBody (top 12)) (t_is_fraction_value K) := fun hr => by
  have nd := sc_is_fraction_value.nd
  exact (pss_cons (ps_if (PW.pt (pw_or (pt_not (pt_val (pe_callB call_isi (by rfl) T.n_isinstance bt_isinstance (pa_cons (pv 0) (pa_cons (pe_bltn (v := .ty "tuple") (by rfl) T.n_tuple bt_tuple rfl) pa_nil))))) (pw_or (pt_cmpR op_ne (pe_callB call_len_seq (by rfl) T.n_len bt_len (pa_cons (pv 0) pa_nil)) pe_int (nomark _)) (pw_or (pt_not (pt_val (pe_cal c_is_integer (hr.mono (by omega)) (by rfl) (pa_cons (pe_ix ix_seq (pv 0) pe_int (fun _ _ => rfl)) pa_nil)))) (pw_or1 (pt_not (pt_val (pe_cal c_is_integer (hr.mono (by omega)) (by rfl) (pa_cons (pe_ix ix_seq (pv 0) pe_int (fun _ _ => rfl)) pa_nil))))))))) (pss_one (ps_ret pe_bl)) pss_nil) (pss_one (ps_ret (pe_and (pe_cmpR op_gt (pe_ix ix_seq (pv 0) pe_int (fun _ _ => rfl)) pe_int (nomark _)) (pe_one (pe_cmpR op_eq (pe_cal c_divisor_of (hr.mono (by omega)) (by rfl) (pa_cons (pe_ix ix_seq (pv 0) pe_int (fun _ _ => rfl)) (pa_cons (pe_ix ix_seq (pv 0) pe_int (fun _ _ => rfl)) pa_nil))) pe_int (nomark _)))))))
theorem sc_whole_of : FnScope nm_whole_of ps_whole_of (defScope (top 20)) := ⟨rfl, rfl, rfl, by decide +kernel, rfl, by decide +kernel, by decide +kernel⟩
def t_whole_of (K : PySem.W.Frag) : TS := (tRet (tOp rDivW (tOp (rIx K) (tVar 0) (tC (.int 0))) (tOp (rIx K) (tVar 0) (tC (.int 1)))))
theorem tm_whole_of {f : Addr} (T : Top K mg) (cdv : Value) (A : Around) (outer : List PySem.Env) (s : Shared) (H : Hp) (E : XK) : Room 0 (A.deeper (envOfC "whole_of" (defScope (top 20)) s.heap.objs.size f cdv)) → PSs (cxOf CX0 P w K mg base nm_whole_of "whole_of" (defScope (top 20)) f cdv A outer s H E).nox (defBody (top 20)) (t_whole_of K) := fun hr => by
  have nd := sc_whole_of.nd
  exact (pss_one (ps_ret (pe_op op_fdivW (pe_ix ix_seq (pv 0) pe_int (fun _ _ => rfl)) (pe_ix ix_seq (pv 0) pe_int (fun _ _ => rfl)))))
theorem sc_sums_of : FnScope nm_sums_of ps_sums_of (defScope (top 29)) := ⟨rfl, rfl, rfl, by decide +kernel, rfl, by decide +kernel, by decide +kernel⟩
def t_sums_of (K : PySem.W.Frag) : TS := (tSeq (tPar3 1 2 3 (tCons (tCB (rLenQ K) (tCons (tVar 0) tNil)) (tCons (tC (.int 0)) (tCons (tC (.int 0)) tNil)))) (tSeq (tFor (iEnumS K (tCons (tVar 0) tNil)) (gTup K 2 (gCons (gName 4) (gCons (gName 5) gNil))) (tIfS (tTest (tOp rEq (tVar 5) (tC (.int 1)))) (tSeq (tAug 2 (tOp rShlW (tC (.int 1)) (tOp rMinus (tOp rMinus (tVar 1) (tC (.int 1))) (tVar 4))) (ipI fun i j => i + j)) (tAug 3 (tOp rShlW (tOp rPlus (tVar 4) (tC (.int 1))) (tOp rMinus (tOp rMinus (tVar 1) (tC (.int 1))) (tVar 4))) (ipI fun i j => i + j))) tNext)) (tRet (tTup (tCons (tCall (sp_lowest K) [] E0 (tCons (tVar 2) (tCons (tOp rShlW (tC (.int 1)) (tVar 1)) tNil))) (tCons (tCall (sp_lowest K) [] E0 (tCons (tVar 3) (tCons (tOp rShlW (tC (.int 1)) (tVar 1)) tNil))) tNil))))))
theorem tm_sums_of {f : Addr} (T : Top K mg) (c_lowest : Cal P w K mg base "lowest" 2 ps_lowest (sp_lowest K)) (cdv : Value) (A : Around) (outer : List PySem.Env) (s : Shared) (H : Hp) (E : XK) : Room 2 (A.deeper (envOfC "sums_of" (defScope (top 29)) s.heap.objs.size f cdv)) → PSs (cxOf CX0 P w K mg base nm_sums_of "sums_of" (defScope (top 29)) f cdv A outer s H E).nox (defBody (top 29)) (t_sums_of K) := fun hr => by
  have nd := sc_sums_of.nd
  exact (pss_cons (ps_par3 (i := 1) (j := 2) (l := 3) (by rfl) nd rfl rfl rfl (by decide) (by decide) (by decide) rfl rfl rfl (pa_cons (pe_callB call_len_seq (by rfl) T.n_len bt_len (pa_cons (pv 0) pa_nil)) (pa_cons pe_int (pa_cons pe_int pa_nil))) (by rfl)) (pss_cons (ps_for PassesOwn.never rfl (pi_enumS (by rfl) T.n_enumerate (pa_cons (pv 0) pa_nil)) (pg_tup rfl (pgs_cons (pg_name (i := 4) nd rfl (Or.inl rfl)) (pgs_cons (pg_name (i := 5) nd rfl (Or.inl rfl)) pgs_nil))) (pss_one (ps_if (pt_cmpR op_eq (pv 5) pe_int (nomark _)) (pss_cons (ps_aug (i := 2) nd rfl (Or.inl rfl) (pe_op op_shlW pe_int (pe_op op_sub (pe_op op_sub (pv 1) pe_int) (pv 4))) ip_add) (pss_one (ps_aug (i := 3) nd rfl (Or.inl rfl) (pe_op op_shlW (pe_op op_add (pv 4) pe_int) (pe_op op_sub (pe_op op_sub (pv 1) pe_int) (pv 4))) ip_add))) pss_nil))) (pss_one (ps_ret (pe_tup (pa_cons (pe_cal c_lowest (hr.mono (by omega)) (by rfl) (pa_cons (pv 2) (pa_cons (pe_op op_shlW pe_int (pv 1)) pa_nil))) (pa_cons (pe_cal c_lowest (hr.mono (by omega)) (by rfl) (pa_cons (pv 3) (pa_cons (pe_op op_shlW pe_int (pv 1)) pa_nil))) pa_nil)))))))
theorem sc_raw_given : FnScope nm_raw_given ps_raw_given (defScope (top 46)) := ⟨rfl, rfl, rfl, by decide +kernel, rfl, by decide +kernel, by decide +kernel⟩
def t_raw_given (K : PySem.W.Frag) : TS := (tSeq (tAsg (tCall (sp_raw_lot_chance K) [] E0 (tCons (tVar 0) (tCons (tVar 1) tNil))) (gName 2)) (tRet (tCB (rTupQ K) (tCons (tLc (iEnumS K (tCons (tVar 0) tNil)) (gTup K 2 (gCons (gName 3) (gCons (gName 4) gNil))) tYes (tIf (tTest (tOp (rIn K false) (tVar 3) (tVar 1))) (tCall (sp_over K) [] E0 (tCons (tVar 4) (tCons (tVar 2) tNil))) (tC (.ref (He.ga K "ZERO")))) [3, 4]) tNil))))
theorem tm_raw_given {f : Addr} (T : Top K mg) (c_raw_lot_chance : Cal P w K mg base "raw_lot_chance" 5 ps_raw_lot_chance (sp_raw_lot_chance K)) (c_over : Cal P w K mg base "over" 3 ps_over (sp_over K)) (cdv : Value) (A : Around) (outer : List PySem.Env) (s : Shared) (H : Hp) (E : XK) : Room 5 (A.deeper (envOfC "raw_given" (defScope (top 46)) s.heap.objs.size f cdv)) → PSs (cxOf CX0 P w K mg base nm_raw_given "raw_given" (defScope (top 46)) f cdv A outer s H E).nox (defBody (top 46)) (t_raw_given K) := fun hr => by
  have nd := sc_raw_given.nd
  exact (pss_cons (ps_set (i := 2) nd rfl (Or.inr rfl) (pe_cal c_raw_lot_chance (hr.mono (by omega)) (by rfl) (pa_cons (pv 0) (pa_cons (pv 1) pa_nil)))) (pss_one (ps_ret (pe_callTy call_tuple_of (by rfl) T.n_tuple bt_tuple (pa_cons (pe_lc (own := [("i", 3), ("chance", 4)]) (by rfl) nd (pi_enumS (by rfl) T.n_enumerate (pa_cons (pv 0) pa_nil)) (blkOk_by (N := nm_raw_given) (sc := defScope (top 46)) (by decide +kernel)) (fun _ _ _ _ _ => (pg_tup rfl (pgs_cons (pg_name (i := 3) nd rfl (by first | exact Or.inl rfl | exact Or.inr rfl)) (pgs_cons (pg_name (i := 4) nd rfl (by first | exact Or.inl rfl | exact Or.inr rfl)) pgs_nil)))) (fun _ _ _ _ _ => pts_nil) (fun _ _ _ _ _ => (pe_ifExp (pt_cmpR op_in_seq (pv 3) (pv 1) (by rfl)) (pe_cal c_over (hr.mono (by omega)) (by rfl) (pa_cons (pv 4) (pa_cons (pv 2) pa_nil))) (pe_glob rfl T.zero rfl)))) pa_nil)))))
theorem sc_is_program_value : FnScope nm_is_program_value ps_is_program_value (defScope (top 59)) := ⟨rfl, rfl, rfl, by decide +kernel, rfl, by decide +kernel, by decide +kernel⟩
def t_is_program_value (K : PySem.W.Frag) : TS := (tSeq (tAsg (tCall (sp_looked_at K 4) [] E0 (tCons (tVar 0) (tCons (tC (.int 0)) tNil))) (gName 1)) (tRet (tAndV (tOp rNotNone (tVar 1) (tC .non)) (tAndV (tOp rLeI (tOp (rIx K) (tVar 1) (tC (.int 2))) (tC (.int 40))) (tCall (sp_are_of_one_size K) [] E0 (tCons (tOp (rIx K) (tVar 1) (tC (.int 1))) tNil))))))
theorem tm_is_program_value {f : Addr} (T : Top K mg) (c_looked_at : Cal P w K mg base "looked_at" 15 ps_looked_at (sp_looked_at K 4)) (c_are_of_one_size : Cal P w K mg base "are_of_one_size" 1 ps_are_of_one_size (sp_are_of_one_size K)) (cdv : Value) (A : Around) (outer : List PySem.Env) (s : Shared) (H : Hp) (E : XK) : Room 15 (A.deeper (envOfC "is_program_value" (defScope (top 59)) s.heap.objs.size f cdv)) → PSs (cxOf CX0 P w K mg base nm_is_program_value "is_program_value" (defScope (top 59)) f cdv A outer s H E).nox (defBody (top 59)) (t_is_program_value K) := fun hr => by
  have nd := sc_is_program_value.nd
  exact (pss_cons (ps_set (i := 1) nd rfl (Or.inl rfl) (pe_cal c_looked_at (hr.mono (by omega)) (by rfl) (pa_cons (pv 0) (pa_cons pe_int pa_nil)))) (pss_one (ps_ret (pe_and (pe_cmpR op_notN (pv 1) pe_non (nomark _)) (pe_and (pe_cmpR op_le (pe_ix ix_seq (pv 1) pe_int (fun _ _ => rfl)) (pe_cst rfl T.most_parts) (nomark _)) (pe_one (pe_cal c_are_of_one_size (hr.mono (by omega)) (by rfl) (pa_cons (pe_ix ix_seq (pv 1) pe_int (fun _ _ => rfl)) pa_nil))))))))
theorem sc_put_behind : FnScope nm_put_behind ps_put_behind (defScope (top 69)) := ⟨rfl, rfl, rfl, by decide +kernel, rfl, by decide +kernel, by decide +kernel⟩
def t_put_behind (K : PySem.W.Frag) : TS := (tFor (iRng1 (tCons (tOp rMinus (tCB (rLenQ K) (tCons (tVar 0) tNil)) (tVar 1)) tNil)) (gName 4) (tSeq (tAsg (tOp (rIx K) (tVar 0) (tOp rPlus (tVar 1) (tVar 4))) (gName 5)) (tFor (iEnumS K (tCons (tOp (rIx K) (tVar 3) (tVar 4)) tNil)) (gTup K 2 (gCons (gName 6) (gCons (gName 7) gNil))) (tAugS (tVar 5) (tVar 6) (tOp rMulX (tVar 2) (tVar 7)) (gIxL K) (ipI fun i j => i + j) rSetL))))
theorem tm_put_behind {f : Addr} (T : Top K mg) (cdv : Value) (A : Around) (outer : List PySem.Env) (s : Shared) (H : Hp) (E : XK) : Room 0 (A.deeper (envOfC "put_behind" (defScope (top 69)) s.heap.objs.size f cdv)) → PSs (cxOf CX0 P w K mg base nm_put_behind "put_behind" (defScope (top 69)) f cdv A outer s H E).nox (defBody (top 69)) (t_put_behind K) := fun hr => by
  have nd := sc_put_behind.nd
  exact (pss_one (ps_for PassesOwn.never rfl (pi_range1 (by rfl) T.n_range (pa_cons (pe_op op_sub (pe_callB call_len_seq (by rfl) T.n_len bt_len (pa_cons (pv 0) pa_nil)) (pv 1)) pa_nil)) (pg_name (i := 4) nd rfl (Or.inl rfl)) (pss_cons (ps_set (i := 5) nd rfl (Or.inl rfl) (pe_ix ix_seq (pv 0) (pe_op op_add (pv 1) (pv 4)) (fun _ _ => rfl))) (pss_one (ps_for PassesOwn.never rfl (pi_enumS (by rfl) T.n_enumerate (pa_cons (pe_ix ix_seq (pv 3) (pv 4) (fun _ _ => rfl)) pa_nil)) (pg_tup rfl (pgs_cons (pg_name (i := 6) nd rfl (Or.inl rfl)) (pgs_cons (pg_name (i := 7) nd rfl (Or.inl rfl)) pgs_nil))) (pss_one (ps_augS (pv 5) (pv 6) pget_list (pe_op op_mulX (pv 2) (pv 7)) ip_add set_list)))))))
theorem sc_law_deck : FnScope nm_law_deck ps_law_deck (defScope (top 79)) := ⟨rfl, rfl, rfl, by decide +kernel, rfl, by decide +kernel, by decide +kernel⟩
def t_law_deck (K : PySem.W.Frag) : TS := (tSeq (tAsg (tC (.int 13736028)) (gName 1)) (tSeq (tFor (iSeq K (tSl (rSlL K) (tVar 0) tNoPart (tPart (tC (.int 63))))) (gName 2) (tAsg (tOp rModP (tCB (rIntQ) (tCons (tOp rPlus (tOp rPlus (tOp rMul1 (tVar 1) (tC (.int 69621))) (tOp rModP (tCB (rIntQ) (tCons (tVar 2) tNil)) (tC (.int 2147483629)))) (tC (.int 137))) tNil)) (tC (.int 2147483587))) (gName 1))) (tRet (tDisp [((tC (.str "cells")), (tRevL K (tCB (rListQ K) (tCons (tSl (rSlL K) (tVar 0) tNoPart (tPart (tC (.int 63)))) tNil)))), ((tC (.str "mixed")), (tVar 1)), ((tC (.str "draws")), (tC (.int 0)))]))))
theorem tm_law_deck {f : Addr} (T : Top K mg) (cdv : Value) (A : Around) (outer : List PySem.Env) (s : Shared) (H : Hp) (E : XK) : Room 0 (A.deeper (envOfC "_law_deck" (defScope (top 79)) s.heap.objs.size f cdv)) → PSs (cxOf CX0 P w K mg base nm_law_deck "_law_deck" (defScope (top 79)) f cdv A outer s H E).nox (defBody (top 79)) (t_law_deck K) := fun hr => by
  have nd := sc_law_deck.nd
  exact (pss_cons (ps_set (i := 1) nd rfl (Or.inl rfl) pe_int) (pss_cons (ps_for PassesOwn.never rfl (pi_seq (pe_slice sl_list (pv 0) po_none (po_some pe_int))) (pg_name (i := 2) nd rfl (Or.inl rfl)) (pss_one (ps_set (i := 1) nd rfl (Or.inl rfl) (pe_op op_mod (pe_callTy call_int1 (by rfl) T.n_int bt_int (pa_cons (pe_op op_add (pe_op op_add (pe_op op_mul (pv 1) pe_int) (pe_op op_mod (pe_callTy call_int1 (by rfl) T.n_int bt_int (pa_cons (pv 2) pa_nil)) pe_int)) pe_int) pa_nil)) pe_int)))) (pss_one (ps_ret (pe_disp (pps_cons pe_str (pe_revL (pe_callTy call_list_of (by rfl) T.n_list bt_list (pa_cons (pe_slice sl_list (pv 0) po_none (po_some pe_int)) pa_nil))) (pps_cons pe_str (pv 1) (pps_cons pe_str pe_int pps_nil))) (by rfl) (by rfl) (fun z => by cases z) (by decide))))))
theorem sc_law_over : FnScope nm_law_over ps_law_over (defScope (top 87)) := ⟨rfl, rfl, rfl, by decide +kernel, rfl, by decide +kernel, by decide +kernel⟩
def t_law_over (K : PySem.W.Frag) : TS := (tRet (tCall (sp_law_fraction K) [] E0 (tCons (tOp rMulX (tOp (rIx K) (tVar 0) (tC (.int 0))) (tOp (rIx K) (tVar 1) (tC (.int 1)))) (tCons (tOp rMulX (tOp (rIx K) (tVar 0) (tC (.int 1))) (tOp (rIx K) (tVar 1) (tC (.int 0)))) tNil))))
theorem tm_law_over {f : Addr} (T : Top K mg) (c_law_fraction : Cal P w K mg base "_law_fraction" 2 ps_law_fraction (sp_law_fraction K)) (cdv : Value) (A : Around) (outer : List PySem.Env) (s : Shared) (H : Hp) (E : XK) : Room 2 (A.deeper (envOfC "_law_over" (defScope (top 87)) s.heap.objs.size f cdv)) → PSs (cxOf CX0 P w K mg base nm_law_over "_law_over" (defScope (top 87)) f cdv A outer s H E).nox (defBody (top 87)) (t_law_over K) := fun hr => by
  have nd := sc_law_over.nd
  exact (pss_one (ps_ret (pe_cal c_law_fraction (hr.mono (by omega)) (by rfl) (pa_cons (pe_op op_mulX (pe_ix ix_seq (pv 0) pe_int (fun _ _ => rfl)) (pe_ix ix_seq (pv 1) pe_int (fun _ _ => rfl))) (pa_cons (pe_op op_mulX (pe_ix ix_seq (pv 0) pe_int (fun _ _ => rfl)) (pe_ix ix_seq (pv 1) pe_int (fun _ _ => rfl))) pa_nil)))))
theorem sc_law_behind : FnScope nm_law_behind ps_law_behind (defScope (top 95)) := ⟨rfl, rfl, rfl, by decide +kernel, rfl, by decide +kernel, by decide +kernel⟩
def t_law_behind (K : PySem.W.Frag) : TS := (tSeq (tAsg (tOp rRep (tLst (tCons (tC (.int 0)) tNil)) (tOp rPlus (tVar 2) (tC (.int 1)))) (gName 3)) (tSeq (tFor (iEnumS K (tCons (tVar 0) tNil)) (gTup K 2 (gCons (gName 4) (gCons (gName 5) gNil))) (tIfS (tTest (tOp rNe (tVar 5) (tC (.int 0)))) (tFor (iRng1 (tCons (tOp rMinus (tOp rPlus (tVar 2) (tC (.int 1))) (tVar 4)) tNil)) (gName 6) (tAsg (tOp rPlus (tOp (rIx K) (tVar 3) (tOp rPlus (tVar 4) (tVar 6))) (tOp rMulX (tVar 5) (tOp (rIx K) (tVar 1) (tVar 6)))) (gSub (tVar 3) (tOp rPlus (tVar 4) (tVar 6)) rSetL))) tNext)) (tRet (tVar 3))))
theorem tm_law_behind {f : Addr} (T : Top K mg) (cdv : Value) (A : Around) (outer : List PySem.Env) (s : Shared) (H : Hp) (E : XK) : Room 0 (A.deeper (envOfC "_law_behind" (defScope (top 95)) s.heap.objs.size f cdv)) → PSs (cxOf CX0 P w K mg base nm_law_behind "_law_behind" (defScope (top 95)) f cdv A outer s H E).nox (defBody (top 95)) (t_law_behind K) := fun hr => by
  have nd := sc_law_behind.nd
  exact (pss_cons (ps_set (i := 3) nd rfl (Or.inl rfl) (pe_op op_rep (pe_lst (pa_cons pe_int pa_nil)) (pe_op op_add (pv 2) pe_int))) (pss_cons (ps_for PassesOwn.never rfl (pi_enumS (by rfl) T.n_enumerate (pa_cons (pv 0) pa_nil)) (pg_tup rfl (pgs_cons (pg_name (i := 4) nd rfl (Or.inl rfl)) (pgs_cons (pg_name (i := 5) nd rfl (Or.inl rfl)) pgs_nil))) (pss_one (ps_if (pt_cmpR op_ne (pv 5) pe_int (nomark _)) (pss_one (ps_for PassesOwn.never rfl (pi_range1 (by rfl) T.n_range (pa_cons (pe_op op_sub (pe_op op_add (pv 2) pe_int) (pv 4)) pa_nil)) (pg_name (i := 6) nd rfl (Or.inl rfl)) (pss_one (ps_asg (pe_op op_add (pe_ix ix_seq (pv 3) (pe_op op_add (pv 4) (pv 6)) (fun _ _ => rfl)) (pe_op op_mulX (pv 5) (pe_ix ix_seq (pv 1) (pv 6) (fun _ _ => rfl)))) (pg_sub (pv 3) (pe_op op_add (pv 4) (pv 6)) set_list))))) pss_nil))) (pss_one (ps_ret (pv 3)))))
theorem sc_law_parts : FnScope nm_law_parts ps_law_parts (defScope (top 103)) := ⟨rfl, rfl, rfl, by decide +kernel, rfl, by decide +kernel, by decide +kernel⟩
def t_law_parts (K : PySem.W.Frag) (n : Nat) : TS := (tSeq (tIfS (tTest (tOp (rIn K false) (tOp (rIx K) (tVar 0) (tC (.int 0))) (tTup (tCons (tC (.str "value")) (tCons (tC (.str "draw")) tNil))))) (tRet (tC (.int 1))) tNext) (tSeq (tAsg (tOp rPlus (tC (.int 1)) (tCall (sp_law_parts K n) [] E0 (tCons (tOp (rIx K) (tVar 0) (tC (.int 1))) tNil))) (gName 1)) (tSeq (tIfS (tTest (tOp rEq (tOp (rIx K) (tVar 0) (tC (.int 0))) (tC (.str "bind")))) (tAsg (tOp rPlus (tVar 1) (tCB (rSum K) (tCons (tLc (iSeq K (tOp (rIx K) (tVar 0) (tC (.int 2)))) (gName 2) tYes (tCall (sp_law_parts K n) [] E0 (tCons (tVar 2) tNil)) [2]) tNil))) (gName 1)) tNext) (tRet (tVar 1)))))
theorem tm_law_parts (n : Nat) {f : Addr} (T : Top K mg) (c_law_parts : Cal P w K mg base "_law_parts" (0 + 1 * n) ps_law_parts (sp_law_parts K n)) (cdv : Value) (A : Around) (outer : List PySem.Env) (s : Shared) (H : Hp) (E : XK) : Room (0 + 1 * n) (A.deeper (envOfC "_law_parts" (defScope (top 103)) s.heap.objs.size f cdv)) → PSs (cxOf CX0 P w K mg base nm_law_parts "_law_parts" (defScope (top 103)) f cdv A outer s H E).nox (defBody (top 103)) (t_law_parts K n) := fun hr => by
  have nd := sc_law_parts.nd
  exact (pss_cons (ps_if (pt_cmpR op_in_seq (pe_ix ix_seq (pv 0) pe_int (fun _ _ => rfl)) (pe_tup (pa_cons pe_str (pa_cons pe_str pa_nil))) (by rfl)) (pss_one (ps_ret pe_int)) pss_nil) (pss_cons (ps_set (i := 1) nd rfl (Or.inl rfl) (pe_op op_add pe_int (pe_cal c_law_parts (hr.mono (by omega)) (by rfl) (pa_cons (pe_ix ix_seq (pv 0) pe_int (fun _ _ => rfl)) pa_nil)))) (pss_cons (ps_if (pt_cmpR op_eq (pe_ix ix_seq (pv 0) pe_int (fun _ _ => rfl)) pe_str (nomark _)) (pss_one (ps_set (i := 1) nd rfl (Or.inl rfl) (pe_op op_add (pv 1) (pe_callB (cr_sum rfl) (by rfl) T.n_sum bt_sum (pa_cons (pe_lc (own := [("_law_case", 2)]) (by rfl) nd (pi_seq (pe_ix ix_seq (pv 0) pe_int (fun _ _ => rfl))) (blkOk_by (N := nm_law_parts) (sc := defScope (top 103)) (by decide +kernel)) (fun _ _ _ _ _ => (pg_name (i := 2) nd rfl (by first | exact Or.inl rfl | exact Or.inr rfl))) (fun _ _ _ _ _ => pts_nil) (fun _ _ _ _ _ => (pe_cal c_law_parts (hr.mono (by omega)) (by rfl) (pa_cons (pv 2) pa_nil)))) pa_nil))))) pss_nil) (pss_one (ps_ret (pv 1))))))
end
end K39

set_option Elab.async false
set_option linter.all false
set_option maxRecDepth 100000
set_option maxHeartbeats 1000000
namespace K39
open PySem PySem.Spec PyProof.Rows L2
section
variable {P : Program} {w : World} {K : PySem.W.Frag} {mg : Str → Option Value} {base : Heap}
theorem sc_is_between : FnScope nm_is_between ps_is_between (defScope (top 2)) := ⟨rfl, rfl, rfl, by decide +kernel, rfl, by decide +kernel, by decide +kernel⟩
def t_is_between (K : PySem.W.Frag) : TS := (tRet (tAndV (tCall (sp_is_integer K) [] E0 (tCons (tVar 0) tNil)) (tChain rLeI rLeI (tVar 1) (tVar 0) (tVar 2))))
theorem tm_is_between {f : Addr} (T : Top K mg) (c_is_integer : Cal P w K mg base "is_integer" 1 ps_is_integer (sp_is_integer K)) (cdv : Value) (A : Around) (outer : List PySem.Env) (s : Shared) (H : Hp) (E : XK) : Room 1 (A.deeper (envOfC "is_between" (defScope (top 2)) s.heap.objs.size f cdv)) → PSs (cxOf CX0 P w K mg base nm_is_between "is_between" (defScope (top 2)) f cdv A outer s H E).nox (defBody (top 2)) (t_is_between K) := fun hr => by
  have nd := sc_is_between.nd
  exact (pss_one (ps_ret (pe_and (pe_cal c_is_integer (hr.mono (by omega)) (by rfl) (pa_cons (pv 0) pa_nil)) (pe_one (pe_chain op_le op_le (pv 1) (pv 0) (pv 2) (by rfl))))))
theorem sc_is_share_value : FnScope nm_is_share_value ps_is_share_value (defScope (top 13)) := ⟨rfl, rfl, rfl, by decide +kernel, rfl, by decide +kernel, by decide +kernel⟩
def t_is_share_value (K : PySem.W.Frag) : TS := (tRet (tAndV (tCall (sp_is_fraction_value K) [] E0 (tCons (tVar 0) tNil)) (tOp rGeI (tOp (rIx K) (tVar 0) (tC (.int 0))) (tC (.int 0)))))
theorem tm_is_share_value {f : Addr} (T : Top K mg) (c_is_fraction_value : Cal P w K mg base "is_fraction_value" 2 ps_is_fraction_value (sp_is_fraction_value K)) (cdv : Value) (A : Around) (outer : List PySem.Env) (s : Shared) (H : Hp) (E : XK) : Room 2 (A.deeper (envOfC "is_share_value" (defScope (top 13)) s.heap.objs.size f cdv)) → PSs (cxOf CX0 P w K mg base nm_is_share_value "is_share_value" (defScope (top 13)) f cdv A outer s H E).nox (defBody (top 13)) (t_is_share_value K) := fun hr => by
  have nd := sc_is_share_value.nd
  exact (pss_one (ps_ret (pe_and (pe_cal c_is_fraction_value (hr.mono (by omega)) (by rfl) (pa_cons (pv 0) pa_nil)) (pe_one (pe_cmpR op_ge (pe_ix ix_seq (pv 0) pe_int (fun _ _ => rfl)) pe_int (nomark _))))))
theorem sc_shifted : FnScope nm_shifted ps_shifted (defScope (top 21)) := ⟨rfl, rfl, rfl, by decide +kernel, rfl, by decide +kernel, by decide +kernel⟩
def t_shifted (K : PySem.W.Frag) : TS := (tRet (tCall (sp_lowest K) [] E0 (tCons (tOp (rIx K) (tVar 0) (tC (.int 0))) (tCons (tOp rShlW (tOp (rIx K) (tVar 0) (tC (.int 1))) (tVar 1)) tNil))))
theorem tm_shifted {f : Addr} (T : Top K mg) (c_lowest : Cal P w K mg base "lowest" 2 ps_lowest (sp_lowest K)) (cdv : Value) (A : Around) (outer : List PySem.Env) (s : Shared) (H : Hp) (E : XK) : Room 2 (A.deeper (envOfC "shifted" (defScope (top 21)) s.heap.objs.size f cdv)) → PSs (cxOf CX0 P w K mg base nm_shifted "shifted" (defScope (top 21)) f cdv A outer s H E).nox (defBody (top 21)) (t_shifted K) := fun hr => by
  have nd := sc_shifted.nd
  exact (pss_one (ps_ret (pe_cal c_lowest (hr.mono (by omega)) (by rfl) (pa_cons (pe_ix ix_seq (pv 0) pe_int (fun _ _ => rfl)) (pa_cons (pe_op op_shlW (pe_ix ix_seq (pv 0) pe_int (fun _ _ => rfl)) (pv 1)) pa_nil)))))
theorem sc_raw_weight : FnScope nm_raw_weight ps_raw_weight (defScope (top 30)) := ⟨rfl, rfl, rfl, by decide +kernel, rfl, by decide +kernel, by decide +kernel⟩
def t_raw_weight (K : PySem.W.Frag) : TS := (tSeq (tAsg (tCall (sp_raw_figures K) [] E0 (tCons (tVar 0) tNil)) (gTup K 3 (gCons (gName 1) (gCons (gName 2) (gCons (gName 3) gNil))))) (tSeq (tAsg (tOp (rIx K) (tCall (sp_sums_of K) [] E0 (tCons (tVar 2) tNil)) (tC (.int 1))) (gName 4)) (tSeq (tIfS (tTest (tOp (rEqD K) (tVar 3) (tTup tNil))) (tRet (tVar 4)) tNext) (tSeq (tPar 5 6 (tCons (tCB (rLenQ K) (tCons (tVar 3) tNil)) (tCons (tOp rMinus (tOp rShlW (tC (.int 1)) (tCB (rLenQ K) (tCons (tVar 3) tNil))) (tC (.int 1))) tNil))) (tSeq (tAsg (tCall (sp_sums_of K) [] E0 (tCons (tVar 3) tNil)) (gTup K 2 (gCons (gName 7) (gCons (gName 8) gNil)))) (tSeq (tAsg (tCall (sp_times K) [] E0 (tCons (tCall (sp_plus K) [] E0 (tCons (tCall (sp_times K) [] E0 (tCons (tTup (tCons (tCB (rLenQ K) (tCons (tVar 2) tNil)) (tCons (tC (.int 1)) tNil))) (tCons (tVar 7) tNil))) (tCons (tVar 8) tNil))) (tCons (tTup (tCons (tOp rPlus (tVar 6) (tC (.int 1))) (tCons (tVar 6) tNil))) tNil))) (gName 9)) (tSeq (tAsg (tCall (sp_times K) [] E0 (tCons (tCall (sp_times K) [] E0 (tCons (tTup (tCons (tVar 5) (tCons (tC (.int 1)) tNil))) (tCons (tVar 7) tNil))) (tCons (tCall (sp_lowest K) [] E0 (tCons (tOp rPlus (tVar 6) (tC (.int 1))) (tCons (tOp rMulX (tVar 6) (tVar 6)) tNil))) tNil))) (gName 10)) (tRet (tCall (sp_plus K) [] E0 (tCons (tVar 4) (tCons (tCall (sp_shifted K) [] E0 (tCons (tCall (sp_plus K) [] E0 (tCons (tVar 9) (tCons (tVar 10) tNil))) (tCons (tCB (rLenQ K) (tCons (tVar 2) tNil)) tNil))) tNil)))))))))))
theorem tm_raw_weight {f : Addr} (T : Top K mg) (c_raw_figures : Cal P w K mg base "raw_figures" 2 ps_raw_figures (sp_raw_figures K)) (c_sums_of : Cal P w K mg base "sums_of" 3 ps_sums_of (sp_sums_of K)) (c_times : Cal P w K mg base "times" 3 ps_times (sp_times K)) (c_plus : Cal P w K mg base "plus" 3 ps_plus (sp_plus K)) (c_lowest : Cal P w K mg base "lowest" 2 ps_lowest (sp_lowest K)) (c_shifted : Cal P w K mg base "shifted" 3 ps_shifted (sp_shifted K)) (cdv : Value) (A : Around) (outer : List PySem.Env) (s : Shared) (H : Hp) (E : XK) : Room 3 (A.deeper (envOfC "raw_weight" (defScope (top 30)) s.heap.objs.size f cdv)) → PSs (cxOf CX0 P w K mg base nm_raw_weight "raw_weight" (defScope (top 30)) f cdv A outer s H E).nox (defBody (top 30)) (t_raw_weight K) := fun hr => by
  have nd := sc_raw_weight.nd
  exact (pss_cons (ps_asg (pe_cal c_raw_figures (hr.mono (by omega)) (by rfl) (pa_cons (pv 0) pa_nil)) (pg_tup rfl (pgs_cons (pg_name (i := 1) nd rfl (Or.inl rfl)) (pgs_cons (pg_name (i := 2) nd rfl (Or.inl rfl)) (pgs_cons (pg_name (i := 3) nd rfl (Or.inl rfl)) pgs_nil))))) (pss_cons (ps_set (i := 4) nd rfl (Or.inl rfl) (pe_ix ix_seq (pe_cal c_sums_of (hr.mono (by omega)) (by rfl) (pa_cons (pv 2) pa_nil)) pe_int (fun _ _ => rfl))) (pss_cons (ps_if (pt_cmpR (op_eqD hr.units) (pv 3) (pe_tup pa_nil) (nomark _)) (pss_one (ps_ret (pv 4))) pss_nil) (pss_cons (ps_par (i := 5) (j := 6) (by rfl) nd rfl rfl (by decide) rfl rfl (pa_cons (pe_callB call_len_seq (by rfl) T.n_len bt_len (pa_cons (pv 3) pa_nil)) (pa_cons (pe_op op_sub (pe_op op_shlW pe_int (pe_callB call_len_seq (by rfl) T.n_len bt_len (pa_cons (pv 3) pa_nil))) pe_int) pa_nil)) (by rfl)) (pss_cons (ps_asg (pe_cal c_sums_of (hr.mono (by omega)) (by rfl) (pa_cons (pv 3) pa_nil)) (pg_tup rfl (pgs_cons (pg_name (i := 7) nd rfl (Or.inl rfl)) (pgs_cons (pg_name (i := 8) nd rfl (Or.inl rfl)) pgs_nil)))) (pss_cons (ps_set (i := 9) nd rfl (Or.inl rfl) (pe_cal c_times (hr.mono (by omega)) (by rfl) (pa_cons (pe_cal c_plus (hr.mono (by omega)) (by rfl) (pa_cons (pe_cal c_times (hr.mono (by omega)) (by rfl) (pa_cons (pe_tup (pa_cons (pe_callB call_len_seq (by rfl) T.n_len bt_len (pa_cons (pv 2) pa_nil)) (pa_cons pe_int pa_nil))) (pa_cons (pv 7) pa_nil))) (pa_cons (pv 8) pa_nil))) (pa_cons (pe_tup (pa_cons (pe_op op_add (pv 6) pe_int) (pa_cons (pv 6) pa_nil))) pa_nil)))) (pss_cons (ps_set (i := 10) nd rfl (Or.inl rfl) (pe_cal c_times (hr.mono (by omega)) (by rfl) (pa_cons (pe_cal c_times (hr.mono (by omega)) (by rfl) (pa_cons (pe_tup (pa_cons (pv 5) (pa_cons pe_int pa_nil))) (pa_cons (pv 7) pa_nil))) (pa_cons (pe_cal c_lowest (hr.mono (by omega)) (by rfl) (pa_cons (pe_op op_add (pv 6) pe_int) (pa_cons (pe_op op_mulX (pv 6) (pv 6)) pa_nil))) pa_nil)))) (pss_one (ps_ret (pe_cal c_plus (hr.mono (by omega)) (by rfl) (pa_cons (pv 4) (pa_cons (pe_cal c_shifted (hr.mono (by omega)) (by rfl) (pa_cons (pe_cal c_plus (hr.mono (by omega)) (by rfl) (pa_cons (pv 9) (pa_cons (pv 10) pa_nil))) (pa_cons (pe_callB call_len_seq (by rfl) T.n_len bt_len (pa_cons (pv 2) pa_nil)) pa_nil))) pa_nil))))))))))))
theorem sc_raw_renamed : FnScope nm_raw_renamed ps_raw_renamed (defScope (top 47)) := ⟨rfl, rfl, rfl, by decide +kernel, rfl, by decide +kernel, by decide +kernel⟩
def t_raw_renamed (K : PySem.W.Frag) : TS := (tRet (tCB (rTupQ K) (tCons (tLc (iRng1 (tCons (tVar 2) tNil)) (gName 3) tYes (tCall (sp_total K) [] E0 (tCons (tLc (iZipS K (tCons (tVar 0) (tCons (tVar 1) tNil))) (gTup K 2 (gCons (gName 4) (gCons (gName 5) gNil))) (tTest (tOp rEq (tVar 5) (tVar 3))) (tVar 4) [4, 5]) tNil)) [3]) tNil)))
theorem tm_raw_renamed {f : Addr} (T : Top K mg) (c_total : Cal P w K mg base "total" 4 ps_total (sp_total K)) (cdv : Value) (A : Around) (outer : List PySem.Env) (s : Shared) (H : Hp) (E : XK) : Room 4 (A.deeper (envOfC "raw_renamed" (defScope (top 47)) s.heap.objs.size f cdv)) → PSs (cxOf CX0 P w K mg base nm_raw_renamed "raw_renamed" (defScope (top 47)) f cdv A outer s H E).nox (defBody (top 47)) (t_raw_renamed K) := fun hr => by
  have nd := sc_raw_renamed.nd
  exact (pss_one (ps_ret (pe_callTy call_tuple_of (by rfl) T.n_tuple bt_tuple (pa_cons (pe_lc (own := [("i", 3)]) (by rfl) nd (pi_range1 (by rfl) T.n_range (pa_cons (pv 2) pa_nil)) (blkOk_by (N := nm_raw_renamed) (sc := defScope (top 47)) (by decide +kernel)) (fun _ _ _ _ _ => (pg_name (i := 3) nd rfl (by first | exact Or.inl rfl | exact Or.inr rfl))) (fun _ _ _ _ _ => pts_nil) (fun _ _ _ _ _ => (pe_cal c_total (hr.mono (by omega)) (by rfl) (pa_cons (pe_lc (own := [("chance", 4), ("name", 5)]) (by rfl) nd (pi_zipS (by rfl) T.n_zip (pa_cons (pv 0) (pa_cons (pv 1) pa_nil))) (blkOk_by (by rfl)) (fun _ _ _ _ _ => (pg_tup rfl (pgs_cons (pg_name (i := 4) nd rfl (by first | exact Or.inl rfl | exact Or.inr rfl)) (pgs_cons (pg_name (i := 5) nd rfl (by first | exact Or.inl rfl | exact Or.inr rfl)) pgs_nil)))) (fun _ _ _ _ _ => (pts_one (pt_cmpR op_eq (pv 5) (pv 3) (nomark _)))) (fun _ _ _ _ _ => (pv 4))) pa_nil)))) pa_nil))))
theorem sc_need_closed : FnScope nm_need_closed ps_need_closed (defScope (top 60)) := ⟨rfl, rfl, rfl, by decide +kernel, rfl, by decide +kernel, by decide +kernel⟩
def t_need_closed (K : PySem.W.Frag) : TS := (tIfS (tOr (tNot (tB (tCall (sp_is_program_value K) [] E0 (tCons (tVar 0) tNil)))) (tTest (tOp (rNeD K) (tCall (sp_raw_places K) [] E0 (tCons (tVar 0) tNil)) (tTup tNil)))) tNever tNext)
theorem tm_need_closed {f : Addr} (T : Top K mg) (c_raw_places : Cal P w K mg base "raw_places" 6 ps_raw_places (sp_raw_places K)) (c_is_program_value : Cal P w K mg base "is_program_value" 16 ps_is_program_value (sp_is_program_value K)) (cdv : Value) (A : Around) (outer : List PySem.Env) (s : Shared) (H : Hp) (E : XK) : Room 16 (A.deeper (envOfC "need_closed" (defScope (top 60)) s.heap.objs.size f cdv)) → PSs (cxOf CX0 P w K mg base nm_need_closed "need_closed" (defScope (top 60)) f cdv A outer s H E).nox (defBody (top 60)) (t_need_closed K) := fun hr => by
  have nd := sc_need_closed.nd
  exact (pss_one (ps_if (PW.pt (pw_or (pt_not (pt_val (pe_cal c_is_program_value (hr.mono (by omega)) (by rfl) (pa_cons (pv 0) pa_nil)))) (pw_or1 (pt_cmpR (op_neD hr.units) (pe_cal c_raw_places (hr.mono (by omega)) (by rfl) (pa_cons (pv 0) pa_nil)) (pe_tup pa_nil) (nomark _))))) (pss_one ps_never) pss_nil))
theorem sc_bind_lengths : FnScope nm_bind_lengths ps_bind_lengths (defScope (top 70)) := ⟨rfl, rfl, rfl, by decide +kernel, rfl, by decide +kernel, by decide +kernel⟩
def t_bind_lengths (K : PySem.W.Frag) : TS := (tSeq (tAsg (tLc (iSeq K (tVar 0)) (gName 3) tYes (tOp rRep (tLst (tCons (tC (.int 0)) tNil)) (tCB (rLenQ K) (tCons (tOp (rIx K) (tOp (rIx K) (tVar 1) (tC (.int 0))) (tC (.int 0))) tNil))) [3]) (gName 2)) (tSeq (tFor (iEnumS K (tCons (tVar 0) tNil)) (gTup K 2 (gCons (gName 4) (gCons (gName 3) gNil))) (tFor (iZipS K (tCons (tVar 3) (tCons (tVar 1) tNil))) (gTup K 2 (gCons (gName 5) (gCons (gName 6) gNil))) (tIfS (tTest (tOp rNe (tVar 5) (tC (.int 0)))) (tDrop (tCall (sp_put_behind K) [] E0 (tCons (tVar 2) (tCons (tVar 4) (tCons (tVar 5) (tCons (tVar 6) tNil)))))) tNext))) (tRet (tVar 2))))
theorem tm_bind_lengths {f : Addr} (T : Top K mg) (c_put_behind : Cal P w K mg base "put_behind" 1 ps_put_behind (sp_put_behind K)) (cdv : Value) (A : Around) (outer : List PySem.Env) (s : Shared) (H : Hp) (E : XK) : Room 1 (A.deeper (envOfC "bind_lengths" (defScope (top 70)) s.heap.objs.size f cdv)) → PSs (cxOf CX0 P w K mg base nm_bind_lengths "bind_lengths" (defScope (top 70)) f cdv A outer s H E).nox (defBody (top 70)) (t_bind_lengths K) := fun hr => by
  have nd := sc_bind_lengths.nd
  exact (pss_cons (ps_setLc (i := 2) (own := [("row", 3)]) (by rfl) nd rfl rfl (sw_true rfl rfl rfl (by decide +kernel)) (pi_seq (pv 0)) (blkOk_by (N := nm_bind_lengths) (sc := defScope (top 70)) (by decide +kernel)) (fun _ _ _ _ _ => (pg_name (i := 3) nd rfl (by first | exact Or.inl rfl | exact Or.inr rfl))) (fun _ _ _ _ _ => pts_nil) (fun _ _ _ _ _ => (pe_op op_rep (pe_lst (pa_cons pe_int pa_nil)) (pe_callB call_len_seq (by rfl) T.n_len bt_len (pa_cons (pe_ix ix_seq (pe_ix ix_seq (pv 1) pe_int (fun _ _ => rfl)) pe_int (fun _ _ => rfl)) pa_nil))))) (pss_cons (ps_for PassesOwn.never rfl (pi_enumS (by rfl) T.n_enumerate (pa_cons (pv 0) pa_nil)) (pg_tup rfl (pgs_cons (pg_name (i := 4) nd rfl (Or.inl rfl)) (pgs_cons (pg_name (i := 3) nd rfl (Or.inl rfl)) pgs_nil))) (pss_one (ps_for PassesOwn.never rfl (pi_zipS (by rfl) T.n_zip (pa_cons (pv 3) (pa_cons (pv 1) pa_nil))) (pg_tup rfl (pgs_cons (pg_name (i := 5) nd rfl (Or.inl rfl)) (pgs_cons (pg_name (i := 6) nd rfl (Or.inl rfl)) pgs_nil))) (pss_one (ps_if (pt_cmpR op_ne (pv 5) pe_int (nomark _)) (pss_one (ps_expr (pe_cal c_put_behind (hr.mono (by omega)) (by rfl) (pa_cons (pv 2) (pa_cons (pv 4) (pa_cons (pv 5) (pa_cons (pv 6) pa_nil))))))) pss_nil))))) (pss_one (ps_ret (pv 2)))))
theorem sc_law_draw : FnScope nm_law_draw ps_law_draw (defScope (top 80)) := ⟨rfl, rfl, rfl, by decide +kernel, rfl, by decide +kernel, by decide +kernel⟩
def t_law_draw (K : PySem.W.Frag) : TS := (tSeq (sDPut (tVar 0) (tC (.str "draws")) (tOp rPlus (tDGet (tVar 0) (tC (.str "draws"))) (tC (.int 1)))) (tSeq (tAsg (tOp rPlus (tDGet (tVar 0) (tC (.str "mixed"))) (tOp rMul1 (tC (.int 61473)) (tDGet (tVar 0) (tC (.str "draws"))))) (gName 2)) (tSeq (tIfS (tTest (tOp (rNeD K) (tDGet (tVar 0) (tC (.str "cells"))) (tLst tNil))) (tSeq (tAsg (tBM0 K "list" rPop (tDGet (tVar 0) (tC (.str "cells")))) (gName 3)) (tSeq (tIfS (tTest (tOp rGeI (tVar 3) (tOp rPowS (tC (.int 10)) (tC (.int 18))))) (tSeq (tDrop (tBM K "list" rAppend (tDGet (tVar 0) (tC (.str "cells"))) (tCons (tOp rDivW (tVar 3) (tCB (rMaxQ) (tCons (tC (.int 2)) (tCons (tVar 1) tNil)))) tNil))) (tRet (tOp rModP (tCB (rIntQ) (tCons (tVar 3) tNil)) (tVar 1)))) tNext) (tAsg (tOp rPlus (tVar 2) (tOp rModP (tCB (rIntQ) (tCons (tVar 3) tNil)) (tC (.int 2147483629)))) (gName 2)))) tNext) (tSeq (tAsg (tOp rModP (tCB (rIntQ) (tCons (tOp rPlus (tOp rMul1 (tVar 2) (tC (.int 39373))) (tC (.int 137))) tNil)) (tC (.int 2147483647))) (gName 2)) (tSeq (tAsg (tOp rModP (tCB (rIntQ) (tCons (tOp rPlus (tOp rPlus (tOp rMul1 (tVar 2) (tVar 2)) (tOp rMul1 (tC (.int 52713)) (tDGet (tVar 0) (tC (.str "draws"))))) (tC (.int 271))) tNil)) (tC (.int 2147483587))) (gName 2)) (tSeq (tAsg (tOp rModP (tCB (rIntQ) (tCons (tOp rMul1 (tVar 2) (tC (.int 40692))) tNil)) (tC (.int 2147483563))) (gName 2)) (tRet (tOp rModP (tCB (rIntQ) (tCons (tOp rDivW (tVar 2) (tC (.int 64))) tNil)) (tVar 1)))))))))
theorem tm_law_draw {f : Addr} (T : Top K mg) (cdv : Value) (A : Around) (outer : List PySem.Env) (s : Shared) (H : Hp) (E : XK) : Room 0 (A.deeper (envOfC "_law_draw" (defScope (top 80)) s.heap.objs.size f cdv)) → PSs (cxOf CX0 P w K mg base nm_law_draw "_law_draw" (defScope (top 80)) f cdv A outer s H E).nox (defBody (top 80)) (t_law_draw K) := fun hr => by
  have nd := sc_law_draw.nd
  exact (pss_cons (ps_dput (hu_of hr) (pv 0) pe_str (pe_op op_add (pe_dget (hu_of hr) (pv 0) pe_str (fun _ _ => rfl)) pe_int) rfl) (pss_cons (ps_set (i := 2) nd rfl (Or.inl rfl) (pe_op op_add (pe_dget (hu_of hr) (pv 0) pe_str (fun _ _ => rfl)) (pe_op op_mul pe_int (pe_dget (hu_of hr) (pv 0) pe_str (fun _ _ => rfl))))) (pss_cons (ps_if (pt_cmpR (op_neD hr.units) (pe_dget (hu_of hr) (pv 0) pe_str (fun _ _ => rfl)) (pe_lst pa_nil) (nomark _)) (pss_cons (ps_set (i := 3) nd rfl (Or.inl rfl) (pe_bm0 PySem.F.plainAttrs_list PySem.F.slot_list_pop PySem.F.type_list_pop mt_pop (pe_dget (hu_of hr) (pv 0) pe_str (fun _ _ => rfl)))) (pss_cons (ps_if (pt_cmpR op_ge (pv 3) (pe_op op_pow pe_int pe_int) (nomark _)) (pss_cons (ps_expr (pe_bm PySem.F.plainAttrs_list PySem.F.slot_list_append PySem.F.type_list_append mt_append (pe_dget (hu_of hr) (pv 0) pe_str (fun _ _ => rfl)) (pa_cons (pe_op op_fdivW (pv 3) (pe_callB (call_max2 rfl) (by rfl) T.n_max bt_max (pa_cons pe_int (pa_cons (pv 1) pa_nil)))) pa_nil))) (pss_one (ps_ret (pe_op op_mod (pe_callTy call_int1 (by rfl) T.n_int bt_int (pa_cons (pv 3) pa_nil)) (pv 1))))) pss_nil) (pss_one (ps_set (i := 2) nd rfl (Or.inl rfl) (pe_op op_add (pv 2) (pe_op op_mod (pe_callTy call_int1 (by rfl) T.n_int bt_int (pa_cons (pv 3) pa_nil)) pe_int)))))) pss_nil) (pss_cons (ps_set (i := 2) nd rfl (Or.inl rfl) (pe_op op_mod (pe_callTy call_int1 (by rfl) T.n_int bt_int (pa_cons (pe_op op_add (pe_op op_mul (pv 2) pe_int) pe_int) pa_nil)) pe_int)) (pss_cons (ps_set (i := 2) nd rfl (Or.inl rfl) (pe_op op_mod (pe_callTy call_int1 (by rfl) T.n_int bt_int (pa_cons (pe_op op_add (pe_op op_add (pe_op op_mul (pv 2) (pv 2)) (pe_op op_mul pe_int (pe_dget (hu_of hr) (pv 0) pe_str (fun _ _ => rfl)))) pe_int) pa_nil)) pe_int)) (pss_cons (ps_set (i := 2) nd rfl (Or.inl rfl) (pe_op op_mod (pe_callTy call_int1 (by rfl) T.n_int bt_int (pa_cons (pe_op op_mul (pv 2) pe_int) pa_nil)) pe_int)) (pss_one (ps_ret (pe_op op_mod (pe_callTy call_int1 (by rfl) T.n_int bt_int (pa_cons (pe_op op_fdivW (pv 2) pe_int) pa_nil)) (pv 1))))))))))
theorem sc_law_total : FnScope nm_law_total ps_law_total (defScope (top 88)) := ⟨rfl, rfl, rfl, by decide +kernel, rfl, by decide +kernel, by decide +kernel⟩
def t_law_total (K : PySem.W.Frag) : TS := (tSeq (tAsg (tTup (tCons (tC (.int 0)) (tCons (tC (.int 1)) tNil))) (gName 1)) (tSeq (tFor (iSeq K (tVar 0)) (gName 2) (tAsg (tCall (sp_law_plus K) [] E0 (tCons (tVar 1) (tCons (tVar 2) tNil))) (gName 1))) (tRet (tVar 1))))
theorem tm_law_total {f : Addr} (T : Top K mg) (c_law_plus : Cal P w K mg base "_law_plus" 3 ps_law_plus (sp_law_plus K)) (cdv : Value) (A : Around) (outer : List PySem.Env) (s : Shared) (H : Hp) (E : XK) : Room 3 (A.deeper (envOfC "_law_total" (defScope (top 88)) s.heap.objs.size f cdv)) → PSs (cxOf CX0 P w K mg base nm_law_total "_law_total" (defScope (top 88)) f cdv A outer s H E).nox (defBody (top 88)) (t_law_total K) := fun hr => by
  have nd := sc_law_total.nd
  exact (pss_cons (ps_set (i := 1) nd rfl (Or.inl rfl) (pe_tup (pa_cons pe_int (pa_cons pe_int pa_nil)))) (pss_cons (ps_for PassesOwn.never rfl (pi_seq (pv 0)) (pg_name (i := 2) nd rfl (Or.inl rfl)) (pss_one (ps_set (i := 1) nd rfl (Or.inl rfl) (pe_cal c_law_plus (hr.mono (by omega)) (by rfl) (pa_cons (pv 1) (pa_cons (pv 2) pa_nil)))))) (pss_one (ps_ret (pv 1)))))
theorem sc_law_rows : FnScope nm_law_rows ps_law_rows (defScope (top 96)) := ⟨rfl, rfl, rfl, by decide +kernel, rfl, by decide +kernel, by decide +kernel⟩
def t_law_rows (K : PySem.W.Frag) (n : Nat) : TS := (tSeq (tPar 2 3 (tCons (tOp (rIx K) (tVar 0) (tC (.int 0))) (tCons (tCall (sp_law_outcomes K (n + 1)) [] E0 (tCons (tVar 0) tNil)) tNil))) (tSeq (tIfS (tTest (tOp rEq (tVar 2) (tC (.str "value")))) (tRet (tLc (iRng1 (tCons (tVar 3) tNil)) (gName 4) tYes (tOp rCat (tLst (tCons (tCB (rIntQ) (tCons (tOp rEq (tVar 4) (tOp (rIx K) (tVar 0) (tC (.int 2)))) tNil)) tNil)) (tOp rRep (tLst (tCons (tC (.int 0)) tNil)) (tVar 1))) [4])) tNext) (tSeq (tIfS (tTest (tOp rEq (tVar 2) (tC (.str "draw")))) (tRet (tLc (iSeq K (tOp (rIx K) (tVar 0) (tC (.int 1)))) (gName 5) tYes (tCall (sp_law_digits K) [] E0 (tCons (tVar 5) (tCons (tVar 1) tNil))) [5])) tNext) (tSeq (tAsg (tCall (sp_law_rows K n) [] E0 (tCons (tOp (rIx K) (tVar 0) (tC (.int 1))) (tCons (tVar 1) tNil))) (gName 6)) (tSeq (tAsg (tLc (iRng1 (tCons (tVar 3) tNil)) (gName 4) tYes (tOp rRep (tLst (tCons (tC (.int 0)) tNil)) (tOp rPlus (tVar 1) (tC (.int 1)))) [4]) (gName 7)) (tSeq (tIfS (tTest (tOp rEq (tVar 2) (tC (.str "map")))) (tSeq (tFor (iZipS K (tCons (tOp (rIx K) (tVar 0) (tC (.int 2))) (tCons (tVar 6) tNil))) (gTup K 2 (gCons (gName 8) (gCons (gName 9) gNil))) (tAsg (tLc (iZipS K (tCons (tOp (rIx K) (tVar 7) (tVar 8)) (tCons (tVar 9) tNil))) (gTup K 2 (gCons (gName 10) (gCons (gName 11) gNil))) tYes (tOp rPlus (tVar 10) (tVar 11)) [10, 11]) (gSub (tVar 7) (tVar 8) rSetL))) (tRet (tVar 7))) tNext) (tSeq (tIfS (tTest (tOp rEq (tVar 2) (tC (.str "bind")))) (tSeq (tFor (iZipS K (tCons (tVar 6) (tCons (tOp (rIx K) (tVar 0) (tC (.int 2))) tNil))) (gTup K 2 (gCons (gName 9) (gCons (gName 12) gNil))) (tFor (iEnumS K (tCons (tCall (sp_law_rows K n) [] E0 (tCons (tVar 12) (tCons (tVar 1) tNil))) tNil)) (gTup K 2 (gCons (gName 4) (gCons (gName 13) gNil))) (tAsg (tLc (iZipS K (tCons (tOp (rIx K) (tVar 7) (tVar 4)) (tCons (tCall (sp_law_behind K) [] E0 (tCons (tVar 9) (tCons (tVar 13) (tCons (tVar 1) tNil)))) tNil))) (gTup K 2 (gCons (gName 10) (gCons (gName 11) gNil))) tYes (tOp rPlus (tVar 10) (tVar 11)) [10, 11]) (gSub (tVar 7) (tVar 4) rSetL)))) (tRet (tVar 7))) tNext) (tSeq (tAsg (tTup (tCons (tOp rRep (tLst (tCons (tC (.int 0)) tNil)) (tOp rPlus (tVar 1) (tC (.int 1)))) (tCons (tOp rCat (tLst (tCons (tC (.int 1)) tNil)) (tOp rRep (tLst (tCons (tC (.int 0)) tNil)) (tVar 1))) tNil))) (gTup K 2 (gCons (gName 14) (gCons (gName 15) gNil)))) (tSeq (tFor (iEnumS K (tCons (tVar 6) tNil)) (gTup K 2 (gCons (gName 4) (gCons (gName 9) gNil))) (tIfS (tTest (tOp (rIn K true) (tVar 4) (tOp (rIx K) (tVar 0) (tC (.int 2))))) (tAsg (tLc (iZipS K (tCons (tVar 14) (tCons (tVar 9) tNil))) (gTup K 2 (gCons (gName 10) (gCons (gName 11) gNil))) tYes (tOp rPlus (tVar 10) (tVar 11)) [10, 11]) (gName 14)) tNext)) (tSeq (tFor (iRng2 (tCons (tC (.int 1)) (tCons (tOp rPlus (tVar 1) (tC (.int 1))) tNil))) (gName 16) (tAsg (tCB (rSum K) (tCons (tLc (iRng2 (tCons (tC (.int 1)) (tCons (tOp rPlus (tVar 16) (tC (.int 1))) tNil))) (gName 17) tYes (tOp rMulX (tOp (rIx K) (tVar 14) (tVar 17)) (tOp (rIx K) (tVar 15) (tOp rMinus (tVar 16) (tVar 17)))) [17]) tNil)) (gSub (tVar 15) (tVar 16) rSetL))) (tRet (tLc (iEnumS K (tCons (tVar 6) tNil)) (gTup K 2 (gCons (gName 4) (gCons (gName 9) gNil))) tYes (tIf (tTest (tOp (rIn K false) (tVar 4) (tOp (rIx K) (tVar 0) (tC (.int 2))))) (tCall (sp_law_behind K) [] E0 (tCons (tVar 15) (tCons (tVar 9) (tCons (tVar 1) tNil)))) (tOp rRep (tLst (tCons (tC (.int 0)) tNil)) (tOp rPlus (tVar 1) (tC (.int 1))))) [4, 9]))))))))))))
theorem tm_law_rows (n : Nat) {f : Addr} (T : Top K mg) (c_law_outcomes : Cal P w K mg base "_law_outcomes" (0 + 1 * (n + 1)) ps_law_outcomes (sp_law_outcomes K (n + 1))) (c_law_digits : Cal P w K mg base "_law_digits" 1 ps_law_digits (sp_law_digits K)) (c_law_rows : Cal P w K mg base "_law_rows" (1 + 1 * n) ps_law_rows (sp_law_rows K n)) (c_law_behind : Cal P w K mg base "_law_behind" 1 ps_law_behind (sp_law_behind K)) (cdv : Value) (A : Around) (outer : List PySem.Env) (s : Shared) (H : Hp) (E : XK) : Room (1 + 1 * n) (A.deeper (envOfC "_law_rows" (defScope (top 96)) s.heap.objs.size f cdv)) → PSs (cxOf CX0 P w K mg base nm_law_rows "_law_rows" (defScope (top 96)) f cdv A outer s H E).nox (defBody (top 96)) (t_law_rows K n) := fun hr => by
  have nd := sc_law_rows.nd
  exact (pss_cons (ps_par (i := 2) (j := 3) (by rfl) nd rfl rfl (by decide) rfl rfl (pa_cons (pe_ix ix_seq (pv 0) pe_int (fun _ _ => rfl)) (pa_cons (pe_cal c_law_outcomes (hr.mono (by omega)) (by rfl) (pa_cons (pv 0) pa_nil)) pa_nil)) (by rfl)) (pss_cons (ps_if (pt_cmpR op_eq (pv 2) pe_str (nomark _)) (pss_one (ps_ret (pe_lc (own := [("_law_at", 4)]) (by rfl) nd (pi_range1 (by rfl) T.n_range (pa_cons (pv 3) pa_nil)) (blkOk_by (N := nm_law_rows) (sc := defScope (top 96)) (by decide +kernel)) (fun _ _ _ _ _ => (pg_name (i := 4) nd rfl (by first | exact Or.inl rfl | exact Or.inr rfl))) (fun _ _ _ _ _ => pts_nil) (fun _ _ _ _ _ => (pe_op op_cat (pe_lst (pa_cons (pe_callTy call_int1 (by rfl) T.n_int bt_int (pa_cons (pe_cmpR op_eq (pv 4) (pe_ix ix_seq (pv 0) pe_int (fun _ _ => rfl)) (nomark _)) pa_nil)) pa_nil)) (pe_op op_rep (pe_lst (pa_cons pe_int pa_nil)) (pv 1))))))) pss_nil) (pss_cons (ps_if (pt_cmpR op_eq (pv 2) pe_str (nomark _)) (pss_one (ps_ret (pe_lc (own := [("_law_it", 5)]) (by rfl) nd (pi_seq (pe_ix ix_seq (pv 0) pe_int (fun _ _ => rfl))) (blkOk_by (N := nm_law_rows) (sc := defScope (top 96)) (by decide +kernel)) (fun _ _ _ _ _ => (pg_name (i := 5) nd rfl (by first | exact Or.inl rfl | exact Or.inr rfl))) (fun _ _ _ _ _ => pts_nil) (fun _ _ _ _ _ => (pe_cal c_law_digits (hr.mono (by omega)) (by rfl) (pa_cons (pv 5) (pa_cons (pv 1) pa_nil))))))) pss_nil) (pss_cons (ps_set (i := 6) nd rfl (Or.inl rfl) (pe_cal c_law_rows (hr.mono (by omega)) (by rfl) (pa_cons (pe_ix ix_seq (pv 0) pe_int (fun _ _ => rfl)) (pa_cons (pv 1) pa_nil)))) (pss_cons (ps_setLc (i := 7) (own := [("_law_at", 4)]) (by rfl) nd rfl rfl (sw_true rfl rfl rfl (by decide +kernel)) (pi_range1 (by rfl) T.n_range (pa_cons (pv 3) pa_nil)) (blkOk_by (N := nm_law_rows) (sc := defScope (top 96)) (by decide +kernel)) (fun _ _ _ _ _ => (pg_name (i := 4) nd rfl (by first | exact Or.inl rfl | exact Or.inr rfl))) (fun _ _ _ _ _ => pts_nil) (fun _ _ _ _ _ => (pe_op op_rep (pe_lst (pa_cons pe_int pa_nil)) (pe_op op_add (pv 1) pe_int)))) (pss_cons (ps_if (pt_cmpR op_eq (pv 2) pe_str (nomark _)) (pss_cons (ps_for PassesOwn.never rfl (pi_zipS (by rfl) T.n_zip (pa_cons (pe_ix ix_seq (pv 0) pe_int (fun _ _ => rfl)) (pa_cons (pv 6) pa_nil))) (pg_tup rfl (pgs_cons (pg_name (i := 8) nd rfl (Or.inl rfl)) (pgs_cons (pg_name (i := 9) nd rfl (Or.inl rfl)) pgs_nil))) (pss_one (ps_asg (pe_lc (own := [("_law_x", 10), ("_law_y", 11)]) (by rfl) nd (pi_zipS (by rfl) T.n_zip (pa_cons (pe_ix ix_seq (pv 7) (pv 8) (fun _ _ => rfl)) (pa_cons (pv 9) pa_nil))) (blkOk_by (N := nm_law_rows) (sc := defScope (top 96)) (by decide +kernel)) (fun _ _ _ _ _ => (pg_tup rfl (pgs_cons (pg_name (i := 10) nd rfl (by first | exact Or.inl rfl | exact Or.inr rfl)) (pgs_cons (pg_name (i := 11) nd rfl (by first | exact Or.inl rfl | exact Or.inr rfl)) pgs_nil)))) (fun _ _ _ _ _ => pts_nil) (fun _ _ _ _ _ => (pe_op op_add (pv 10) (pv 11)))) (pg_sub (pv 7) (pv 8) set_list)))) (pss_one (ps_ret (pv 7)))) pss_nil) (pss_cons (ps_if (pt_cmpR op_eq (pv 2) pe_str (nomark _)) (pss_cons (ps_for PassesOwn.never rfl (pi_zipS (by rfl) T.n_zip (pa_cons (pv 6) (pa_cons (pe_ix ix_seq (pv 0) pe_int (fun _ _ => rfl)) pa_nil))) (pg_tup rfl (pgs_cons (pg_name (i := 9) nd rfl (Or.inl rfl)) (pgs_cons (pg_name (i := 12) nd rfl (Or.inl rfl)) pgs_nil))) (pss_one (ps_for PassesOwn.never rfl (pi_enumS (by rfl) T.n_enumerate (pa_cons (pe_cal c_law_rows (hr.mono (by omega)) (by rfl) (pa_cons (pv 12) (pa_cons (pv 1) pa_nil))) pa_nil)) (pg_tup rfl (pgs_cons (pg_name (i := 4) nd rfl (Or.inl rfl)) (pgs_cons (pg_name (i := 13) nd rfl (Or.inl rfl)) pgs_nil))) (pss_one (ps_asg (pe_lc (own := [("_law_x", 10), ("_law_y", 11)]) (by rfl) nd (pi_zipS (by rfl) T.n_zip (pa_cons (pe_ix ix_seq (pv 7) (pv 4) (fun _ _ => rfl)) (pa_cons (pe_cal c_law_behind (hr.mono (by omega)) (by rfl) (pa_cons (pv 9) (pa_cons (pv 13) (pa_cons (pv 1) pa_nil)))) pa_nil))) (blkOk_by (N := nm_law_rows) (sc := defScope (top 96)) (by decide +kernel)) (fun _ _ _ _ _ => (pg_tup rfl (pgs_cons (pg_name (i := 10) nd rfl (by first | exact Or.inl rfl | exact Or.inr rfl)) (pgs_cons (pg_name (i := 11) nd rfl (by first | exact Or.inl rfl | exact Or.inr rfl)) pgs_nil)))) (fun _ _ _ _ _ => pts_nil) (fun _ _ _ _ _ => (pe_op op_add (pv 10) (pv 11)))) (pg_sub (pv 7) (pv 4) set_list)))))) (pss_one (ps_ret (pv 7)))) pss_nil) (pss_cons (ps_asg (pe_tup (pa_cons (pe_op op_rep (pe_lst (pa_cons pe_int pa_nil)) (pe_op op_add (pv 1) pe_int)) (pa_cons (pe_op op_cat (pe_lst (pa_cons pe_int pa_nil)) (pe_op op_rep (pe_lst (pa_cons pe_int pa_nil)) (pv 1))) pa_nil))) (pg_tup rfl (pgs_cons (pg_name (i := 14) nd rfl (Or.inr rfl)) (pgs_cons (pg_name (i := 15) nd rfl (Or.inr rfl)) pgs_nil)))) (pss_cons (ps_for PassesOwn.never rfl (pi_enumS (by rfl) T.n_enumerate (pa_cons (pv 6) pa_nil)) (pg_tup rfl (pgs_cons (pg_name (i := 4) nd rfl (Or.inl rfl)) (pgs_cons (pg_name (i := 9) nd rfl (Or.inl rfl)) pgs_nil))) (pss_one (ps_if (pt_cmpR op_notIn_seq (pv 4) (pe_ix ix_seq (pv 0) pe_int (fun _ _ => rfl)) (by rfl)) (pss_one (ps_set (i := 14) nd rfl (Or.inr rfl) (pe_lc (own := [("_law_x", 10), ("_law_y", 11)]) (by rfl) nd (pi_zipS (by rfl) T.n_zip (pa_cons (pv 14) (pa_cons (pv 9) pa_nil))) (blkOk_by (N := nm_law_rows) (sc := defScope (top 96)) (by decide +kernel)) (fun _ _ _ _ _ => (pg_tup rfl (pgs_cons (pg_name (i := 10) nd rfl (by first | exact Or.inl rfl | exact Or.inr rfl)) (pgs_cons (pg_name (i := 11) nd rfl (by first | exact Or.inl rfl | exact Or.inr rfl)) pgs_nil)))) (fun _ _ _ _ _ => pts_nil) (fun _ _ _ _ _ => (pe_op op_add (pv 10) (pv 11)))))) pss_nil))) (pss_cons (ps_for PassesOwn.never rfl (pi_range2 (by rfl) T.n_range (pa_cons pe_int (pa_cons (pe_op op_add (pv 1) pe_int) pa_nil))) (pg_name (i := 16) nd rfl (Or.inr rfl)) (pss_one (ps_asg (pe_callB (cr_sum rfl) (by rfl) T.n_sum bt_sum (pa_cons (pe_lc (own := [("_law_k", 17)]) (by rfl) nd (pi_range2 (by rfl) T.n_range (pa_cons pe_int (pa_cons (pe_op op_add (pv 16) pe_int) pa_nil))) (blkOk_by (N := nm_law_rows) (sc := defScope (top 96)) (by decide +kernel)) (fun _ _ _ _ _ => (pg_name (i := 17) nd rfl (by first | exact Or.inl rfl | exact Or.inr rfl))) (fun _ _ _ _ _ => pts_nil) (fun _ _ _ _ _ => (pe_op op_mulX (pe_ix ix_seq (pv 14) (pv 17) (fun _ _ => rfl)) (pe_ix ix_seq (pv 15) (pe_op op_sub (pv 16) (pv 17)) (fun _ _ => rfl))))) pa_nil)) (pg_sub (pv 15) (pv 16) set_list)))) (pss_one (ps_ret (pe_lc (own := [("_law_at", 4), ("_law_row", 9)]) (by rfl) nd (pi_enumS (by rfl) T.n_enumerate (pa_cons (pv 6) pa_nil)) (blkOk_by (N := nm_law_rows) (sc := defScope (top 96)) (by decide +kernel)) (fun _ _ _ _ _ => (pg_tup rfl (pgs_cons (pg_name (i := 4) nd rfl (by first | exact Or.inl rfl | exact Or.inr rfl)) (pgs_cons (pg_name (i := 9) nd rfl (by first | exact Or.inl rfl | exact Or.inr rfl)) pgs_nil)))) (fun _ _ _ _ _ => pts_nil) (fun _ _ _ _ _ => (pe_ifExp (pt_cmpR op_in_seq (pv 4) (pe_ix ix_seq (pv 0) pe_int (fun _ _ => rfl)) (by rfl)) (pe_cal c_law_behind (hr.mono (by omega)) (by rfl) (pa_cons (pv 15) (pa_cons (pv 9) (pa_cons (pv 1) pa_nil)))) (pe_op op_rep (pe_lst (pa_cons pe_int pa_nil)) (pe_op op_add (pv 1) pe_int)))))))))))))))))
theorem sc_law_program : FnScope nm_law_program ps_law_program (defScope (top 104)) := ⟨rfl, rfl, rfl, by decide +kernel, rfl, by decide +kernel, by decide +kernel⟩
def t_law_program (K : PySem.W.Frag) : TS := (tSeq (tAsg (tOp rPlus (tC (.int 1)) (tCall (sp_law_draw K) [] E0 (tCons (tVar 0) (tCons (tVar 1) tNil)))) (gName 2)) (tSeq (tAsg (tCall (sp_law_closed K 4) [] E0 (tCons (tVar 0) (tCons (tVar 2) (tCons (tCall (sp_law_pick K) [] E0 (tCons (tVar 0) (tCons (tLst (tCons (tC (.int 2)) (tCons (tC (.int 1)) (tCons (tC (.int 2)) (tCons (tC (.int 3)) (tCons (tC (.int 2)) tNil)))))) tNil))) tNil)))) (gName 3)) (tSeq (tIfS (tAnd (tTest (tOp rLeI (tCall (sp_law_parts K 4) [] E0 (tCons (tVar 3) tNil)) (tC (.int 40)))) (tTest (tOp rLtI (tCall (sp_law_size K 4) [] E0 (tCons (tVar 3) tNil)) (tC (.int 190))))) (tRet (tVar 3)) tNext) (tRet (tTup (tCons (tC (.str "draw")) (tCons (tCall (sp_law_table K) [] E0 (tCons (tVar 0) (tCons (tVar 2) (tCons (tCall (sp_law_bottoms K) [] E0 tNil) tNil)))) tNil)))))))
theorem tm_law_program {f : Addr} (T : Top K mg) (c_law_draw : Cal P w K mg base "_law_draw" 1 ps_law_draw (sp_law_draw K)) (c_law_closed : Cal P w K mg base "_law_closed" 13 ps_law_closed (sp_law_closed K 4)) (c_law_pick : Cal P w K mg base "_law_pick" 2 ps_law_pick (sp_law_pick K)) (c_law_size : Cal P w K mg base "_law_size" 10 ps_law_size (sp_law_size K 4)) (c_law_parts : Cal P w K mg base "_law_parts" 4 ps_law_parts (sp_law_parts K 4)) (c_law_table : Cal P w K mg base "_law_table" 3 ps_law_table (sp_law_table K)) (c_law_bottoms : Cal P w K mg base "_law_bottoms" 1 ps_law_bottoms (sp_law_bottoms K)) (cdv : Value) (A : Around) (outer : List PySem.Env) (s : Shared) (H : Hp) (E : XK) : Room 13 (A.deeper (envOfC "_law_program" (defScope (top 104)) s.heap.objs.size f cdv)) → PSs (cxOf CX0 P w K mg base nm_law_program "_law_program" (defScope (top 104)) f cdv A outer s H E).nox (defBody (top 104)) (t_law_program K) := fun hr => by
  have nd := sc_law_program.nd
  exact (pss_cons (ps_set (i := 2) nd rfl (Or.inl rfl) (pe_op op_add pe_int (pe_cal c_law_draw (hr.mono (by omega)) (by rfl) (pa_cons (pv 0) (pa_cons (pv 1) pa_nil))))) (pss_cons (ps_set (i := 3) nd rfl (Or.inl rfl) (pe_cal c_law_closed (hr.mono (by omega)) (by rfl) (pa_cons (pv 0) (pa_cons (pv 2) (pa_cons (pe_cal c_law_pick (hr.mono (by omega)) (by rfl) (pa_cons (pv 0) (pa_cons (pe_lst (pa_cons pe_int (pa_cons pe_int (pa_cons pe_int (pa_cons pe_int (pa_cons pe_int pa_nil)))))) pa_nil))) pa_nil))))) (pss_cons (ps_if (PW.pt (pw_and (pt_cmpR op_le (pe_cal c_law_parts (hr.mono (by omega)) (by rfl) (pa_cons (pv 3) pa_nil)) pe_int (nomark _)) (pw_and1 (pt_cmpR op_lt (pe_cal c_law_size (hr.mono (by omega)) (by rfl) (pa_cons (pv 3) pa_nil)) pe_int (nomark _))))) (pss_one (ps_ret (pv 3))) pss_nil) (pss_one (ps_ret (pe_tup (pa_cons pe_str (pa_cons (pe_cal c_law_table (hr.mono (by omega)) (by rfl) (pa_cons (pv 0) (pa_cons (pv 2) (pa_cons (pe_cal0 c_law_bottoms (hr.mono (by omega)) (by rfl)) pa_nil)))) pa_nil))))))))
end
end K39

set_option Elab.async false
set_option linter.all false
set_option maxRecDepth 100000
set_option maxHeartbeats 1000000
namespace K39
open PySem PySem.Spec PyProof.Rows L2
section
variable {P : Program} {w : World} {K : PySem.W.Frag} {mg : Str → Option Value} {base : Heap}
theorem sc_are_between : FnScope nm_are_between ps_are_between (defScope (top 3)) := ⟨rfl, rfl, rfl, by decide +kernel, rfl, by decide +kernel, by decide +kernel⟩
def t_are_between (K : PySem.W.Frag) : TS := (tRet (tAndV (tCB (rIsi K) (tCons (tVar 0) (tCons (tC (.ty "tuple")) tNil))) (tCB (rAll K) (tCons (tLc (iSeq K (tVar 0)) (gName 3) tYes (tCall (sp_is_between K) [] E0 (tCons (tVar 3) (tCons (tVar 1) (tCons (tVar 2) tNil)))) [3]) tNil))))
theorem tm_are_between {f : Addr} (T : Top K mg) (c_is_between : Cal P w K mg base "is_between" 2 ps_is_between (sp_is_between K)) (cdv : Value) (A : Around) (outer : List PySem.Env) (s : Shared) (H : Hp) (E : XK) : Room 2 (A.deeper (envOfC "are_between" (defScope (top 3)) s.heap.objs.size f cdv)) → PSs (cxOf CX0 P w K mg base nm_are_between "are_between" (defScope (top 3)) f cdv A outer s H E).nox (defBody (top 3)) (t_are_between K) := fun hr => by
  have nd := sc_are_between.nd
  exact (pss_one (ps_ret (pe_and (pe_callB call_isi (by rfl) T.n_isinstance bt_isinstance (pa_cons (pv 0) (pa_cons (pe_bltn (v := .ty "tuple") (by rfl) T.n_tuple bt_tuple rfl) pa_nil))) (pe_one (pe_callB (cr_all rfl) (by rfl) T.n_all bt_all (pa_cons (pe_lc (own := [("part", 3)]) (by rfl) nd (pi_seq (pv 0)) (blkOk_by (N := nm_are_between) (sc := defScope (top 3)) (by decide +kernel)) (fun _ _ _ _ _ => (pg_name (i := 3) nd rfl (by first | exact Or.inl rfl | exact Or.inr rfl))) (fun _ _ _ _ _ => pts_nil) (fun _ _ _ _ _ => (pe_cal c_is_between (hr.mono (by omega)) (by rfl) (pa_cons (pv 3) (pa_cons (pv 1) (pa_cons (pv 2) pa_nil)))))) pa_nil))))))
theorem sc_lowest : FnScope nm_lowest ps_lowest (defScope (top 14)) := ⟨rfl, rfl, rfl, by decide +kernel, rfl, by decide +kernel, by decide +kernel⟩
def t_lowest (K : PySem.W.Frag) : TS := (tSeq (tAsg (tCall (sp_divisor_of K) [] E0 (tCons (tVar 0) (tCons (tVar 1) tNil))) (gName 2)) (tRet (tTup (tCons (tOp rDivW (tVar 0) (tVar 2)) (tCons (tOp rDivW (tVar 1) (tVar 2)) tNil)))))
theorem tm_lowest {f : Addr} (T : Top K mg) (c_divisor_of : Cal P w K mg base "divisor_of" 1 ps_divisor_of (sp_divisor_of K)) (cdv : Value) (A : Around) (outer : List PySem.Env) (s : Shared) (H : Hp) (E : XK) : Room 1 (A.deeper (envOfC "lowest" (defScope (top 14)) s.heap.objs.size f cdv)) → PSs (cxOf CX0 P w K mg base nm_lowest "lowest" (defScope (top 14)) f cdv A outer s H E).nox (defBody (top 14)) (t_lowest K) := fun hr => by
  have nd := sc_lowest.nd
  exact (pss_cons (ps_set (i := 2) nd rfl (Or.inl rfl) (pe_cal c_divisor_of (hr.mono (by omega)) (by rfl) (pa_cons (pv 0) (pa_cons (pv 1) pa_nil)))) (pss_one (ps_ret (pe_tup (pa_cons (pe_op op_fdivW (pv 0) (pv 2)) (pa_cons (pe_op op_fdivW (pv 1) (pv 2)) pa_nil))))))
theorem sc_is_table_value : FnScope nm_is_table_value ps_is_table_value (defScope (top 22)) := ⟨rfl, rfl, rfl, by decide +kernel, rfl, by decide +kernel, by decide +kernel⟩
def t_is_table_value (K : PySem.W.Frag) : TS := (tSeq (tIfS (tOr (tNot (tB (tCB (rIsi K) (tCons (tVar 0) (tCons (tC (.ty "tuple")) tNil))))) (tOr (tNot (tTest (tChain rLeI rLeI (tC (.int 1)) (tCB (rLenQ K) (tCons (tVar 0) tNil)) (tC (.int 8))))) (tNot (tB (tCB (rAll K) (tCons (tLc (iSeq K (tVar 0)) (gName 1) tYes (tCall (sp_is_share_value K) [] E0 (tCons (tVar 1) tNil)) [1]) tNil)))))) (tRet (tC (.bl false))) tNext) (tRet (tOp (rEqD K) (tCall (sp_total K) [] E0 (tCons (tVar 0) tNil)) (tC (.ref (He.ga K "ONE"))))))
theorem tm_is_table_value {f : Addr} (T : Top K mg) (c_is_share_value : Cal P w K mg base "is_share_value" 3 ps_is_share_value (sp_is_share_value K)) (c_total : Cal P w K mg base "total" 4 ps_total (sp_total K)) (cdv : Value) (A : Around) (outer : List PySem.Env) (s : Shared) (H : Hp) (E : XK) : Room 4 (A.deeper (envOfC "is_table_value" (defScope (top 22)) s.heap.objs.size f cdv)) → PSs (cxOf CX0 P w K mg base nm_is_table_value "is_table_value" (defScope (top 22)) f cdv A outer s H E).nox (defBody (top 22)) (t_is_table_value K) := fun hr => by
  have nd := sc_is_table_value.nd
  exact (pss_cons (ps_if (PW.pt (pw_or (pt_not (pt_val (pe_callB call_isi (by rfl) T.n_isinstance bt_isinstance (pa_cons (pv 0) (pa_cons (pe_bltn (v := .ty "tuple") (by rfl) T.n_tuple bt_tuple rfl) pa_nil))))) (pw_or (pt_not (pt_chain op_le op_le pe_int (pe_callB call_len_seq (by rfl) T.n_len bt_len (pa_cons (pv 0) pa_nil)) pe_int (by rfl))) (pw_or1 (pt_not (pt_val (pe_callB (cr_all rfl) (by rfl) T.n_all bt_all (pa_cons (pe_lc (own := [("part", 1)]) (by rfl) nd (pi_seq (pv 0)) (blkOk_by (N := nm_is_table_value) (sc := defScope (top 22)) (by decide +kernel)) (fun _ _ _ _ _ => (pg_name (i := 1) nd rfl (by first | exact Or.inl rfl | exact Or.inr rfl))) (fun _ _ _ _ _ => pts_nil) (fun _ _ _ _ _ => (pe_cal c_is_share_value (hr.mono (by omega)) (by rfl) (pa_cons (pv 1) pa_nil)))) pa_nil)))))))) (pss_one (ps_ret pe_bl)) pss_nil) (pss_one (ps_ret (pe_cmpR (op_eqD hr.units) (pe_cal c_total (hr.mono (by omega)) (by rfl) (pa_cons (pv 0) pa_nil)) (pe_glob rfl T.one rfl) (nomark _)))))
theorem sc_need_table : FnScope nm_need_table ps_need_table (defScope (top 38)) := ⟨rfl, rfl, rfl, by decide +kernel, rfl, by decide +kernel, by decide +kernel⟩
def t_need_table (K : PySem.W.Frag) : TS := (tIfS (tNot (tB (tCall (sp_is_table_value K) [] E0 (tCons (tVar 0) tNil)))) tNever tNext)
theorem tm_need_table {f : Addr} (T : Top K mg) (c_is_table_value : Cal P w K mg base "is_table_value" 5 ps_is_table_value (sp_is_table_value K)) (cdv : Value) (A : Around) (outer : List PySem.Env) (s : Shared) (H : Hp) (E : XK) : Room 5 (A.deeper (envOfC "need_table" (defScope (top 38)) s.heap.objs.size f cdv)) → PSs (cxOf CX0 P w K mg base nm_need_table "need_table" (defScope (top 38)) f cdv A outer s H E).nox (defBody (top 38)) (t_need_table K) := fun hr => by
  have nd := sc_need_table.nd
  exact (pss_one (ps_if (pt_not (pt_val (pe_cal c_is_table_value (hr.mono (by omega)) (by rfl) (pa_cons (pv 0) pa_nil)))) (pss_one ps_never) pss_nil))
theorem sc_raw_mixed : FnScope nm_raw_mixed ps_raw_mixed (defScope (top 48)) := ⟨rfl, rfl, rfl, by decide +kernel, rfl, by decide +kernel, by decide +kernel⟩
def t_raw_mixed (K : PySem.W.Frag) : TS := (tSeq (tAsg (tLst tNil) (gName 2)) (tSeq (tFor (iRng1 (tCons (tCB (rLenQ K) (tCons (tOp (rIx K) (tVar 1) (tC (.int 0))) tNil)) tNil)) (gName 3) (tDrop (tBM K "list" rAppend (tVar 2) (tCons (tCall (sp_total K) [] E0 (tCons (tLc (iZipS K (tCons (tVar 0) (tCons (tVar 1) tNil))) (gTup K 2 (gCons (gName 4) (gCons (gName 5) gNil))) tYes (tCall (sp_times K) [] E0 (tCons (tVar 4) (tCons (tOp (rIx K) (tVar 5) (tVar 3)) tNil))) [4, 5]) tNil)) tNil)))) (tRet (tCB (rTupQ K) (tCons (tVar 2) tNil)))))
theorem tm_raw_mixed {f : Addr} (T : Top K mg) (c_total : Cal P w K mg base "total" 4 ps_total (sp_total K)) (c_times : Cal P w K mg base "times" 3 ps_times (sp_times K)) (cdv : Value) (A : Around) (outer : List PySem.Env) (s : Shared) (H : Hp) (E : XK) : Room 4 (A.deeper (envOfC "raw_mixed" (defScope (top 48)) s.heap.objs.size f cdv)) → PSs (cxOf CX0 P w K mg base nm_raw_mixed "raw_mixed" (defScope (top 48)) f cdv A outer s H E).nox (defBody (top 48)) (t_raw_mixed K) := fun hr => by
  have nd := sc_raw_mixed.nd
  exact (pss_cons (ps_set (i := 2) nd rfl (Or.inl rfl) (pe_lst pa_nil)) (pss_cons (ps_for PassesOwn.never rfl (pi_range1 (by rfl) T.n_range (pa_cons (pe_callB call_len_seq (by rfl) T.n_len bt_len (pa_cons (pe_ix ix_seq (pv 1) pe_int (fun _ _ => rfl)) pa_nil)) pa_nil)) (pg_name (i := 3) nd rfl (Or.inr rfl)) (pss_one (ps_expr (pe_bm PySem.F.plainAttrs_list PySem.F.slot_list_append PySem.F.type_list_append mt_append (pv 2) (pa_cons (pe_cal c_total (hr.mono (by omega)) (by rfl) (pa_cons (pe_lc (own := [("chance", 4), ("part", 5)]) (by rfl) nd (pi_zipS (by rfl) T.n_zip (pa_cons (pv 0) (pa_cons (pv 1) pa_nil))) (blkOk_by (N := nm_raw_mixed) (sc := defScope (top 48)) (by decide +kernel)) (fun _ _ _ _ _ => (pg_tup rfl (pgs_cons (pg_name (i := 4) nd rfl (by first | exact Or.inl rfl | exact Or.inr rfl)) (pgs_cons (pg_name (i := 5) nd rfl (by first | exact Or.inl rfl | exact Or.inr rfl)) pgs_nil)))) (fun _ _ _ _ _ => pts_nil) (fun _ _ _ _ _ => (pe_cal c_times (hr.mono (by omega)) (by rfl) (pa_cons (pv 4) (pa_cons (pe_ix ix_seq (pv 5) (pv 3) (fun _ _ => rfl)) pa_nil))))) pa_nil)) pa_nil))))) (pss_one (ps_ret (pe_callTy call_tuple_of (by rfl) T.n_tuple bt_tuple (pa_cons (pv 2) pa_nil))))))
theorem sc_raw_outcomes : FnScope nm_raw_outcomes ps_raw_outcomes (defScope (top 61)) := ⟨rfl, rfl, rfl, by decide +kernel, rfl, by decide +kernel, by decide +kernel⟩
def t_raw_outcomes (K : PySem.W.Frag) (n : Nat) : TS := (tSeq (tAsg (tOp (rIx K) (tVar 0) (tC (.int 0))) (gName 1)) (tSeq (tIfS (tTest (tOp rEq (tVar 1) (tC (.str "value")))) (tRet (tOp (rIx K) (tVar 0) (tC (.int 1)))) tNext) (tSeq (tIfS (tTest (tOp rEq (tVar 1) (tC (.str "draw")))) (tRet (tCB (rLenQ K) (tCons (tOp (rIx K) (tVar 0) (tC (.int 1))) tNil))) tNext) (tSeq (tIfS (tTest (tOp rEq (tVar 1) (tC (.str "place")))) (tRet (tOp (rIx K) (tVar 0) (tC (.int 2)))) tNext) (tSeq (tIfS (tTest (tOp rEq (tVar 1) (tC (.str "bind")))) (tRet (tCall (sp_raw_outcomes K n) [] E0 (tCons (tOp (rIx K) (tOp (rIx K) (tVar 0) (tC (.int 2))) (tC (.int 0))) tNil))) tNext) (tRet (tIf (tTest (tOp rEq (tVar 1) (tC (.str "again")))) (tCall (sp_raw_outcomes K n) [] E0 (tCons (tOp (rIx K) (tVar 0) (tC (.int 1))) tNil)) (tOp (rIx K) (tVar 0) (tC (.int 3))))))))))
theorem tm_raw_outcomes (n : Nat) {f : Addr} (T : Top K mg) (c_raw_outcomes : Cal P w K mg base "raw_outcomes" (0 + 1 * n) ps_raw_outcomes (sp_raw_outcomes K n)) (cdv : Value) (A : Around) (outer : List PySem.Env) (s : Shared) (H : Hp) (E : XK) : Room (0 + 1 * n) (A.deeper (envOfC "raw_outcomes" (defScope (top 61)) s.heap.objs.size f cdv)) → PSs (cxOf CX0 P w K mg base nm_raw_outcomes "raw_outcomes" (defScope (top 61)) f cdv A outer s H E).nox (defBody (top 61)) (t_raw_outcomes K n) := fun hr => by
  have nd := sc_raw_outcomes.nd
  exact (pss_cons (ps_set (i := 1) nd rfl (Or.inl rfl) (pe_ix ix_seq (pv 0) pe_int (fun _ _ => rfl))) (pss_cons (ps_if (pt_cmpR op_eq (pv 1) pe_str (nomark _)) (pss_one (ps_ret (pe_ix ix_seq (pv 0) pe_int (fun _ _ => rfl)))) pss_nil) (pss_cons (ps_if (pt_cmpR op_eq (pv 1) pe_str (nomark _)) (pss_one (ps_ret (pe_callB call_len_seq (by rfl) T.n_len bt_len (pa_cons (pe_ix ix_seq (pv 0) pe_int (fun _ _ => rfl)) pa_nil)))) pss_nil) (pss_cons (ps_if (pt_cmpR op_eq (pv 1) pe_str (nomark _)) (pss_one (ps_ret (pe_ix ix_seq (pv 0) pe_int (fun _ _ => rfl)))) pss_nil) (pss_cons (ps_if (pt_cmpR op_eq (pv 1) pe_str (nomark _)) (pss_one (ps_ret (pe_cal c_raw_outcomes (hr.mono (by omega)) (by rfl) (pa_cons (pe_ix ix_seq (pe_ix ix_seq (pv 0) pe_int (fun _ _ => rfl)) pe_int (fun _ _ => rfl)) pa_nil)))) pss_nil) (pss_one (ps_ret (pe_ifExp (pt_cmpR op_eq (pv 1) pe_str (nomark _)) (pe_cal c_raw_outcomes (hr.mono (by omega)) (by rfl) (pa_cons (pe_ix ix_seq (pv 0) pe_int (fun _ _ => rfl)) pa_nil)) (pe_ix ix_seq (pv 0) pe_int (fun _ _ => rfl))))))))))
theorem sc_again_lengths : FnScope nm_again_lengths ps_again_lengths (defScope (top 71)) := ⟨rfl, rfl, rfl, by decide +kernel, rfl, by decide +kernel, by decide +kernel⟩
def t_again_lengths (K : PySem.W.Frag) : TS := (tSeq (tAsg (tLst tNil) (gName 2)) (tSeq (tFor (iEnumS K (tCons (tVar 0) tNil)) (gTup K 2 (gCons (gName 3) (gCons (gName 4) gNil))) (tSeq (tAsg (tLc (iEnumS K (tCons (tVar 4) tNil)) (gTup K 2 (gCons (gName 8) (gCons (gName 9) gNil))) tYes (tIf (tTest (tOp (rIn K false) (tVar 8) (tVar 1))) (tVar 9) (tC (.int 0))) [8, 9]) (gName 5)) (tSeq (tFor (iRng2 (tCons (tC (.int 1)) (tCons (tOp rPlus (tVar 3) (tC (.int 1))) tNil))) (gName 6) (tSeq (tAsg (tCB (rSum K) (tCons (tLc (iEnumS K (tCons (tOp (rIx K) (tVar 0) (tVar 6)) tNil)) (gTup K 2 (gCons (gName 8) (gCons (gName 9) gNil))) (tTest (tOp (rIn K true) (tVar 8) (tVar 1))) (tVar 9) [8, 9]) tNil)) (gName 7)) (tAsg (tLc (iZipS K (tCons (tVar 5) (tCons (tOp (rIx K) (tVar 2) (tOp rMinus (tVar 3) (tVar 6))) tNil))) (gTup K 2 (gCons (gName 9) (gCons (gName 10) gNil))) tYes (tOp rPlus (tVar 9) (tOp rMulX (tVar 7) (tVar 10))) [9, 10]) (gName 5)))) (tDrop (tBM K "list" rAppend (tVar 2) (tCons (tVar 5) tNil)))))) (tRet (tVar 2))))
theorem tm_again_lengths {f : Addr} (T : Top K mg) (cdv : Value) (A : Around) (outer : List PySem.Env) (s : Shared) (H : Hp) (E : XK) : Room 0 (A.deeper (envOfC "again_lengths" (defScope (top 71)) s.heap.objs.size f cdv)) → PSs (cxOf CX0 P w K mg base nm_again_lengths "again_lengths" (defScope (top 71)) f cdv A outer s H E).nox (defBody (top 71)) (t_again_lengths K) := fun hr => by
  have nd := sc_again_lengths.nd
  exact (pss_cons (ps_set (i := 2) nd rfl (Or.inl rfl) (pe_lst pa_nil)) (pss_cons (ps_for PassesOwn.never rfl (pi_enumS (by rfl) T.n_enumerate (pa_cons (pv 0) pa_nil)) (pg_tup rfl (pgs_cons (pg_name (i := 3) nd rfl (Or.inl rfl)) (pgs_cons (pg_name (i := 4) nd rfl (Or.inl rfl)) pgs_nil))) (pss_cons (ps_setLc (i := 5) (own := [("outcome", 8), ("number", 9)]) (by rfl) nd rfl rfl (sw_true rfl rfl rfl (by decide +kernel)) (pi_enumS (by rfl) T.n_enumerate (pa_cons (pv 4) pa_nil)) (blkOk_by (N := nm_again_lengths) (sc := defScope (top 71)) (by decide +kernel)) (fun _ _ _ _ _ => (pg_tup rfl (pgs_cons (pg_name (i := 8) nd rfl (by first | exact Or.inl rfl | exact Or.inr rfl)) (pgs_cons (pg_name (i := 9) nd rfl (by first | exact Or.inl rfl | exact Or.inr rfl)) pgs_nil)))) (fun _ _ _ _ _ => pts_nil) (fun _ _ _ _ _ => (pe_ifExp (pt_cmpR op_in_seq (pv 8) (pv 1) (by rfl)) (pv 9) pe_int))) (pss_cons (ps_for PassesOwn.never rfl (pi_range2 (by rfl) T.n_range (pa_cons pe_int (pa_cons (pe_op op_add (pv 3) pe_int) pa_nil))) (pg_name (i := 6) nd rfl (Or.inl rfl)) (pss_cons (ps_set (i := 7) nd rfl (Or.inr rfl) (pe_callB (cr_sum rfl) (by rfl) T.n_sum bt_sum (pa_cons (pe_lc (own := [("outcome", 8), ("number", 9)]) (by rfl) nd (pi_enumS (by rfl) T.n_enumerate (pa_cons (pe_ix ix_seq (pv 0) (pv 6) (fun _ _ => rfl)) pa_nil)) (blkOk_by (N := nm_again_lengths) (sc := defScope (top 71)) (by decide +kernel)) (fun _ _ _ _ _ => (pg_tup rfl (pgs_cons (pg_name (i := 8) nd rfl (by first | exact Or.inl rfl | exact Or.inr rfl)) (pgs_cons (pg_name (i := 9) nd rfl (by first | exact Or.inl rfl | exact Or.inr rfl)) pgs_nil)))) (fun _ _ _ _ _ => (pts_one (pt_cmpR op_notIn_seq (pv 8) (pv 1) (by rfl)))) (fun _ _ _ _ _ => (pv 9))) pa_nil))) (pss_one (ps_setLc (i := 5) (own := [("number", 9), ("more", 10)]) (by rfl) nd rfl rfl (sw_true rfl rfl rfl (by decide +kernel)) (pi_zipS (by rfl) T.n_zip (pa_cons (pv 5) (pa_cons (pe_ix ix_seq (pv 2) (pe_op op_sub (pv 3) (pv 6)) (fun _ _ => rfl)) pa_nil))) (blkOk_by (N := nm_again_lengths) (sc := defScope (top 71)) (by decide +kernel)) (fun _ _ _ _ _ => (pg_tup rfl (pgs_cons (pg_name (i := 9) nd rfl (by first | exact Or.inl rfl | exact Or.inr rfl)) (pgs_cons (pg_name (i := 10) nd rfl (by first | exact Or.inl rfl | exact Or.inr rfl)) pgs_nil)))) (fun _ _ _ _ _ => pts_nil) (fun _ _ _ _ _ => (pe_op op_add (pv 9) (pe_op op_mulX (pv 7) (pv 10)))))))) (pss_one (ps_expr (pe_bm PySem.F.plainAttrs_list PySem.F.slot_list_append PySem.F.type_list_append mt_append (pv 2) (pa_cons (pv 5) pa_nil))))))) (pss_one (ps_ret (pv 2)))))
theorem sc_law_pick : FnScope nm_law_pick ps_law_pick (defScope (top 81)) := ⟨rfl, rfl, rfl, by decide +kernel, rfl, by decide +kernel, by decide +kernel⟩
def t_law_pick (K : PySem.W.Frag) : TS := (tRet (tOp (rIx K) (tVar 1) (tCall (sp_law_draw K) [] E0 (tCons (tVar 0) (tCons (tCB (rLenQ K) (tCons (tVar 1) tNil)) tNil)))))
theorem tm_law_pick {f : Addr} (T : Top K mg) (c_law_draw : Cal P w K mg base "_law_draw" 1 ps_law_draw (sp_law_draw K)) (cdv : Value) (A : Around) (outer : List PySem.Env) (s : Shared) (H : Hp) (E : XK) : Room 1 (A.deeper (envOfC "_law_pick" (defScope (top 81)) s.heap.objs.size f cdv)) → PSs (cxOf CX0 P w K mg base nm_law_pick "_law_pick" (defScope (top 81)) f cdv A outer s H E).nox (defBody (top 81)) (t_law_pick K) := fun hr => by
  have nd := sc_law_pick.nd
  exact (pss_one (ps_ret (pe_ix ix_seq (pv 1) (pe_cal c_law_draw (hr.mono (by omega)) (by rfl) (pa_cons (pv 0) (pa_cons (pe_callB call_len_seq (by rfl) T.n_len bt_len (pa_cons (pv 1) pa_nil)) pa_nil))) (fun _ _ => rfl))))
theorem sc_law_is_less : FnScope nm_law_is_less ps_law_is_less (defScope (top 89)) := ⟨rfl, rfl, rfl, by decide +kernel, rfl, by decide +kernel, by decide +kernel⟩
def t_law_is_less (K : PySem.W.Frag) : TS := (tRet (tOp rLtI (tOp rMulX (tOp (rIx K) (tVar 0) (tC (.int 0))) (tOp (rIx K) (tVar 1) (tC (.int 1)))) (tOp rMulX (tOp (rIx K) (tVar 1) (tC (.int 0))) (tOp (rIx K) (tVar 0) (tC (.int 1))))))
theorem tm_law_is_less {f : Addr} (T : Top K mg) (cdv : Value) (A : Around) (outer : List PySem.Env) (s : Shared) (H : Hp) (E : XK) : Room 0 (A.deeper (envOfC "_law_is_less" (defScope (top 89)) s.heap.objs.size f cdv)) → PSs (cxOf CX0 P w K mg base nm_law_is_less "_law_is_less" (defScope (top 89)) f cdv A outer s H E).nox (defBody (top 89)) (t_law_is_less K) := fun hr => by
  have nd := sc_law_is_less.nd
  exact (pss_one (ps_ret (pe_cmpR op_lt (pe_op op_mulX (pe_ix ix_seq (pv 0) pe_int (fun _ _ => rfl)) (pe_ix ix_seq (pv 1) pe_int (fun _ _ => rfl))) (pe_op op_mulX (pe_ix ix_seq (pv 1) pe_int (fun _ _ => rfl)) (pe_ix ix_seq (pv 0) pe_int (fun _ _ => rfl))) (nomark _))))
theorem sc_law_made_tail : FnScope nm_law_made_tail ps_law_made_tail (defScope (top 97)) := ⟨rfl, rfl, rfl, by decide +kernel, rfl, by decide +kernel, by decide +kernel⟩
def t_law_made_tail (K : PySem.W.Frag) : TS := (tSeq (tAsg (tOp rShlW (tC (.int 1)) (tVar 1)) (gName 2)) (tSeq (tFor (iSeq K (tVar 0)) (gName 3) (tAsg (tOp rMinus (tVar 2) (tCB (rSum K) (tCons (tLc (iEnumS K (tCons (tSl (rSlL K) (tVar 3) tNoPart (tPart (tOp rPlus (tVar 1) (tC (.int 1))))) tNil)) (gTup K 2 (gCons (gName 4) (gCons (gName 5) gNil))) tYes (tOp rShlW (tVar 5) (tOp rMinus (tVar 1) (tVar 4))) [4, 5]) tNil))) (gName 2))) (tRet (tCall (sp_law_fraction K) [] E0 (tCons (tVar 2) (tCons (tOp rShlW (tC (.int 1)) (tVar 1)) tNil))))))
theorem tm_law_made_tail {f : Addr} (T : Top K mg) (c_law_fraction : Cal P w K mg base "_law_fraction" 2 ps_law_fraction (sp_law_fraction K)) (cdv : Value) (A : Around) (outer : List PySem.Env) (s : Shared) (H : Hp) (E : XK) : Room 2 (A.deeper (envOfC "_law_made_tail" (defScope (top 97)) s.heap.objs.size f cdv)) → PSs (cxOf CX0 P w K mg base nm_law_made_tail "_law_made_tail" (defScope (top 97)) f cdv A outer s H E).nox (defBody (top 97)) (t_law_made_tail K) := fun hr => by
  have nd := sc_law_made_tail.nd
  exact (pss_cons (ps_set (i := 2) nd rfl (Or.inl rfl) (pe_op op_shlW pe_int (pv 1))) (pss_cons (ps_for PassesOwn.never rfl (pi_seq (pv 0)) (pg_name (i := 3) nd rfl (Or.inl rfl)) (pss_one (ps_set (i := 2) nd rfl (Or.inl rfl) (pe_op op_sub (pv 2) (pe_callB (cr_sum rfl) (by rfl) T.n_sum bt_sum (pa_cons (pe_lc (own := [("_law_length", 4), ("_law_many", 5)]) (by rfl) nd (pi_enumS (by rfl) T.n_enumerate (pa_cons (pe_slice sl_list (pv 3) po_none (po_some (pe_op op_add (pv 1) pe_int))) pa_nil)) (blkOk_by (N := nm_law_made_tail) (sc := defScope (top 97)) (by decide +kernel)) (fun _ _ _ _ _ => (pg_tup rfl (pgs_cons (pg_name (i := 4) nd rfl (by first | exact Or.inl rfl | exact Or.inr rfl)) (pgs_cons (pg_name (i := 5) nd rfl (by first | exact Or.inl rfl | exact Or.inr rfl)) pgs_nil)))) (fun _ _ _ _ _ => pts_nil) (fun _ _ _ _ _ => (pe_op op_shlW (pv 5) (pe_op op_sub (pv 1) (pv 4))))) pa_nil)))))) (pss_one (ps_ret (pe_cal c_law_fraction (hr.mono (by omega)) (by rfl) (pa_cons (pv 2) (pa_cons (pe_op op_shlW pe_int (pv 1)) pa_nil)))))))
theorem sc_law_are_lengths_right : FnScope nm_law_are_lengths_right ps_law_are_lengths_right (defScope (top 105)) := ⟨rfl, rfl, rfl, by decide +kernel, rfl, by decide +kernel, by decide +kernel⟩
def t_law_are_lengths_right (K : PySem.W.Frag) : TS := (tSeq (tPar 4 5 (tCons (tCall (sp_law_meaning K 4) [] E0 (tCons (tVar 1) tNil)) (tCons (tLc (iRng1 (tCons (tOp rPlus (tVar 3) (tC (.int 1))) tNil)) (gName 6) tYes (tCall (sp_law_made_tail K) [] E0 (tCons (tVar 2) (tCons (tVar 6) tNil))) [6]) tNil))) (tSeq (tFor (iRng1 (tCons (tC (.int 6)) tNil)) (gName 7) (tSeq (tPar 10 6 (tCons (tCall (sp_law_draw K) [] E0 (tCons (tVar 0) (tCons (tCB (rLenQ K) (tCons (tVar 4) tNil)) tNil))) (tCons (tCall (sp_law_draw K) [] E0 (tCons (tVar 0) (tCons (tOp rPlus (tVar 3) (tC (.int 1))) tNil))) tNil))) (tSeq (tAsg (tCall (sp_law_fraction K) [] E0 (tCons (tOp (rIx K) (tOp (rIx K) (tVar 2) (tVar 10)) (tVar 6)) (tCons (tOp rShlW (tC (.int 1)) (tVar 6)) tNil))) (gName 8)) (tSeq (tAsg (tIf (tTest (tOp rLtI (tVar 7) (tC (.int 3)))) (tCall (sp_length_chance K) [] E0 (tCons (tVar 1) (tCons (tVar 10) (tCons (tVar 6) tNil)))) (tCallK (sp_length_chance K) gv_3 E0 tNil (tCons (tVar 6) (tCons (tVar 10) (tCons (tVar 1) tNil))))) (gName 9)) (tIfS (tTest (tOp rNe (tCB (rRepr K) (tCons (tVar 9) tNil)) (tCB (rRepr K) (tCons (tVar 8) tNil)))) (tRet (tC (.bl false))) tNext))))) (tSeq (tFor (iRng1 (tCons (tC (.int 4)) tNil)) (gName 7) (tSeq (tAsg (tCall (sp_law_draw K) [] E0 (tCons (tVar 0) (tCons (tOp rPlus (tVar 3) (tC (.int 1))) tNil))) (gName 6)) (tSeq (tAsg (tIf (tTest (tOp rLtI (tVar 7) (tC (.int 2)))) (tCall (sp_made_tail K) [] E0 (tCons (tVar 1) (tCons (tVar 6) tNil))) (tCallK (sp_made_tail K) gv_2 E0 tNil (tCons (tVar 6) (tCons (tVar 1) tNil)))) (gName 9)) (tSeq (tAsg (tCall (sp_floor_at K) [] E0 (tCons (tVar 4) (tCons (tVar 6) tNil))) (gName 11)) (tIfS (tOr (tTest (tOp rNe (tCB (rRepr K) (tCons (tTup (tCons (tVar 9) (tCons (tVar 11) tNil))) tNil)) (tCB (rRepr K) (tCons (tTup (tCons (tOp (rIx K) (tVar 5) (tVar 6)) (tCons (tCall (sp_law_floor K) [] E0 (tCons (tVar 4) (tCons (tVar 6) tNil))) tNil))) tNil)))) (tB (tCall (sp_law_is_less K) [] E0 (tCons (tVar 9) (tCons (tVar 11) tNil))))) (tRet (tC (.bl false))) tNext))))) (tRet (tNotV (tCall (sp_law_is_less K) [] E0 (tCons (tCall (sp_plain_cost K) [] E0 (tCons (tVar 1) tNil)) (tCons (tCall (sp_law_total K) [] E0 (tCons (tVar 5) tNil)) tNil))))))))
theorem tm_law_are_lengths_right {f : Addr} (T : Top K mg) (c_law_made_tail : Cal P w K mg base "_law_made_tail" 3 ps_law_made_tail (sp_law_made_tail K)) (c_law_meaning : Cal P w K mg base "_law_meaning" 9 ps_law_meaning (sp_law_meaning K 4)) (c_law_draw : Cal P w K mg base "_law_draw" 1 ps_law_draw (sp_law_draw K)) (c_law_fraction : Cal P w K mg base "_law_fraction" 2 ps_law_fraction (sp_law_fraction K)) (c_length_chance : Cal P w K mg base "length_chance" 18 ps_length_chance (sp_length_chance K)) (c_made_tail : Cal P w K mg base "made_tail" 18 ps_made_tail (sp_made_tail K)) (c_floor_at : Cal P w K mg base "floor_at" 7 ps_floor_at (sp_floor_at K)) (c_law_is_less : Cal P w K mg base "_law_is_less" 1 ps_law_is_less (sp_law_is_less K)) (c_law_floor : Cal P w K mg base "_law_floor" 3 ps_law_floor (sp_law_floor K)) (c_law_total : Cal P w K mg base "_law_total" 4 ps_law_total (sp_law_total K)) (c_plain_cost : Cal P w K mg base "plain_cost" 18 ps_plain_cost (sp_plain_cost K)) (k_length_chance : CalK P w K mg base "length_chance" 18 ps_length_chance ["t", "outcome", "program"] gv_3 (sp_length_chance K)) (k_made_tail : CalK P w K mg base "made_tail" 18 ps_made_tail ["t", "program"] gv_2 (sp_made_tail K)) (cdv : Value) (A : Around) (outer : List PySem.Env) (s : Shared) (H : Hp) (E : XK) : A.guards = some [] → Room 18 (A.deeper (envOfC "_law_are_lengths_right" (defScope (top 105)) s.heap.objs.size f cdv)) → PSs (cxOf CX0 P w K mg base nm_law_are_lengths_right "_law_are_lengths_right" (defScope (top 105)) f cdv A outer s H E).nox (defBody (top 105)) (t_law_are_lengths_right K) := fun hgd hr => by
  have nd := sc_law_are_lengths_right.nd
  exact (pss_cons (ps_par (i := 4) (j := 5) (by rfl) nd rfl rfl (by decide) rfl rfl (pa_cons (pe_cal c_law_meaning (hr.mono (by omega)) (by rfl) (pa_cons (pv 1) pa_nil)) (pa_cons (pe_lc (own := [("_law_t", 6)]) (by rfl) nd (pi_range1 (by rfl) T.n_range (pa_cons (pe_op op_add (pv 3) pe_int) pa_nil)) (blkOk_by (N := nm_law_are_lengths_right) (sc := defScope (top 105)) (by decide +kernel)) (fun _ _ _ _ _ => (pg_name (i := 6) nd rfl (by first | exact Or.inl rfl | exact Or.inr rfl))) (fun _ _ _ _ _ => pts_nil) (fun _ _ _ _ _ => (pe_cal c_law_made_tail (hr.mono (by omega)) (by rfl) (pa_cons (pv 2) (pa_cons (pv 6) pa_nil))))) pa_nil)) (by rfl)) (pss_cons (ps_for PassesOwn.never rfl (pi_range1 (by rfl) T.n_range (pa_cons pe_int pa_nil)) (pg_name (i := 7) nd rfl (Or.inl rfl)) (pss_cons (ps_par (i := 10) (j := 6) (by rfl) nd rfl rfl (by decide) rfl rfl (pa_cons (pe_cal c_law_draw (hr.mono (by omega)) (by rfl) (pa_cons (pv 0) (pa_cons (pe_callB call_len_seq (by rfl) T.n_len bt_len (pa_cons (pv 4) pa_nil)) pa_nil))) (pa_cons (pe_cal c_law_draw (hr.mono (by omega)) (by rfl) (pa_cons (pv 0) (pa_cons (pe_op op_add (pv 3) pe_int) pa_nil))) pa_nil)) (by rfl)) (pss_cons (ps_set (i := 8) nd rfl (Or.inl rfl) (pe_cal c_law_fraction (hr.mono (by omega)) (by rfl) (pa_cons (pe_ix ix_seq (pe_ix ix_seq (pv 2) (pv 10) (fun _ _ => rfl)) (pv 6) (fun _ _ => rfl)) (pa_cons (pe_op op_shlW pe_int (pv 6)) pa_nil)))) (pss_cons (ps_set (i := 9) nd rfl (Or.inl rfl) (pe_ifExp (pt_cmpR op_lt (pv 7) pe_int (nomark _)) (pe_cal c_length_chance (hr.mono (by omega)) (by rfl) (pa_cons (pv 1) (pa_cons (pv 10) (pa_cons (pv 6) pa_nil)))) (pe_calKX k_length_chance (hr.mono (by omega)) (by rfl) (pk_cons (pv 6) (pk_cons (pv 10) (pk_cons (pv 1) pk_nil)))))) (pss_one (ps_if (pt_cmpR op_ne (pe_callB (call_reprD hgd hr.units) (by rfl) T.n_repr bt_repr (pa_cons (pv 9) pa_nil)) (pe_callB (call_reprD hgd hr.units) (by rfl) T.n_repr bt_repr (pa_cons (pv 8) pa_nil)) (nomark _)) (pss_one (ps_ret pe_bl)) pss_nil)))))) (pss_cons (ps_for PassesOwn.never rfl (pi_range1 (by rfl) T.n_range (pa_cons pe_int pa_nil)) (pg_name (i := 7) nd rfl (Or.inl rfl)) (pss_cons (ps_set (i := 6) nd rfl (Or.inl rfl) (pe_cal c_law_draw (hr.mono (by omega)) (by rfl) (pa_cons (pv 0) (pa_cons (pe_op op_add (pv 3) pe_int) pa_nil)))) (pss_cons (ps_set (i := 9) nd rfl (Or.inl rfl) (pe_ifExp (pt_cmpR op_lt (pv 7) pe_int (nomark _)) (pe_cal c_made_tail (hr.mono (by omega)) (by rfl) (pa_cons (pv 1) (pa_cons (pv 6) pa_nil))) (pe_calKX k_made_tail (hr.mono (by omega)) (by rfl) (pk_cons (pv 6) (pk_cons (pv 1) pk_nil))))) (pss_cons (ps_set (i := 11) nd rfl (Or.inl rfl) (pe_cal c_floor_at (hr.mono (by omega)) (by rfl) (pa_cons (pv 4) (pa_cons (pv 6) pa_nil)))) (pss_one (ps_if (PW.pt (pw_or (pt_cmpR op_ne (pe_callB (call_reprD hgd hr.units) (by rfl) T.n_repr bt_repr (pa_cons (pe_tup (pa_cons (pv 9) (pa_cons (pv 11) pa_nil))) pa_nil)) (pe_callB (call_reprD hgd hr.units) (by rfl) T.n_repr bt_repr (pa_cons (pe_tup (pa_cons (pe_ix ix_seq (pv 5) (pv 6) (fun _ _ => rfl)) (pa_cons (pe_cal c_law_floor (hr.mono (by omega)) (by rfl) (pa_cons (pv 4) (pa_cons (pv 6) pa_nil))) pa_nil))) pa_nil)) (nomark _)) (pw_or1 (pt_val (pe_cal c_law_is_less (hr.mono (by omega)) (by rfl) (pa_cons (pv 9) (pa_cons (pv 11) pa_nil))))))) (pss_one (ps_ret pe_bl)) pss_nil)))))) (pss_one (ps_ret (pe_not (pe_cal c_law_is_less (hr.mono (by omega)) (by rfl) (pa_cons (pe_cal c_plain_cost (hr.mono (by omega)) (by rfl) (pa_cons (pv 1) pa_nil)) (pa_cons (pe_cal c_law_total (hr.mono (by omega)) (by rfl) (pa_cons (pv 5) pa_nil)) pa_nil)))))))))
end
end K39

set_option Elab.async false
set_option linter.all false
set_option maxRecDepth 100000
set_option maxHeartbeats 1000000
namespace K39
open PySem PySem.Spec PyProof.Rows L2
section
variable {P : Program} {w : World} {K : PySem.W.Frag} {mg : Str → Option Value} {base : Heap}
theorem sc_is_count : FnScope nm_is_count ps_is_count (defScope (top 4)) := ⟨rfl, rfl, rfl, by decide +kernel, rfl, by decide +kernel, by decide +kernel⟩
def t_is_count (K : PySem.W.Frag) : TS := (tRet (tAndV (tCall (sp_is_integer K) [] E0 (tCons (tVar 0) tNil)) (tOp rGeI (tVar 0) (tC (.int 0)))))
theorem tm_is_count {f : Addr} (T : Top K mg) (c_is_integer : Cal P w K mg base "is_integer" 1 ps_is_integer (sp_is_integer K)) (cdv : Value) (A : Around) (outer : List PySem.Env) (s : Shared) (H : Hp) (E : XK) : Room 1 (A.deeper (envOfC "is_count" (defScope (top 4)) s.heap.objs.size f cdv)) → PSs (cxOf CX0 P w K mg base nm_is_count "is_count" (defScope (top 4)) f cdv A outer s H E).nox (defBody (top 4)) (t_is_count K) := fun hr => by
  have nd := sc_is_count.nd
  exact (pss_one (ps_ret (pe_and (pe_cal c_is_integer (hr.mono (by omega)) (by rfl) (pa_cons (pv 0) pa_nil)) (pe_one (pe_cmpR op_ge (pv 0) pe_int (nomark _))))))
theorem sc_plus : FnScope nm_plus ps_plus (defScope (top 15)) := ⟨rfl, rfl, rfl, by decide +kernel, rfl, by decide +kernel, by decide +kernel⟩
def t_plus (K : PySem.W.Frag) : TS := (tRet (tCall (sp_lowest K) [] E0 (tCons (tOp rPlus (tOp rMulX (tOp (rIx K) (tVar 0) (tC (.int 0))) (tOp (rIx K) (tVar 1) (tC (.int 1)))) (tOp rMulX (tOp (rIx K) (tVar 1) (tC (.int 0))) (tOp (rIx K) (tVar 0) (tC (.int 1))))) (tCons (tOp rMulX (tOp (rIx K) (tVar 0) (tC (.int 1))) (tOp (rIx K) (tVar 1) (tC (.int 1)))) tNil))))
theorem tm_plus {f : Addr} (T : Top K mg) (c_lowest : Cal P w K mg base "lowest" 2 ps_lowest (sp_lowest K)) (cdv : Value) (A : Around) (outer : List PySem.Env) (s : Shared) (H : Hp) (E : XK) : Room 2 (A.deeper (envOfC "plus" (defScope (top 15)) s.heap.objs.size f cdv)) → PSs (cxOf CX0 P w K mg base nm_plus "plus" (defScope (top 15)) f cdv A outer s H E).nox (defBody (top 15)) (t_plus K) := fun hr => by
  have nd := sc_plus.nd
  exact (pss_one (ps_ret (pe_cal c_lowest (hr.mono (by omega)) (by rfl) (pa_cons (pe_op op_add (pe_op op_mulX (pe_ix ix_seq (pv 0) pe_int (fun _ _ => rfl)) (pe_ix ix_seq (pv 1) pe_int (fun _ _ => rfl))) (pe_op op_mulX (pe_ix ix_seq (pv 1) pe_int (fun _ _ => rfl)) (pe_ix ix_seq (pv 0) pe_int (fun _ _ => rfl)))) (pa_cons (pe_op op_mulX (pe_ix ix_seq (pv 0) pe_int (fun _ _ => rfl)) (pe_ix ix_seq (pv 1) pe_int (fun _ _ => rfl))) pa_nil)))))
theorem sc_power_by : FnScope nm_power_by ps_power_by (defScope (top 24)) := ⟨rfl, rfl, rfl, by decide +kernel, rfl, by decide +kernel, by decide +kernel⟩
def t_power_by (K : PySem.W.Frag) : TS := (tSeq (tPar3 2 3 4 (tCons (tOp rModP (tC (.int 1)) (tVar 1)) (tCons (tOp rModP (tC (.int 2)) (tVar 1)) (tCons (tVar 0) tNil)))) (tSeq (tWhile (tTest (tOp rGtI (tVar 4) (tC (.int 0)))) (tSeq (tIfS (tTest (tOp rEq (tOp rModP (tVar 4) (tC (.int 2))) (tC (.int 1)))) (tAsg (tOp rModP (tOp rMulX (tVar 2) (tVar 3)) (tVar 1)) (gName 2)) tNext) (tSeq (tAsg (tOp rModP (tOp rMulX (tVar 3) (tVar 3)) (tVar 1)) (gName 3)) (tAsg (tOp rDivW (tVar 4) (tC (.int 2))) (gName 4))))) (tRet (tVar 2))))
theorem tm_power_by {f : Addr} (T : Top K mg) (cdv : Value) (A : Around) (outer : List PySem.Env) (s : Shared) (H : Hp) (E : XK) : Room 0 (A.deeper (envOfC "power_by" (defScope (top 24)) s.heap.objs.size f cdv)) → PSs (cxOf CX0 P w K mg base nm_power_by "power_by" (defScope (top 24)) f cdv A outer s H E).nox (defBody (top 24)) (t_power_by K) := fun hr => by
  have nd := sc_power_by.nd
  exact (pss_cons (ps_par3 (i := 2) (j := 3) (l := 4) (by rfl) nd rfl rfl rfl (by decide) (by decide) (by decide) rfl rfl rfl (pa_cons (pe_op op_mod pe_int (pv 1)) (pa_cons (pe_op op_mod pe_int (pv 1)) (pa_cons (pv 0) pa_nil))) (by rfl)) (pss_cons (ps_while PassesOwn.never (pt_cmpR op_gt (pv 4) pe_int (nomark _)) (pss_cons (ps_if (pt_cmpR op_eq (pe_op op_mod (pv 4) pe_int) pe_int (nomark _)) (pss_one (ps_set (i := 2) nd rfl (Or.inl rfl) (pe_op op_mod (pe_op op_mulX (pv 2) (pv 3)) (pv 1)))) pss_nil) (pss_cons (ps_set (i := 3) nd rfl (Or.inl rfl) (pe_op op_mod (pe_op op_mulX (pv 3) (pv 3)) (pv 1))) (pss_one (ps_set (i := 4) nd rfl (Or.inl rfl) (pe_op op_fdivW (pv 4) pe_int)))))) (pss_one (ps_ret (pv 2)))))
theorem sc_need_count : FnScope nm_need_count ps_need_count (defScope (top 39)) := ⟨rfl, rfl, rfl, by decide +kernel, rfl, by decide +kernel, by decide +kernel⟩
def t_need_count (K : PySem.W.Frag) : TS := (tIfS (tNot (tB (tCall (sp_is_count K) [] E0 (tCons (tVar 0) tNil)))) tNever tNext)
theorem tm_need_count {f : Addr} (T : Top K mg) (c_is_count : Cal P w K mg base "is_count" 2 ps_is_count (sp_is_count K)) (cdv : Value) (A : Around) (outer : List PySem.Env) (s : Shared) (H : Hp) (E : XK) : Room 2 (A.deeper (envOfC "need_count" (defScope (top 39)) s.heap.objs.size f cdv)) → PSs (cxOf CX0 P w K mg base nm_need_count "need_count" (defScope (top 39)) f cdv A outer s H E).nox (defBody (top 39)) (t_need_count K) := fun hr => by
  have nd := sc_need_count.nd
  exact (pss_one (ps_if (pt_not (pt_val (pe_cal c_is_count (hr.mono (by omega)) (by rfl) (pa_cons (pv 0) pa_nil)))) (pss_one ps_never) pss_nil))
theorem sc_looked_at : FnScope nm_looked_at ps_looked_at (defScope (top 54)) := ⟨rfl, rfl, rfl, by decide +kernel, rfl, by decide +kernel, by decide +kernel⟩
def t_looked_at (K : PySem.W.Frag) (n : Nat) : TS := (tSeq (tIfS (tTest (tOp rEq (tVar 1) (tC (.int 8)))) (tRet (tC .non)) tNext) (tSeq (tIfS (tB (tCall (sp_is_word K) [] E0 (tCons (tVar 0) (tCons (tC (.str "value")) tNil)))) (tSeq (tAsg (tAndV (tOp rEq (tCB (rLenQ K) (tCons (tVar 0) tNil)) (tC (.int 3))) (tAndV (tCall (sp_is_between K) [] E0 (tCons (tOp (rIx K) (tVar 0) (tC (.int 1))) (tCons (tC (.int 1)) (tCons (tC (.int 8)) tNil)))) (tCall (sp_is_between K) [] E0 (tCons (tOp (rIx K) (tVar 0) (tC (.int 2))) (tCons (tC (.int 0)) (tCons (tOp rMinus (tOp (rIx K) (tVar 0) (tC (.int 1))) (tC (.int 1))) tNil)))))) (gName 2)) (tRet (tIf (tB (tVar 2)) (tTup (tCons (tOp (rIx K) (tVar 0) (tC (.int 1))) (tCons (tLst tNil) (tCons (tC (.int 1)) tNil)))) (tC .non)))) tNext) (tSeq (tIfS (tB (tCall (sp_is_word K) [] E0 (tCons (tVar 0) (tCons (tC (.str "draw")) tNil)))) (tRet (tIf (tAnd (tTest (tOp rEq (tCB (rLenQ K) (tCons (tVar 0) tNil)) (tC (.int 2)))) (tB (tCall (sp_is_table_value K) [] E0 (tCons (tOp (rIx K) (tVar 0) (tC (.int 1))) tNil)))) (tTup (tCons (tCB (rLenQ K) (tCons (tOp (rIx K) (tVar 0) (tC (.int 1))) tNil)) (tCons (tLst tNil) (tCons (tC (.int 1)) tNil)))) (tC .non))) tNext) (tSeq (tIfS (tB (tCall (sp_is_word K) [] E0 (tCons (tVar 0) (tCons (tC (.str "place")) tNil)))) (tSeq (tAsg (tAndV (tOp rEq (tCB (rLenQ K) (tCons (tVar 0) tNil)) (tC (.int 3))) (tAndV (tCall (sp_is_between K) [] E0 (tCons (tOp (rIx K) (tVar 0) (tC (.int 1))) (tCons (tC (.int 0)) (tCons (tC (.int 3)) tNil)))) (tCall (sp_is_between K) [] E0 (tCons (tOp (rIx K) (tVar 0) (tC (.int 2))) (tCons (tC (.int 1)) (tCons (tC (.int 8)) tNil)))))) (gName 2)) (tRet (tIf (tB (tVar 2)) (tTup (tCons (tOp (rIx K) (tVar 0) (tC (.int 2))) (tCons (tLst (tCons (tTup (tCons (tOp (rIx K) (tVar 0) (tC (.int 1))) (tCons (tOp (rIx K) (tVar 0) (tC (.int 2))) tNil))) tNil)) (tCons (tC (.int 1)) tNil)))) (tC .non)))) tNext) (tSeq (tIfS (tAnd (tB (tCall (sp_is_word K) [] E0 (tCons (tVar 0) (tCons (tC (.str "bind")) tNil)))) (tTest (tOp rEq (tCB (rLenQ K) (tCons (tVar 0) tNil)) (tC (.int 3))))) (tRet (tCall (sp_bind_looked_at K n) [] E0 (tCons (tVar 0) (tCons (tVar 1) tNil)))) tNext) (tSeq (tIfS (tAnd (tB (tCall (sp_is_word K) [] E0 (tCons (tVar 0) (tCons (tC (.str "again")) tNil)))) (tTest (tOp rEq (tCB (rLenQ K) (tCons (tVar 0) tNil)) (tC (.int 3))))) (tRet (tCall (sp_again_looked_at K n) [] E0 (tCons (tVar 0) (tCons (tVar 1) tNil)))) tNext) (tSeq (tIfS (tAnd (tB (tCall (sp_is_word K) [] E0 (tCons (tVar 0) (tCons (tC (.str "map")) tNil)))) (tTest (tOp rEq (tCB (rLenQ K) (tCons (tVar 0) tNil)) (tC (.int 4))))) (tRet (tCall (sp_map_looked_at K n) [] E0 (tCons (tVar 0) (tCons (tVar 1) tNil)))) tNext) (tRet (tC .non)))))))))
theorem tm_looked_at (n : Nat) {f : Addr} (T : Top K mg) (c_is_word : Cal P w K mg base "is_word" 1 ps_is_word (sp_is_word K)) (c_is_between : Cal P w K mg base "is_between" 2 ps_is_between (sp_is_between K)) (c_is_table_value : Cal P w K mg base "is_table_value" 5 ps_is_table_value (sp_is_table_value K)) (c_bind_looked_at : Cal P w K mg base "bind_looked_at" (8 + 2 * n) ps_bind_looked_at (sp_bind_looked_at K n)) (c_again_looked_at : Cal P w K mg base "again_looked_at" (8 + 2 * n) ps_again_looked_at (sp_again_looked_at K n)) (c_map_looked_at : Cal P w K mg base "map_looked_at" (8 + 2 * n) ps_map_looked_at (sp_map_looked_at K n)) (cdv : Value) (A : Around) (outer : List PySem.Env) (s : Shared) (H : Hp) (E : XK) : Room (7 + 2 * n + 1) (A.deeper (envOfC "looked_at" (defScope (top 54)) s.heap.objs.size f cdv)) → PSs (cxOf CX0 P w K mg base nm_looked_at "looked_at" (defScope (top 54)) f cdv A outer s H E).nox (defBody (top 54)) (t_looked_at K n) := fun hr => by
  have nd := sc_looked_at.nd
  exact (pss_cons (ps_if (pt_cmpR op_eq (pv 1) (pe_cst rfl T.most_deep) (nomark _)) (pss_one (ps_ret pe_non)) pss_nil) (pss_cons (ps_if (pt_val (pe_cal c_is_word (hr.mono (by omega)) (by rfl) (pa_cons (pv 0) (pa_cons pe_str pa_nil)))) (pss_cons (ps_set (i := 2) nd rfl (Or.inl rfl) (pe_and (pe_cmpR op_eq (pe_callB call_len_seq (by rfl) T.n_len bt_len (pa_cons (pv 0) pa_nil)) pe_int (nomark _)) (pe_and (pe_cal c_is_between (hr.mono (by omega)) (by rfl) (pa_cons (pe_ix ix_seq (pv 0) pe_int (fun _ _ => rfl)) (pa_cons pe_int (pa_cons (pe_cst rfl T.most_outcomes) pa_nil)))) (pe_one (pe_cal c_is_between (hr.mono (by omega)) (by rfl) (pa_cons (pe_ix ix_seq (pv 0) pe_int (fun _ _ => rfl)) (pa_cons pe_int (pa_cons (pe_op op_sub (pe_ix ix_seq (pv 0) pe_int (fun _ _ => rfl)) pe_int) pa_nil)))))))) (pss_one (ps_ret (pe_ifExp (pt_val (pv 2)) (pe_tup (pa_cons (pe_ix ix_seq (pv 0) pe_int (fun _ _ => rfl)) (pa_cons (pe_lst pa_nil) (pa_cons pe_int pa_nil)))) pe_non)))) pss_nil) (pss_cons (ps_if (pt_val (pe_cal c_is_word (hr.mono (by omega)) (by rfl) (pa_cons (pv 0) (pa_cons pe_str pa_nil)))) (pss_one (ps_ret (pe_ifExp (PW.pt (pw_and (pt_cmpR op_eq (pe_callB call_len_seq (by rfl) T.n_len bt_len (pa_cons (pv 0) pa_nil)) pe_int (nomark _)) (pw_and1 (pt_val (pe_cal c_is_table_value (hr.mono (by omega)) (by rfl) (pa_cons (pe_ix ix_seq (pv 0) pe_int (fun _ _ => rfl)) pa_nil)))))) (pe_tup (pa_cons (pe_callB call_len_seq (by rfl) T.n_len bt_len (pa_cons (pe_ix ix_seq (pv 0) pe_int (fun _ _ => rfl)) pa_nil)) (pa_cons (pe_lst pa_nil) (pa_cons pe_int pa_nil)))) pe_non))) pss_nil) (pss_cons (ps_if (pt_val (pe_cal c_is_word (hr.mono (by omega)) (by rfl) (pa_cons (pv 0) (pa_cons pe_str pa_nil)))) (pss_cons (ps_set (i := 2) nd rfl (Or.inl rfl) (pe_and (pe_cmpR op_eq (pe_callB call_len_seq (by rfl) T.n_len bt_len (pa_cons (pv 0) pa_nil)) pe_int (nomark _)) (pe_and (pe_cal c_is_between (hr.mono (by omega)) (by rfl) (pa_cons (pe_ix ix_seq (pv 0) pe_int (fun _ _ => rfl)) (pa_cons pe_int (pa_cons (pe_cst rfl T.most_name) pa_nil)))) (pe_one (pe_cal c_is_between (hr.mono (by omega)) (by rfl) (pa_cons (pe_ix ix_seq (pv 0) pe_int (fun _ _ => rfl)) (pa_cons pe_int (pa_cons (pe_cst rfl T.most_outcomes) pa_nil)))))))) (pss_one (ps_ret (pe_ifExp (pt_val (pv 2)) (pe_tup (pa_cons (pe_ix ix_seq (pv 0) pe_int (fun _ _ => rfl)) (pa_cons (pe_lst (pa_cons (pe_tup (pa_cons (pe_ix ix_seq (pv 0) pe_int (fun _ _ => rfl)) (pa_cons (pe_ix ix_seq (pv 0) pe_int (fun _ _ => rfl)) pa_nil))) pa_nil)) (pa_cons pe_int pa_nil)))) pe_non)))) pss_nil) (pss_cons (ps_if (PW.pt (pw_and (pt_val (pe_cal c_is_word (hr.mono (by omega)) (by rfl) (pa_cons (pv 0) (pa_cons pe_str pa_nil)))) (pw_and1 (pt_cmpR op_eq (pe_callB call_len_seq (by rfl) T.n_len bt_len (pa_cons (pv 0) pa_nil)) pe_int (nomark _))))) (pss_one (ps_ret (pe_cal c_bind_looked_at (hr.mono (by omega)) (by rfl) (pa_cons (pv 0) (pa_cons (pv 1) pa_nil))))) pss_nil) (pss_cons (ps_if (PW.pt (pw_and (pt_val (pe_cal c_is_word (hr.mono (by omega)) (by rfl) (pa_cons (pv 0) (pa_cons pe_str pa_nil)))) (pw_and1 (pt_cmpR op_eq (pe_callB call_len_seq (by rfl) T.n_len bt_len (pa_cons (pv 0) pa_nil)) pe_int (nomark _))))) (pss_one (ps_ret (pe_cal c_again_looked_at (hr.mono (by omega)) (by rfl) (pa_cons (pv 0) (pa_cons (pv 1) pa_nil))))) pss_nil) (pss_cons (ps_if (PW.pt (pw_and (pt_val (pe_cal c_is_word (hr.mono (by omega)) (by rfl) (pa_cons (pv 0) (pa_cons pe_str pa_nil)))) (pw_and1 (pt_cmpR op_eq (pe_callB call_len_seq (by rfl) T.n_len bt_len (pa_cons (pv 0) pa_nil)) pe_int (nomark _))))) (pss_one (ps_ret (pe_cal c_map_looked_at (hr.mono (by omega)) (by rfl) (pa_cons (pv 0) (pa_cons (pv 1) pa_nil))))) pss_nil) (pss_one (ps_ret pe_non)))))))))
theorem sc_inner_of : FnScope nm_inner_of ps_inner_of (defScope (top 62)) := ⟨rfl, rfl, rfl, by decide +kernel, rfl, by decide +kernel, by decide +kernel⟩
def t_inner_of (K : PySem.W.Frag) : TS := (tSeq (tIfS (tTest (tOp rEq (tOp (rIx K) (tVar 0) (tC (.int 0))) (tC (.str "bind")))) (tRet (tOp (rCatT K) (tTup (tCons (tOp (rIx K) (tVar 0) (tC (.int 1))) tNil)) (tOp (rIx K) (tVar 0) (tC (.int 2))))) tNext) (tRet (tIf (tTest (tOp (rIn K false) (tOp (rIx K) (tVar 0) (tC (.int 0))) (tTup (tCons (tC (.str "again")) (tCons (tC (.str "map")) tNil))))) (tTup (tCons (tOp (rIx K) (tVar 0) (tC (.int 1))) tNil)) (tTup tNil))))
theorem tm_inner_of {f : Addr} (T : Top K mg) (cdv : Value) (A : Around) (outer : List PySem.Env) (s : Shared) (H : Hp) (E : XK) : Room 0 (A.deeper (envOfC "inner_of" (defScope (top 62)) s.heap.objs.size f cdv)) → PSs (cxOf CX0 P w K mg base nm_inner_of "inner_of" (defScope (top 62)) f cdv A outer s H E).nox (defBody (top 62)) (t_inner_of K) := fun hr => by
  have nd := sc_inner_of.nd
  exact (pss_cons (ps_if (pt_cmpR op_eq (pe_ix ix_seq (pv 0) pe_int (fun _ _ => rfl)) pe_str (nomark _)) (pss_one (ps_ret (pe_op op_catT (pe_tup (pa_cons (pe_ix ix_seq (pv 0) pe_int (fun _ _ => rfl)) pa_nil)) (pe_ix ix_seq (pv 0) pe_int (fun _ _ => rfl))))) pss_nil) (pss_one (ps_ret (pe_ifExp (pt_cmpR op_in_seq (pe_ix ix_seq (pv 0) pe_int (fun _ _ => rfl)) (pe_tup (pa_cons pe_str (pa_cons pe_str pa_nil))) (by rfl)) (pe_tup (pa_cons (pe_ix ix_seq (pv 0) pe_int (fun _ _ => rfl)) pa_nil)) (pe_tup pa_nil)))))
theorem sc_raw_lengths : FnScope nm_raw_lengths ps_raw_lengths (defScope (top 72)) := ⟨rfl, rfl, rfl, by decide +kernel, rfl, by decide +kernel, by decide +kernel⟩
def t_raw_lengths (K : PySem.W.Frag) (n : Nat) : TS := (tSeq (tAsg (tOp (rIx K) (tVar 0) (tC (.int 0))) (gName 2)) (tSeq (tIfS (tTest (tOp rEq (tVar 2) (tC (.str "value")))) (tSeq (tAsg (tLc (iRng1 (tCons (tOp (rIx K) (tVar 0) (tC (.int 1))) tNil)) (gName 4) tYes (tIf (tTest (tOp rEq (tVar 4) (tOp (rIx K) (tVar 0) (tC (.int 2))))) (tC (.int 1)) (tC (.int 0))) [4]) (gName 3)) (tRet (tOp rCat (tLst (tCons (tVar 3) tNil)) (tLc (iRng1 (tCons (tVar 1) tNil)) (gName 5) tYes (tOp rRep (tLst (tCons (tC (.int 0)) tNil)) (tOp (rIx K) (tVar 0) (tC (.int 1)))) [5])))) tNext) (tSeq (tIfS (tTest (tOp rEq (tVar 2) (tC (.str "draw")))) (tRet (tCall (sp_draw_lengths K) [] E0 (tCons (tOp (rIx K) (tVar 0) (tC (.int 1))) (tCons (tVar 1) tNil)))) tNext) (tSeq (tAsg (tCall (sp_raw_lengths K n) [] E0 (tCons (tOp (rIx K) (tVar 0) (tC (.int 1))) (tCons (tVar 1) tNil))) (gName 6)) (tSeq (tIfS (tTest (tOp rEq (tVar 2) (tC (.str "bind")))) (tRet (tCall (sp_bind_lengths K) [] E0 (tCons (tVar 6) (tCons (tLc (iSeq K (tOp (rIx K) (tVar 0) (tC (.int 2)))) (gName 7) tYes (tCall (sp_raw_lengths K n) [] E0 (tCons (tVar 7) (tCons (tVar 1) tNil))) [7]) tNil)))) tNext) (tSeq (tIfS (tTest (tOp rEq (tVar 2) (tC (.str "again")))) (tRet (tCall (sp_again_lengths K) [] E0 (tCons (tVar 6) (tCons (tOp (rIx K) (tVar 0) (tC (.int 2))) tNil)))) tNext) (tSeq (tAsg (tLst tNil) (gName 8)) (tSeq (tFor (iSeq K (tVar 6)) (gName 3) (tSeq (tAsg (tOp rRep (tLst (tCons (tC (.int 0)) tNil)) (tOp (rIx K) (tVar 0) (tC (.int 3)))) (gName 9)) (tSeq (tFor (iZipS K (tCons (tVar 3) (tCons (tOp (rIx K) (tVar 0) (tC (.int 2))) tNil))) (gTup K 2 (gCons (gName 10) (gCons (gName 11) gNil))) (tAugS (tVar 9) (tVar 11) (tVar 10) (gIxL K) (ipI fun i j => i + j) rSetL)) (tDrop (tBM K "list" rAppend (tVar 8) (tCons (tVar 9) tNil)))))) (tRet (tVar 8))))))))))
theorem tm_raw_lengths (n : Nat) {f : Addr} (T : Top K mg) (c_draw_lengths : Cal P w K mg base "draw_lengths" 3 ps_draw_lengths (sp_draw_lengths K)) (c_raw_lengths : Cal P w K mg base "raw_lengths" (3 + 1 * n) ps_raw_lengths (sp_raw_lengths K n)) (c_bind_lengths : Cal P w K mg base "bind_lengths" 2 ps_bind_lengths (sp_bind_lengths K)) (c_again_lengths : Cal P w K mg base "again_lengths" 1 ps_again_lengths (sp_again_lengths K)) (cdv : Value) (A : Around) (outer : List PySem.Env) (s : Shared) (H : Hp) (E : XK) : Room (3 + 1 * n) (A.deeper (envOfC "raw_lengths" (defScope (top 72)) s.heap.objs.size f cdv)) → PSs (cxOf CX0 P w K mg base nm_raw_lengths "raw_lengths" (defScope (top 72)) f cdv A outer s H E).nox (defBody (top 72)) (t_raw_lengths K n) := fun hr => by
  have nd := sc_raw_lengths.nd
  exact (pss_cons (ps_set (i := 2) nd rfl (Or.inl rfl) (pe_ix ix_seq (pv 0) pe_int (fun _ _ => rfl))) (pss_cons (ps_if (pt_cmpR op_eq (pv 2) pe_str (nomark _)) (pss_cons (ps_setLc (i := 3) (own := [("outcome", 4)]) (by rfl) nd rfl rfl (sw_true rfl rfl rfl (by decide +kernel)) (pi_range1 (by rfl) T.n_range (pa_cons (pe_ix ix_seq (pv 0) pe_int (fun _ _ => rfl)) pa_nil)) (blkOk_by (N := nm_raw_lengths) (sc := defScope (top 72)) (by decide +kernel)) (fun _ _ _ _ _ => (pg_name (i := 4) nd rfl (by first | exact Or.inl rfl | exact Or.inr rfl))) (fun _ _ _ _ _ => pts_nil) (fun _ _ _ _ _ => (pe_ifExp (pt_cmpR op_eq (pv 4) (pe_ix ix_seq (pv 0) pe_int (fun _ _ => rfl)) (nomark _)) pe_int pe_int))) (pss_one (ps_ret (pe_op op_cat (pe_lst (pa_cons (pv 3) pa_nil)) (pe_lc (own := [("s", 5)]) (by rfl) nd (pi_range1 (by rfl) T.n_range (pa_cons (pv 1) pa_nil)) (blkOk_by (N := nm_raw_lengths) (sc := defScope (top 72)) (by decide +kernel)) (fun _ _ _ _ _ => (pg_name (i := 5) nd rfl (by first | exact Or.inl rfl | exact Or.inr rfl))) (fun _ _ _ _ _ => pts_nil) (fun _ _ _ _ _ => (pe_op op_rep (pe_lst (pa_cons pe_int pa_nil)) (pe_ix ix_seq (pv 0) pe_int (fun _ _ => rfl))))))))) pss_nil) (pss_cons (ps_if (pt_cmpR op_eq (pv 2) pe_str (nomark _)) (pss_one (ps_ret (pe_cal c_draw_lengths (hr.mono (by omega)) (by rfl) (pa_cons (pe_ix ix_seq (pv 0) pe_int (fun _ _ => rfl)) (pa_cons (pv 1) pa_nil))))) pss_nil) (pss_cons (ps_set (i := 6) nd rfl (Or.inl rfl) (pe_cal c_raw_lengths (hr.mono (by omega)) (by rfl) (pa_cons (pe_ix ix_seq (pv 0) pe_int (fun _ _ => rfl)) (pa_cons (pv 1) pa_nil)))) (pss_cons (ps_if (pt_cmpR op_eq (pv 2) pe_str (nomark _)) (pss_one (ps_ret (pe_cal c_bind_lengths (hr.mono (by omega)) (by rfl) (pa_cons (pv 6) (pa_cons (pe_lc (own := [("case", 7)]) (by rfl) nd (pi_seq (pe_ix ix_seq (pv 0) pe_int (fun _ _ => rfl))) (blkOk_by (N := nm_raw_lengths) (sc := defScope (top 72)) (by decide +kernel)) (fun _ _ _ _ _ => (pg_name (i := 7) nd rfl (by first | exact Or.inl rfl | exact Or.inr rfl))) (fun _ _ _ _ _ => pts_nil) (fun _ _ _ _ _ => (pe_cal c_raw_lengths (hr.mono (by omega)) (by rfl) (pa_cons (pv 7) (pa_cons (pv 1) pa_nil))))) pa_nil))))) pss_nil) (pss_cons (ps_if (pt_cmpR op_eq (pv 2) pe_str (nomark _)) (pss_one (ps_ret (pe_cal c_again_lengths (hr.mono (by omega)) (by rfl) (pa_cons (pv 6) (pa_cons (pe_ix ix_seq (pv 0) pe_int (fun _ _ => rfl)) pa_nil))))) pss_nil) (pss_cons (ps_set (i := 8) nd rfl (Or.inl rfl) (pe_lst pa_nil)) (pss_cons (ps_for PassesOwn.never rfl (pi_seq (pv 6)) (pg_name (i := 3) nd rfl (Or.inl rfl)) (pss_cons (ps_set (i := 9) nd rfl (Or.inl rfl) (pe_op op_rep (pe_lst (pa_cons pe_int pa_nil)) (pe_ix ix_seq (pv 0) pe_int (fun _ _ => rfl)))) (pss_cons (ps_for PassesOwn.never rfl (pi_zipS (by rfl) T.n_zip (pa_cons (pv 3) (pa_cons (pe_ix ix_seq (pv 0) pe_int (fun _ _ => rfl)) pa_nil))) (pg_tup rfl (pgs_cons (pg_name (i := 10) nd rfl (Or.inl rfl)) (pgs_cons (pg_name (i := 11) nd rfl (Or.inl rfl)) pgs_nil))) (pss_one (ps_augS (pv 9) (pv 11) pget_list (pv 10) ip_add set_list))) (pss_one (ps_expr (pe_bm PySem.F.plainAttrs_list PySem.F.slot_list_append PySem.F.type_list_append mt_append (pv 8) (pa_cons (pv 9) pa_nil))))))) (pss_one (ps_ret (pv 8)))))))))))
theorem sc_law_common : FnScope nm_law_common ps_law_common (defScope (top 82)) := ⟨rfl, rfl, rfl, by decide +kernel, rfl, by decide +kernel, by decide +kernel⟩
def t_law_common (K : PySem.W.Frag) : TS := (tSeq (tPar 0 1 (tCons (tCB (rAbs) (tCons (tVar 0) tNil)) (tCons (tCB (rAbs) (tCons (tVar 1) tNil)) tNil))) (tSeq (tWhile (tTest (tOp rGtI (tVar 1) (tC (.int 0)))) (tPar 0 1 (tCons (tVar 1) (tCons (tOp rModP (tCB (rIntQ) (tCons (tVar 0) tNil)) (tVar 1)) tNil)))) (tRet (tVar 0))))
theorem tm_law_common {f : Addr} (T : Top K mg) (cdv : Value) (A : Around) (outer : List PySem.Env) (s : Shared) (H : Hp) (E : XK) : Room 0 (A.deeper (envOfC "_law_common" (defScope (top 82)) s.heap.objs.size f cdv)) → PSs (cxOf CX0 P w K mg base nm_law_common "_law_common" (defScope (top 82)) f cdv A outer s H E).nox (defBody (top 82)) (t_law_common K) := fun hr => by
  have nd := sc_law_common.nd
  exact (pss_cons (ps_par (i := 0) (j := 1) (by rfl) nd rfl rfl (by decide) rfl rfl (pa_cons (pe_callB call_abs (by rfl) T.n_abs bt_abs (pa_cons (pv 0) pa_nil)) (pa_cons (pe_callB call_abs (by rfl) T.n_abs bt_abs (pa_cons (pv 1) pa_nil)) pa_nil)) (by rfl)) (pss_cons (ps_while PassesOwn.never (pt_cmpR op_gt (pv 1) pe_int (nomark _)) (pss_one (ps_par (i := 0) (j := 1) (by rfl) nd rfl rfl (by decide) rfl rfl (pa_cons (pv 1) (pa_cons (pe_op op_mod (pe_callTy call_int1 (by rfl) T.n_int bt_int (pa_cons (pv 0) pa_nil)) (pv 1)) pa_nil)) (by rfl)))) (pss_one (ps_ret (pv 0)))))
theorem sc_law_table : FnScope nm_law_table ps_law_table (defScope (top 90)) := ⟨rfl, rfl, rfl, by decide +kernel, rfl, by decide +kernel, by decide +kernel⟩
def t_law_table (K : PySem.W.Frag) : TS := (tSeq (tAsg (tTup (tCons (tCall (sp_law_pick K) [] E0 (tCons (tVar 0) (tCons (tVar 2) tNil))) (tCons (tLst tNil) tNil))) (gTup K 2 (gCons (gName 3) (gCons (gName 4) gNil)))) (tSeq (tAsg (tVar 3) (gName 5)) (tSeq (tFor (iRng1 (tCons (tOp rMinus (tVar 1) (tC (.int 1))) tNil)) (gName 6) (tSeq (tDrop (tBM K "list" rAppend (tVar 4) (tCons (tIf (tTest (tOp rEq (tCall (sp_law_draw K) [] E0 (tCons (tVar 0) (tCons (tC (.int 3)) tNil))) (tC (.int 0)))) (tCall (sp_law_draw K) [] E0 (tCons (tVar 0) (tCons (tOp rPlus (tVar 5) (tC (.int 1))) tNil))) (tCB (rMinQ) (tCons (tVar 5) (tCons (tCall (sp_law_draw K) [] E0 (tCons (tVar 0) (tCons (tOp rPlus (tOp rDivW (tOp rMulX (tC (.int 2)) (tVar 3)) (tVar 1)) (tC (.int 1))) tNil))) tNil)))) tNil))) (tAsg (tOp rMinus (tVar 5) (tOp (rIx K) (tVar 4) (tUn uNeg (tC (.int 1))))) (gName 5)))) (tSeq (tDrop (tBM K "list" rAppend (tVar 4) (tCons (tVar 5) tNil))) (tSeq (tAsg (tCall (sp_law_draw K) [] E0 (tCons (tVar 0) (tCons (tVar 1) tNil))) (gName 6)) (tSeq (tAsg (tTup (tCons (tOp (rIx K) (tVar 4) (tUn uNeg (tC (.int 1)))) (tCons (tOp (rIx K) (tVar 4) (tVar 6)) tNil))) (gTup K 2 (gCons (gSub (tVar 4) (tVar 6) rSetL) (gCons (gSub (tVar 4) (tUn uNeg (tC (.int 1))) rSetL) gNil)))) (tRet (tCB (rTupQ K) (tCons (tLc (iSeq K (tVar 4)) (gName 7) tYes (tCall (sp_law_fraction K) [] E0 (tCons (tVar 7) (tCons (tVar 3) tNil))) [7]) tNil)))))))))
theorem tm_law_table {f : Addr} (T : Top K mg) (c_law_pick : Cal P w K mg base "_law_pick" 2 ps_law_pick (sp_law_pick K)) (c_law_draw : Cal P w K mg base "_law_draw" 1 ps_law_draw (sp_law_draw K)) (c_law_fraction : Cal P w K mg base "_law_fraction" 2 ps_law_fraction (sp_law_fraction K)) (cdv : Value) (A : Around) (outer : List PySem.Env) (s : Shared) (H : Hp) (E : XK) : Room 2 (A.deeper (envOfC "_law_table" (defScope (top 90)) s.heap.objs.size f cdv)) → PSs (cxOf CX0 P w K mg base nm_law_table "_law_table" (defScope (top 90)) f cdv A outer s H E).nox (defBody (top 90)) (t_law_table K) := fun hr => by
  have nd := sc_law_table.nd
  exact (pss_cons (ps_asg (pe_tup (pa_cons (pe_cal c_law_pick (hr.mono (by omega)) (by rfl) (pa_cons (pv 0) (pa_cons (pv 2) pa_nil))) (pa_cons (pe_lst pa_nil) pa_nil))) (pg_tup rfl (pgs_cons (pg_name (i := 3) nd rfl (Or.inr rfl)) (pgs_cons (pg_name (i := 4) nd rfl (Or.inl rfl)) pgs_nil)))) (pss_cons (ps_set (i := 5) nd rfl (Or.inl rfl) (pv 3)) (pss_cons (ps_for PassesOwn.never rfl (pi_range1 (by rfl) T.n_range (pa_cons (pe_op op_sub (pv 1) pe_int) pa_nil)) (pg_name (i := 6) nd rfl (Or.inl rfl)) (pss_cons (ps_expr (pe_bm PySem.F.plainAttrs_list PySem.F.slot_list_append PySem.F.type_list_append mt_append (pv 4) (pa_cons (pe_ifExp (pt_cmpR op_eq (pe_cal c_law_draw (hr.mono (by omega)) (by rfl) (pa_cons (pv 0) (pa_cons pe_int pa_nil))) pe_int (nomark _)) (pe_cal c_law_draw (hr.mono (by omega)) (by rfl) (pa_cons (pv 0) (pa_cons (pe_op op_add (pv 5) pe_int) pa_nil))) (pe_callB (call_min2 rfl) (by rfl) T.n_min bt_min (pa_cons (pv 5) (pa_cons (pe_cal c_law_draw (hr.mono (by omega)) (by rfl) (pa_cons (pv 0) (pa_cons (pe_op op_add (pe_op op_fdivW (pe_op op_mulX pe_int (pv 3)) (pv 1)) pe_int) pa_nil))) pa_nil)))) pa_nil))) (pss_one (ps_set (i := 5) nd rfl (Or.inl rfl) (pe_op op_sub (pv 5) (pe_ix ix_seq (pv 4) (pe_un un_neg pe_int) (fun _ _ => rfl))))))) (pss_cons (ps_expr (pe_bm PySem.F.plainAttrs_list PySem.F.slot_list_append PySem.F.type_list_append mt_append (pv 4) (pa_cons (pv 5) pa_nil))) (pss_cons (ps_set (i := 6) nd rfl (Or.inl rfl) (pe_cal c_law_draw (hr.mono (by omega)) (by rfl) (pa_cons (pv 0) (pa_cons (pv 1) pa_nil)))) (pss_cons (ps_asg (pe_tup (pa_cons (pe_ix ix_seq (pv 4) (pe_un un_neg pe_int) (fun _ _ => rfl)) (pa_cons (pe_ix ix_seq (pv 4) (pv 6) (fun _ _ => rfl)) pa_nil))) (pg_tup rfl (pgs_cons (pg_sub (pv 4) (pv 6) set_list) (pgs_cons (pg_sub (pv 4) (pe_un un_neg pe_int) set_list) pgs_nil)))) (pss_one (ps_ret (pe_callTy call_tuple_of (by rfl) T.n_tuple bt_tuple (pa_cons (pe_lc (own := [("_law_part", 7)]) (by rfl) nd (pi_seq (pv 4)) (blkOk_by (N := nm_law_table) (sc := defScope (top 90)) (by decide +kernel)) (fun _ _ _ _ _ => (pg_name (i := 7) nd rfl (by first | exact Or.inl rfl | exact Or.inr rfl))) (fun _ _ _ _ _ => pts_nil) (fun _ _ _ _ _ => (pe_cal c_law_fraction (hr.mono (by omega)) (by rfl) (pa_cons (pv 7) (pa_cons (pv 3) pa_nil))))) pa_nil))))))))))
theorem sc_law_floor : FnScope nm_law_floor ps_law_floor (defScope (top 98)) := ⟨rfl, rfl, rfl, by decide +kernel, rfl, by decide +kernel, by decide +kernel⟩
def t_law_floor (K : PySem.W.Frag) : TS := (tRet (tCall (sp_law_fraction K) [] E0 (tCons (tOp rMinus (tOp rShlW (tC (.int 1)) (tVar 1)) (tCB (rSum K) (tCons (tLc (iSeq K (tVar 0)) (gTup K 2 (gCons (gName 2) (gCons (gName 3) gNil))) tYes (tOp rDivW (tOp rShlW (tVar 2) (tVar 1)) (tVar 3)) [2, 3]) tNil))) (tCons (tOp rShlW (tC (.int 1)) (tVar 1)) tNil))))
theorem tm_law_floor {f : Addr} (T : Top K mg) (c_law_fraction : Cal P w K mg base "_law_fraction" 2 ps_law_fraction (sp_law_fraction K)) (cdv : Value) (A : Around) (outer : List PySem.Env) (s : Shared) (H : Hp) (E : XK) : Room 2 (A.deeper (envOfC "_law_floor" (defScope (top 98)) s.heap.objs.size f cdv)) → PSs (cxOf CX0 P w K mg base nm_law_floor "_law_floor" (defScope (top 98)) f cdv A outer s H E).nox (defBody (top 98)) (t_law_floor K) := fun hr => by
  have nd := sc_law_floor.nd
  exact (pss_one (ps_ret (pe_cal c_law_fraction (hr.mono (by omega)) (by rfl) (pa_cons (pe_op op_sub (pe_op op_shlW pe_int (pv 1)) (pe_callB (cr_sum rfl) (by rfl) T.n_sum bt_sum (pa_cons (pe_lc (own := [("_law_top", 2), ("_law_bottom", 3)]) (by rfl) nd (pi_seq (pv 0)) (blkOk_by (N := nm_law_floor) (sc := defScope (top 98)) (by decide +kernel)) (fun _ _ _ _ _ => (pg_tup rfl (pgs_cons (pg_name (i := 2) nd rfl (by first | exact Or.inl rfl | exact Or.inr rfl)) (pgs_cons (pg_name (i := 3) nd rfl (by first | exact Or.inl rfl | exact Or.inr rfl)) pgs_nil)))) (fun _ _ _ _ _ => pts_nil) (fun _ _ _ _ _ => (pe_op op_fdivW (pe_op op_shlW (pv 2) (pv 1)) (pv 3)))) pa_nil))) (pa_cons (pe_op op_shlW pe_int (pv 1)) pa_nil)))))
theorem sc_law_falls : FnScope nm_law_falls ps_law_falls (defScope (top 106)) := ⟨rfl, rfl, rfl, by decide +kernel, rfl, by decide +kernel, by decide +kernel⟩
def t_law_falls (K : PySem.W.Frag) : TS := (tSeq (tAsg (tLc (iRng1 (tCons (tVar 1) tNil)) (gName 4) tYes (tCall (sp_length_chance K) [] E0 (tCons (tVar 0) (tCons (tVar 4) (tCons (tOp rPlus (tVar 2) (tC (.int 1))) tNil)))) [4]) (gName 3)) (tRet (tOp rEq (tCB (rRepr K) (tCons (tCall (sp_law_minus K) [] E0 (tCons (tCall (sp_made_tail K) [] E0 (tCons (tVar 0) (tCons (tVar 2) tNil))) (tCons (tCall (sp_made_tail K) [] E0 (tCons (tVar 0) (tCons (tOp rPlus (tVar 2) (tC (.int 1))) tNil))) tNil))) tNil)) (tCB (rRepr K) (tCons (tCall (sp_law_total K) [] E0 (tCons (tVar 3) tNil)) tNil)))))
theorem tm_law_falls {f : Addr} (T : Top K mg) (c_length_chance : Cal P w K mg base "length_chance" 18 ps_length_chance (sp_length_chance K)) (c_law_minus : Cal P w K mg base "_law_minus" 3 ps_law_minus (sp_law_minus K)) (c_made_tail : Cal P w K mg base "made_tail" 18 ps_made_tail (sp_made_tail K)) (c_law_total : Cal P w K mg base "_law_total" 4 ps_law_total (sp_law_total K)) (cdv : Value) (A : Around) (outer : List PySem.Env) (s : Shared) (H : Hp) (E : XK) : A.guards = some [] → Room 18 (A.deeper (envOfC "_law_falls" (defScope (top 106)) s.heap.objs.size f cdv)) → PSs (cxOf CX0 P w K mg base nm_law_falls "_law_falls" (defScope (top 106)) f cdv A outer s H E).nox (defBody (top 106)) (t_law_falls K) := fun hgd hr => by
  have nd := sc_law_falls.nd
  exact (pss_cons (ps_setLc (i := 3) (own := [("_law_i", 4)]) (by rfl) nd rfl rfl (sw_true rfl rfl rfl (by decide +kernel)) (pi_range1 (by rfl) T.n_range (pa_cons (pv 1) pa_nil)) (blkOk_by (N := nm_law_falls) (sc := defScope (top 106)) (by decide +kernel)) (fun _ _ _ _ _ => (pg_name (i := 4) nd rfl (by first | exact Or.inl rfl | exact Or.inr rfl))) (fun _ _ _ _ _ => pts_nil) (fun _ _ _ _ _ => (pe_cal c_length_chance (hr.mono (by omega)) (by rfl) (pa_cons (pv 0) (pa_cons (pv 4) (pa_cons (pe_op op_add (pv 2) pe_int) pa_nil)))))) (pss_one (ps_ret (pe_cmpR op_eq (pe_callB (call_reprD hgd hr.units) (by rfl) T.n_repr bt_repr (pa_cons (pe_cal c_law_minus (hr.mono (by omega)) (by rfl) (pa_cons (pe_cal c_made_tail (hr.mono (by omega)) (by rfl) (pa_cons (pv 0) (pa_cons (pv 2) pa_nil))) (pa_cons (pe_cal c_made_tail (hr.mono (by omega)) (by rfl) (pa_cons (pv 0) (pa_cons (pe_op op_add (pv 2) pe_int) pa_nil))) pa_nil))) pa_nil)) (pe_callB (call_reprD hgd hr.units) (by rfl) T.n_repr bt_repr (pa_cons (pe_cal c_law_total (hr.mono (by omega)) (by rfl) (pa_cons (pv 3) pa_nil)) pa_nil)) (nomark _)))))
end
end K39

set_option Elab.async false
set_option linter.all false
set_option maxRecDepth 100000
set_option maxHeartbeats 1000000
namespace K39
open PySem PySem.Spec PyProof.Rows L2
section
variable {P : Program} {w : World} {K : PySem.W.Frag} {mg : Str → Option Value} {base : Heap}
theorem sc_is_word : FnScope nm_is_word ps_is_word (defScope (top 5)) := ⟨rfl, rfl, rfl, by decide +kernel, rfl, by decide +kernel, by decide +kernel⟩
def t_is_word (K : PySem.W.Frag) : TS := (tRet (tAndV (tCB (rIsi K) (tCons (tVar 0) (tCons (tC (.ty "tuple")) tNil))) (tAndV (tOp rGtI (tCB (rLenQ K) (tCons (tVar 0) tNil)) (tC (.int 0))) (tAndV (tCB (rIsi K) (tCons (tOp (rIx K) (tVar 0) (tC (.int 0))) (tCons (tC (.ty "str")) tNil))) (tOp rEq (tOp (rIx K) (tVar 0) (tC (.int 0))) (tVar 1))))))
theorem tm_is_word {f : Addr} (T : Top K mg) (cdv : Value) (A : Around) (outer : List PySem.Env) (s : Shared) (H : Hp) (E : XK) : Room 0 (A.deeper (envOfC "is_word" (defScope (top 5)) s.heap.objs.size f cdv)) → PSs (cxOf CX0 P w K mg base nm_is_word "is_word" (defScope (top 5)) f cdv A outer s H E).nox (defBody (top 5)) (t_is_word K) := fun hr => by
  have nd := sc_is_word.nd
  exact (pss_one (ps_ret (pe_and (pe_callB call_isi (by rfl) T.n_isinstance bt_isinstance (pa_cons (pv 0) (pa_cons (pe_bltn (v := .ty "tuple") (by rfl) T.n_tuple bt_tuple rfl) pa_nil))) (pe_and (pe_cmpR op_gt (pe_callB call_len_seq (by rfl) T.n_len bt_len (pa_cons (pv 0) pa_nil)) pe_int (nomark _)) (pe_and (pe_callB call_isi (by rfl) T.n_isinstance bt_isinstance (pa_cons (pe_ix ix_seq (pv 0) pe_int (fun _ _ => rfl)) (pa_cons (pe_bltn (v := .ty "str") (by rfl) T.n_str bt_str rfl) pa_nil))) (pe_one (pe_cmpR op_eq (pe_ix ix_seq (pv 0) pe_int (fun _ _ => rfl)) (pv 1) (nomark _))))))))
theorem sc_minus : FnScope nm_minus ps_minus (defScope (top 16)) := ⟨rfl, rfl, rfl, by decide +kernel, rfl, by decide +kernel, by decide +kernel⟩
def t_minus (K : PySem.W.Frag) : TS := (tRet (tCall (sp_lowest K) [] E0 (tCons (tOp rMinus (tOp rMulX (tOp (rIx K) (tVar 0) (tC (.int 0))) (tOp (rIx K) (tVar 1) (tC (.int 1)))) (tOp rMulX (tOp (rIx K) (tVar 1) (tC (.int 0))) (tOp (rIx K) (tVar 0) (tC (.int 1))))) (tCons (tOp rMulX (tOp (rIx K) (tVar 0) (tC (.int 1))) (tOp (rIx K) (tVar 1) (tC (.int 1)))) tNil))))
theorem tm_minus {f : Addr} (T : Top K mg) (c_lowest : Cal P w K mg base "lowest" 2 ps_lowest (sp_lowest K)) (cdv : Value) (A : Around) (outer : List PySem.Env) (s : Shared) (H : Hp) (E : XK) : Room 2 (A.deeper (envOfC "minus" (defScope (top 16)) s.heap.objs.size f cdv)) → PSs (cxOf CX0 P w K mg base nm_minus "minus" (defScope (top 16)) f cdv A outer s H E).nox (defBody (top 16)) (t_minus K) := fun hr => by
  have nd := sc_minus.nd
  exact (pss_one (ps_ret (pe_cal c_lowest (hr.mono (by omega)) (by rfl) (pa_cons (pe_op op_sub (pe_op op_mulX (pe_ix ix_seq (pv 0) pe_int (fun _ _ => rfl)) (pe_ix ix_seq (pv 1) pe_int (fun _ _ => rfl))) (pe_op op_mulX (pe_ix ix_seq (pv 1) pe_int (fun _ _ => rfl)) (pe_ix ix_seq (pv 0) pe_int (fun _ _ => rfl)))) (pa_cons (pe_op op_mulX (pe_ix ix_seq (pv 0) pe_int (fun _ _ => rfl)) (pe_ix ix_seq (pv 1) pe_int (fun _ _ => rfl))) pa_nil)))))
theorem sc_raw_rest : FnScope nm_raw_rest ps_raw_rest (defScope (top 25)) := ⟨rfl, rfl, rfl, by decide +kernel, rfl, by decide +kernel, by decide +kernel⟩
def t_raw_rest (K : PySem.W.Frag) : TS := (tSeq (tAsg (tVar 0) (gTup K 2 (gCons (gName 2) (gCons (gName 3) gNil)))) (tRet (tCall (sp_lowest K) [] E0 (tCons (tOp rModP (tOp rMulX (tVar 2) (tCall (sp_power_by K) [] E0 (tCons (tVar 1) (tCons (tVar 3) tNil)))) (tVar 3)) (tCons (tVar 3) tNil)))))
theorem tm_raw_rest {f : Addr} (T : Top K mg) (c_lowest : Cal P w K mg base "lowest" 2 ps_lowest (sp_lowest K)) (c_power_by : Cal P w K mg base "power_by" 1 ps_power_by (sp_power_by K)) (cdv : Value) (A : Around) (outer : List PySem.Env) (s : Shared) (H : Hp) (E : XK) : Room 2 (A.deeper (envOfC "raw_rest" (defScope (top 25)) s.heap.objs.size f cdv)) → PSs (cxOf CX0 P w K mg base nm_raw_rest "raw_rest" (defScope (top 25)) f cdv A outer s H E).nox (defBody (top 25)) (t_raw_rest K) := fun hr => by
  have nd := sc_raw_rest.nd
  exact (pss_cons (ps_asg (pv 0) (pg_tup rfl (pgs_cons (pg_name (i := 2) nd rfl (Or.inl rfl)) (pgs_cons (pg_name (i := 3) nd rfl (Or.inl rfl)) pgs_nil)))) (pss_one (ps_ret (pe_cal c_lowest (hr.mono (by omega)) (by rfl) (pa_cons (pe_op op_mod (pe_op op_mulX (pv 2) (pe_cal c_power_by (hr.mono (by omega)) (by rfl) (pa_cons (pv 1) (pa_cons (pv 3) pa_nil)))) (pv 3)) (pa_cons (pv 3) pa_nil))))))
theorem sc_raw_floor : FnScope nm_raw_floor ps_raw_floor (defScope (top 41)) := ⟨rfl, rfl, rfl, by decide +kernel, rfl, by decide +kernel, by decide +kernel⟩
def t_raw_floor (K : PySem.W.Frag) : TS := (tRet (tCall (sp_shifted K) [] E0 (tCons (tCall (sp_total K) [] E0 (tCons (tLc (iSeq K (tVar 0)) (gName 2) tYes (tCall (sp_raw_rest K) [] E0 (tCons (tVar 2) (tCons (tVar 1) tNil))) [2]) tNil)) (tCons (tVar 1) tNil))))
theorem tm_raw_floor {f : Addr} (T : Top K mg) (c_shifted : Cal P w K mg base "shifted" 3 ps_shifted (sp_shifted K)) (c_total : Cal P w K mg base "total" 4 ps_total (sp_total K)) (c_raw_rest : Cal P w K mg base "raw_rest" 3 ps_raw_rest (sp_raw_rest K)) (cdv : Value) (A : Around) (outer : List PySem.Env) (s : Shared) (H : Hp) (E : XK) : Room 4 (A.deeper (envOfC "raw_floor" (defScope (top 41)) s.heap.objs.size f cdv)) → PSs (cxOf CX0 P w K mg base nm_raw_floor "raw_floor" (defScope (top 41)) f cdv A outer s H E).nox (defBody (top 41)) (t_raw_floor K) := fun hr => by
  have nd := sc_raw_floor.nd
  exact (pss_one (ps_ret (pe_cal c_shifted (hr.mono (by omega)) (by rfl) (pa_cons (pe_cal c_total (hr.mono (by omega)) (by rfl) (pa_cons (pe_lc (own := [("chance", 2)]) (by rfl) nd (pi_seq (pv 0)) (blkOk_by (N := nm_raw_floor) (sc := defScope (top 41)) (by decide +kernel)) (fun _ _ _ _ _ => (pg_name (i := 2) nd rfl (by first | exact Or.inl rfl | exact Or.inr rfl))) (fun _ _ _ _ _ => pts_nil) (fun _ _ _ _ _ => (pe_cal c_raw_rest (hr.mono (by omega)) (by rfl) (pa_cons (pv 2) (pa_cons (pv 1) pa_nil))))) pa_nil)) (pa_cons (pv 1) pa_nil)))))
theorem sc_bind_looked_at : FnScope nm_bind_looked_at ps_bind_looked_at (defScope (top 55)) := ⟨rfl, rfl, rfl, by decide +kernel, rfl, by decide +kernel, by decide +kernel⟩
def t_bind_looked_at (K : PySem.W.Frag) (n : Nat) : TS := (tSeq (tAsg (tCall (sp_looked_at K n) [] E0 (tCons (tOp (rIx K) (tVar 0) (tC (.int 1))) (tCons (tOp rPlus (tVar 1) (tC (.int 1))) tNil))) (gName 2)) (tSeq (tIfS (tOr (tTest (tOp rIsNone (tVar 2) (tC .non))) (tOr (tNot (tB (tCB (rIsi K) (tCons (tOp (rIx K) (tVar 0) (tC (.int 2))) (tCons (tC (.ty "tuple")) tNil))))) (tTest (tOp rNe (tCB (rLenQ K) (tCons (tOp (rIx K) (tVar 0) (tC (.int 2))) tNil)) (tOp (rIx K) (tVar 2) (tC (.int 0))))))) (tRet (tC .non)) tNext) (tSeq (tAsg (tLc (iSeq K (tOp (rIx K) (tVar 0) (tC (.int 2)))) (gName 4) tYes (tCall (sp_looked_at K n) [] E0 (tCons (tVar 4) (tCons (tOp rPlus (tVar 1) (tC (.int 1))) tNil))) [4]) (gName 3)) (tSeq (tIfS (tOr (tTest (tOp (rInD K) (tC .non) (tVar 3))) (tNot (tB (tCB (rAll K) (tCons (tLc (iSeq K (tVar 3)) (gName 4) tYes (tOp rEq (tOp (rIx K) (tVar 4) (tC (.int 0))) (tOp (rIx K) (tOp (rIx K) (tVar 3) (tC (.int 0))) (tC (.int 0)))) [4]) tNil))))) (tRet (tC .non)) tNext) (tSeq (tPar 5 6 (tCons (tOp (rIx K) (tVar 2) (tC (.int 1))) (tCons (tOp rPlus (tOp (rIx K) (tVar 2) (tC (.int 2))) (tC (.int 1))) tNil))) (tSeq (tFor (iSeq K (tVar 3)) (gName 4) (tPar 5 6 (tCons (tOp rCat (tVar 5) (tOp (rIx K) (tVar 4) (tC (.int 1)))) (tCons (tOp rPlus (tVar 6) (tOp (rIx K) (tVar 4) (tC (.int 2)))) tNil)))) (tRet (tTup (tCons (tOp (rIx K) (tOp (rIx K) (tVar 3) (tC (.int 0))) (tC (.int 0))) (tCons (tVar 5) (tCons (tVar 6) tNil)))))))))))
theorem tm_bind_looked_at (n : Nat) {f : Addr} (T : Top K mg) (c_looked_at : Cal P w K mg base "looked_at" (7 + 2 * n) ps_looked_at (sp_looked_at K n)) (cdv : Value) (A : Around) (outer : List PySem.Env) (s : Shared) (H : Hp) (E : XK) : Room (7 + 2 * n) (A.deeper (envOfC "bind_looked_at" (defScope (top 55)) s.heap.objs.size f cdv)) → PSs (cxOf CX0 P w K mg base nm_bind_looked_at "bind_looked_at" (defScope (top 55)) f cdv A outer s H E).nox (defBody (top 55)) (t_bind_looked_at K n) := fun hr => by
  have nd := sc_bind_looked_at.nd
  exact (pss_cons (ps_set (i := 2) nd rfl (Or.inl rfl) (pe_cal c_looked_at (hr.mono (by omega)) (by rfl) (pa_cons (pe_ix ix_seq (pv 0) pe_int (fun _ _ => rfl)) (pa_cons (pe_op op_add (pv 1) pe_int) pa_nil)))) (pss_cons (ps_if (PW.pt (pw_or (pt_cmpR op_isN (pv 2) pe_non (nomark _)) (pw_or (pt_not (pt_val (pe_callB call_isi (by rfl) T.n_isinstance bt_isinstance (pa_cons (pe_ix ix_seq (pv 0) pe_int (fun _ _ => rfl)) (pa_cons (pe_bltn (v := .ty "tuple") (by rfl) T.n_tuple bt_tuple rfl) pa_nil))))) (pw_or1 (pt_cmpR op_ne (pe_callB call_len_seq (by rfl) T.n_len bt_len (pa_cons (pe_ix ix_seq (pv 0) pe_int (fun _ _ => rfl)) pa_nil)) (pe_ix ix_seq (pv 2) pe_int (fun _ _ => rfl)) (nomark _)))))) (pss_one (ps_ret pe_non)) pss_nil) (pss_cons (ps_set (i := 3) nd rfl (Or.inr rfl) (pe_lc (own := [("case", 4)]) (by rfl) nd (pi_seq (pe_ix ix_seq (pv 0) pe_int (fun _ _ => rfl))) (blkOk_by (N := nm_bind_looked_at) (sc := defScope (top 55)) (by decide +kernel)) (fun _ _ _ _ _ => (pg_name (i := 4) nd rfl (by first | exact Or.inl rfl | exact Or.inr rfl))) (fun _ _ _ _ _ => pts_nil) (fun _ _ _ _ _ => (pe_cal c_looked_at (hr.mono (by omega)) (by rfl) (pa_cons (pv 4) (pa_cons (pe_op op_add (pv 1) pe_int) pa_nil)))))) (pss_cons (ps_if (PW.pt (pw_or (pt_cmpR (op_inD (units65 hr)) pe_non (pv 3) (by rfl)) (pw_or1 (pt_not (pt_val (pe_callB (cr_all rfl) (by rfl) T.n_all bt_all (pa_cons (pe_lc (own := [("case", 4)]) (by rfl) nd (pi_seq (pv 3)) (blkOk_by (N := nm_bind_looked_at) (sc := defScope (top 55)) (by decide +kernel)) (fun _ _ _ _ _ => (pg_name (i := 4) nd rfl (by first | exact Or.inl rfl | exact Or.inr rfl))) (fun _ _ _ _ _ => pts_nil) (fun _ _ _ _ _ => (pe_cmpR op_eq (pe_ix ix_seq (pv 4) pe_int (fun _ _ => rfl)) (pe_ix ix_seq (pe_ix ix_seq (pv 3) pe_int (fun _ _ => rfl)) pe_int (fun _ _ => rfl)) (nomark _)))) pa_nil))))))) (pss_one (ps_ret pe_non)) pss_nil) (pss_cons (ps_par (i := 5) (j := 6) (by rfl) nd rfl rfl (by decide) rfl rfl (pa_cons (pe_ix ix_seq (pv 2) pe_int (fun _ _ => rfl)) (pa_cons (pe_op op_add (pe_ix ix_seq (pv 2) pe_int (fun _ _ => rfl)) pe_int) pa_nil)) (by rfl)) (pss_cons (ps_for PassesOwn.never rfl (pi_seq (pv 3)) (pg_name (i := 4) nd rfl (Or.inl rfl)) (pss_one (ps_par (i := 5) (j := 6) (by rfl) nd rfl rfl (by decide) rfl rfl (pa_cons (pe_op op_cat (pv 5) (pe_ix ix_seq (pv 4) pe_int (fun _ _ => rfl))) (pa_cons (pe_op op_add (pv 6) (pe_ix ix_seq (pv 4) pe_int (fun _ _ => rfl))) pa_nil)) (by rfl)))) (pss_one (ps_ret (pe_tup (pa_cons (pe_ix ix_seq (pe_ix ix_seq (pv 3) pe_int (fun _ _ => rfl)) pe_int (fun _ _ => rfl)) (pa_cons (pv 5) (pa_cons (pv 6) pa_nil))))))))))))
theorem sc_places_in : FnScope nm_places_in ps_places_in (defScope (top 63)) := ⟨rfl, rfl, rfl, by decide +kernel, rfl, by decide +kernel, by decide +kernel⟩
def t_places_in (K : PySem.W.Frag) (n : Nat) : TS := (tSeq (tIfS (tTest (tOp rEq (tOp (rIx K) (tVar 0) (tC (.int 0))) (tC (.str "place")))) (tRet (tLst (tCons (tTup (tCons (tOp (rIx K) (tVar 0) (tC (.int 1))) (tCons (tOp (rIx K) (tVar 0) (tC (.int 2))) tNil))) tNil))) tNext) (tSeq (tAsg (tLst tNil) (gName 1)) (tSeq (tFor (iSeq K (tCall (sp_inner_of K) [] E0 (tCons (tVar 0) tNil))) (gName 2) (tDrop (tBM K "list" rExtend (tVar 1) (tCons (tCall (sp_places_in K n) [] E0 (tCons (tVar 2) tNil)) tNil)))) (tRet (tVar 1)))))
theorem tm_places_in (n : Nat) {f : Addr} (T : Top K mg) (c_inner_of : Cal P w K mg base "inner_of" 1 ps_inner_of (sp_inner_of K)) (c_places_in : Cal P w K mg base "places_in" (1 + 1 * n) ps_places_in (sp_places_in K n)) (cdv : Value) (A : Around) (outer : List PySem.Env) (s : Shared) (H : Hp) (E : XK) : Room (1 + 1 * n) (A.deeper (envOfC "places_in" (defScope (top 63)) s.heap.objs.size f cdv)) → PSs (cxOf CX0 P w K mg base nm_places_in "places_in" (defScope (top 63)) f cdv A outer s H E).nox (defBody (top 63)) (t_places_in K n) := fun hr => by
  have nd := sc_places_in.nd
  exact (pss_cons (ps_if (pt_cmpR op_eq (pe_ix ix_seq (pv 0) pe_int (fun _ _ => rfl)) pe_str (nomark _)) (pss_one (ps_ret (pe_lst (pa_cons (pe_tup (pa_cons (pe_ix ix_seq (pv 0) pe_int (fun _ _ => rfl)) (pa_cons (pe_ix ix_seq (pv 0) pe_int (fun _ _ => rfl)) pa_nil))) pa_nil)))) pss_nil) (pss_cons (ps_set (i := 1) nd rfl (Or.inl rfl) (pe_lst pa_nil)) (pss_cons (ps_for PassesOwn.never rfl (pi_seq (pe_cal c_inner_of (hr.mono (by omega)) (by rfl) (pa_cons (pv 0) pa_nil))) (pg_name (i := 2) nd rfl (Or.inl rfl)) (pss_one (ps_expr (pe_bm PySem.F.plainAttrs_list PySem.F.slot_list_extend PySem.F.type_list_extend mt_extend (pv 1) (pa_cons (pe_cal c_places_in (hr.mono (by omega)) (by rfl) (pa_cons (pv 2) pa_nil)) pa_nil))))) (pss_one (ps_ret (pv 1))))))
theorem sc_raw_made_tails : FnScope nm_raw_made_tails ps_raw_made_tails (defScope (top 73)) := ⟨rfl, rfl, rfl, by decide +kernel, rfl, by decide +kernel, by decide +kernel⟩
def t_raw_made_tails (K : PySem.W.Frag) : TS := (tSeq (tPar 2 3 (tCons (tLst tNil) (tCons (tC (.ref (He.ga K "ONE"))) tNil))) (tSeq (tFor (iEnumS K (tCons (tCall (sp_raw_lengths K 4) [] E0 (tCons (tVar 0) (tCons (tVar 1) tNil))) tNil)) (gTup K 2 (gCons (gName 4) (gCons (gName 5) gNil))) (tSeq (tAsg (tCall (sp_minus K) [] E0 (tCons (tVar 3) (tCons (tCall (sp_shifted K) [] E0 (tCons (tTup (tCons (tCB (rSum K) (tCons (tVar 5) tNil)) (tCons (tC (.int 1)) tNil))) (tCons (tVar 4) tNil))) tNil))) (gName 3)) (tDrop (tBM K "list" rAppend (tVar 2) (tCons (tVar 3) tNil))))) (tRet (tVar 2))))
theorem tm_raw_made_tails {f : Addr} (T : Top K mg) (c_raw_lengths : Cal P w K mg base "raw_lengths" 7 ps_raw_lengths (sp_raw_lengths K 4)) (c_minus : Cal P w K mg base "minus" 3 ps_minus (sp_minus K)) (c_shifted : Cal P w K mg base "shifted" 3 ps_shifted (sp_shifted K)) (cdv : Value) (A : Around) (outer : List PySem.Env) (s : Shared) (H : Hp) (E : XK) : Room 7 (A.deeper (envOfC "raw_made_tails" (defScope (top 73)) s.heap.objs.size f cdv)) → PSs (cxOf CX0 P w K mg base nm_raw_made_tails "raw_made_tails" (defScope (top 73)) f cdv A outer s H E).nox (defBody (top 73)) (t_raw_made_tails K) := fun hr => by
  have nd := sc_raw_made_tails.nd
  exact (pss_cons (ps_par (i := 2) (j := 3) (by rfl) nd rfl rfl (by decide) rfl rfl (pa_cons (pe_lst pa_nil) (pa_cons (pe_glob rfl T.one rfl) pa_nil)) (by rfl)) (pss_cons (ps_for PassesOwn.never rfl (pi_enumS (by rfl) T.n_enumerate (pa_cons (pe_cal c_raw_lengths (hr.mono (by omega)) (by rfl) (pa_cons (pv 0) (pa_cons (pv 1) pa_nil))) pa_nil)) (pg_tup rfl (pgs_cons (pg_name (i := 4) nd rfl (Or.inl rfl)) (pgs_cons (pg_name (i := 5) nd rfl (Or.inl rfl)) pgs_nil))) (pss_cons (ps_set (i := 3) nd rfl (Or.inl rfl) (pe_cal c_minus (hr.mono (by omega)) (by rfl) (pa_cons (pv 3) (pa_cons (pe_cal c_shifted (hr.mono (by omega)) (by rfl) (pa_cons (pe_tup (pa_cons (pe_callB (cr_sum rfl) (by rfl) T.n_sum bt_sum (pa_cons (pv 5) pa_nil)) (pa_cons pe_int pa_nil))) (pa_cons (pv 4) pa_nil))) pa_nil)))) (pss_one (ps_expr (pe_bm PySem.F.plainAttrs_list PySem.F.slot_list_append PySem.F.type_list_append mt_append (pv 2) (pa_cons (pv 3) pa_nil)))))) (pss_one (ps_ret (pv 2)))))
theorem sc_law_fraction : FnScope nm_law_fraction ps_law_fraction (defScope (top 83)) := ⟨rfl, rfl, rfl, by decide +kernel, rfl, by decide +kernel, by decide +kernel⟩
def t_law_fraction (K : PySem.W.Frag) : TS := (tSeq (tIfS (tTest (tOp rLtI (tVar 1) (tC (.int 0)))) (tPar 0 1 (tCons (tUn uNeg (tVar 0)) (tCons (tUn uNeg (tVar 1)) tNil))) tNext) (tSeq (tAsg (tCall (sp_law_common K) [] E0 (tCons (tVar 0) (tCons (tVar 1) tNil))) (gName 2)) (tRet (tTup (tCons (tOp rDivW (tVar 0) (tVar 2)) (tCons (tOp rDivW (tVar 1) (tVar 2)) tNil))))))
theorem tm_law_fraction {f : Addr} (T : Top K mg) (c_law_common : Cal P w K mg base "_law_common" 1 ps_law_common (sp_law_common K)) (cdv : Value) (A : Around) (outer : List PySem.Env) (s : Shared) (H : Hp) (E : XK) : Room 1 (A.deeper (envOfC "_law_fraction" (defScope (top 83)) s.heap.objs.size f cdv)) → PSs (cxOf CX0 P w K mg base nm_law_fraction "_law_fraction" (defScope (top 83)) f cdv A outer s H E).nox (defBody (top 83)) (t_law_fraction K) := fun hr => by
  have nd := sc_law_fraction.nd
  exact (pss_cons (ps_if (pt_cmpR op_lt (pv 1) pe_int (nomark _)) (pss_one (ps_par (i := 0) (j := 1) (by rfl) nd rfl rfl (by decide) rfl rfl (pa_cons (pe_un un_neg (pv 0)) (pa_cons (pe_un un_neg (pv 1)) pa_nil)) (by rfl))) pss_nil) (pss_cons (ps_set (i := 2) nd rfl (Or.inl rfl) (pe_cal c_law_common (hr.mono (by omega)) (by rfl) (pa_cons (pv 0) (pa_cons (pv 1) pa_nil)))) (pss_one (ps_ret (pe_tup (pa_cons (pe_op op_fdivW (pv 0) (pv 2)) (pa_cons (pe_op op_fdivW (pv 1) (pv 2)) pa_nil)))))))
theorem sc_law_digits : FnScope nm_law_digits ps_law_digits (defScope (top 91)) := ⟨rfl, rfl, rfl, by decide +kernel, rfl, by decide +kernel, by decide +kernel⟩
def t_law_digits (K : PySem.W.Frag) : TS := (tSeq (tAsg (tVar 0) (gTup K 2 (gCons (gName 2) (gCons (gName 3) gNil)))) (tSeq (tAsg (tLst (tCons (tOp rDivW (tVar 2) (tVar 3)) tNil)) (gName 4)) (tSeq (tFor (iRng1 (tCons (tVar 1) tNil)) (gName 5) (tSeq (tAsg (tOp rMulX (tC (.int 2)) (tOp rMinus (tVar 2) (tOp rMulX (tOp rDivW (tVar 2) (tVar 3)) (tVar 3)))) (gName 2)) (tDrop (tBM K "list" rAppend (tVar 4) (tCons (tOp rDivW (tVar 2) (tVar 3)) tNil))))) (tRet (tVar 4)))))
theorem tm_law_digits {f : Addr} (T : Top K mg) (cdv : Value) (A : Around) (outer : List PySem.Env) (s : Shared) (H : Hp) (E : XK) : Room 0 (A.deeper (envOfC "_law_digits" (defScope (top 91)) s.heap.objs.size f cdv)) → PSs (cxOf CX0 P w K mg base nm_law_digits "_law_digits" (defScope (top 91)) f cdv A outer s H E).nox (defBody (top 91)) (t_law_digits K) := fun hr => by
  have nd := sc_law_digits.nd
  exact (pss_cons (ps_asg (pv 0) (pg_tup rfl (pgs_cons (pg_name (i := 2) nd rfl (Or.inl rfl)) (pgs_cons (pg_name (i := 3) nd rfl (Or.inl rfl)) pgs_nil)))) (pss_cons (ps_set (i := 4) nd rfl (Or.inl rfl) (pe_lst (pa_cons (pe_op op_fdivW (pv 2) (pv 3)) pa_nil))) (pss_cons (ps_for PassesOwn.never rfl (pi_range1 (by rfl) T.n_range (pa_cons (pv 1) pa_nil)) (pg_name (i := 5) nd rfl (Or.inl rfl)) (pss_cons (ps_set (i := 2) nd rfl (Or.inl rfl) (pe_op op_mulX pe_int (pe_op op_sub (pv 2) (pe_op op_mulX (pe_op op_fdivW (pv 2) (pv 3)) (pv 3))))) (pss_one (ps_expr (pe_bm PySem.F.plainAttrs_list PySem.F.slot_list_append PySem.F.type_list_append mt_append (pv 4) (pa_cons (pe_op op_fdivW (pv 2) (pv 3)) pa_nil)))))) (pss_one (ps_ret (pv 4))))))
theorem sc_law_bottoms : FnScope nm_law_bottoms ps_law_bottoms (defScope (top 99)) := ⟨rfl, rfl, rfl, by decide +kernel, rfl, by decide +kernel, by decide +kernel⟩
def t_law_bottoms (K : PySem.W.Frag) : TS := (tRet (tLst (tCons (tC (.int 2)) (tCons (tC (.int 3)) (tCons (tC (.int 4)) (tCons (tC (.int 5)) (tCons (tC (.int 2)) (tCons (tC (.int 6)) (tCons (tC (.int 8)) (tCons (tC (.int 7)) (tCons (tC (.int 3)) (tCons (tC (.int 4)) (tCons (tC (.int 10)) (tCons (tC (.int 12)) (tCons (tC (.int 16)) tNil)))))))))))))))
theorem tm_law_bottoms {f : Addr} (T : Top K mg) (cdv : Value) (A : Around) (outer : List PySem.Env) (s : Shared) (H : Hp) (E : XK) : Room 0 (A.deeper (envOfC "_law_bottoms" (defScope (top 99)) s.heap.objs.size f cdv)) → PSs (cxOf CX0 P w K mg base nm_law_bottoms "_law_bottoms" (defScope (top 99)) f cdv A outer s H E).nox (defBody (top 99)) (t_law_bottoms K) := fun hr => by
  have nd := sc_law_bottoms.nd
  exact (pss_one (ps_ret (pe_lst (pa_cons pe_int (pa_cons pe_int (pa_cons pe_int (pa_cons pe_int (pa_cons pe_int (pa_cons pe_int (pa_cons pe_int (pa_cons pe_int (pa_cons pe_int (pa_cons pe_int (pa_cons pe_int (pa_cons pe_int (pa_cons pe_int pa_nil))))))))))))))))
theorem sc_law_is_far_right : FnScope nm_law_is_far_right ps_law_is_far_right (defScope (top 107)) := ⟨rfl, rfl, rfl, by decide +kernel, rfl, by decide +kernel, by decide +kernel⟩
def t_law_is_far_right (K : PySem.W.Frag) : TS := (tSeq (tAsg (tCall (sp_law_table K) [] E0 (tCons (tVar 0) (tCons (tOp rPlus (tC (.int 1)) (tCall (sp_law_draw K) [] E0 (tCons (tVar 0) (tCons (tC (.int 5)) tNil)))) (tCons (tCall (sp_law_bottoms K) [] E0 tNil) tNil)))) (gName 1)) (tSeq (tPar3 2 3 4 (tCons (tTup (tCons (tC (.str "draw")) (tCons (tVar 1) tNil))) (tCons (tCall (sp_law_draw K) [] E0 (tCons (tVar 0) (tCons (tC (.int 201)) tNil))) (tCons (tCall (sp_law_draw K) [] E0 (tCons (tVar 0) (tCons (tCB (rLenQ K) (tCons (tVar 1) tNil)) tNil))) tNil)))) (tSeq (tAsg (tCall (sp_law_fraction K) [] E0 (tCons (tOp (rIx K) (tCall (sp_law_digits K) [] E0 (tCons (tOp (rIx K) (tVar 1) (tVar 4)) (tCons (tVar 3) tNil))) (tVar 3)) (tCons (tOp rShlW (tC (.int 1)) (tVar 3)) tNil))) (gName 5)) (tRet (tOp rEq (tCB (rRepr K) (tCons (tTup (tCons (tCall (sp_length_chance K) [] E0 (tCons (tVar 2) (tCons (tVar 4) (tCons (tVar 3) tNil)))) (tCons (tCall (sp_made_tail K) [] E0 (tCons (tVar 2) (tCons (tVar 3) tNil))) tNil))) tNil)) (tCB (rRepr K) (tCons (tTup (tCons (tVar 5) (tCons (tCall (sp_law_floor K) [] E0 (tCons (tVar 1) (tCons (tVar 3) tNil))) tNil))) tNil)))))))
theorem tm_law_is_far_right {f : Addr} (T : Top K mg) (c_law_table : Cal P w K mg base "_law_table" 3 ps_law_table (sp_law_table K)) (c_law_bottoms : Cal P w K mg base "_law_bottoms" 1 ps_law_bottoms (sp_law_bottoms K)) (c_law_draw : Cal P w K mg base "_law_draw" 1 ps_law_draw (sp_law_draw K)) (c_law_fraction : Cal P w K mg base "_law_fraction" 2 ps_law_fraction (sp_law_fraction K)) (c_law_digits : Cal P w K mg base "_law_digits" 1 ps_law_digits (sp_law_digits K)) (c_made_tail : Cal P w K mg base "made_tail" 18 ps_made_tail (sp_made_tail K)) (c_length_chance : Cal P w K mg base "length_chance" 18 ps_length_chance (sp_length_chance K)) (c_law_floor : Cal P w K mg base "_law_floor" 3 ps_law_floor (sp_law_floor K)) (cdv : Value) (A : Around) (outer : List PySem.Env) (s : Shared) (H : Hp) (E : XK) : A.guards = some [] → Room 18 (A.deeper (envOfC "_law_is_far_right" (defScope (top 107)) s.heap.objs.size f cdv)) → PSs (cxOf CX0 P w K mg base nm_law_is_far_right "_law_is_far_right" (defScope (top 107)) f cdv A outer s H E).nox (defBody (top 107)) (t_law_is_far_right K) := fun hgd hr => by
  have nd := sc_law_is_far_right.nd
  exact (pss_cons (ps_set (i := 1) nd rfl (Or.inl rfl) (pe_cal c_law_table (hr.mono (by omega)) (by rfl) (pa_cons (pv 0) (pa_cons (pe_op op_add pe_int (pe_cal c_law_draw (hr.mono (by omega)) (by rfl) (pa_cons (pv 0) (pa_cons pe_int pa_nil)))) (pa_cons (pe_cal0 c_law_bottoms (hr.mono (by omega)) (by rfl)) pa_nil))))) (pss_cons (ps_par3 (i := 2) (j := 3) (l := 4) (by rfl) nd rfl rfl rfl (by decide) (by decide) (by decide) rfl rfl rfl (pa_cons (pe_tup (pa_cons pe_str (pa_cons (pv 1) pa_nil))) (pa_cons (pe_cal c_law_draw (hr.mono (by omega)) (by rfl) (pa_cons (pv 0) (pa_cons pe_int pa_nil))) (pa_cons (pe_cal c_law_draw (hr.mono (by omega)) (by rfl) (pa_cons (pv 0) (pa_cons (pe_callB call_len_seq (by rfl) T.n_len bt_len (pa_cons (pv 1) pa_nil)) pa_nil))) pa_nil))) (by rfl)) (pss_cons (ps_set (i := 5) nd rfl (Or.inl rfl) (pe_cal c_law_fraction (hr.mono (by omega)) (by rfl) (pa_cons (pe_ix ix_seq (pe_cal c_law_digits (hr.mono (by omega)) (by rfl) (pa_cons (pe_ix ix_seq (pv 1) (pv 4) (fun _ _ => rfl)) (pa_cons (pv 3) pa_nil))) (pv 3) (fun _ _ => rfl)) (pa_cons (pe_op op_shlW pe_int (pv 3)) pa_nil)))) (pss_one (ps_ret (pe_cmpR op_eq (pe_callB (call_reprD hgd hr.units) (by rfl) T.n_repr bt_repr (pa_cons (pe_tup (pa_cons (pe_cal c_length_chance (hr.mono (by omega)) (by rfl) (pa_cons (pv 2) (pa_cons (pv 4) (pa_cons (pv 3) pa_nil)))) (pa_cons (pe_cal c_made_tail (hr.mono (by omega)) (by rfl) (pa_cons (pv 2) (pa_cons (pv 3) pa_nil))) pa_nil))) pa_nil)) (pe_callB (call_reprD hgd hr.units) (by rfl) T.n_repr bt_repr (pa_cons (pe_tup (pa_cons (pv 5) (pa_cons (pe_cal c_law_floor (hr.mono (by omega)) (by rfl) (pa_cons (pv 1) (pa_cons (pv 3) pa_nil))) pa_nil))) pa_nil)) (nomark _)))))))
end
end K39

set_option Elab.async false
set_option linter.all false
set_option maxRecDepth 100000
set_option maxHeartbeats 1000000
namespace K39
open PySem PySem.Spec PyProof.Rows L2
section
variable {P : Program} {w : World} {K : PySem.W.Frag} {mg : Str → Option Value} {base : Heap}
theorem sc_is_ascending : FnScope nm_is_ascending ps_is_ascending (defScope (top 6)) := ⟨rfl, rfl, rfl, by decide +kernel, rfl, by decide +kernel, by decide +kernel⟩
def t_is_ascending (K : PySem.W.Frag) : TS := (tRet (tCB (rAll K) (tCons (tLc (iZipS K (tCons (tVar 0) (tCons (tSl (rSlT K) (tVar 0) (tPart (tC (.int 1))) tNoPart) tNil))) (gTup K 2 (gCons (gName 1) (gCons (gName 2) gNil))) tYes (tOp rLtI (tVar 1) (tVar 2)) [1, 2]) tNil)))
theorem tm_is_ascending {f : Addr} (T : Top K mg) (cdv : Value) (A : Around) (outer : List PySem.Env) (s : Shared) (H : Hp) (E : XK) : Room 0 (A.deeper (envOfC "is_ascending" (defScope (top 6)) s.heap.objs.size f cdv)) → PSs (cxOf CX0 P w K mg base nm_is_ascending "is_ascending" (defScope (top 6)) f cdv A outer s H E).nox (defBody (top 6)) (t_is_ascending K) := fun hr => by
  have nd := sc_is_ascending.nd
  exact (pss_one (ps_ret (pe_callB (cr_all rfl) (by rfl) T.n_all bt_all (pa_cons (pe_lc (own := [("one", 1), ("other", 2)]) (by rfl) nd (pi_zipS (by rfl) T.n_zip (pa_cons (pv 0) (pa_cons (pe_slice sl_tup (pv 0) (po_some pe_int) po_none) pa_nil))) (blkOk_by (N := nm_is_ascending) (sc := defScope (top 6)) (by decide +kernel)) (fun _ _ _ _ _ => (pg_tup rfl (pgs_cons (pg_name (i := 1) nd rfl (by first | exact Or.inl rfl | exact Or.inr rfl)) (pgs_cons (pg_name (i := 2) nd rfl (by first | exact Or.inl rfl | exact Or.inr rfl)) pgs_nil)))) (fun _ _ _ _ _ => pts_nil) (fun _ _ _ _ _ => (pe_cmpR op_lt (pv 1) (pv 2) (nomark _)))) pa_nil))))
theorem sc_times : FnScope nm_times ps_times (defScope (top 17)) := ⟨rfl, rfl, rfl, by decide +kernel, rfl, by decide +kernel, by decide +kernel⟩
def t_times (K : PySem.W.Frag) : TS := (tRet (tCall (sp_lowest K) [] E0 (tCons (tOp rMulX (tOp (rIx K) (tVar 0) (tC (.int 0))) (tOp (rIx K) (tVar 1) (tC (.int 0)))) (tCons (tOp rMulX (tOp (rIx K) (tVar 0) (tC (.int 1))) (tOp (rIx K) (tVar 1) (tC (.int 1)))) tNil))))
theorem tm_times {f : Addr} (T : Top K mg) (c_lowest : Cal P w K mg base "lowest" 2 ps_lowest (sp_lowest K)) (cdv : Value) (A : Around) (outer : List PySem.Env) (s : Shared) (H : Hp) (E : XK) : Room 2 (A.deeper (envOfC "times" (defScope (top 17)) s.heap.objs.size f cdv)) → PSs (cxOf CX0 P w K mg base nm_times "times" (defScope (top 17)) f cdv A outer s H E).nox (defBody (top 17)) (t_times K) := fun hr => by
  have nd := sc_times.nd
  exact (pss_one (ps_ret (pe_cal c_lowest (hr.mono (by omega)) (by rfl) (pa_cons (pe_op op_mulX (pe_ix ix_seq (pv 0) pe_int (fun _ _ => rfl)) (pe_ix ix_seq (pv 1) pe_int (fun _ _ => rfl))) (pa_cons (pe_op op_mulX (pe_ix ix_seq (pv 0) pe_int (fun _ _ => rfl)) (pe_ix ix_seq (pv 1) pe_int (fun _ _ => rfl))) pa_nil)))))
theorem sc_raw_digit : FnScope nm_raw_digit ps_raw_digit (defScope (top 26)) := ⟨rfl, rfl, rfl, by decide +kernel, rfl, by decide +kernel, by decide +kernel⟩
def t_raw_digit (K : PySem.W.Frag) : TS := (tSeq (tAsg (tVar 0) (gTup K 2 (gCons (gName 2) (gCons (gName 3) gNil)))) (tRet (tOp rDivW (tOp rMulX (tOp rModP (tOp rMulX (tVar 2) (tCall (sp_power_by K) [] E0 (tCons (tOp rMinus (tVar 1) (tC (.int 1))) (tCons (tVar 3) tNil)))) (tVar 3)) (tC (.int 2))) (tVar 3))))
theorem tm_raw_digit {f : Addr} (T : Top K mg) (c_power_by : Cal P w K mg base "power_by" 1 ps_power_by (sp_power_by K)) (cdv : Value) (A : Around) (outer : List PySem.Env) (s : Shared) (H : Hp) (E : XK) : Room 1 (A.deeper (envOfC "raw_digit" (defScope (top 26)) s.heap.objs.size f cdv)) → PSs (cxOf CX0 P w K mg base nm_raw_digit "raw_digit" (defScope (top 26)) f cdv A outer s H E).nox (defBody (top 26)) (t_raw_digit K) := fun hr => by
  have nd := sc_raw_digit.nd
  exact (pss_cons (ps_asg (pv 0) (pg_tup rfl (pgs_cons (pg_name (i := 2) nd rfl (Or.inl rfl)) (pgs_cons (pg_name (i := 3) nd rfl (Or.inl rfl)) pgs_nil)))) (pss_one (ps_ret (pe_op op_fdivW (pe_op op_mulX (pe_op op_mod (pe_op op_mulX (pv 2) (pe_cal c_power_by (hr.mono (by omega)) (by rfl) (pa_cons (pe_op op_sub (pv 1) pe_int) (pa_cons (pv 3) pa_nil)))) (pv 3)) pe_int) (pv 3)))))
theorem sc_raw_least_mean : FnScope nm_raw_least_mean ps_raw_least_mean (defScope (top 42)) := ⟨rfl, rfl, rfl, by decide +kernel, rfl, by decide +kernel, by decide +kernel⟩
def t_raw_least_mean (K : PySem.W.Frag) : TS := (tRet (tCall (sp_total K) [] E0 (tCons (tLc (iSeq K (tVar 0)) (gName 1) tYes (tCall (sp_raw_weight K) [] E0 (tCons (tVar 1) tNil)) [1]) tNil)))
theorem tm_raw_least_mean {f : Addr} (T : Top K mg) (c_total : Cal P w K mg base "total" 4 ps_total (sp_total K)) (c_raw_weight : Cal P w K mg base "raw_weight" 4 ps_raw_weight (sp_raw_weight K)) (cdv : Value) (A : Around) (outer : List PySem.Env) (s : Shared) (H : Hp) (E : XK) : Room 4 (A.deeper (envOfC "raw_least_mean" (defScope (top 42)) s.heap.objs.size f cdv)) → PSs (cxOf CX0 P w K mg base nm_raw_least_mean "raw_least_mean" (defScope (top 42)) f cdv A outer s H E).nox (defBody (top 42)) (t_raw_least_mean K) := fun hr => by
  have nd := sc_raw_least_mean.nd
  exact (pss_one (ps_ret (pe_cal c_total (hr.mono (by omega)) (by rfl) (pa_cons (pe_lc (own := [("chance", 1)]) (by rfl) nd (pi_seq (pv 0)) (blkOk_by (N := nm_raw_least_mean) (sc := defScope (top 42)) (by decide +kernel)) (fun _ _ _ _ _ => (pg_name (i := 1) nd rfl (by first | exact Or.inl rfl | exact Or.inr rfl))) (fun _ _ _ _ _ => pts_nil) (fun _ _ _ _ _ => (pe_cal c_raw_weight (hr.mono (by omega)) (by rfl) (pa_cons (pv 1) pa_nil)))) pa_nil))))
theorem sc_again_looked_at : FnScope nm_again_looked_at ps_again_looked_at (defScope (top 56)) := ⟨rfl, rfl, rfl, by decide +kernel, rfl, by decide +kernel, by decide +kernel⟩
def t_again_looked_at (K : PySem.W.Frag) (n : Nat) : TS := (tSeq (tAsg (tCall (sp_looked_at K n) [] E0 (tCons (tOp (rIx K) (tVar 0) (tC (.int 1))) (tCons (tOp rPlus (tVar 1) (tC (.int 1))) tNil))) (gName 2)) (tSeq (tIfS (tOr (tTest (tOp rIsNone (tVar 2) (tC .non))) (tOr (tTest (tOp (rNeD K) (tOp (rIx K) (tVar 2) (tC (.int 1))) (tLst tNil))) (tOr (tTest (tOp rGeI (tOp (rIx K) (tVar 2) (tC (.int 2))) (tC (.int 40)))) (tNot (tB (tCall (sp_is_lot_value K) [] E0 (tCons (tOp (rIx K) (tVar 2) (tC (.int 0))) (tCons (tOp (rIx K) (tVar 0) (tC (.int 2))) tNil)))))))) (tRet (tC .non)) tNext) (tSeq (tIfS (tTest (tOp (rEqD K) (tCall (sp_raw_lot_chance K) [] E0 (tCons (tCall (sp_raw_meaning K n) [] E0 (tCons (tOp (rIx K) (tVar 0) (tC (.int 1))) tNil)) (tCons (tOp (rIx K) (tVar 0) (tC (.int 2))) tNil))) (tC (.ref (He.ga K "ZERO"))))) (tRet (tC .non)) tNext) (tRet (tTup (tCons (tOp (rIx K) (tVar 2) (tC (.int 0))) (tCons (tLst tNil) (tCons (tOp rPlus (tOp (rIx K) (tVar 2) (tC (.int 2))) (tC (.int 1))) tNil))))))))
theorem tm_again_looked_at (n : Nat) {f : Addr} (T : Top K mg) (c_looked_at : Cal P w K mg base "looked_at" (7 + 2 * n) ps_looked_at (sp_looked_at K n)) (c_is_lot_value : Cal P w K mg base "is_lot_value" 4 ps_is_lot_value (sp_is_lot_value K)) (c_raw_lot_chance : Cal P w K mg base "raw_lot_chance" 5 ps_raw_lot_chance (sp_raw_lot_chance K)) (c_raw_meaning : Cal P w K mg base "raw_meaning" (6 + 1 * n) ps_raw_meaning (sp_raw_meaning K n)) (cdv : Value) (A : Around) (outer : List PySem.Env) (s : Shared) (H : Hp) (E : XK) : Room (7 + 2 * n) (A.deeper (envOfC "again_looked_at" (defScope (top 56)) s.heap.objs.size f cdv)) → PSs (cxOf CX0 P w K mg base nm_again_looked_at "again_looked_at" (defScope (top 56)) f cdv A outer s H E).nox (defBody (top 56)) (t_again_looked_at K n) := fun hr => by
  have nd := sc_again_looked_at.nd
  exact (pss_cons (ps_set (i := 2) nd rfl (Or.inl rfl) (pe_cal c_looked_at (hr.mono (by omega)) (by rfl) (pa_cons (pe_ix ix_seq (pv 0) pe_int (fun _ _ => rfl)) (pa_cons (pe_op op_add (pv 1) pe_int) pa_nil)))) (pss_cons (ps_if (PW.pt (pw_or (pt_cmpR op_isN (pv 2) pe_non (nomark _)) (pw_or (pt_cmpR (op_neD hr.units) (pe_ix ix_seq (pv 2) pe_int (fun _ _ => rfl)) (pe_lst pa_nil) (nomark _)) (pw_or (pt_cmpR op_ge (pe_ix ix_seq (pv 2) pe_int (fun _ _ => rfl)) (pe_cst rfl T.most_parts) (nomark _)) (pw_or1 (pt_not (pt_val (pe_cal c_is_lot_value (hr.mono (by omega)) (by rfl) (pa_cons (pe_ix ix_seq (pv 2) pe_int (fun _ _ => rfl)) (pa_cons (pe_ix ix_seq (pv 0) pe_int (fun _ _ => rfl)) pa_nil)))))))))) (pss_one (ps_ret pe_non)) pss_nil) (pss_cons (ps_if (pt_cmpR (op_eqD hr.units) (pe_cal c_raw_lot_chance (hr.mono (by omega)) (by rfl) (pa_cons (pe_cal c_raw_meaning (hr.mono (by omega)) (by rfl) (pa_cons (pe_ix ix_seq (pv 0) pe_int (fun _ _ => rfl)) pa_nil)) (pa_cons (pe_ix ix_seq (pv 0) pe_int (fun _ _ => rfl)) pa_nil))) (pe_glob rfl T.zero rfl) (nomark _)) (pss_one (ps_ret pe_non)) pss_nil) (pss_one (ps_ret (pe_tup (pa_cons (pe_ix ix_seq (pv 2) pe_int (fun _ _ => rfl)) (pa_cons (pe_lst pa_nil) (pa_cons (pe_op op_add (pe_ix ix_seq (pv 2) pe_int (fun _ _ => rfl)) pe_int) pa_nil)))))))))
theorem sc_raw_meaning : FnScope nm_raw_meaning ps_raw_meaning (defScope (top 65)) := ⟨rfl, rfl, rfl, by decide +kernel, rfl, by decide +kernel, by decide +kernel⟩
def t_raw_meaning (K : PySem.W.Frag) (n : Nat) : TS := (tSeq (tAsg (tOp (rIx K) (tVar 0) (tC (.int 0))) (gName 1)) (tSeq (tIfS (tTest (tOp rEq (tVar 1) (tC (.str "value")))) (tRet (tCB (rTupQ K) (tCons (tLc (iRng1 (tCons (tOp (rIx K) (tVar 0) (tC (.int 1))) tNil)) (gName 2) tYes (tIf (tTest (tOp rEq (tVar 2) (tOp (rIx K) (tVar 0) (tC (.int 2))))) (tC (.ref (He.ga K "ONE"))) (tC (.ref (He.ga K "ZERO")))) [2]) tNil))) tNext) (tSeq (tIfS (tTest (tOp rEq (tVar 1) (tC (.str "draw")))) (tRet (tOp (rIx K) (tVar 0) (tC (.int 1)))) tNext) (tSeq (tIfS (tTest (tOp rEq (tVar 1) (tC (.str "bind")))) (tRet (tCall (sp_raw_mixed K) [] E0 (tCons (tCall (sp_raw_meaning K n) [] E0 (tCons (tOp (rIx K) (tVar 0) (tC (.int 1))) tNil)) (tCons (tCB (rTupQ K) (tCons (tLc (iSeq K (tOp (rIx K) (tVar 0) (tC (.int 2)))) (gName 3) tYes (tCall (sp_raw_meaning K n) [] E0 (tCons (tVar 3) tNil)) [3]) tNil)) tNil)))) tNext) (tSeq (tIfS (tTest (tOp rEq (tVar 1) (tC (.str "again")))) (tRet (tCall (sp_raw_given K) [] E0 (tCons (tCall (sp_raw_meaning K n) [] E0 (tCons (tOp (rIx K) (tVar 0) (tC (.int 1))) tNil)) (tCons (tOp (rIx K) (tVar 0) (tC (.int 2))) tNil)))) tNext) (tRet (tCall (sp_raw_renamed K) [] E0 (tCons (tCall (sp_raw_meaning K n) [] E0 (tCons (tOp (rIx K) (tVar 0) (tC (.int 1))) tNil)) (tCons (tOp (rIx K) (tVar 0) (tC (.int 2))) (tCons (tOp (rIx K) (tVar 0) (tC (.int 3))) tNil))))))))))
theorem tm_raw_meaning (n : Nat) {f : Addr} (T : Top K mg) (c_raw_mixed : Cal P w K mg base "raw_mixed" 5 ps_raw_mixed (sp_raw_mixed K)) (c_raw_meaning : Cal P w K mg base "raw_meaning" (6 + 1 * n) ps_raw_meaning (sp_raw_meaning K n)) (c_raw_given : Cal P w K mg base "raw_given" 6 ps_raw_given (sp_raw_given K)) (c_raw_renamed : Cal P w K mg base "raw_renamed" 5 ps_raw_renamed (sp_raw_renamed K)) (cdv : Value) (A : Around) (outer : List PySem.Env) (s : Shared) (H : Hp) (E : XK) : Room (6 + 1 * n) (A.deeper (envOfC "raw_meaning" (defScope (top 65)) s.heap.objs.size f cdv)) → PSs (cxOf CX0 P w K mg base nm_raw_meaning "raw_meaning" (defScope (top 65)) f cdv A outer s H E).nox (defBody (top 65)) (t_raw_meaning K n) := fun hr => by
  have nd := sc_raw_meaning.nd
  exact (pss_cons (ps_set (i := 1) nd rfl (Or.inl rfl) (pe_ix ix_seq (pv 0) pe_int (fun _ _ => rfl))) (pss_cons (ps_if (pt_cmpR op_eq (pv 1) pe_str (nomark _)) (pss_one (ps_ret (pe_callTy call_tuple_of (by rfl) T.n_tuple bt_tuple (pa_cons (pe_lc (own := [("i", 2)]) (by rfl) nd (pi_range1 (by rfl) T.n_range (pa_cons (pe_ix ix_seq (pv 0) pe_int (fun _ _ => rfl)) pa_nil)) (blkOk_by (N := nm_raw_meaning) (sc := defScope (top 65)) (by decide +kernel)) (fun _ _ _ _ _ => (pg_name (i := 2) nd rfl (by first | exact Or.inl rfl | exact Or.inr rfl))) (fun _ _ _ _ _ => pts_nil) (fun _ _ _ _ _ => (pe_ifExp (pt_cmpR op_eq (pv 2) (pe_ix ix_seq (pv 0) pe_int (fun _ _ => rfl)) (nomark _)) (pe_glob rfl T.one rfl) (pe_glob rfl T.zero rfl)))) pa_nil)))) pss_nil) (pss_cons (ps_if (pt_cmpR op_eq (pv 1) pe_str (nomark _)) (pss_one (ps_ret (pe_ix ix_seq (pv 0) pe_int (fun _ _ => rfl)))) pss_nil) (pss_cons (ps_if (pt_cmpR op_eq (pv 1) pe_str (nomark _)) (pss_one (ps_ret (pe_cal c_raw_mixed (hr.mono (by omega)) (by rfl) (pa_cons (pe_cal c_raw_meaning (hr.mono (by omega)) (by rfl) (pa_cons (pe_ix ix_seq (pv 0) pe_int (fun _ _ => rfl)) pa_nil)) (pa_cons (pe_callTy call_tuple_of (by rfl) T.n_tuple bt_tuple (pa_cons (pe_lc (own := [("case", 3)]) (by rfl) nd (pi_seq (pe_ix ix_seq (pv 0) pe_int (fun _ _ => rfl))) (blkOk_by (N := nm_raw_meaning) (sc := defScope (top 65)) (by decide +kernel)) (fun _ _ _ _ _ => (pg_name (i := 3) nd rfl (by first | exact Or.inl rfl | exact Or.inr rfl))) (fun _ _ _ _ _ => pts_nil) (fun _ _ _ _ _ => (pe_cal c_raw_meaning (hr.mono (by omega)) (by rfl) (pa_cons (pv 3) pa_nil)))) pa_nil)) pa_nil))))) pss_nil) (pss_cons (ps_if (pt_cmpR op_eq (pv 1) pe_str (nomark _)) (pss_one (ps_ret (pe_cal c_raw_given (hr.mono (by omega)) (by rfl) (pa_cons (pe_cal c_raw_meaning (hr.mono (by omega)) (by rfl) (pa_cons (pe_ix ix_seq (pv 0) pe_int (fun _ _ => rfl)) pa_nil)) (pa_cons (pe_ix ix_seq (pv 0) pe_int (fun _ _ => rfl)) pa_nil))))) pss_nil) (pss_one (ps_ret (pe_cal c_raw_renamed (hr.mono (by omega)) (by rfl) (pa_cons (pe_cal c_raw_meaning (hr.mono (by omega)) (by rfl) (pa_cons (pe_ix ix_seq (pv 0) pe_int (fun _ _ => rfl)) pa_nil)) (pa_cons (pe_ix ix_seq (pv 0) pe_int (fun _ _ => rfl)) (pa_cons (pe_ix ix_seq (pv 0) pe_int (fun _ _ => rfl)) pa_nil)))))))))))
theorem sc_plain_cost : FnScope nm_plain_cost ps_plain_cost (defScope (top 75)) := ⟨rfl, rfl, rfl, by decide +kernel, rfl, by decide +kernel, by decide +kernel⟩
def t_plain_cost (K : PySem.W.Frag) : TS := (tSeq (tDrop (tCall (sp_need_closed K) [] E0 (tCons (tVar 0) tNil))) (tRet (tCall (sp_raw_cost K 4) [] E0 (tCons (tVar 0) tNil))))
theorem tm_plain_cost {f : Addr} (T : Top K mg) (c_need_closed : Cal P w K mg base "need_closed" 17 ps_need_closed (sp_need_closed K)) (c_raw_cost : Cal P w K mg base "raw_cost" 10 ps_raw_cost (sp_raw_cost K 4)) (cdv : Value) (A : Around) (outer : List PySem.Env) (s : Shared) (H : Hp) (E : XK) : Room 17 (A.deeper (envOfC "plain_cost" (defScope (top 75)) s.heap.objs.size f cdv)) → PSs (cxOf CX0 P w K mg base nm_plain_cost "plain_cost" (defScope (top 75)) f cdv A outer s H E).nox (defBody (top 75)) (t_plain_cost K) := fun hr => by
  have nd := sc_plain_cost.nd
  exact (pss_cons (ps_expr (pe_cal c_need_closed (hr.mono (by omega)) (by rfl) (pa_cons (pv 0) pa_nil))) (pss_one (ps_ret (pe_cal c_raw_cost (hr.mono (by omega)) (by rfl) (pa_cons (pv 0) pa_nil)))))
theorem sc_law_plus : FnScope nm_law_plus ps_law_plus (defScope (top 84)) := ⟨rfl, rfl, rfl, by decide +kernel, rfl, by decide +kernel, by decide +kernel⟩
def t_law_plus (K : PySem.W.Frag) : TS := (tRet (tCall (sp_law_fraction K) [] E0 (tCons (tOp rPlus (tOp rMulX (tOp (rIx K) (tVar 0) (tC (.int 0))) (tOp (rIx K) (tVar 1) (tC (.int 1)))) (tOp rMulX (tOp (rIx K) (tVar 1) (tC (.int 0))) (tOp (rIx K) (tVar 0) (tC (.int 1))))) (tCons (tOp rMulX (tOp (rIx K) (tVar 0) (tC (.int 1))) (tOp (rIx K) (tVar 1) (tC (.int 1)))) tNil))))
theorem tm_law_plus {f : Addr} (T : Top K mg) (c_law_fraction : Cal P w K mg base "_law_fraction" 2 ps_law_fraction (sp_law_fraction K)) (cdv : Value) (A : Around) (outer : List PySem.Env) (s : Shared) (H : Hp) (E : XK) : Room 2 (A.deeper (envOfC "_law_plus" (defScope (top 84)) s.heap.objs.size f cdv)) → PSs (cxOf CX0 P w K mg base nm_law_plus "_law_plus" (defScope (top 84)) f cdv A outer s H E).nox (defBody (top 84)) (t_law_plus K) := fun hr => by
  have nd := sc_law_plus.nd
  exact (pss_one (ps_ret (pe_cal c_law_fraction (hr.mono (by omega)) (by rfl) (pa_cons (pe_op op_add (pe_op op_mulX (pe_ix ix_seq (pv 0) pe_int (fun _ _ => rfl)) (pe_ix ix_seq (pv 1) pe_int (fun _ _ => rfl))) (pe_op op_mulX (pe_ix ix_seq (pv 1) pe_int (fun _ _ => rfl)) (pe_ix ix_seq (pv 0) pe_int (fun _ _ => rfl)))) (pa_cons (pe_op op_mulX (pe_ix ix_seq (pv 0) pe_int (fun _ _ => rfl)) (pe_ix ix_seq (pv 1) pe_int (fun _ _ => rfl))) pa_nil)))))
theorem sc_law_lot_chance : FnScope nm_law_lot_chance ps_law_lot_chance (defScope (top 92)) := ⟨rfl, rfl, rfl, by decide +kernel, rfl, by decide +kernel, by decide +kernel⟩
def t_law_lot_chance (K : PySem.W.Frag) : TS := (tRet (tCall (sp_law_total K) [] E0 (tCons (tLc (iSeq K (tVar 1)) (gName 2) tYes (tOp (rIx K) (tVar 0) (tVar 2)) [2]) tNil)))
theorem tm_law_lot_chance {f : Addr} (T : Top K mg) (c_law_total : Cal P w K mg base "_law_total" 4 ps_law_total (sp_law_total K)) (cdv : Value) (A : Around) (outer : List PySem.Env) (s : Shared) (H : Hp) (E : XK) : Room 4 (A.deeper (envOfC "_law_lot_chance" (defScope (top 92)) s.heap.objs.size f cdv)) → PSs (cxOf CX0 P w K mg base nm_law_lot_chance "_law_lot_chance" (defScope (top 92)) f cdv A outer s H E).nox (defBody (top 92)) (t_law_lot_chance K) := fun hr => by
  have nd := sc_law_lot_chance.nd
  exact (pss_one (ps_ret (pe_cal c_law_total (hr.mono (by omega)) (by rfl) (pa_cons (pe_lc (own := [("_law_at", 2)]) (by rfl) nd (pi_seq (pv 1)) (blkOk_by (N := nm_law_lot_chance) (sc := defScope (top 92)) (by decide +kernel)) (fun _ _ _ _ _ => (pg_name (i := 2) nd rfl (by first | exact Or.inl rfl | exact Or.inr rfl))) (fun _ _ _ _ _ => pts_nil) (fun _ _ _ _ _ => (pe_ix ix_seq (pv 0) (pv 2) (fun _ _ => rfl)))) pa_nil))))
theorem sc_law_closed : FnScope nm_law_closed ps_law_closed (defScope (top 100)) := ⟨rfl, rfl, rfl, by decide +kernel, rfl, by decide +kernel, by decide +kernel⟩
def t_law_closed (K : PySem.W.Frag) (n : Nat) : TS := (tSeq (tAsg (tIf (tTest (tOp rGtI (tVar 2) (tC (.int 0)))) (tCall (sp_law_draw K) [] E0 (tCons (tVar 0) (tCons (tC (.int 8)) tNil))) (tCall (sp_law_draw K) [] E0 (tCons (tVar 0) (tCons (tC (.int 2)) tNil)))) (gName 3)) (tSeq (tIfS (tAnd (tTest (tOp rEq (tVar 3) (tC (.int 0)))) (tOr (tTest (tOp rGtI (tVar 1) (tC (.int 1)))) (tTest (tOp rGtI (tVar 2) (tC (.int 0)))))) (tRet (tIf (tTest (tOp rEq (tCall (sp_law_draw K) [] E0 (tCons (tVar 0) (tCons (tC (.int 3)) tNil))) (tC (.int 0)))) (tTup (tCons (tC (.str "value")) (tCons (tVar 1) (tCons (tCall (sp_law_draw K) [] E0 (tCons (tVar 0) (tCons (tVar 1) tNil))) tNil)))) (tTup (tCons (tC (.str "draw")) (tCons (tCall (sp_law_table K) [] E0 (tCons (tVar 0) (tCons (tVar 1) (tCons (tLst (tCons (tC (.int 2)) (tCons (tC (.int 4)) (tCons (tC (.int 3)) tNil)))) tNil)))) tNil))))) tNext) (tSeq (tIfS (tTest (tOp rLtI (tVar 3) (tC (.int 3)))) (tRet (tTup (tCons (tC (.str "draw")) (tCons (tCall (sp_law_table K) [] E0 (tCons (tVar 0) (tCons (tVar 1) (tCons (tCall (sp_law_bottoms K) [] E0 tNil) tNil)))) tNil)))) tNext) (tSeq (tIfS (tTest (tOp rLtI (tVar 3) (tC (.int 6)))) (tSeq (tAsg (tOp rPlus (tC (.int 2)) (tCall (sp_law_draw K) [] E0 (tCons (tVar 0) (tCons (tC (.int 2)) tNil)))) (gName 4)) (tSeq (tAsg (tCall (sp_law_closed K n) [] E0 (tCons (tVar 0) (tCons (tVar 4) (tCons (tOp rMinus (tVar 2) (tC (.int 1))) tNil)))) (gName 5)) (tSeq (tAsg (tLc (iRng1 (tCons (tVar 4) tNil)) (gName 7) tYes (tCall (sp_law_closed K n) [] E0 (tCons (tVar 0) (tCons (tVar 1) (tCons (tOp rMinus (tVar 2) (tC (.int 1))) tNil)))) [7]) (gName 6)) (tSeq (tIfS (tTest (tOp rEq (tCall (sp_law_draw K) [] E0 (tCons (tVar 0) (tCons (tC (.int 3)) tNil))) (tC (.int 0)))) (tAsg (tOp (rIx K) (tVar 6) (tUn uNeg (tC (.int 1)))) (gSub (tVar 6) (tC (.int 0)) rSetL)) tNext) (tRet (tTup (tCons (tC (.str "bind")) (tCons (tVar 5) (tCons (tCB (rTupQ K) (tCons (tVar 6) tNil)) tNil))))))))) tNext) (tSeq (tIfS (tTest (tOp rEq (tVar 3) (tC (.int 6)))) (tSeq (tAsg (tCall (sp_law_closed K n) [] E0 (tCons (tVar 0) (tCons (tVar 1) (tCons (tOp rMinus (tVar 2) (tC (.int 1))) tNil)))) (gName 8)) (tSeq (tAsg (tCB (rTupQ K) (tCons (tLc (iRng1 (tCons (tVar 1) tNil)) (gName 7) (tTest (tOp rEq (tCall (sp_law_draw K) [] E0 (tCons (tVar 0) (tCons (tC (.int 2)) tNil))) (tC (.int 0)))) (tVar 7) [7]) tNil)) (gName 9)) (tSeq (tIfS (tTest (tOp (rEqD K) (tCall (sp_law_lot_chance K) [] E0 (tCons (tCall (sp_law_meaning K 4) [] E0 (tCons (tVar 8) tNil)) (tCons (tVar 9) tNil))) (tTup (tCons (tC (.int 0)) (tCons (tC (.int 1)) tNil))))) (tAsg (tTupRg (tRg1 (tVar 1))) (gName 9)) tNext) (tRet (tTup (tCons (tC (.str "again")) (tCons (tVar 8) (tCons (tVar 9) tNil)))))))) tNext) (tSeq (tAsg (tOp rPlus (tC (.int 1)) (tCall (sp_law_draw K) [] E0 (tCons (tVar 0) (tCons (tC (.int 5)) tNil)))) (gName 4)) (tRet (tTup (tCons (tC (.str "map")) (tCons (tCall (sp_law_closed K n) [] E0 (tCons (tVar 0) (tCons (tVar 4) (tCons (tOp rMinus (tVar 2) (tC (.int 1))) tNil)))) (tCons (tCB (rTupQ K) (tCons (tLc (iRng1 (tCons (tVar 4) tNil)) (gName 7) tYes (tCall (sp_law_draw K) [] E0 (tCons (tVar 0) (tCons (tVar 1) tNil))) [7]) tNil)) (tCons (tVar 1) tNil))))))))))))
theorem tm_law_closed (n : Nat) {f : Addr} (T : Top K mg) (c_law_draw : Cal P w K mg base "_law_draw" 1 ps_law_draw (sp_law_draw K)) (c_law_table : Cal P w K mg base "_law_table" 3 ps_law_table (sp_law_table K)) (c_law_bottoms : Cal P w K mg base "_law_bottoms" 1 ps_law_bottoms (sp_law_bottoms K)) (c_law_closed : Cal P w K mg base "_law_closed" (9 + 1 * n) ps_law_closed (sp_law_closed K n)) (c_law_lot_chance : Cal P w K mg base "_law_lot_chance" 5 ps_law_lot_chance (sp_law_lot_chance K)) (c_law_meaning : Cal P w K mg base "_law_meaning" 9 ps_law_meaning (sp_law_meaning K 4)) (cdv : Value) (A : Around) (outer : List PySem.Env) (s : Shared) (H : Hp) (E : XK) : Room (9 + 1 * n) (A.deeper (envOfC "_law_closed" (defScope (top 100)) s.heap.objs.size f cdv)) → PSs (cxOf CX0 P w K mg base nm_law_closed "_law_closed" (defScope (top 100)) f cdv A outer s H E).nox (defBody (top 100)) (t_law_closed K n) := fun hr => by
  have nd := sc_law_closed.nd
  exact (pss_cons (ps_set (i := 3) nd rfl (Or.inl rfl) (pe_ifExp (pt_cmpR op_gt (pv 2) pe_int (nomark _)) (pe_cal c_law_draw (hr.mono (by omega)) (by rfl) (pa_cons (pv 0) (pa_cons pe_int pa_nil))) (pe_cal c_law_draw (hr.mono (by omega)) (by rfl) (pa_cons (pv 0) (pa_cons pe_int pa_nil))))) (pss_cons (ps_if (PW.pt (pw_and (pt_cmpR op_eq (pv 3) pe_int (nomark _)) (pw_and1 (PW.pt (pw_or (pt_cmpR op_gt (pv 1) pe_int (nomark _)) (pw_or1 (pt_cmpR op_gt (pv 2) pe_int (nomark _)))))))) (pss_one (ps_ret (pe_ifExp (pt_cmpR op_eq (pe_cal c_law_draw (hr.mono (by omega)) (by rfl) (pa_cons (pv 0) (pa_cons pe_int pa_nil))) pe_int (nomark _)) (pe_tup (pa_cons pe_str (pa_cons (pv 1) (pa_cons (pe_cal c_law_draw (hr.mono (by omega)) (by rfl) (pa_cons (pv 0) (pa_cons (pv 1) pa_nil))) pa_nil)))) (pe_tup (pa_cons pe_str (pa_cons (pe_cal c_law_table (hr.mono (by omega)) (by rfl) (pa_cons (pv 0) (pa_cons (pv 1) (pa_cons (pe_lst (pa_cons pe_int (pa_cons pe_int (pa_cons pe_int pa_nil)))) pa_nil)))) pa_nil)))))) pss_nil) (pss_cons (ps_if (pt_cmpR op_lt (pv 3) pe_int (nomark _)) (pss_one (ps_ret (pe_tup (pa_cons pe_str (pa_cons (pe_cal c_law_table (hr.mono (by omega)) (by rfl) (pa_cons (pv 0) (pa_cons (pv 1) (pa_cons (pe_cal0 c_law_bottoms (hr.mono (by omega)) (by rfl)) pa_nil)))) pa_nil))))) pss_nil) (pss_cons (ps_if (pt_cmpR op_lt (pv 3) pe_int (nomark _)) (pss_cons (ps_set (i := 4) nd rfl (Or.inl rfl) (pe_op op_add pe_int (pe_cal c_law_draw (hr.mono (by omega)) (by rfl) (pa_cons (pv 0) (pa_cons pe_int pa_nil))))) (pss_cons (ps_set (i := 5) nd rfl (Or.inl rfl) (pe_cal c_law_closed (hr.mono (by omega)) (by rfl) (pa_cons (pv 0) (pa_cons (pv 4) (pa_cons (pe_op op_sub (pv 2) pe_int) pa_nil))))) (pss_cons (ps_setLc (i := 6) (own := [("_law_at", 7)]) (by rfl) nd rfl rfl (sw_true rfl rfl rfl (by decide +kernel)) (pi_range1 (by rfl) T.n_range (pa_cons (pv 4) pa_nil)) (blkOk_by (N := nm_law_closed) (sc := defScope (top 100)) (by decide +kernel)) (fun _ _ _ _ _ => (pg_name (i := 7) nd rfl (by first | exact Or.inl rfl | exact Or.inr rfl))) (fun _ _ _ _ _ => pts_nil) (fun _ _ _ _ _ => (pe_cal c_law_closed (hr.mono (by omega)) (by rfl) (pa_cons (pv 0) (pa_cons (pv 1) (pa_cons (pe_op op_sub (pv 2) pe_int) pa_nil)))))) (pss_cons (ps_if (pt_cmpR op_eq (pe_cal c_law_draw (hr.mono (by omega)) (by rfl) (pa_cons (pv 0) (pa_cons pe_int pa_nil))) pe_int (nomark _)) (pss_one (ps_asg (pe_ix ix_seq (pv 6) (pe_un un_neg pe_int) (fun _ _ => rfl)) (pg_sub (pv 6) pe_int set_list))) pss_nil) (pss_one (ps_ret (pe_tup (pa_cons pe_str (pa_cons (pv 5) (pa_cons (pe_callTy call_tuple_of (by rfl) T.n_tuple bt_tuple (pa_cons (pv 6) pa_nil)) pa_nil)))))))))) pss_nil) (pss_cons (ps_if (pt_cmpR op_eq (pv 3) pe_int (nomark _)) (pss_cons (ps_set (i := 8) nd rfl (Or.inl rfl) (pe_cal c_law_closed (hr.mono (by omega)) (by rfl) (pa_cons (pv 0) (pa_cons (pv 1) (pa_cons (pe_op op_sub (pv 2) pe_int) pa_nil))))) (pss_cons (ps_set (i := 9) nd rfl (Or.inl rfl) (pe_callTy call_tuple_of (by rfl) T.n_tuple bt_tuple (pa_cons (pe_lc (own := [("_law_at", 7)]) (by rfl) nd (pi_range1 (by rfl) T.n_range (pa_cons (pv 1) pa_nil)) (blkOk_by (N := nm_law_closed) (sc := defScope (top 100)) (by decide +kernel)) (fun _ _ _ _ _ => (pg_name (i := 7) nd rfl (by first | exact Or.inl rfl | exact Or.inr rfl))) (fun _ _ _ _ _ => (pts_one (pt_cmpR op_eq (pe_cal c_law_draw (hr.mono (by omega)) (by rfl) (pa_cons (pv 0) (pa_cons pe_int pa_nil))) pe_int (nomark _)))) (fun _ _ _ _ _ => (pv 7))) pa_nil))) (pss_cons (ps_if (pt_cmpR (op_eqD hr.units) (pe_cal c_law_lot_chance (hr.mono (by omega)) (by rfl) (pa_cons (pe_cal c_law_meaning (hr.mono (by omega)) (by rfl) (pa_cons (pv 8) pa_nil)) (pa_cons (pv 9) pa_nil))) (pe_tup (pa_cons pe_int (pa_cons pe_int pa_nil))) (nomark _)) (pss_one (ps_set (i := 9) nd rfl (Or.inl rfl) (pe_tupRg rfl (by rfl) T.n_tuple (prg_1 (by rfl) T.n_range (pv 1))))) pss_nil) (pss_one (ps_ret (pe_tup (pa_cons pe_str (pa_cons (pv 8) (pa_cons (pv 9) pa_nil))))))))) pss_nil) (pss_cons (ps_set (i := 4) nd rfl (Or.inl rfl) (pe_op op_add pe_int (pe_cal c_law_draw (hr.mono (by omega)) (by rfl) (pa_cons (pv 0) (pa_cons pe_int pa_nil))))) (pss_one (ps_ret (pe_tup (pa_cons pe_str (pa_cons (pe_cal c_law_closed (hr.mono (by omega)) (by rfl) (pa_cons (pv 0) (pa_cons (pv 4) (pa_cons (pe_op op_sub (pv 2) pe_int) pa_nil)))) (pa_cons (pe_callTy call_tuple_of (by rfl) T.n_tuple bt_tuple (pa_cons (pe_lc (own := [("_law_at", 7)]) (by rfl) nd (pi_range1 (by rfl) T.n_range (pa_cons (pv 4) pa_nil)) (blkOk_by (N := nm_law_closed) (sc := defScope (top 100)) (by decide +kernel)) (fun _ _ _ _ _ => (pg_name (i := 7) nd rfl (by first | exact Or.inl rfl | exact Or.inr rfl))) (fun _ _ _ _ _ => pts_nil) (fun _ _ _ _ _ => (pe_cal c_law_draw (hr.mono (by omega)) (by rfl) (pa_cons (pv 0) (pa_cons (pv 1) pa_nil))))) pa_nil)) (pa_cons (pv 1) pa_nil)))))))))))))
theorem sc_law : FnScope nm_law ps_law (defScope (top 108)) := ⟨rfl, rfl, rfl, by decide +kernel, rfl, by decide +kernel, by decide +kernel⟩
def t_law (K : PySem.W.Frag) : TS := (tSeq (tAsg (tCall (sp_law_deck K) [] E0 (tCons (tVar 0) tNil)) (gName 1)) (tSeq (tFor (iRng1 (tCons (tC (.int 2)) tNil)) (gName 2) (tSeq (tPar 4 5 (tCons (tCall (sp_law_program K) [] E0 (tCons (tVar 1) (tCons (tC (.int 5)) tNil))) (tCons (tOp rPlus (tC (.int 3)) (tCall (sp_law_draw K) [] E0 (tCons (tVar 1) (tCons (tC (.int 7)) tNil)))) tNil))) (tSeq (tAsg (tCall (sp_law_rows K 4) [] E0 (tCons (tVar 4) (tCons (tVar 5) tNil))) (gName 3)) (tIfS (tOr (tNot (tB (tCall (sp_law_are_lengths_right K) [] E0 (tCons (tVar 1) (tCons (tVar 4) (tCons (tVar 3) (tCons (tVar 5) tNil))))))) (tNot (tB (tCall (sp_law_falls K) [] E0 (tCons (tVar 4) (tCons (tCB (rLenQ K) (tCons (tVar 3) tNil)) (tCons (tCall (sp_law_draw K) [] E0 (tCons (tVar 1) (tCons (tVar 5) tNil))) tNil))))))) (tRet (tC (.bl false))) tNext)))) (tRet (tCall (sp_law_is_far_right K) [] E0 (tCons (tVar 1) tNil)))))
theorem tm_law {f : Addr} (T : Top K mg) (c_law_deck : Cal P w K mg base "_law_deck" 1 ps_law_deck (sp_law_deck K)) (c_law_draw : Cal P w K mg base "_law_draw" 1 ps_law_draw (sp_law_draw K)) (c_law_program : Cal P w K mg base "_law_program" 14 ps_law_program (sp_law_program K)) (c_law_rows : Cal P w K mg base "_law_rows" 5 ps_law_rows (sp_law_rows K 4)) (c_law_falls : CalG P w K mg base "_law_falls" 19 ps_law_falls (sp_law_falls K)) (c_law_are_lengths_right : CalG P w K mg base "_law_are_lengths_right" 19 ps_law_are_lengths_right (sp_law_are_lengths_right K)) (c_law_is_far_right : CalG P w K mg base "_law_is_far_right" 19 ps_law_is_far_right (sp_law_is_far_right K)) (cdv : Value) (A : Around) (outer : List PySem.Env) (s : Shared) (H : Hp) (E : XK) : A.guards = some [] → Room 19 (A.deeper (envOfC "law" (defScope (top 108)) s.heap.objs.size f cdv)) → PSs (cxOf CX0 P w K mg base nm_law "law" (defScope (top 108)) f cdv A outer s H E).nox (defBody (top 108)) (t_law K) := fun hgd hr => by
  have nd := sc_law.nd
  exact (pss_cons (ps_set (i := 1) nd rfl (Or.inl rfl) (pe_cal c_law_deck (hr.mono (by omega)) (by rfl) (pa_cons (pv 0) pa_nil))) (pss_cons (ps_for PassesOwn.never rfl (pi_range1 (by rfl) T.n_range (pa_cons pe_int pa_nil)) (pg_name (i := 2) nd rfl (Or.inl rfl)) (pss_cons (ps_par (i := 4) (j := 5) (by rfl) nd rfl rfl (by decide) rfl rfl (pa_cons (pe_cal c_law_program (hr.mono (by omega)) (by rfl) (pa_cons (pv 1) (pa_cons pe_int pa_nil))) (pa_cons (pe_op op_add pe_int (pe_cal c_law_draw (hr.mono (by omega)) (by rfl) (pa_cons (pv 1) (pa_cons pe_int pa_nil)))) pa_nil)) (by rfl)) (pss_cons (ps_set (i := 3) nd rfl (Or.inl rfl) (pe_cal c_law_rows (hr.mono (by omega)) (by rfl) (pa_cons (pv 4) (pa_cons (pv 5) pa_nil)))) (pss_one (ps_if (PW.pt (pw_or (pt_not (pt_val (pe_calG c_law_are_lengths_right hgd (hr.mono (by omega)) (by rfl) (pa_cons (pv 1) (pa_cons (pv 4) (pa_cons (pv 3) (pa_cons (pv 5) pa_nil))))))) (pw_or1 (pt_not (pt_val (pe_calG c_law_falls hgd (hr.mono (by omega)) (by rfl) (pa_cons (pv 4) (pa_cons (pe_callB call_len_seq (by rfl) T.n_len bt_len (pa_cons (pv 3) pa_nil)) (pa_cons (pe_cal c_law_draw (hr.mono (by omega)) (by rfl) (pa_cons (pv 1) (pa_cons (pv 5) pa_nil))) pa_nil))))))))) (pss_one (ps_ret pe_bl)) pss_nil))))) (pss_one (ps_ret (pe_calG c_law_is_far_right hgd (hr.mono (by omega)) (by rfl) (pa_cons (pv 1) pa_nil))))))
end
end K39

set_option Elab.async false
set_option linter.all false
set_option maxRecDepth 100000
set_option maxHeartbeats 1000000
namespace K39
open PySem PySem.Spec PyProof.Rows L2
section
variable {P : Program} {w : World} {K : PySem.W.Frag} {mg : Str → Option Value} {base : Heap}
theorem sc_is_lot_value : FnScope nm_is_lot_value ps_is_lot_value (defScope (top 7)) := ⟨rfl, rfl, rfl, by decide +kernel, rfl, by decide +kernel, by decide +kernel⟩
def t_is_lot_value (K : PySem.W.Frag) : TS := (tRet (tAndV (tCall (sp_are_between K) [] E0 (tCons (tVar 1) (tCons (tC (.int 0)) (tCons (tOp rMinus (tVar 0) (tC (.int 1))) tNil)))) (tCall (sp_is_ascending K) [] E0 (tCons (tVar 1) tNil))))
theorem tm_is_lot_value {f : Addr} (T : Top K mg) (c_is_ascending : Cal P w K mg base "is_ascending" 1 ps_is_ascending (sp_is_ascending K)) (c_are_between : Cal P w K mg base "are_between" 3 ps_are_between (sp_are_between K)) (cdv : Value) (A : Around) (outer : List PySem.Env) (s : Shared) (H : Hp) (E : XK) : Room 3 (A.deeper (envOfC "is_lot_value" (defScope (top 7)) s.heap.objs.size f cdv)) → PSs (cxOf CX0 P w K mg base nm_is_lot_value "is_lot_value" (defScope (top 7)) f cdv A outer s H E).nox (defBody (top 7)) (t_is_lot_value K) := fun hr => by
  have nd := sc_is_lot_value.nd
  exact (pss_one (ps_ret (pe_and (pe_cal c_are_between (hr.mono (by omega)) (by rfl) (pa_cons (pv 1) (pa_cons pe_int (pa_cons (pe_op op_sub (pv 0) pe_int) pa_nil)))) (pe_one (pe_cal c_is_ascending (hr.mono (by omega)) (by rfl) (pa_cons (pv 1) pa_nil))))))
theorem sc_over : FnScope nm_over ps_over (defScope (top 18)) := ⟨rfl, rfl, rfl, by decide +kernel, rfl, by decide +kernel, by decide +kernel⟩
def t_over (K : PySem.W.Frag) : TS := (tRet (tCall (sp_lowest K) [] E0 (tCons (tOp rMulX (tOp (rIx K) (tVar 0) (tC (.int 0))) (tOp (rIx K) (tVar 1) (tC (.int 1)))) (tCons (tOp rMulX (tOp (rIx K) (tVar 0) (tC (.int 1))) (tOp (rIx K) (tVar 1) (tC (.int 0)))) tNil))))
theorem tm_over {f : Addr} (T : Top K mg) (c_lowest : Cal P w K mg base "lowest" 2 ps_lowest (sp_lowest K)) (cdv : Value) (A : Around) (outer : List PySem.Env) (s : Shared) (H : Hp) (E : XK) : Room 2 (A.deeper (envOfC "over" (defScope (top 18)) s.heap.objs.size f cdv)) → PSs (cxOf CX0 P w K mg base nm_over "over" (defScope (top 18)) f cdv A outer s H E).nox (defBody (top 18)) (t_over K) := fun hr => by
  have nd := sc_over.nd
  exact (pss_one (ps_ret (pe_cal c_lowest (hr.mono (by omega)) (by rfl) (pa_cons (pe_op op_mulX (pe_ix ix_seq (pv 0) pe_int (fun _ _ => rfl)) (pe_ix ix_seq (pv 1) pe_int (fun _ _ => rfl))) (pa_cons (pe_op op_mulX (pe_ix ix_seq (pv 0) pe_int (fun _ _ => rfl)) (pe_ix ix_seq (pv 1) pe_int (fun _ _ => rfl))) pa_nil)))))
theorem sc_twos_of : FnScope nm_twos_of ps_twos_of (defScope (top 27)) := ⟨rfl, rfl, rfl, by decide +kernel, rfl, by decide +kernel, by decide +kernel⟩
def t_twos_of (K : PySem.W.Frag) : TS := (tSeq (tAsg (tC (.int 0)) (gName 1)) (tSeq (tWhile (tTest (tOp rEq (tOp rModP (tVar 0) (tC (.int 2))) (tC (.int 0)))) (tSeq (tAsg (tOp rDivW (tVar 0) (tC (.int 2))) (gName 0)) (tAug 1 (tC (.int 1)) (ipI fun i j => i + j)))) (tRet (tVar 1))))
theorem tm_twos_of {f : Addr} (T : Top K mg) (cdv : Value) (A : Around) (outer : List PySem.Env) (s : Shared) (H : Hp) (E : XK) : Room 0 (A.deeper (envOfC "twos_of" (defScope (top 27)) s.heap.objs.size f cdv)) → PSs (cxOf CX0 P w K mg base nm_twos_of "twos_of" (defScope (top 27)) f cdv A outer s H E).nox (defBody (top 27)) (t_twos_of K) := fun hr => by
  have nd := sc_twos_of.nd
  exact (pss_cons (ps_set (i := 1) nd rfl (Or.inl rfl) pe_int) (pss_cons (ps_while PassesOwn.never (pt_cmpR op_eq (pe_op op_mod (pv 0) pe_int) pe_int (nomark _)) (pss_cons (ps_set (i := 0) nd rfl (Or.inl rfl) (pe_op op_fdivW (pv 0) pe_int)) (pss_one (ps_aug (i := 1) nd rfl (Or.inl rfl) pe_int ip_add)))) (pss_one (ps_ret (pv 1)))))
theorem sc_floor_at : FnScope nm_floor_at ps_floor_at (defScope (top 43)) := ⟨rfl, rfl, rfl, by decide +kernel, rfl, by decide +kernel, by decide +kernel⟩
def t_floor_at (K : PySem.W.Frag) : TS := (tSeq (tDrop (tCall (sp_need_table K) [] E0 (tCons (tVar 0) tNil))) (tSeq (tDrop (tCall (sp_need_count K) [] E0 (tCons (tVar 1) tNil))) (tRet (tCall (sp_raw_floor K) [] E0 (tCons (tVar 0) (tCons (tVar 1) tNil))))))
theorem tm_floor_at {f : Addr} (T : Top K mg) (c_need_table : Cal P w K mg base "need_table" 6 ps_need_table (sp_need_table K)) (c_need_count : Cal P w K mg base "need_count" 3 ps_need_count (sp_need_count K)) (c_raw_floor : Cal P w K mg base "raw_floor" 5 ps_raw_floor (sp_raw_floor K)) (cdv : Value) (A : Around) (outer : List PySem.Env) (s : Shared) (H : Hp) (E : XK) : Room 6 (A.deeper (envOfC "floor_at" (defScope (top 43)) s.heap.objs.size f cdv)) → PSs (cxOf CX0 P w K mg base nm_floor_at "floor_at" (defScope (top 43)) f cdv A outer s H E).nox (defBody (top 43)) (t_floor_at K) := fun hr => by
  have nd := sc_floor_at.nd
  exact (pss_cons (ps_expr (pe_cal c_need_table (hr.mono (by omega)) (by rfl) (pa_cons (pv 0) pa_nil))) (pss_cons (ps_expr (pe_cal c_need_count (hr.mono (by omega)) (by rfl) (pa_cons (pv 1) pa_nil))) (pss_one (ps_ret (pe_cal c_raw_floor (hr.mono (by omega)) (by rfl) (pa_cons (pv 0) (pa_cons (pv 1) pa_nil)))))))
theorem sc_map_looked_at : FnScope nm_map_looked_at ps_map_looked_at (defScope (top 57)) := ⟨rfl, rfl, rfl, by decide +kernel, rfl, by decide +kernel, by decide +kernel⟩
def t_map_looked_at (K : PySem.W.Frag) (n : Nat) : TS := (tSeq (tAsg (tCall (sp_looked_at K n) [] E0 (tCons (tOp (rIx K) (tVar 0) (tC (.int 1))) (tCons (tOp rPlus (tVar 1) (tC (.int 1))) tNil))) (gName 2)) (tSeq (tIfS (tOr (tTest (tOp rIsNone (tVar 2) (tC .non))) (tOr (tNot (tB (tCall (sp_is_between K) [] E0 (tCons (tOp (rIx K) (tVar 0) (tC (.int 3))) (tCons (tC (.int 1)) (tCons (tC (.int 8)) tNil)))))) (tNot (tB (tCall (sp_are_between K) [] E0 (tCons (tOp (rIx K) (tVar 0) (tC (.int 2))) (tCons (tC (.int 0)) (tCons (tOp rMinus (tOp (rIx K) (tVar 0) (tC (.int 3))) (tC (.int 1))) tNil)))))))) (tRet (tC .non)) tNext) (tRet (tIf (tTest (tOp rEq (tCB (rLenQ K) (tCons (tOp (rIx K) (tVar 0) (tC (.int 2))) tNil)) (tOp (rIx K) (tVar 2) (tC (.int 0))))) (tTup (tCons (tOp (rIx K) (tVar 0) (tC (.int 3))) (tCons (tOp (rIx K) (tVar 2) (tC (.int 1))) (tCons (tOp rPlus (tOp (rIx K) (tVar 2) (tC (.int 2))) (tC (.int 1))) tNil)))) (tC .non)))))
theorem tm_map_looked_at (n : Nat) {f : Addr} (T : Top K mg) (c_looked_at : Cal P w K mg base "looked_at" (7 + 2 * n) ps_looked_at (sp_looked_at K n)) (c_are_between : Cal P w K mg base "are_between" 3 ps_are_between (sp_are_between K)) (c_is_between : Cal P w K mg base "is_between" 2 ps_is_between (sp_is_between K)) (cdv : Value) (A : Around) (outer : List PySem.Env) (s : Shared) (H : Hp) (E : XK) : Room (7 + 2 * n) (A.deeper (envOfC "map_looked_at" (defScope (top 57)) s.heap.objs.size f cdv)) → PSs (cxOf CX0 P w K mg base nm_map_looked_at "map_looked_at" (defScope (top 57)) f cdv A outer s H E).nox (defBody (top 57)) (t_map_looked_at K n) := fun hr => by
  have nd := sc_map_looked_at.nd
  exact (pss_cons (ps_set (i := 2) nd rfl (Or.inl rfl) (pe_cal c_looked_at (hr.mono (by omega)) (by rfl) (pa_cons (pe_ix ix_seq (pv 0) pe_int (fun _ _ => rfl)) (pa_cons (pe_op op_add (pv 1) pe_int) pa_nil)))) (pss_cons (ps_if (PW.pt (pw_or (pt_cmpR op_isN (pv 2) pe_non (nomark _)) (pw_or (pt_not (pt_val (pe_cal c_is_between (hr.mono (by omega)) (by rfl) (pa_cons (pe_ix ix_seq (pv 0) pe_int (fun _ _ => rfl)) (pa_cons pe_int (pa_cons (pe_cst rfl T.most_outcomes) pa_nil)))))) (pw_or1 (pt_not (pt_val (pe_cal c_are_between (hr.mono (by omega)) (by rfl) (pa_cons (pe_ix ix_seq (pv 0) pe_int (fun _ _ => rfl)) (pa_cons pe_int (pa_cons (pe_op op_sub (pe_ix ix_seq (pv 0) pe_int (fun _ _ => rfl)) pe_int) pa_nil)))))))))) (pss_one (ps_ret pe_non)) pss_nil) (pss_one (ps_ret (pe_ifExp (pt_cmpR op_eq (pe_callB call_len_seq (by rfl) T.n_len bt_len (pa_cons (pe_ix ix_seq (pv 0) pe_int (fun _ _ => rfl)) pa_nil)) (pe_ix ix_seq (pv 2) pe_int (fun _ _ => rfl)) (nomark _)) (pe_tup (pa_cons (pe_ix ix_seq (pv 0) pe_int (fun _ _ => rfl)) (pa_cons (pe_ix ix_seq (pv 2) pe_int (fun _ _ => rfl)) (pa_cons (pe_op op_add (pe_ix ix_seq (pv 2) pe_int (fun _ _ => rfl)) pe_int) pa_nil)))) pe_non)))))
theorem sc_raw_cost : FnScope nm_raw_cost ps_raw_cost (defScope (top 67)) := ⟨rfl, rfl, rfl, by decide +kernel, rfl, by decide +kernel, by decide +kernel⟩
def t_raw_cost (K : PySem.W.Frag) (n : Nat) : TS := (tSeq (tAsg (tOp (rIx K) (tVar 0) (tC (.int 0))) (gName 1)) (tSeq (tIfS (tTest (tOp rEq (tVar 1) (tC (.str "value")))) (tRet (tC (.ref (He.ga K "ZERO")))) tNext) (tSeq (tIfS (tTest (tOp rEq (tVar 1) (tC (.str "draw")))) (tRet (tCall (sp_raw_least_mean K) [] E0 (tCons (tOp (rIx K) (tVar 0) (tC (.int 1))) tNil))) tNext) (tSeq (tAsg (tCall (sp_raw_cost K n) [] E0 (tCons (tOp (rIx K) (tVar 0) (tC (.int 1))) tNil)) (gName 2)) (tSeq (tIfS (tTest (tOp rEq (tVar 1) (tC (.str "bind")))) (tSeq (tAsg (tCall (sp_raw_meaning K n) [] E0 (tCons (tOp (rIx K) (tVar 0) (tC (.int 1))) tNil)) (gName 3)) (tRet (tCall (sp_plus K) [] E0 (tCons (tVar 2) (tCons (tCall (sp_total K) [] E0 (tCons (tLc (iZipS K (tCons (tVar 3) (tCons (tOp (rIx K) (tVar 0) (tC (.int 2))) tNil))) (gTup K 2 (gCons (gName 4) (gCons (gName 5) gNil))) tYes (tCall (sp_times K) [] E0 (tCons (tVar 4) (tCons (tCall (sp_raw_cost K n) [] E0 (tCons (tVar 5) tNil)) tNil))) [4, 5]) tNil)) tNil))))) tNext) (tRet (tIf (tTest (tOp rEq (tVar 1) (tC (.str "again")))) (tCall (sp_over K) [] E0 (tCons (tVar 2) (tCons (tCall (sp_raw_lot_chance K) [] E0 (tCons (tCall (sp_raw_meaning K n) [] E0 (tCons (tOp (rIx K) (tVar 0) (tC (.int 1))) tNil)) (tCons (tOp (rIx K) (tVar 0) (tC (.int 2))) tNil))) tNil))) (tVar 2))))))))
theorem tm_raw_cost (n : Nat) {f : Addr} (T : Top K mg) (c_raw_least_mean : Cal P w K mg base "raw_least_mean" 5 ps_raw_least_mean (sp_raw_least_mean K)) (c_raw_cost : Cal P w K mg base "raw_cost" (6 + 1 * n) ps_raw_cost (sp_raw_cost K n)) (c_raw_meaning : Cal P w K mg base "raw_meaning" (6 + 1 * n) ps_raw_meaning (sp_raw_meaning K n)) (c_plus : Cal P w K mg base "plus" 3 ps_plus (sp_plus K)) (c_total : Cal P w K mg base "total" 4 ps_total (sp_total K)) (c_times : Cal P w K mg base "times" 3 ps_times (sp_times K)) (c_over : Cal P w K mg base "over" 3 ps_over (sp_over K)) (c_raw_lot_chance : Cal P w K mg base "raw_lot_chance" 5 ps_raw_lot_chance (sp_raw_lot_chance K)) (cdv : Value) (A : Around) (outer : List PySem.Env) (s : Shared) (H : Hp) (E : XK) : Room (6 + 1 * n) (A.deeper (envOfC "raw_cost" (defScope (top 67)) s.heap.objs.size f cdv)) → PSs (cxOf CX0 P w K mg base nm_raw_cost "raw_cost" (defScope (top 67)) f cdv A outer s H E).nox (defBody (top 67)) (t_raw_cost K n) := fun hr => by
  have nd := sc_raw_cost.nd
  exact (pss_cons (ps_set (i := 1) nd rfl (Or.inl rfl) (pe_ix ix_seq (pv 0) pe_int (fun _ _ => rfl))) (pss_cons (ps_if (pt_cmpR op_eq (pv 1) pe_str (nomark _)) (pss_one (ps_ret (pe_glob rfl T.zero rfl))) pss_nil) (pss_cons (ps_if (pt_cmpR op_eq (pv 1) pe_str (nomark _)) (pss_one (ps_ret (pe_cal c_raw_least_mean (hr.mono (by omega)) (by rfl) (pa_cons (pe_ix ix_seq (pv 0) pe_int (fun _ _ => rfl)) pa_nil)))) pss_nil) (pss_cons (ps_set (i := 2) nd rfl (Or.inl rfl) (pe_cal c_raw_cost (hr.mono (by omega)) (by rfl) (pa_cons (pe_ix ix_seq (pv 0) pe_int (fun _ _ => rfl)) pa_nil))) (pss_cons (ps_if (pt_cmpR op_eq (pv 1) pe_str (nomark _)) (pss_cons (ps_set (i := 3) nd rfl (Or.inl rfl) (pe_cal c_raw_meaning (hr.mono (by omega)) (by rfl) (pa_cons (pe_ix ix_seq (pv 0) pe_int (fun _ _ => rfl)) pa_nil))) (pss_one (ps_ret (pe_cal c_plus (hr.mono (by omega)) (by rfl) (pa_cons (pv 2) (pa_cons (pe_cal c_total (hr.mono (by omega)) (by rfl) (pa_cons (pe_lc (own := [("chance", 4), ("case", 5)]) (by rfl) nd (pi_zipS (by rfl) T.n_zip (pa_cons (pv 3) (pa_cons (pe_ix ix_seq (pv 0) pe_int (fun _ _ => rfl)) pa_nil))) (blkOk_by (N := nm_raw_cost) (sc := defScope (top 67)) (by decide +kernel)) (fun _ _ _ _ _ => (pg_tup rfl (pgs_cons (pg_name (i := 4) nd rfl (by first | exact Or.inl rfl | exact Or.inr rfl)) (pgs_cons (pg_name (i := 5) nd rfl (by first | exact Or.inl rfl | exact Or.inr rfl)) pgs_nil)))) (fun _ _ _ _ _ => pts_nil) (fun _ _ _ _ _ => (pe_cal c_times (hr.mono (by omega)) (by rfl) (pa_cons (pv 4) (pa_cons (pe_cal c_raw_cost (hr.mono (by omega)) (by rfl) (pa_cons (pv 5) pa_nil)) pa_nil))))) pa_nil)) pa_nil)))))) pss_nil) (pss_one (ps_ret (pe_ifExp (pt_cmpR op_eq (pv 1) pe_str (nomark _)) (pe_cal c_over (hr.mono (by omega)) (by rfl) (pa_cons (pv 2) (pa_cons (pe_cal c_raw_lot_chance (hr.mono (by omega)) (by rfl) (pa_cons (pe_cal c_raw_meaning (hr.mono (by omega)) (by rfl) (pa_cons (pe_ix ix_seq (pv 0) pe_int (fun _ _ => rfl)) pa_nil)) (pa_cons (pe_ix ix_seq (pv 0) pe_int (fun _ _ => rfl)) pa_nil))) pa_nil))) (pv 2)))))))))
theorem sc_length_chance : FnScope nm_length_chance ps_length_chance (defScope (top 76)) := ⟨rfl, rfl, rfl, by decide +kernel, rfl, by decide +kernel, by decide +kernel⟩
def t_length_chance (K : PySem.W.Frag) : TS := (tSeq (tDrop (tCall (sp_need_closed K) [] E0 (tCons (tVar 0) tNil))) (tSeq (tIfS (tNot (tB (tCall (sp_is_between K) [] E0 (tCons (tVar 1) (tCons (tC (.int 0)) (tCons (tOp rMinus (tCall (sp_raw_outcomes K 4) [] E0 (tCons (tVar 0) tNil)) (tC (.int 1))) tNil)))))) tNever tNext) (tSeq (tDrop (tCall (sp_need_count K) [] E0 (tCons (tVar 2) tNil))) (tRet (tCall (sp_shifted K) [] E0 (tCons (tTup (tCons (tOp (rIx K) (tOp (rIx K) (tCall (sp_raw_lengths K 4) [] E0 (tCons (tVar 0) (tCons (tVar 2) tNil))) (tVar 2)) (tVar 1)) (tCons (tC (.int 1)) tNil))) (tCons (tVar 2) tNil)))))))
theorem tm_length_chance {f : Addr} (T : Top K mg) (c_need_closed : Cal P w K mg base "need_closed" 17 ps_need_closed (sp_need_closed K)) (c_is_between : Cal P w K mg base "is_between" 2 ps_is_between (sp_is_between K)) (c_raw_outcomes : Cal P w K mg base "raw_outcomes" 4 ps_raw_outcomes (sp_raw_outcomes K 4)) (c_need_count : Cal P w K mg base "need_count" 3 ps_need_count (sp_need_count K)) (c_shifted : Cal P w K mg base "shifted" 3 ps_shifted (sp_shifted K)) (c_raw_lengths : Cal P w K mg base "raw_lengths" 7 ps_raw_lengths (sp_raw_lengths K 4)) (cdv : Value) (A : Around) (outer : List PySem.Env) (s : Shared) (H : Hp) (E : XK) : Room 17 (A.deeper (envOfC "length_chance" (defScope (top 76)) s.heap.objs.size f cdv)) → PSs (cxOf CX0 P w K mg base nm_length_chance "length_chance" (defScope (top 76)) f cdv A outer s H E).nox (defBody (top 76)) (t_length_chance K) := fun hr => by
  have nd := sc_length_chance.nd
  exact (pss_cons (ps_expr (pe_cal c_need_closed (hr.mono (by omega)) (by rfl) (pa_cons (pv 0) pa_nil))) (pss_cons (ps_if (pt_not (pt_val (pe_cal c_is_between (hr.mono (by omega)) (by rfl) (pa_cons (pv 1) (pa_cons pe_int (pa_cons (pe_op op_sub (pe_cal c_raw_outcomes (hr.mono (by omega)) (by rfl) (pa_cons (pv 0) pa_nil)) pe_int) pa_nil)))))) (pss_one ps_never) pss_nil) (pss_cons (ps_expr (pe_cal c_need_count (hr.mono (by omega)) (by rfl) (pa_cons (pv 2) pa_nil))) (pss_one (ps_ret (pe_cal c_shifted (hr.mono (by omega)) (by rfl) (pa_cons (pe_tup (pa_cons (pe_ix ix_seq (pe_ix ix_seq (pe_cal c_raw_lengths (hr.mono (by omega)) (by rfl) (pa_cons (pv 0) (pa_cons (pv 2) pa_nil))) (pv 2) (fun _ _ => rfl)) (pv 1) (fun _ _ => rfl)) (pa_cons pe_int pa_nil))) (pa_cons (pv 2) pa_nil))))))))
theorem sc_law_minus : FnScope nm_law_minus ps_law_minus (defScope (top 85)) := ⟨rfl, rfl, rfl, by decide +kernel, rfl, by decide +kernel, by decide +kernel⟩
def t_law_minus (K : PySem.W.Frag) : TS := (tRet (tCall (sp_law_fraction K) [] E0 (tCons (tOp rMinus (tOp rMulX (tOp (rIx K) (tVar 0) (tC (.int 0))) (tOp (rIx K) (tVar 1) (tC (.int 1)))) (tOp rMulX (tOp (rIx K) (tVar 1) (tC (.int 0))) (tOp (rIx K) (tVar 0) (tC (.int 1))))) (tCons (tOp rMulX (tOp (rIx K) (tVar 0) (tC (.int 1))) (tOp (rIx K) (tVar 1) (tC (.int 1)))) tNil))))
theorem tm_law_minus {f : Addr} (T : Top K mg) (c_law_fraction : Cal P w K mg base "_law_fraction" 2 ps_law_fraction (sp_law_fraction K)) (cdv : Value) (A : Around) (outer : List PySem.Env) (s : Shared) (H : Hp) (E : XK) : Room 2 (A.deeper (envOfC "_law_minus" (defScope (top 85)) s.heap.objs.size f cdv)) → PSs (cxOf CX0 P w K mg base nm_law_minus "_law_minus" (defScope (top 85)) f cdv A outer s H E).nox (defBody (top 85)) (t_law_minus K) := fun hr => by
  have nd := sc_law_minus.nd
  exact (pss_one (ps_ret (pe_cal c_law_fraction (hr.mono (by omega)) (by rfl) (pa_cons (pe_op op_sub (pe_op op_mulX (pe_ix ix_seq (pv 0) pe_int (fun _ _ => rfl)) (pe_ix ix_seq (pv 1) pe_int (fun _ _ => rfl))) (pe_op op_mulX (pe_ix ix_seq (pv 1) pe_int (fun _ _ => rfl)) (pe_ix ix_seq (pv 0) pe_int (fun _ _ => rfl)))) (pa_cons (pe_op op_mulX (pe_ix ix_seq (pv 0) pe_int (fun _ _ => rfl)) (pe_ix ix_seq (pv 1) pe_int (fun _ _ => rfl))) pa_nil)))))
theorem sc_law_outcomes : FnScope nm_law_outcomes ps_law_outcomes (defScope (top 93)) := ⟨rfl, rfl, rfl, by decide +kernel, rfl, by decide +kernel, by decide +kernel⟩
def t_law_outcomes (K : PySem.W.Frag) (n : Nat) : TS := (tSeq (tIfS (tTest (tOp rEq (tOp (rIx K) (tVar 0) (tC (.int 0))) (tC (.str "bind")))) (tRet (tCall (sp_law_outcomes K n) [] E0 (tCons (tOp (rIx K) (tOp (rIx K) (tVar 0) (tC (.int 2))) (tC (.int 0))) tNil))) tNext) (tSeq (tIfS (tTest (tOp rEq (tOp (rIx K) (tVar 0) (tC (.int 0))) (tC (.str "again")))) (tRet (tCall (sp_law_outcomes K n) [] E0 (tCons (tOp (rIx K) (tVar 0) (tC (.int 1))) tNil))) tNext) (tRet (tIf (tTest (tOp rEq (tOp (rIx K) (tVar 0) (tC (.int 0))) (tC (.str "draw")))) (tCB (rLenQ K) (tCons (tOp (rIx K) (tVar 0) (tC (.int 1))) tNil)) (tIf (tTest (tOp rEq (tOp (rIx K) (tVar 0) (tC (.int 0))) (tC (.str "map")))) (tOp (rIx K) (tVar 0) (tC (.int 3))) (tOp (rIx K) (tVar 0) (tC (.int 1))))))))
theorem tm_law_outcomes (n : Nat) {f : Addr} (T : Top K mg) (c_law_outcomes : Cal P w K mg base "_law_outcomes" (0 + 1 * n) ps_law_outcomes (sp_law_outcomes K n)) (cdv : Value) (A : Around) (outer : List PySem.Env) (s : Shared) (H : Hp) (E : XK) : Room (0 + 1 * n) (A.deeper (envOfC "_law_outcomes" (defScope (top 93)) s.heap.objs.size f cdv)) → PSs (cxOf CX0 P w K mg base nm_law_outcomes "_law_outcomes" (defScope (top 93)) f cdv A outer s H E).nox (defBody (top 93)) (t_law_outcomes K n) := fun hr => by
  have nd := sc_law_outcomes.nd
  exact (pss_cons (ps_if (pt_cmpR op_eq (pe_ix ix_seq (pv 0) pe_int (fun _ _ => rfl)) pe_str (nomark _)) (pss_one (ps_ret (pe_cal c_law_outcomes (hr.mono (by omega)) (by rfl) (pa_cons (pe_ix ix_seq (pe_ix ix_seq (pv 0) pe_int (fun _ _ => rfl)) pe_int (fun _ _ => rfl)) pa_nil)))) pss_nil) (pss_cons (ps_if (pt_cmpR op_eq (pe_ix ix_seq (pv 0) pe_int (fun _ _ => rfl)) pe_str (nomark _)) (pss_one (ps_ret (pe_cal c_law_outcomes (hr.mono (by omega)) (by rfl) (pa_cons (pe_ix ix_seq (pv 0) pe_int (fun _ _ => rfl)) pa_nil)))) pss_nil) (pss_one (ps_ret (pe_ifExp (pt_cmpR op_eq (pe_ix ix_seq (pv 0) pe_int (fun _ _ => rfl)) pe_str (nomark _)) (pe_callB call_len_seq (by rfl) T.n_len bt_len (pa_cons (pe_ix ix_seq (pv 0) pe_int (fun _ _ => rfl)) pa_nil)) (pe_ifExp (pt_cmpR op_eq (pe_ix ix_seq (pv 0) pe_int (fun _ _ => rfl)) pe_str (nomark _)) (pe_ix ix_seq (pv 0) pe_int (fun _ _ => rfl)) (pe_ix ix_seq (pv 0) pe_int (fun _ _ => rfl))))))))
theorem sc_law_is_let : FnScope nm_law_is_let ps_law_is_let (defScope (top 101)) := ⟨rfl, rfl, rfl, by decide +kernel, rfl, by decide +kernel, by decide +kernel⟩
def t_law_is_let (K : PySem.W.Frag) : TS := (tSeq (tFor (iSeq K (tVar 0)) (gTup K 2 (gCons (gName 1) (gCons (gName 2) gNil))) (tIfS (tAnd (tTest (tOp rGtI (tVar 2) (tC (.int 1000)))) (tOr (tTest (tOp rGtI (tVar 2) (tOp rShlW (tC (.int 1)) (tC (.int 60))))) (tTest (tOp rNe (tOp rAndI (tVar 2) (tOp rMinus (tVar 2) (tC (.int 1)))) (tC (.int 0)))))) (tRet (tC (.bl false))) tNext)) (tRet (tC (.bl true))))
theorem tm_law_is_let {f : Addr} (T : Top K mg) (cdv : Value) (A : Around) (outer : List PySem.Env) (s : Shared) (H : Hp) (E : XK) : Room 0 (A.deeper (envOfC "_law_is_let" (defScope (top 101)) s.heap.objs.size f cdv)) → PSs (cxOf CX0 P w K mg base nm_law_is_let "_law_is_let" (defScope (top 101)) f cdv A outer s H E).nox (defBody (top 101)) (t_law_is_let K) := fun hr => by
  have nd := sc_law_is_let.nd
  exact (pss_cons (ps_for PassesOwn.never rfl (pi_seq (pv 0)) (pg_tup rfl (pgs_cons (pg_name (i := 1) nd rfl (Or.inl rfl)) (pgs_cons (pg_name (i := 2) nd rfl (Or.inl rfl)) pgs_nil))) (pss_one (ps_if (PW.pt (pw_and (pt_cmpR op_gt (pv 2) pe_int (nomark _)) (pw_and1 (PW.pt (pw_or (pt_cmpR op_gt (pv 2) (pe_op op_shlW pe_int pe_int) (nomark _)) (pw_or1 (pt_cmpR op_ne (pe_op op_and (pv 2) (pe_op op_sub (pv 2) pe_int)) pe_int (nomark _)))))))) (pss_one (ps_ret pe_bl)) pss_nil))) (pss_one (ps_ret pe_bl)))
end
end K39

set_option Elab.async false
set_option linter.all false
set_option maxRecDepth 100000
set_option maxHeartbeats 1000000
namespace K39
open PySem PySem.Spec PyProof.Rows L2
section
variable {P : Program} {w : World} {K : PySem.W.Frag} {mg : Str → Option Value} {base : Heap}
theorem sc_divisor_of : FnScope nm_divisor_of ps_divisor_of (defScope (top 11)) := ⟨rfl, rfl, rfl, by decide +kernel, rfl, by decide +kernel, by decide +kernel⟩
def t_divisor_of (K : PySem.W.Frag) : TS := (tSeq (tAsg (tCB (rAbs) (tCons (tVar 0) tNil)) (gName 0)) (tSeq (tWhile (tTest (tOp rNe (tVar 1) (tC (.int 0)))) (tPar 0 1 (tCons (tVar 1) (tCons (tOp rModP (tVar 0) (tVar 1)) tNil)))) (tRet (tVar 0))))
theorem tm_divisor_of {f : Addr} (T : Top K mg) (cdv : Value) (A : Around) (outer : List PySem.Env) (s : Shared) (H : Hp) (E : XK) : Room 0 (A.deeper (envOfC "divisor_of" (defScope (top 11)) s.heap.objs.size f cdv)) → PSs (cxOf CX0 P w K mg base nm_divisor_of "divisor_of" (defScope (top 11)) f cdv A outer s H E).nox (defBody (top 11)) (t_divisor_of K) := fun hr => by
  have nd := sc_divisor_of.nd
  exact (pss_cons (ps_set (i := 0) nd rfl (Or.inl rfl) (pe_callB call_abs (by rfl) T.n_abs bt_abs (pa_cons (pv 0) pa_nil))) (pss_cons (ps_while PassesOwn.never (pt_cmpR op_ne (pv 1) pe_int (nomark _)) (pss_one (ps_par (i := 0) (j := 1) (by rfl) nd rfl rfl (by decide) rfl rfl (pa_cons (pv 1) (pa_cons (pe_op op_mod (pv 0) (pv 1)) pa_nil)) (by rfl)))) (pss_one (ps_ret (pv 0)))))
theorem sc_total : FnScope nm_total ps_total (defScope (top 19)) := ⟨rfl, rfl, rfl, by decide +kernel, rfl, by decide +kernel, by decide +kernel⟩
def t_total (K : PySem.W.Frag) : TS := (tSeq (tAsg (tC (.ref (He.ga K "ZERO"))) (gName 1)) (tSeq (tFor (iSeq K (tVar 0)) (gName 2) (tAsg (tCall (sp_plus K) [] E0 (tCons (tVar 1) (tCons (tVar 2) tNil))) (gName 1))) (tRet (tVar 1))))
theorem tm_total {f : Addr} (T : Top K mg) (c_plus : Cal P w K mg base "plus" 3 ps_plus (sp_plus K)) (cdv : Value) (A : Around) (outer : List PySem.Env) (s : Shared) (H : Hp) (E : XK) : Room 3 (A.deeper (envOfC "total" (defScope (top 19)) s.heap.objs.size f cdv)) → PSs (cxOf CX0 P w K mg base nm_total "total" (defScope (top 19)) f cdv A outer s H E).nox (defBody (top 19)) (t_total K) := fun hr => by
  have nd := sc_total.nd
  exact (pss_cons (ps_set (i := 1) nd rfl (Or.inl rfl) (pe_glob rfl T.zero rfl)) (pss_cons (ps_for PassesOwn.never rfl (pi_seq (pv 0)) (pg_name (i := 2) nd rfl (Or.inl rfl)) (pss_one (ps_set (i := 1) nd rfl (Or.inl rfl) (pe_cal c_plus (hr.mono (by omega)) (by rfl) (pa_cons (pv 1) (pa_cons (pv 2) pa_nil)))))) (pss_one (ps_ret (pv 1)))))
theorem sc_raw_figures : FnScope nm_raw_figures ps_raw_figures (defScope (top 28)) := ⟨rfl, rfl, rfl, by decide +kernel, rfl, by decide +kernel, by decide +kernel⟩
def t_raw_figures (K : PySem.W.Frag) : TS := (tSeq (tAsg (tVar 0) (gTup K 2 (gCons (gName 1) (gCons (gName 2) gNil)))) (tSeq (tPar 3 4 (tCons (tLst tNil) (tCons (tOp rModP (tVar 1) (tVar 2)) tNil))) (tSeq (tFor (iRng1 (tCons (tCall (sp_twos_of K) [] E0 (tCons (tVar 2) tNil)) tNil)) (gName 5) (tSeq (tDrop (tBM K "list" rAppend (tVar 3) (tCons (tOp rDivW (tOp rMulX (tVar 4) (tC (.int 2))) (tVar 2)) tNil))) (tAsg (tOp rModP (tOp rMulX (tVar 4) (tC (.int 2))) (tVar 2)) (gName 4)))) (tSeq (tPar 6 7 (tCons (tLst tNil) (tCons (tVar 4) tNil))) (tSeq (tWhile (tAnd (tTest (tOp rNe (tVar 4) (tC (.int 0)))) (tOr (tTest (tOp (rEqD K) (tVar 6) (tLst tNil))) (tTest (tOp rNe (tVar 4) (tVar 7))))) (tSeq (tDrop (tBM K "list" rAppend (tVar 6) (tCons (tOp rDivW (tOp rMulX (tVar 4) (tC (.int 2))) (tVar 2)) tNil))) (tAsg (tOp rModP (tOp rMulX (tVar 4) (tC (.int 2))) (tVar 2)) (gName 4)))) (tRet (tTup (tCons (tOp rDivW (tVar 1) (tVar 2)) (tCons (tCB (rTupQ K) (tCons (tVar 3) tNil)) (tCons (tCB (rTupQ K) (tCons (tVar 6) tNil)) tNil))))))))))
theorem tm_raw_figures {f : Addr} (T : Top K mg) (c_twos_of : Cal P w K mg base "twos_of" 1 ps_twos_of (sp_twos_of K)) (cdv : Value) (A : Around) (outer : List PySem.Env) (s : Shared) (H : Hp) (E : XK) : Room 1 (A.deeper (envOfC "raw_figures" (defScope (top 28)) s.heap.objs.size f cdv)) → PSs (cxOf CX0 P w K mg base nm_raw_figures "raw_figures" (defScope (top 28)) f cdv A outer s H E).nox (defBody (top 28)) (t_raw_figures K) := fun hr => by
  have nd := sc_raw_figures.nd
  exact (pss_cons (ps_asg (pv 0) (pg_tup rfl (pgs_cons (pg_name (i := 1) nd rfl (Or.inl rfl)) (pgs_cons (pg_name (i := 2) nd rfl (Or.inl rfl)) pgs_nil)))) (pss_cons (ps_par (i := 3) (j := 4) (by rfl) nd rfl rfl (by decide) rfl rfl (pa_cons (pe_lst pa_nil) (pa_cons (pe_op op_mod (pv 1) (pv 2)) pa_nil)) (by rfl)) (pss_cons (ps_for PassesOwn.never rfl (pi_range1 (by rfl) T.n_range (pa_cons (pe_cal c_twos_of (hr.mono (by omega)) (by rfl) (pa_cons (pv 2) pa_nil)) pa_nil)) (pg_name (i := 5) nd rfl (Or.inl rfl)) (pss_cons (ps_expr (pe_bm PySem.F.plainAttrs_list PySem.F.slot_list_append PySem.F.type_list_append mt_append (pv 3) (pa_cons (pe_op op_fdivW (pe_op op_mulX (pv 4) pe_int) (pv 2)) pa_nil))) (pss_one (ps_set (i := 4) nd rfl (Or.inl rfl) (pe_op op_mod (pe_op op_mulX (pv 4) pe_int) (pv 2)))))) (pss_cons (ps_par (i := 6) (j := 7) (by rfl) nd rfl rfl (by decide) rfl rfl (pa_cons (pe_lst pa_nil) (pa_cons (pv 4) pa_nil)) (by rfl)) (pss_cons (ps_while PassesOwn.never (PW.pt (pw_and (pt_cmpR op_ne (pv 4) pe_int (nomark _)) (pw_and1 (PW.pt (pw_or (pt_cmpR (op_eqD hr.units) (pv 6) (pe_lst pa_nil) (nomark _)) (pw_or1 (pt_cmpR op_ne (pv 4) (pv 7) (nomark _)))))))) (pss_cons (ps_expr (pe_bm PySem.F.plainAttrs_list PySem.F.slot_list_append PySem.F.type_list_append mt_append (pv 6) (pa_cons (pe_op op_fdivW (pe_op op_mulX (pv 4) pe_int) (pv 2)) pa_nil))) (pss_one (ps_set (i := 4) nd rfl (Or.inl rfl) (pe_op op_mod (pe_op op_mulX (pv 4) pe_int) (pv 2)))))) (pss_one (ps_ret (pe_tup (pa_cons (pe_op op_fdivW (pv 1) (pv 2)) (pa_cons (pe_callTy call_tuple_of (by rfl) T.n_tuple bt_tuple (pa_cons (pv 3) pa_nil)) (pa_cons (pe_callTy call_tuple_of (by rfl) T.n_tuple bt_tuple (pa_cons (pv 6) pa_nil)) pa_nil)))))))))))
theorem sc_raw_lot_chance : FnScope nm_raw_lot_chance ps_raw_lot_chance (defScope (top 45)) := ⟨rfl, rfl, rfl, by decide +kernel, rfl, by decide +kernel, by decide +kernel⟩
def t_raw_lot_chance (K : PySem.W.Frag) : TS := (tRet (tCall (sp_total K) [] E0 (tCons (tLc (iSeq K (tVar 1)) (gName 2) tYes (tOp (rIx K) (tVar 0) (tVar 2)) [2]) tNil)))
theorem tm_raw_lot_chance {f : Addr} (T : Top K mg) (c_total : Cal P w K mg base "total" 4 ps_total (sp_total K)) (cdv : Value) (A : Around) (outer : List PySem.Env) (s : Shared) (H : Hp) (E : XK) : Room 4 (A.deeper (envOfC "raw_lot_chance" (defScope (top 45)) s.heap.objs.size f cdv)) → PSs (cxOf CX0 P w K mg base nm_raw_lot_chance "raw_lot_chance" (defScope (top 45)) f cdv A outer s H E).nox (defBody (top 45)) (t_raw_lot_chance K) := fun hr => by
  have nd := sc_raw_lot_chance.nd
  exact (pss_one (ps_ret (pe_cal c_total (hr.mono (by omega)) (by rfl) (pa_cons (pe_lc (own := [("i", 2)]) (by rfl) nd (pi_seq (pv 1)) (blkOk_by (N := nm_raw_lot_chance) (sc := defScope (top 45)) (by decide +kernel)) (fun _ _ _ _ _ => (pg_name (i := 2) nd rfl (by first | exact Or.inl rfl | exact Or.inr rfl))) (fun _ _ _ _ _ => pts_nil) (fun _ _ _ _ _ => (pe_ix ix_seq (pv 0) (pv 2) (fun _ _ => rfl)))) pa_nil))))
theorem sc_are_of_one_size : FnScope nm_are_of_one_size ps_are_of_one_size (defScope (top 58)) := ⟨rfl, rfl, rfl, by decide +kernel, rfl, by decide +kernel, by decide +kernel⟩
def t_are_of_one_size (K : PySem.W.Frag) : TS := (tSeq (tAsg tDNewK (gName 1)) (tRet (tCB (rAll K) (tCons (tLc (iSeq K (tVar 0)) (gTup K 2 (gCons (gName 2) (gCons (gName 3) gNil))) tYes (fun _ _ _ => False) [2, 3]) tNil))))
theorem tm_are_of_one_size {f : Addr} (T : Top K mg) (cdv : Value) (A : Around) (outer : List PySem.Env) (s : Shared) (H : Hp) (E : XK) : Room 0 (A.deeper (envOfC "are_of_one_size" (defScope (top 58)) s.heap.objs.size f cdv)) → PSs (cxOf CX0 P w K mg base nm_are_of_one_size "are_of_one_size" (defScope (top 58)) f cdv A outer s H E).nox (defBody (top 58)) (t_are_of_one_size K) := fun hr => by
  have nd := sc_are_of_one_size.nd
  exact (pss_cons (ps_set (i := 1) nd rfl (Or.inr rfl) pe_dnewK) (pss_one (ps_ret (pe_callB (cr_all rfl) (by rfl) T.n_all bt_all (pa_cons (pe_lc (own := [("name", 2), ("many", 3)]) (by rfl) nd (pi_seq (pv 0)) (blkOk_by (N := nm_are_of_one_size) (sc := defScope (top 58)) (by decide +kernel)) (fun _ _ _ _ _ => (pg_tup rfl (pgs_cons (pg_name (i := 2) nd rfl (by first | exact Or.inl rfl | exact Or.inr rfl)) (pgs_cons (pg_name (i := 3) nd rfl (by first | exact Or.inl rfl | exact Or.inr rfl)) pgs_nil)))) (fun _ _ _ _ _ => pts_nil) (fun _ _ _ _ _ => pe_never)) pa_nil)))))
theorem sc_draw_lengths : FnScope nm_draw_lengths ps_draw_lengths (defScope (top 68)) := ⟨rfl, rfl, rfl, by decide +kernel, rfl, by decide +kernel, by decide +kernel⟩
def t_draw_lengths (K : PySem.W.Frag) : TS := (tSeq (tAsg (tLst (tCons (tLc (iSeq K (tVar 0)) (gName 3) tYes (tCall (sp_whole_of K) [] E0 (tCons (tVar 3) tNil)) [3]) tNil)) (gName 2)) (tSeq (tFor (iRng2 (tCons (tC (.int 1)) (tCons (tOp rPlus (tVar 1) (tC (.int 1))) tNil))) (gName 4) (tDrop (tBM K "list" rAppend (tVar 2) (tCons (tLc (iSeq K (tVar 0)) (gName 3) tYes (tCall (sp_raw_digit K) [] E0 (tCons (tVar 3) (tCons (tVar 4) tNil))) [3]) tNil)))) (tRet (tVar 2))))
theorem tm_draw_lengths {f : Addr} (T : Top K mg) (c_whole_of : Cal P w K mg base "whole_of" 1 ps_whole_of (sp_whole_of K)) (c_raw_digit : Cal P w K mg base "raw_digit" 2 ps_raw_digit (sp_raw_digit K)) (cdv : Value) (A : Around) (outer : List PySem.Env) (s : Shared) (H : Hp) (E : XK) : Room 2 (A.deeper (envOfC "draw_lengths" (defScope (top 68)) s.heap.objs.size f cdv)) → PSs (cxOf CX0 P w K mg base nm_draw_lengths "draw_lengths" (defScope (top 68)) f cdv A outer s H E).nox (defBody (top 68)) (t_draw_lengths K) := fun hr => by
  have nd := sc_draw_lengths.nd
  exact (pss_cons (ps_set (i := 2) nd rfl (Or.inl rfl) (pe_lst (pa_cons (pe_lc (own := [("chance", 3)]) (by rfl) nd (pi_seq (pv 0)) (blkOk_by (N := nm_draw_lengths) (sc := defScope (top 68)) (by decide +kernel)) (fun _ _ _ _ _ => (pg_name (i := 3) nd rfl (by first | exact Or.inl rfl | exact Or.inr rfl))) (fun _ _ _ _ _ => pts_nil) (fun _ _ _ _ _ => (pe_cal c_whole_of (hr.mono (by omega)) (by rfl) (pa_cons (pv 3) pa_nil)))) pa_nil))) (pss_cons (ps_for PassesOwn.never rfl (pi_range2 (by rfl) T.n_range (pa_cons pe_int (pa_cons (pe_op op_add (pv 1) pe_int) pa_nil))) (pg_name (i := 4) nd rfl (Or.inr rfl)) (pss_one (ps_expr (pe_bm PySem.F.plainAttrs_list PySem.F.slot_list_append PySem.F.type_list_append mt_append (pv 2) (pa_cons (pe_lc (own := [("chance", 3)]) (by rfl) nd (pi_seq (pv 0)) (blkOk_by (N := nm_draw_lengths) (sc := defScope (top 68)) (by decide +kernel)) (fun _ _ _ _ _ => (pg_name (i := 3) nd rfl (by first | exact Or.inl rfl | exact Or.inr rfl))) (fun _ _ _ _ _ => pts_nil) (fun _ _ _ _ _ => (pe_cal c_raw_digit (hr.mono (by omega)) (by rfl) (pa_cons (pv 3) (pa_cons (pv 4) pa_nil))))) pa_nil))))) (pss_one (ps_ret (pv 2)))))
theorem sc_made_tail : FnScope nm_made_tail ps_made_tail (defScope (top 77)) := ⟨rfl, rfl, rfl, by decide +kernel, rfl, by decide +kernel, by decide +kernel⟩
def t_made_tail (K : PySem.W.Frag) : TS := (tSeq (tDrop (tCall (sp_need_closed K) [] E0 (tCons (tVar 0) tNil))) (tSeq (tDrop (tCall (sp_need_count K) [] E0 (tCons (tVar 1) tNil))) (tRet (tOp (rIx K) (tCall (sp_raw_made_tails K) [] E0 (tCons (tVar 0) (tCons (tVar 1) tNil))) (tVar 1)))))
theorem tm_made_tail {f : Addr} (T : Top K mg) (c_need_closed : Cal P w K mg base "need_closed" 17 ps_need_closed (sp_need_closed K)) (c_need_count : Cal P w K mg base "need_count" 3 ps_need_count (sp_need_count K)) (c_raw_made_tails : Cal P w K mg base "raw_made_tails" 8 ps_raw_made_tails (sp_raw_made_tails K)) (cdv : Value) (A : Around) (outer : List PySem.Env) (s : Shared) (H : Hp) (E : XK) : Room 17 (A.deeper (envOfC "made_tail" (defScope (top 77)) s.heap.objs.size f cdv)) → PSs (cxOf CX0 P w K mg base nm_made_tail "made_tail" (defScope (top 77)) f cdv A outer s H E).nox (defBody (top 77)) (t_made_tail K) := fun hr => by
  have nd := sc_made_tail.nd
  exact (pss_cons (ps_expr (pe_cal c_need_closed (hr.mono (by omega)) (by rfl) (pa_cons (pv 0) pa_nil))) (pss_cons (ps_expr (pe_cal c_need_count (hr.mono (by omega)) (by rfl) (pa_cons (pv 1) pa_nil))) (pss_one (ps_ret (pe_ix ix_seq (pe_cal c_raw_made_tails (hr.mono (by omega)) (by rfl) (pa_cons (pv 0) (pa_cons (pv 1) pa_nil))) (pv 1) (fun _ _ => rfl))))))
theorem sc_law_times : FnScope nm_law_times ps_law_times (defScope (top 86)) := ⟨rfl, rfl, rfl, by decide +kernel, rfl, by decide +kernel, by decide +kernel⟩
def t_law_times (K : PySem.W.Frag) : TS := (tRet (tCall (sp_law_fraction K) [] E0 (tCons (tOp rMulX (tOp (rIx K) (tVar 0) (tC (.int 0))) (tOp (rIx K) (tVar 1) (tC (.int 0)))) (tCons (tOp rMulX (tOp (rIx K) (tVar 0) (tC (.int 1))) (tOp (rIx K) (tVar 1) (tC (.int 1)))) tNil))))
theorem tm_law_times {f : Addr} (T : Top K mg) (c_law_fraction : Cal P w K mg base "_law_fraction" 2 ps_law_fraction (sp_law_fraction K)) (cdv : Value) (A : Around) (outer : List PySem.Env) (s : Shared) (H : Hp) (E : XK) : Room 2 (A.deeper (envOfC "_law_times" (defScope (top 86)) s.heap.objs.size f cdv)) → PSs (cxOf CX0 P w K mg base nm_law_times "_law_times" (defScope (top 86)) f cdv A outer s H E).nox (defBody (top 86)) (t_law_times K) := fun hr => by
  have nd := sc_law_times.nd
  exact (pss_one (ps_ret (pe_cal c_law_fraction (hr.mono (by omega)) (by rfl) (pa_cons (pe_op op_mulX (pe_ix ix_seq (pv 0) pe_int (fun _ _ => rfl)) (pe_ix ix_seq (pv 1) pe_int (fun _ _ => rfl))) (pa_cons (pe_op op_mulX (pe_ix ix_seq (pv 0) pe_int (fun _ _ => rfl)) (pe_ix ix_seq (pv 1) pe_int (fun _ _ => rfl))) pa_nil)))))
theorem sc_law_meaning : FnScope nm_law_meaning ps_law_meaning (defScope (top 94)) := ⟨rfl, rfl, rfl, by decide +kernel, rfl, by decide +kernel, by decide +kernel⟩
def t_law_meaning (K : PySem.W.Frag) (n : Nat) : TS := (tSeq (tPar 1 2 (tCons (tOp (rIx K) (tVar 0) (tC (.int 0))) (tCons (tCall (sp_law_outcomes K (n + 1)) [] E0 (tCons (tVar 0) tNil)) tNil))) (tSeq (tIfS (tTest (tOp rEq (tVar 1) (tC (.str "value")))) (tRet (tCB (rTupQ K) (tCons (tLc (iRng1 (tCons (tVar 2) tNil)) (gName 3) tYes (tTup (tCons (tCB (rIntQ) (tCons (tOp rEq (tVar 3) (tOp (rIx K) (tVar 0) (tC (.int 2)))) tNil)) (tCons (tC (.int 1)) tNil))) [3]) tNil))) tNext) (tSeq (tIfS (tTest (tOp rEq (tVar 1) (tC (.str "draw")))) (tRet (tOp (rIx K) (tVar 0) (tC (.int 1)))) tNext) (tSeq (tAsg (tCall (sp_law_meaning K n) [] E0 (tCons (tOp (rIx K) (tVar 0) (tC (.int 1))) tNil)) (gName 4)) (tSeq (tIfS (tTest (tOp rEq (tVar 1) (tC (.str "bind")))) (tSeq (tAsg (tOp rRep (tLst (tCons (tTup (tCons (tC (.int 0)) (tCons (tC (.int 1)) tNil))) tNil)) (tVar 2)) (gName 5)) (tSeq (tFor (iZipS K (tCons (tVar 4) (tCons (tOp (rIx K) (tVar 0) (tC (.int 2))) tNil))) (gTup K 2 (gCons (gName 6) (gCons (gName 7) gNil))) (tAsg (tLc (iZipS K (tCons (tVar 5) (tCons (tCall (sp_law_meaning K n) [] E0 (tCons (tVar 7) tNil)) tNil))) (gTup K 2 (gCons (gName 8) (gCons (gName 9) gNil))) tYes (tCall (sp_law_plus K) [] E0 (tCons (tVar 8) (tCons (tCall (sp_law_times K) [] E0 (tCons (tVar 6) (tCons (tVar 9) tNil))) tNil))) [8, 9]) (gName 5))) (tRet (tCB (rTupQ K) (tCons (tVar 5) tNil))))) tNext) (tSeq (tIfS (tTest (tOp rEq (tVar 1) (tC (.str "again")))) (tSeq (tAsg (tCall (sp_law_lot_chance K) [] E0 (tCons (tVar 4) (tCons (tOp (rIx K) (tVar 0) (tC (.int 2))) tNil))) (gName 10)) (tRet (tCB (rTupQ K) (tCons (tLc (iEnumS K (tCons (tVar 4) tNil)) (gTup K 2 (gCons (gName 3) (gCons (gName 11) gNil))) tYes (tIf (tTest (tOp (rIn K false) (tVar 3) (tOp (rIx K) (tVar 0) (tC (.int 2))))) (tCall (sp_law_over K) [] E0 (tCons (tVar 11) (tCons (tVar 10) tNil))) (tTup (tCons (tC (.int 0)) (tCons (tC (.int 1)) tNil)))) [3, 11]) tNil)))) tNext) (tSeq (tAsg (tOp rRep (tLst (tCons (tTup (tCons (tC (.int 0)) (tCons (tC (.int 1)) tNil))) tNil)) (tVar 2)) (gName 5)) (tSeq (tFor (iZipS K (tCons (tVar 4) (tCons (tOp (rIx K) (tVar 0) (tC (.int 2))) tNil))) (gTup K 2 (gCons (gName 6) (gCons (gName 12) gNil))) (tAsg (tCall (sp_law_plus K) [] E0 (tCons (tOp (rIx K) (tVar 5) (tVar 12)) (tCons (tVar 6) tNil))) (gSub (tVar 5) (tVar 12) rSetL))) (tRet (tCB (rTupQ K) (tCons (tVar 5) tNil)))))))))))
theorem tm_law_meaning (n : Nat) {f : Addr} (T : Top K mg) (c_law_outcomes : Cal P w K mg base "_law_outcomes" (0 + 1 * (n + 1)) ps_law_outcomes (sp_law_outcomes K (n + 1))) (c_law_meaning : Cal P w K mg base "_law_meaning" (5 + 1 * n) ps_law_meaning (sp_law_meaning K n)) (c_law_plus : Cal P w K mg base "_law_plus" 3 ps_law_plus (sp_law_plus K)) (c_law_times : Cal P w K mg base "_law_times" 3 ps_law_times (sp_law_times K)) (c_law_lot_chance : Cal P w K mg base "_law_lot_chance" 5 ps_law_lot_chance (sp_law_lot_chance K)) (c_law_over : Cal P w K mg base "_law_over" 3 ps_law_over (sp_law_over K)) (cdv : Value) (A : Around) (outer : List PySem.Env) (s : Shared) (H : Hp) (E : XK) : Room (5 + 1 * n) (A.deeper (envOfC "_law_meaning" (defScope (top 94)) s.heap.objs.size f cdv)) → PSs (cxOf CX0 P w K mg base nm_law_meaning "_law_meaning" (defScope (top 94)) f cdv A outer s H E).nox (defBody (top 94)) (t_law_meaning K n) := fun hr => by
  have nd := sc_law_meaning.nd
  exact (pss_cons (ps_par (i := 1) (j := 2) (by rfl) nd rfl rfl (by decide) rfl rfl (pa_cons (pe_ix ix_seq (pv 0) pe_int (fun _ _ => rfl)) (pa_cons (pe_cal c_law_outcomes (hr.mono (by omega)) (by rfl) (pa_cons (pv 0) pa_nil)) pa_nil)) (by rfl)) (pss_cons (ps_if (pt_cmpR op_eq (pv 1) pe_str (nomark _)) (pss_one (ps_ret (pe_callTy call_tuple_of (by rfl) T.n_tuple bt_tuple (pa_cons (pe_lc (own := [("_law_at", 3)]) (by rfl) nd (pi_range1 (by rfl) T.n_range (pa_cons (pv 2) pa_nil)) (blkOk_by (N := nm_law_meaning) (sc := defScope (top 94)) (by decide +kernel)) (fun _ _ _ _ _ => (pg_name (i := 3) nd rfl (by first | exact Or.inl rfl | exact Or.inr rfl))) (fun _ _ _ _ _ => pts_nil) (fun _ _ _ _ _ => (pe_tup (pa_cons (pe_callTy call_int1 (by rfl) T.n_int bt_int (pa_cons (pe_cmpR op_eq (pv 3) (pe_ix ix_seq (pv 0) pe_int (fun _ _ => rfl)) (nomark _)) pa_nil)) (pa_cons pe_int pa_nil))))) pa_nil)))) pss_nil) (pss_cons (ps_if (pt_cmpR op_eq (pv 1) pe_str (nomark _)) (pss_one (ps_ret (pe_ix ix_seq (pv 0) pe_int (fun _ _ => rfl)))) pss_nil) (pss_cons (ps_set (i := 4) nd rfl (Or.inl rfl) (pe_cal c_law_meaning (hr.mono (by omega)) (by rfl) (pa_cons (pe_ix ix_seq (pv 0) pe_int (fun _ _ => rfl)) pa_nil))) (pss_cons (ps_if (pt_cmpR op_eq (pv 1) pe_str (nomark _)) (pss_cons (ps_set (i := 5) nd rfl (Or.inl rfl) (pe_op op_rep (pe_lst (pa_cons (pe_tup (pa_cons pe_int (pa_cons pe_int pa_nil))) pa_nil)) (pv 2))) (pss_cons (ps_for PassesOwn.never rfl (pi_zipS (by rfl) T.n_zip (pa_cons (pv 4) (pa_cons (pe_ix ix_seq (pv 0) pe_int (fun _ _ => rfl)) pa_nil))) (pg_tup rfl (pgs_cons (pg_name (i := 6) nd rfl (Or.inr rfl)) (pgs_cons (pg_name (i := 7) nd rfl (Or.inl rfl)) pgs_nil))) (pss_one (ps_setLc (i := 5) (own := [("_law_x", 8), ("_law_y", 9)]) (by rfl) nd rfl rfl (sw_true rfl rfl rfl (by decide +kernel)) (pi_zipS (by rfl) T.n_zip (pa_cons (pv 5) (pa_cons (pe_cal c_law_meaning (hr.mono (by omega)) (by rfl) (pa_cons (pv 7) pa_nil)) pa_nil))) (blkOk_by (N := nm_law_meaning) (sc := defScope (top 94)) (by decide +kernel)) (fun _ _ _ _ _ => (pg_tup rfl (pgs_cons (pg_name (i := 8) nd rfl (by first | exact Or.inl rfl | exact Or.inr rfl)) (pgs_cons (pg_name (i := 9) nd rfl (by first | exact Or.inl rfl | exact Or.inr rfl)) pgs_nil)))) (fun _ _ _ _ _ => pts_nil) (fun _ _ _ _ _ => (pe_cal c_law_plus (hr.mono (by omega)) (by rfl) (pa_cons (pv 8) (pa_cons (pe_cal c_law_times (hr.mono (by omega)) (by rfl) (pa_cons (pv 6) (pa_cons (pv 9) pa_nil))) pa_nil))))))) (pss_one (ps_ret (pe_callTy call_tuple_of (by rfl) T.n_tuple bt_tuple (pa_cons (pv 5) pa_nil)))))) pss_nil) (pss_cons (ps_if (pt_cmpR op_eq (pv 1) pe_str (nomark _)) (pss_cons (ps_set (i := 10) nd rfl (Or.inr rfl) (pe_cal c_law_lot_chance (hr.mono (by omega)) (by rfl) (pa_cons (pv 4) (pa_cons (pe_ix ix_seq (pv 0) pe_int (fun _ _ => rfl)) pa_nil)))) (pss_one (ps_ret (pe_callTy call_tuple_of (by rfl) T.n_tuple bt_tuple (pa_cons (pe_lc (own := [("_law_at", 3), ("_law_it", 11)]) (by rfl) nd (pi_enumS (by rfl) T.n_enumerate (pa_cons (pv 4) pa_nil)) (blkOk_by (N := nm_law_meaning) (sc := defScope (top 94)) (by decide +kernel)) (fun _ _ _ _ _ => (pg_tup rfl (pgs_cons (pg_name (i := 3) nd rfl (by first | exact Or.inl rfl | exact Or.inr rfl)) (pgs_cons (pg_name (i := 11) nd rfl (by first | exact Or.inl rfl | exact Or.inr rfl)) pgs_nil)))) (fun _ _ _ _ _ => pts_nil) (fun _ _ _ _ _ => (pe_ifExp (pt_cmpR op_in_seq (pv 3) (pe_ix ix_seq (pv 0) pe_int (fun _ _ => rfl)) (by rfl)) (pe_cal c_law_over (hr.mono (by omega)) (by rfl) (pa_cons (pv 11) (pa_cons (pv 10) pa_nil))) (pe_tup (pa_cons pe_int (pa_cons pe_int pa_nil)))))) pa_nil))))) pss_nil) (pss_cons (ps_set (i := 5) nd rfl (Or.inl rfl) (pe_op op_rep (pe_lst (pa_cons (pe_tup (pa_cons pe_int (pa_cons pe_int pa_nil))) pa_nil)) (pv 2))) (pss_cons (ps_for PassesOwn.never rfl (pi_zipS (by rfl) T.n_zip (pa_cons (pv 4) (pa_cons (pe_ix ix_seq (pv 0) pe_int (fun _ _ => rfl)) pa_nil))) (pg_tup rfl (pgs_cons (pg_name (i := 6) nd rfl (Or.inr rfl)) (pgs_cons (pg_name (i := 12) nd rfl (Or.inl rfl)) pgs_nil))) (pss_one (ps_asg (pe_cal c_law_plus (hr.mono (by omega)) (by rfl) (pa_cons (pe_ix ix_seq (pv 5) (pv 12) (fun _ _ => rfl)) (pa_cons (pv 6) pa_nil))) (pg_sub (pv 5) (pv 12) set_list)))) (pss_one (ps_ret (pe_callTy call_tuple_of (by rfl) T.n_tuple bt_tuple (pa_cons (pv 5) pa_nil))))))))))))
theorem sc_law_size : FnScope nm_law_size ps_law_size (defScope (top 102)) := ⟨rfl, rfl, rfl, by decide +kernel, rfl, by decide +kernel, by decide +kernel⟩
def t_law_size (K : PySem.W.Frag) (n : Nat) : TS := (tSeq (tIfS (tNot (tB (tCall (sp_law_is_let K) [] E0 (tCons (tCall (sp_law_meaning K (n + 1)) [] E0 (tCons (tVar 0) tNil)) tNil)))) (tRet (tC (.int 1000))) tNext) (tSeq (tIfS (tTest (tOp rEq (tOp (rIx K) (tVar 0) (tC (.int 0))) (tC (.str "value")))) (tRet (tC (.int 1))) tNext) (tSeq (tIfS (tTest (tOp rEq (tOp (rIx K) (tVar 0) (tC (.int 0))) (tC (.str "draw")))) (tSeq (tAsg (tC (.int 0)) (gName 1)) (tSeq (tFor (iSeq K (tOp (rIx K) (tVar 0) (tC (.int 1)))) (gTup K 2 (gCons (gName 2) (gCons (gName 3) gNil))) (tSeq (tPar 4 5 (tCons (tVar 3) (tCons (tC (.int 0)) tNil))) (tSeq (tWhile (tTest (tOp rEq (tOp rAndI (tVar 4) (tC (.int 1))) (tC (.int 0)))) (tPar 4 5 (tCons (tOp rShrI (tVar 4) (tC (.int 1))) (tCons (tOp rPlus (tVar 5) (tC (.int 1))) tNil)))) (tAsg (tCB (rMaxQ) (tCons (tVar 1) (tCons (tOp rPlus (tVar 5) (tIf (tTest (tOp rEq (tVar 4) (tC (.int 1)))) (tC (.int 0)) (tDGet2 (tDisp [((tC (.int 3)), (tC (.int 2))), ((tC (.int 5)), (tC (.int 4))), ((tC (.int 7)), (tC (.int 3)))]) (tVar 4) (tC (.int 12))))) tNil))) (gName 1))))) (tRet (tOp rPlus (tOp rMulX (tVar 1) (tCB (rLenQ K) (tCons (tOp (rIx K) (tVar 0) (tC (.int 1))) tNil))) (tCB (rLenQ K) (tCons (tOp (rIx K) (tVar 0) (tC (.int 1))) tNil)))))) tNext) (tSeq (tAsg (tCall (sp_law_size K n) [] E0 (tCons (tOp (rIx K) (tVar 0) (tC (.int 1))) tNil)) (gName 6)) (tSeq (tIfS (tTest (tOp rEq (tOp (rIx K) (tVar 0) (tC (.int 0))) (tC (.str "bind")))) (tAsg (tOp rPlus (tVar 6) (tCB (rSum K) (tCons (tLc (iSeq K (tOp (rIx K) (tVar 0) (tC (.int 2)))) (gName 7) tYes (tCall (sp_law_size K n) [] E0 (tCons (tVar 7) tNil)) [7]) tNil))) (gName 6)) tNext) (tRet (tVar 6)))))))
theorem tm_law_size (n : Nat) {f : Addr} (T : Top K mg) (c_law_is_let : Cal P w K mg base "_law_is_let" 1 ps_law_is_let (sp_law_is_let K)) (c_law_meaning : Cal P w K mg base "_law_meaning" (5 + 1 * (n + 1)) ps_law_meaning (sp_law_meaning K (n + 1))) (c_law_size : Cal P w K mg base "_law_size" (6 + 1 * n) ps_law_size (sp_law_size K n)) (cdv : Value) (A : Around) (outer : List PySem.Env) (s : Shared) (H : Hp) (E : XK) : Room (6 + 1 * n) (A.deeper (envOfC "_law_size" (defScope (top 102)) s.heap.objs.size f cdv)) → PSs (cxOf CX0 P w K mg base nm_law_size "_law_size" (defScope (top 102)) f cdv A outer s H E).nox (defBody (top 102)) (t_law_size K n) := fun hr => by
  have nd := sc_law_size.nd
  exact (pss_cons (ps_if (pt_not (pt_val (pe_cal c_law_is_let (hr.mono (by omega)) (by rfl) (pa_cons (pe_cal c_law_meaning (hr.mono (by omega)) (by rfl) (pa_cons (pv 0) pa_nil)) pa_nil)))) (pss_one (ps_ret pe_int)) pss_nil) (pss_cons (ps_if (pt_cmpR op_eq (pe_ix ix_seq (pv 0) pe_int (fun _ _ => rfl)) pe_str (nomark _)) (pss_one (ps_ret pe_int)) pss_nil) (pss_cons (ps_if (pt_cmpR op_eq (pe_ix ix_seq (pv 0) pe_int (fun _ _ => rfl)) pe_str (nomark _)) (pss_cons (ps_set (i := 1) nd rfl (Or.inl rfl) pe_int) (pss_cons (ps_for PassesOwn.never rfl (pi_seq (pe_ix ix_seq (pv 0) pe_int (fun _ _ => rfl))) (pg_tup rfl (pgs_cons (pg_name (i := 2) nd rfl (Or.inl rfl)) (pgs_cons (pg_name (i := 3) nd rfl (Or.inl rfl)) pgs_nil))) (pss_cons (ps_par (i := 4) (j := 5) (by rfl) nd rfl rfl (by decide) rfl rfl (pa_cons (pv 3) (pa_cons pe_int pa_nil)) (by rfl)) (pss_cons (ps_while PassesOwn.never (pt_cmpR op_eq (pe_op op_and (pv 4) pe_int) pe_int (nomark _)) (pss_one (ps_par (i := 4) (j := 5) (by rfl) nd rfl rfl (by decide) rfl rfl (pa_cons (pe_op op_shr (pv 4) pe_int) (pa_cons (pe_op op_add (pv 5) pe_int) pa_nil)) (by rfl)))) (pss_one (ps_set (i := 1) nd rfl (Or.inl rfl) (pe_callB (call_max2 rfl) (by rfl) T.n_max bt_max (pa_cons (pv 1) (pa_cons (pe_op op_add (pv 5) (pe_ifExp (pt_cmpR op_eq (pv 4) pe_int (nomark _)) pe_int (pe_dget2 (hu_of hr) (pe_disp (pps_cons pe_int pe_int (pps_cons pe_int pe_int (pps_cons pe_int pe_int pps_nil))) (by rfl) (by rfl) (fun z => by cases z) (by decide)) (pv 4) pe_int ⟨by rfl, by rfl, by rfl, by rfl⟩))) pa_nil)))))))) (pss_one (ps_ret (pe_op op_add (pe_op op_mulX (pv 1) (pe_callB call_len_seq (by rfl) T.n_len bt_len (pa_cons (pe_ix ix_seq (pv 0) pe_int (fun _ _ => rfl)) pa_nil))) (pe_callB call_len_seq (by rfl) T.n_len bt_len (pa_cons (pe_ix ix_seq (pv 0) pe_int (fun _ _ => rfl)) pa_nil))))))) pss_nil) (pss_cons (ps_set (i := 6) nd rfl (Or.inl rfl) (pe_cal c_law_size (hr.mono (by omega)) (by rfl) (pa_cons (pe_ix ix_seq (pv 0) pe_int (fun _ _ => rfl)) pa_nil))) (pss_cons (ps_if (pt_cmpR op_eq (pe_ix ix_seq (pv 0) pe_int (fun _ _ => rfl)) pe_str (nomark _)) (pss_one (ps_set (i := 6) nd rfl (Or.inl rfl) (pe_op op_add (pv 6) (pe_callB (cr_sum rfl) (by rfl) T.n_sum bt_sum (pa_cons (pe_lc (own := [("_law_case", 7)]) (by rfl) nd (pi_seq (pe_ix ix_seq (pv 0) pe_int (fun _ _ => rfl))) (blkOk_by (N := nm_law_size) (sc := defScope (top 102)) (by decide +kernel)) (fun _ _ _ _ _ => (pg_name (i := 7) nd rfl (by first | exact Or.inl rfl | exact Or.inr rfl))) (fun _ _ _ _ _ => pts_nil) (fun _ _ _ _ _ => (pe_cal c_law_size (hr.mono (by omega)) (by rfl) (pa_cons (pv 7) pa_nil)))) pa_nil))))) pss_nil) (pss_one (ps_ret (pv 6))))))))
end
end K39

set_option Elab.async false
set_option linter.all false
set_option maxRecDepth 100000
set_option maxHeartbeats 1000000
set_option exponentiation.threshold 20000
/-! SE1: looks, fractions -/
namespace K39
open PySem PySem.Spec PyProof.Rows L2
/-- a body keeps its promise -/
abbrev Se {α : Type} (K : PySem.W.Frag) (t : TS) (n : Nat) (args : α → List PyData) (pre : α → Prop) (post : α → PyData → Prop) : Prop := ∀ (dk : Dk) (a : α), pre a → SOk K dk t (startG n (args a)) (fun _ => post a .none) (post a)
abbrev SeF {α : Type} (K : PySem.W.Frag) (t : TS) (n : Nat) (args : α → List PyData) (pre : α → Prop) (res : α → PyData) : Prop := Se K t n args pre fun a d => d = res a
section
variable {K : PySem.W.Frag} {dk : Dk} {Γ : List K39.G} {ta tb tc te : TE} {x y : PyData} {q r : Rat}
theorem fx0 (h : EvD K dk te Γ (fr q)) : EvD K dk (tOp (rIx K) te (tC (.int 0))) Γ (.int q.num) := ev_opD h ev_int (opd_ixT rfl)
theorem fx1 (h : EvD K dk te Γ (fr q)) : EvD K dk (tOp (rIx K) te (tC (.int 1))) Γ (.int q.den) := ev_opD h ev_int (opd_ixT rfl)
theorem ea1 (h : EvD K dk ta Γ x) : EvAD K dk (tCons ta tNil) Γ [x] := ea_cons h ea_nil
theorem ea2 (h : EvD K dk ta Γ x) (h2 : EvD K dk tb Γ y) : EvAD K dk (tCons ta (tCons tb tNil)) Γ [x, y] := ea_cons h (ea1 h2)
theorem ea3 {z : PyData} (h : EvD K dk ta Γ x) (h2 : EvD K dk tb Γ y) (h3 : EvD K dk tc Γ z) : EvAD K dk (tCons ta (tCons tb (tCons tc tNil))) Γ [x, y, z] := ea_cons h (ea2 h2 h3)
theorem ev_lenT {ds : List PyData} (h : EvD K dk te Γ (.tuple ds)) : EvD K dk (tCB (rLenQ K) (tCons te tNil)) Γ (.int ds.length) := ev_CB (ea1 h) cd_lenT
theorem ev_lenL {ds : List PyData} (h : EvD K dk te Γ (.list ds)) : EvD K dk (tCB (rLenQ K) (tCons te tNil)) Γ (.int ds.length) := ev_CB (ea1 h) cd_lenL
theorem ev_tupL {ds : List PyData} (h : EvM K dk te Γ (fun r => r = ds)) : EvD K dk (tCB (rTupQ K) (tCons te tNil)) Γ (.tuple ds) := ev_CB (ea1 h.stillD) cd_tupL
/-! looks -/
theorem se_is_integer : SeF K (t_is_integer K) 1 (fun i : Int => [.int i]) (fun _ => True) fun _ => .bool true := fun dk i _ => by
  exact s_ret (ev_andV (a := true) (b := true) (ev_isi (ev_var rfl) kit_int_int) fun _ => ev_notV (a := false) (ev_isi (ev_var rfl) kit_int_bool))
theorem ev_is_integer {i : Int} (h : EvD K dk te Γ (.int i)) : EvD K dk (tCall (sp_is_integer K) [] E0 (tCons te tNil)) Γ (.bool true) := ev_callF i (ea1 h) trivial
theorem se_is_between : SeF K (t_is_between K) 3 (fun a : Int × Int × Int => [.int a.1, .int a.2.1, .int a.2.2]) (fun _ => True) fun a => .bool (decide (a.2.1 ≤ a.1) && decide (a.1 ≤ a.2.2)) := fun dk a _ => by
  exact s_ret (ev_andV (a := true) (ev_is_integer (ev_var rfl)) fun _ => ev_chain (ev_var rfl) (ev_var rfl) (ev_var rfl) opd_le opd_le)
theorem ev_is_between {i a b : Int} (h : EvD K dk te Γ (.int i)) (h2 : EvD K dk ta Γ (.int a)) (h3 : EvD K dk tb Γ (.int b)) : EvD K dk (tCall (sp_is_between K) [] E0 (tCons te (tCons ta (tCons tb tNil)))) Γ (.bool (decide (a ≤ i) && decide (i ≤ b))) := ev_callF (i, a, b) (ea3 h h2 h3) trivial
/-- all([.. for ..]) of True's -/
theorem ev_allT {n : Nat} (h : EvM K dk te Γ (fun r => r = mp n fun _ => PyData.bool true)) : EvD K dk (tCB (rAll K) (tCons te tNil)) Γ (.bool true) := by
  have e : (mp n fun _ => PyData.bool true) = (mp n fun _ => true).map PyData.bool := mp_map.symm
  rw [e] at h
  refine (ev_CB (ea1 h.stillD) cd_all).imp fun d e => ?_
  rw [e]
  congr 1
  rw [List.all_eq_true]
  intro b hb
  obtain ⟨i, _, rfl⟩ := mp_mem.mp hb
  rfl
theorem se_are_between : SeF K (t_are_between K) 4 (fun a : List Int × Int × Int => [.tuple (a.1.map PyData.int), .int a.2.1, .int a.2.2]) (fun a => a.1.length ≤ 100 ∧ ∀ i ∈ a.1, a.2.1 ≤ i ∧ i ≤ a.2.2) fun _ => .bool true := fun dk ⟨ns, a, b⟩ ⟨hl, h⟩ => by
  refine s_ret (ev_andV (a := true) (b := true) (ev_isi (ev_var rfl) kit_tup_tup) fun _ => ev_allT (n := ns.length) (em_map _ (ei_seq (ev_var rfl) rfl) (by rw [List.length_map]; exact Nat.le_trans hl (by omega)) (by simp [mp]) fun i x y hx hy => ⟨_, tg_name (by simp), ?_⟩))
  obtain ⟨hi, rfl⟩ := mp_get' hy
  rw [List.getElem?_map, List.getElem?_eq_getElem hi] at hx
  cases hx
  obtain ⟨h1, h2⟩ := h ns[i] (List.getElem_mem hi)
  exact (ev_is_between (ev_var rfl) (ev_var rfl) (ev_var rfl)).cast (by show PyData.bool (decide (a ≤ ns[i]) && decide (ns[i] ≤ b)) = _; rw [decide_eq_true h1, decide_eq_true h2]; rfl)
theorem ev_are_between {ns : List Int} {a b : Int} (h : EvD K dk te Γ (.tuple (ns.map PyData.int))) (h2 : EvD K dk ta Γ (.int a)) (h3 : EvD K dk tb Γ (.int b)) (hl : ns.length ≤ 100) (hb : ∀ i ∈ ns, a ≤ i ∧ i ≤ b) : EvD K dk (tCall (sp_are_between K) [] E0 (tCons te (tCons ta (tCons tb tNil)))) Γ (.bool true) := ev_callF (ns, a, b) (ea3 h h2 h3) ⟨hl, hb⟩
theorem se_is_count : SeF K (t_is_count K) 1 (fun i : Int => [.int i]) (fun i => 0 ≤ i) fun _ => .bool true := fun dk i h => by
  exact s_ret (ev_andV (a := true) (b := true) (ev_is_integer (ev_var rfl)) fun _ => (ev_opD (ev_var rfl) ev_int opd_ge).cast (by rw [decide_eq_true h]))
theorem ev_is_count {i : Int} (h : EvD K dk te Γ (.int i)) (h0 : 0 ≤ i) : EvD K dk (tCall (sp_is_count K) [] E0 (tCons te tNil)) Γ (.bool true) := ev_callF i (ea1 h) h0
theorem se_is_word : SeF K (t_is_word K) 2 (fun a : Str × List PyData × Str => [.tuple (.str a.1 :: a.2.1), .str a.2.2]) (fun _ => True) fun a => .bool (decide (a.1 = a.2.2)) := fun dk ⟨w, ds, u⟩ _ => by
  exact s_ret (ev_andV (a := true) (ev_isi (ev_var rfl) kit_tup_tup) fun _ => ev_andV (a := true) ((ev_opD (ev_lenT (ev_var rfl)) ev_int opd_gt).cast (by rw [decide_eq_true]; rw [List.length_cons]; omega)) fun _ =>
    ev_andV (a := true) (ev_isi (ev_opD (ev_var rfl) ev_int (opd_ixT (d := .str w) (atN (n := 0) rfl))) kit_str_str) fun _ => ev_opD (ev_opD (ev_var rfl) ev_int (opd_ixT (d := .str w) (atN (n := 0) rfl))) (ev_var rfl) opd_eqS)
theorem ev_is_word {w u : Str} {ds : List PyData} (h : EvD K dk te Γ (.tuple (.str w :: ds))) : EvD K dk (tCall (sp_is_word K) [] E0 (tCons te (tCons (tC (.str u)) tNil))) Γ (.bool (decide (w = u))) := ev_callF (w, ds, u) (ea2 h ev_str) trivial
/-! fractions -/
theorem se_divisor_of : SeF K (t_divisor_of K) 2 (fun a : Int × Int => [.int a.1, .int a.2]) (fun a => 0 ≤ a.2) fun a => .int (Int.gcd a.1 a.2) := fun dk ⟨a, b⟩ h => by
  refine q_set (ev_CB (ea1 (ev_var rfl)) cd_abs) ?_
  have hb : (b.toNat : Int) = b := Int.toNat_of_nonneg h
  have h0 : [K39.G.dat (.int (a.natAbs : Nat)), .dat (.int b)] = (fun p : Nat × Nat => [K39.G.dat (.int p.1), .dat (.int p.2)]) (a.natAbs, b.toNat) := by simp only; rw [hb]
  refine q_while (fun p : Nat × Nat => [K39.G.dat (.int p.1), .dat (.int p.2)]) (fun p => Nat.gcd p.1 p.2 = Int.gcd a b) (fun p => p.2) (a.natAbs, b.toNat) h0 (by show Nat.gcd a.natAbs b.toNat = _; unfold Int.gcd; congr 1; omega) fun ⟨x, y⟩ hg => ?_
  refine ⟨_, et_testB (ev_opD (ev_var rfl) ev_int opd_neI), fun hy => ?_, fun hy => ?_⟩
  · have hy' : 0 < y := by
      simp at hy
      omega
    refine s_end (q_par2 (ea2 (ev_var rfl) (ev_opD (ev_var rfl) (ev_var rfl) (opd_mod (by omega)))) (s_next ⟨(y, x % y), rfl, ?_, Nat.mod_lt _ hy'⟩))
    show Nat.gcd y (x % y) = _
    rw [← hg, Nat.gcd_comm y, ← Nat.gcd_rec, Nat.gcd_comm]
  · have hy' : y = 0 := by simp at hy; omega
    subst hy'
    refine s_ret ((ev_var rfl).cast ?_)
    have : x = Int.gcd a b := by rw [← hg]; exact (Nat.gcd_zero_right x).symm
    rw [this]
theorem ev_divisor_of {a b : Int} (h : EvD K dk ta Γ (.int a)) (h2 : EvD K dk tb Γ (.int b)) (hb : 0 ≤ b) : EvD K dk (tCall (sp_divisor_of K) [] E0 (tCons ta (tCons tb tNil))) Γ (.int (Int.gcd a b)) := ev_callF (a, b) (ea2 h h2) hb
theorem se_law_common : SeF K (t_law_common K) 2 (fun a : Int × Int => [.int a.1, .int a.2]) (fun a => 0 ≤ a.2) fun a => .int (Int.gcd a.1 a.2) := fun dk ⟨a, b⟩ h => by
  refine q_par2 (ea2 (ev_CB (ea1 (ev_var rfl)) cd_abs) (ev_CB (ea1 (ev_var rfl)) cd_abs)) ?_
  refine q_while (fun p : Nat × Nat => [K39.G.dat (.int p.1), .dat (.int p.2)]) (fun p => Nat.gcd p.1 p.2 = Int.gcd a b) (fun p => p.2) (a.natAbs, b.natAbs) rfl rfl fun ⟨x, y⟩ hg => ?_
  refine ⟨_, et_testB (ev_opD (ev_var rfl) ev_int opd_gt), fun hy => ?_, fun hy => ?_⟩
  · have hy' : 0 < y := by
      simp at hy
      omega
    refine s_end (q_par2 (ea2 (ev_var rfl) (ev_opD (ev_CB (ea1 (ev_var rfl)) cd_intI) (ev_var rfl) (opd_mod (by omega)))) (s_next ⟨(y, x % y), rfl, ?_, Nat.mod_lt _ hy'⟩))
    show Nat.gcd y (x % y) = _
    rw [← hg, Nat.gcd_comm y, ← Nat.gcd_rec, Nat.gcd_comm]
  · have hy' : y = 0 := by simp at hy; omega
    subst hy'
    refine s_ret ((ev_var rfl).cast ?_)
    have : x = Int.gcd a b := by rw [← hg]; exact (Nat.gcd_zero_right x).symm
    rw [this]
theorem gcd_cdiv {a b i : Int} (hb : 0 < b) (h9 : b < 2 ^ 9000) : CDivW i (Int.gcd a b : Int) := by
  have h1 : Int.gcd a b ≠ 0 := fun e => by have := (Int.gcd_eq_zero_iff.mp e).2; omega
  have h2 : Int.gcd a b ≤ b.natAbs := Nat.le_of_dvd (by omega) (Int.gcd_dvd_natAbs_right a b)
  refine cdivw (by omega) ?_
  rw [Int.natAbs_natCast]
  have : (b.natAbs : Int) < ((2 ^ 9000 : Nat) : Int) := by rw [Int.natAbs_of_nonneg (by omega)]; simpa using h9
  have := Int.ofNat_lt.mp this
  omega
theorem se_lowest : SeF K (t_lowest K) 3 (fun a : Int × Int => [.int a.1, .int a.2]) (fun a => 0 < a.2 ∧ a.2 < 2 ^ 9000) fun a => fr ((a.1 : Rat) / (a.2 : Rat)) := fun dk ⟨a, b⟩ ⟨h, h9⟩ => by
  refine q_set (ev_divisor_of (ev_var rfl) (ev_var rfl) (Int.le_of_lt h)) (s_ret ?_)
  exact (ev_tup (ea2 (ev_opD (ev_var rfl) (ev_var rfl) (opd_div (gcd_cdiv h h9))) (ev_opD (ev_var rfl) (ev_var rfl) (opd_div (gcd_cdiv h h9)))) (by simp)).cast (fr_div a b h).symm
theorem ev_lowest {a b : Int} (h : EvD K dk ta Γ (.int a)) (h2 : EvD K dk tb Γ (.int b)) (hb : 0 < b) (h9 : b < 2 ^ 9000) (e : (a : Rat) / (b : Rat) = q) : EvD K dk (tCall (sp_lowest K) [] E0 (tCons ta (tCons tb tNil))) Γ (fr q) := (ev_callF (a, b) (ea2 h h2) ⟨hb, h9⟩).cast (by rw [← e])
theorem se_law_fraction : SeF K (t_law_fraction K) 3 (fun a : Int × Int => [.int a.1, .int a.2]) (fun a => 0 < a.2 ∧ a.2 < 2 ^ 9000) fun a => fr ((a.1 : Rat) / (a.2 : Rat)) := fun dk ⟨a, b⟩ ⟨h, h9⟩ => by
  refine q_ifF ((et_testB (ev_opD (ev_var rfl) ev_int opd_lt)).cast (decide_eq_false (by omega))) (q_next ?_)
  refine q_set (ev_divisor_of (ev_var rfl) (ev_var rfl) (Int.le_of_lt h)) (s_ret ?_)
  exact (ev_tup (ea2 (ev_opD (ev_var rfl) (ev_var rfl) (opd_div (gcd_cdiv h h9))) (ev_opD (ev_var rfl) (ev_var rfl) (opd_div (gcd_cdiv h h9)))) (by simp)).cast (fr_div a b h).symm
theorem ev_law_fraction {a b : Int} (h : EvD K dk ta Γ (.int a)) (h2 : EvD K dk tb Γ (.int b)) (hb : 0 < b) (h9 : b < 2 ^ 9000) (e : (a : Rat) / (b : Rat) = q) : EvD K dk (tCall (sp_law_fraction K) [] E0 (tCons ta (tCons tb tNil))) Γ (fr q) := (ev_callF (a, b) (ea2 h h2) ⟨hb, h9⟩).cast (by rw [← e])
end
end K39

set_option Elab.async false
set_option linter.all false
set_option maxRecDepth 100000
set_option maxHeartbeats 1000000
set_option exponentiation.threshold 20000
/-! SE2: slices, xs[i] += e; fractions, tables -/
namespace K39
open PySem PySem.Spec PyProof.Rows L2
section
variable {K : PySem.W.Frag} {dk : Dk} {Γ : List K39.G} {ta tb tc te ti : TE} {x y : PyData} {q r : Rat} {N : List K39.G → Prop} {R : PyData → Prop}
theorem em_takeL {ds : List PyData} {k : Nat} (h : EvD K dk ta Γ (.list ds)) (hk : EvD K dk tb Γ (.int k)) : EvM K dk (tSl (rSlL K) ta tNoPart (tPart tb)) Γ (fun r => r = ds.take k) := fun I0 H0 σ I H Q e kk => by
  refine h I0 H0 σ I H _ e fun v d I1 H1 p1 n1 r1 => ?_
  subst p1
  cases r1 with
  | lst hs hr =>
    refine hk I0 H0 σ I1 H1 _ (e.step n1) fun w d I2 H2 p2 n2 r2 => ?_
    subst p2
    cases r2
    refine ⟨(k : Int), rfl, _, _, rfl, .inl (.inl (n2.ok.sub _ _ (n2.ii _ _ hs))), fun p hp => ?_⟩
    have e1 : ∀ vs : List V, cutV vs none (some (k : Int)) = vs.take k := fun vs => by
      unfold cutV
      rw [HT.sIx_none, HT.sIx_nat, Nat.sub_zero, List.drop_zero]
      by_cases q : k ≤ vs.length
      · rw [Nat.min_eq_left q]
      · rw [Nat.min_eq_right (by omega), List.take_length, List.take_of_length_le (by omega)]
    have n12 := n1.trans n2
    exact kk p _ _ I2 _ rfl (n12.trans (Nx.newM n2.ok hp)) (n12.free hp) (by rw [e1]; exact upd_same) (n2.ok.none_of hp) ((hr.mono n2.ii).take k)
theorem ev_dropT {ds : List PyData} (h : EvD K dk ta Γ (.tuple ds)) (hne : ds ≠ []) : EvD K dk (tSl (rSlT K) ta (tPart (tC (.int 1))) tNoPart) Γ (.tuple (ds.drop 1)) := fun I0 H0 σ I H Q e kk => by
  refine h I0 H0 σ I H _ e fun v d I1 H1 p1 n1 r1 => ?_
  subst p1
  cases r1 with
  | @tup a vs _ hs hr =>
    have hl : 1 ≤ vs.length := by
      rw [hr.len]
      cases ds with
      | nil => exact absurd rfl hne
      | cons _ _ => simp
    have e0 : HT.sIx vs.length 0 (some (1 : Int)) = 1 := by
      have := HT.sIx_nat vs.length 0 1
      rw [Nat.min_eq_left hl] at this
      exact this
    refine ⟨1, rfl, _, _, rfl, Same.sqt n1.ok.sub hs, fun z => by rw [e0] at z; exact absurd z.1 (by omega), fun p hp => ?_⟩
    have e1 : cutV vs (some 1) none = vs.drop 1 := by
      unfold cutV
      rw [e0, HT.sIx_none, List.take_of_length_le (by rw [List.length_drop]; exact Nat.le_refl _)]
    have n2 := Nx.new (u := .tup (cutV vs (some 1) none)) n1.ok hp
    exact kk _ _ _ _ rfl (n1.trans n2) (.tup (.inl (.inl upd_same)) (by have := (hr.drop 1).mono n2.ii; rwa [← e1] at this))
theorem ev_tupRg {n : Nat} (h : EvD K dk ta Γ (.int n)) (hn : n ≤ 1000) : EvD K dk (tTupRg (tRg1 ta)) Γ (.tuple (mp n fun i => PyData.int (i : Int))) := fun I0 H0 σ I H Q e kk => by
  refine h I0 H0 σ I H _ e fun v d I1 H1 p1 n1 r1 => ?_
  subst p1
  cases r1
  refine ⟨_, rfl, RgOk.of_le (by omega) (by omega) (by omega) (by omega), fun p hp => ?_⟩
  have n2 := Nx.new (u := .tup (rgV 0 n)) n1.ok hp
  refine kk _ _ _ _ rfl (n1.trans n2) (.tup (.inl (.inl upd_same)) ?_)
  have e1 : rgV 0 (n : Int) = ((List.range n).map fun i => ((i : Nat) : Int)).map V.int := by
    unfold rgV
    rw [List.map_map, show ((n : Int) - 0).toNat = n by omega]
    exact List.map_congr_left fun i _ => by rw [Int.zero_add]; rfl
  have e2 : (mp n fun i => PyData.int (i : Int)) = ((List.range n).map fun i => ((i : Nat) : Int)).map PyData.int := by unfold mp; rw [List.map_map]; rfl
  rw [e1, e2]
  exact RpL.of_ints _
/-- xs[j] += e, of ints -/
theorem q_augix {r : TS} {i : Nat} {f : Int → Int → Int} {ds : List PyData} {j : Int} {m : Nat} {a b : Int} (hi : Γ[i]? = some (.mut ds)) (ht : EvD K dk ti Γ (.int j)) (hj : ixN ds.length j = some m) (ha : ds[m]? = some (.int a)) (h : EvD K dk te Γ (.int b))
    (hr : SOk K dk r (Γ.set i (.mut (ds.set m (.int (f a b))))) N R) : SOk K dk (tSeq (tAugS (tVar i) ti te (gIxL K) (ipI f) rSetL) r) Γ N R := fun I0 H0 σ I H D e k1 k2 => by
  obtain ⟨p, vs, h1, h2, h3, h4, h5, h6⟩ := e.mu i ds hi
  refine ⟨_, h1, ht I0 H0 σ I H _ e fun w dj I1 H1 p1 n1 r1 => ?_⟩
  subst p1
  cases r1
  have h2' := n1.hh _ _ h2 h5
  obtain ⟨v, hv, rv⟩ := h6.get ha
  cases rv
  refine ⟨p, vs, j, .int a, rfl, rfl, .inl (.inl h2'), ?_, ?_⟩
  · unfold atI
    rw [h6.len, hj]
    exact hv
  refine h I0 H0 σ I1 H1 _ (e.step n1) fun u du I2 H2 p2 n2 r2 => ?_
  subst p2
  cases r2
  have n12 := n1.trans n2
  refine ⟨a, b, rfl, rfl, p, vs, j, m, rfl, rfl, n12.hh _ _ h2 h5, by rw [h6.len]; exact hj, ?_⟩
  exact hr I0 H0 σ I2 _ D ((e.step n12).mutate hi h1 ((h6.mono n12.ii).set (.int _))) (fun Γ' σ' I' H' n e2 s => k1 Γ' σ' I' H' n e2 (n12.ii.trans s)) k2
theorem ixNat {n j : Nat} (h : j < n) : ixN n (j : Int) = some j := by
  unfold ixN
  simp
  omega
end
/-- the module's two fractions -/
structure Zo (K : PySem.W.Frag) : Prop where
  z : ∀ H, SqT K H (He.ga K "ZERO") [.int 0, .int 1]
  o : ∀ H, SqT K H (He.ga K "ONE") [.int 1, .int 1]
section
variable {K : PySem.W.Frag} {dk : Dk} {Γ : List K39.G} {ta tb tc te : TE} {x y : PyData} {q r : Rat}
theorem ev_zero (Z : Zo K) : EvD K dk (tC (.ref (He.ga K "ZERO"))) Γ (fr 0) := ev_con Z.z fun I => .cons (.int 0) (.cons (.int 1) .nil)
theorem ev_one (Z : Zo K) : EvD K dk (tC (.ref (He.ga K "ONE"))) Γ (fr 1) := ev_con Z.o fun I => .cons (.int 1) (.cons (.int 1) .nil)
theorem ev_zeroT : EvD K dk (tTup (tCons (tC (.int 0)) (tCons (tC (.int 1)) tNil))) Γ (fr 0) := ev_tup (ea2 ev_int ev_int) (by simp)
/-- (i, 1) -/
theorem ev_intT {i : Int} (h : EvD K dk te Γ (.int i)) : EvD K dk (tTup (tCons te (tCons (tC (.int 1)) tNil))) Γ (fr ((i : Int) : Rat)) := ev_tup (ea2 h ev_int) (by simp)
theorem fr_ne (q r : Rat) : PyData.eqv (fr q) (fr r) = decide (q = r) := by
  unfold fr
  by_cases h : q = r
  · subst h; rw [decide_eq_true rfl]; simp [PyData.eqv, PyData.eqvAll]
  · rw [decide_eq_false h]
    have : ¬ (q.num = r.num ∧ q.den = r.den) := fun ⟨a, b⟩ => h (Rat.ext a b)
    simp [PyData.eqv, PyData.eqvAll]
    intro a b
    exact this ⟨a, by omega⟩
theorem fr_shaped (q : Rat) : SeqAt.shaped (fr q) = true := by unfold fr; simp [SeqAt.shaped, PyData.canLay0, PyData.canLayAll0, PyData.depth, PyData.depthAll]
theorem ev_eqfr (h : EvD K dk ta Γ (fr q)) (h2 : EvD K dk tb Γ (fr r)) : EvD K dk (tOp (rEqD K) ta tb) Γ (.bool (decide (q = r))) := (ev_opD h h2 (opd_eqD (fr_shaped q) (fr_shaped r))).imp fun d e => by rw [e, fr_ne]
end
end K39

set_option Elab.async false
set_option linter.all false
set_option maxRecDepth 100000
set_option maxHeartbeats 1000000
set_option exponentiation.threshold 20000
/-! SE3: fractions -/
namespace K39
open PySem PySem.Spec PyProof.Rows L2
section
variable {K : PySem.W.Frag} {dk : Dk} {Γ : List K39.G} {ta tb tc te : TE} {x y : PyData} {q r : Rat}
theorem den_posI (q : Rat) : (0 : Int) < (q.den : Int) := by have := q.den_pos; omega
theorem se_is_fraction_value : SeF K (t_is_fraction_value K) 1 (fun q : Rat => [fr q]) (fun _ => True) fun _ => .bool true := fun dk q _ => by
  refine q_ifF (et_orB (a := false) (et_notB (a := true) (et_BB (ev_isi (ev_var rfl) kit_tup_tup))) fun _ => et_orB (a := false) ((et_testB (ev_opD (ev_lenT (ev_var rfl)) ev_int opd_neI)).cast rfl) fun _ =>
    et_orB (a := false) (b := false) (et_notB (a := true) (et_BB (ev_is_integer (fx0 (ev_var rfl))))) fun _ => et_notB (a := true) (et_BB (ev_is_integer (fx1 (ev_var rfl))))) (q_next ?_)
  refine s_ret (ev_andV (a := true) (b := true) ((ev_opD (fx1 (ev_var rfl)) ev_int opd_gt).cast (by rw [decide_eq_true (den_posI q)])) fun _ => (ev_opD (ev_divisor_of (fx0 (ev_var rfl)) (fx1 (ev_var rfl)) (by have := den_posI q; omega)) ev_int opd_eqI).cast ?_)
  rw [decide_eq_true]
  have := q.reduced
  unfold Int.gcd
  rw [Int.natAbs_natCast]
  exact_mod_cast this
theorem ev_is_fraction_value (h : EvD K dk te Γ (fr q)) : EvD K dk (tCall (sp_is_fraction_value K) [] E0 (tCons te tNil)) Γ (.bool true) := ev_callF q (ea1 h) trivial
theorem se_is_share_value : SeF K (t_is_share_value K) 1 (fun q : Rat => [fr q]) (fun q => 0 ≤ q) fun _ => .bool true := fun dk q h => by
  exact s_ret (ev_andV (a := true) (b := true) (ev_is_fraction_value (ev_var rfl)) fun _ => (ev_opD (fx0 (ev_var rfl)) ev_int opd_ge).cast (by rw [decide_eq_true (Rat.num_nonneg.mpr h)]))
theorem ev_is_share_value (h : EvD K dk te Γ (fr q)) (h0 : 0 ≤ q) : EvD K dk (tCall (sp_is_share_value K) [] E0 (tCons te tNil)) Γ (.bool true) := ev_callF q (ea1 h) h0
/-! the four ways -/
theorem bot_ok {q r : Rat} (h : Sm q) (h' : Sm r) : (0 : Int) < (q.den : Int) * (r.den : Int) ∧ (q.den : Int) * (r.den : Int) < 2 ^ 9000 := by
  refine ⟨Int.mul_pos (den_posI q) (den_posI r), ?_⟩
  have : q.den * r.den < 2 ^ 9000 := by
    refine Nat.lt_of_lt_of_le (Nat.mul_lt_mul'' h.1 h'.1) ?_
    rw [← Nat.pow_add]
    exact Nat.pow_le_pow_right (by omega) (by omega)
  exact_mod_cast this
theorem mulnd {q r : Rat} (h : Sm q) (h' : Sm r) : CMulX q.num r.den := cmulx h.2 (den_abs h')
theorem muldd {q r : Rat} (h : Sm q) (h' : Sm r) : CMulX q.den r.den := cmulx (den_abs h) (den_abs h')
theorem mulnn {q r : Rat} (h : Sm q) (h' : Sm r) : CMulX q.num r.num := cmulx h.2 h'.2
theorem muldn {q r : Rat} (h : Sm q) (h' : Sm r) : CMulX q.den r.num := cmulx (den_abs h) h'.2
theorem plus_eq (q r : Rat) : ((q.num * r.den + r.num * q.den : Int) : Rat) / (((q.den : Int) * (r.den : Int) : Int) : Rat) = q + r := by
  simp only [Rat.intCast_add, Rat.intCast_mul, Rat.intCast_natCast, num_eq]
  have := den_ne q; have := den_ne r; grind
theorem minus_eq (q r : Rat) : ((q.num * r.den - r.num * q.den : Int) : Rat) / (((q.den : Int) * (r.den : Int) : Int) : Rat) = q - r := by
  simp only [Rat.intCast_sub, Rat.intCast_mul, Rat.intCast_natCast, num_eq]
  have := den_ne q; have := den_ne r; grind
theorem times_eq (q r : Rat) : ((q.num * r.num : Int) : Rat) / (((q.den : Int) * (r.den : Int) : Int) : Rat) = q * r := by
  simp only [Rat.intCast_mul, Rat.intCast_natCast, num_eq]
  have := den_ne q; have := den_ne r; grind
theorem over_eq (q r : Rat) (h : 0 < r) : ((q.num * (r.den : Int) : Int) : Rat) / (((q.den : Int) * r.num : Int) : Rat) = q / r := by
  simp only [Rat.intCast_mul, Rat.intCast_natCast, num_eq]
  have := den_ne q; have := den_ne r; have : r ≠ 0 := by grind
  grind
theorem se_plus : SeF K (t_plus K) 2 (fun a : Rat × Rat => [fr a.1, fr a.2]) (fun a => Sm a.1 ∧ Sm a.2) fun a => fr (a.1 + a.2) := fun dk ⟨q, r⟩ ⟨h, h'⟩ =>
  s_ret (ev_lowest (ev_opD (ev_opD (fx0 (ev_var rfl)) (fx1 (ev_var rfl)) (opd_mulX (mulnd h h'))) (ev_opD (fx0 (ev_var rfl)) (fx1 (ev_var rfl)) (opd_mulX (mulnd h' h))) opd_add) (ev_opD (fx1 (ev_var rfl)) (fx1 (ev_var rfl)) (opd_mulX (muldd h h'))) (bot_ok h h').1 (bot_ok h h').2 (plus_eq q r))
theorem se_minus : SeF K (t_minus K) 2 (fun a : Rat × Rat => [fr a.1, fr a.2]) (fun a => Sm a.1 ∧ Sm a.2) fun a => fr (a.1 - a.2) := fun dk ⟨q, r⟩ ⟨h, h'⟩ =>
  s_ret (ev_lowest (ev_opD (ev_opD (fx0 (ev_var rfl)) (fx1 (ev_var rfl)) (opd_mulX (mulnd h h'))) (ev_opD (fx0 (ev_var rfl)) (fx1 (ev_var rfl)) (opd_mulX (mulnd h' h))) opd_sub) (ev_opD (fx1 (ev_var rfl)) (fx1 (ev_var rfl)) (opd_mulX (muldd h h'))) (bot_ok h h').1 (bot_ok h h').2 (minus_eq q r))
theorem se_times : SeF K (t_times K) 2 (fun a : Rat × Rat => [fr a.1, fr a.2]) (fun a => Sm a.1 ∧ Sm a.2) fun a => fr (a.1 * a.2) := fun dk ⟨q, r⟩ ⟨h, h'⟩ =>
  s_ret (ev_lowest (ev_opD (fx0 (ev_var rfl)) (fx0 (ev_var rfl)) (opd_mulX (mulnn h h'))) (ev_opD (fx1 (ev_var rfl)) (fx1 (ev_var rfl)) (opd_mulX (muldd h h'))) (bot_ok h h').1 (bot_ok h h').2 (times_eq q r))
theorem num_posI {r : Rat} (h : 0 < r) : 0 < r.num := by
  have h1 := Rat.num_nonneg.mpr (Rat.le_of_lt h)
  have h2 : r.num ≠ 0 := fun e => by
    have := num_eq r
    rw [e] at this
    have hd := den_ne r
    have : r = 0 := by
      have h3 : ((0 : Int) : Rat) = 0 := rfl
      grind
    subst this
    exact absurd h (by decide)
  omega
theorem over_bot {q r : Rat} (h : Sm q) (h0 : 0 < r) (hn : r.num < 2 ^ 4000) : (0 : Int) < (q.den : Int) * r.num ∧ (q.den : Int) * r.num < 2 ^ 9000 := by
  have hp : 0 < r.num := num_posI h0
  refine ⟨Int.mul_pos (den_posI q) hp, ?_⟩
  have e : (r.num.natAbs : Int) = r.num := Int.natAbs_of_nonneg (by omega)
  have h2 : r.num.natAbs < 2 ^ 4000 := by
    have : (r.num.natAbs : Int) < ((2 ^ 4000 : Nat) : Int) := by rw [e]; exact_mod_cast hn
    exact_mod_cast this
  have : q.den * r.num.natAbs < 2 ^ 9000 := by
    refine Nat.lt_of_lt_of_le (Nat.mul_lt_mul'' h.1 h2) ?_
    rw [← Nat.pow_add]
    exact Nat.pow_le_pow_right (by omega) (by omega)
  rw [← e]
  exact_mod_cast this
theorem se_over : SeF K (t_over K) 2 (fun a : Rat × Rat => [fr a.1, fr a.2]) (fun a => Sm a.1 ∧ Sm a.2 ∧ 0 < a.2 ∧ a.2.num < 2 ^ 4000) fun a => fr (a.1 / a.2) := fun dk ⟨q, r⟩ ⟨h, h', h0, hn⟩ =>
  s_ret (ev_lowest (ev_opD (fx0 (ev_var rfl)) (fx1 (ev_var rfl)) (opd_mulX (mulnd h h'))) (ev_opD (fx1 (ev_var rfl)) (fx0 (ev_var rfl)) (opd_mulX (muldn h h'))) (over_bot h h0 hn).1 (over_bot h h0 hn).2 (over_eq q r h0))
theorem se_law_plus : SeF K (t_law_plus K) 2 (fun a : Rat × Rat => [fr a.1, fr a.2]) (fun a => Sm a.1 ∧ Sm a.2) fun a => fr (a.1 + a.2) := fun dk ⟨q, r⟩ ⟨h, h'⟩ =>
  s_ret (ev_law_fraction (ev_opD (ev_opD (fx0 (ev_var rfl)) (fx1 (ev_var rfl)) (opd_mulX (mulnd h h'))) (ev_opD (fx0 (ev_var rfl)) (fx1 (ev_var rfl)) (opd_mulX (mulnd h' h))) opd_add) (ev_opD (fx1 (ev_var rfl)) (fx1 (ev_var rfl)) (opd_mulX (muldd h h'))) (bot_ok h h').1 (bot_ok h h').2 (plus_eq q r))
theorem se_law_minus : SeF K (t_law_minus K) 2 (fun a : Rat × Rat => [fr a.1, fr a.2]) (fun a => Sm a.1 ∧ Sm a.2) fun a => fr (a.1 - a.2) := fun dk ⟨q, r⟩ ⟨h, h'⟩ =>
  s_ret (ev_law_fraction (ev_opD (ev_opD (fx0 (ev_var rfl)) (fx1 (ev_var rfl)) (opd_mulX (mulnd h h'))) (ev_opD (fx0 (ev_var rfl)) (fx1 (ev_var rfl)) (opd_mulX (mulnd h' h))) opd_sub) (ev_opD (fx1 (ev_var rfl)) (fx1 (ev_var rfl)) (opd_mulX (muldd h h'))) (bot_ok h h').1 (bot_ok h h').2 (minus_eq q r))
theorem se_law_times : SeF K (t_law_times K) 2 (fun a : Rat × Rat => [fr a.1, fr a.2]) (fun a => Sm a.1 ∧ Sm a.2) fun a => fr (a.1 * a.2) := fun dk ⟨q, r⟩ ⟨h, h'⟩ =>
  s_ret (ev_law_fraction (ev_opD (fx0 (ev_var rfl)) (fx0 (ev_var rfl)) (opd_mulX (mulnn h h'))) (ev_opD (fx1 (ev_var rfl)) (fx1 (ev_var rfl)) (opd_mulX (muldd h h'))) (bot_ok h h').1 (bot_ok h h').2 (times_eq q r))
theorem se_law_over : SeF K (t_law_over K) 2 (fun a : Rat × Rat => [fr a.1, fr a.2]) (fun a => Sm a.1 ∧ Sm a.2 ∧ 0 < a.2 ∧ a.2.num < 2 ^ 4000) fun a => fr (a.1 / a.2) := fun dk ⟨q, r⟩ ⟨h, h', h0, hn⟩ =>
  s_ret (ev_law_fraction (ev_opD (fx0 (ev_var rfl)) (fx1 (ev_var rfl)) (opd_mulX (mulnd h h'))) (ev_opD (fx1 (ev_var rfl)) (fx0 (ev_var rfl)) (opd_mulX (muldn h h'))) (over_bot h h0 hn).1 (over_bot h h0 hn).2 (over_eq q r h0))
theorem ev_plus (h : EvD K dk ta Γ (fr q)) (h' : EvD K dk tb Γ (fr r)) (s : Sm q) (s' : Sm r) : EvD K dk (tCall (sp_plus K) [] E0 (tCons ta (tCons tb tNil))) Γ (fr (q + r)) := ev_callF (q, r) (ea2 h h') ⟨s, s'⟩
theorem ev_minus (h : EvD K dk ta Γ (fr q)) (h' : EvD K dk tb Γ (fr r)) (s : Sm q) (s' : Sm r) : EvD K dk (tCall (sp_minus K) [] E0 (tCons ta (tCons tb tNil))) Γ (fr (q - r)) := ev_callF (q, r) (ea2 h h') ⟨s, s'⟩
theorem ev_times (h : EvD K dk ta Γ (fr q)) (h' : EvD K dk tb Γ (fr r)) (s : Sm q) (s' : Sm r) : EvD K dk (tCall (sp_times K) [] E0 (tCons ta (tCons tb tNil))) Γ (fr (q * r)) := ev_callF (q, r) (ea2 h h') ⟨s, s'⟩
theorem ev_over (h : EvD K dk ta Γ (fr q)) (h' : EvD K dk tb Γ (fr r)) (s : Sm q) (s' : Sm r) (h0 : 0 < r) (hn : r.num < 2 ^ 4000) : EvD K dk (tCall (sp_over K) [] E0 (tCons ta (tCons tb tNil))) Γ (fr (q / r)) := ev_callF (q, r) (ea2 h h') ⟨s, s', h0, hn⟩
theorem ev_law_plus (h : EvD K dk ta Γ (fr q)) (h' : EvD K dk tb Γ (fr r)) (s : Sm q) (s' : Sm r) : EvD K dk (tCall (sp_law_plus K) [] E0 (tCons ta (tCons tb tNil))) Γ (fr (q + r)) := ev_plus h h' s s'
theorem ev_law_minus (h : EvD K dk ta Γ (fr q)) (h' : EvD K dk tb Γ (fr r)) (s : Sm q) (s' : Sm r) : EvD K dk (tCall (sp_law_minus K) [] E0 (tCons ta (tCons tb tNil))) Γ (fr (q - r)) := ev_minus h h' s s'
theorem ev_law_times (h : EvD K dk ta Γ (fr q)) (h' : EvD K dk tb Γ (fr r)) (s : Sm q) (s' : Sm r) : EvD K dk (tCall (sp_law_times K) [] E0 (tCons ta (tCons tb tNil))) Γ (fr (q * r)) := ev_times h h' s s'
theorem ev_law_over (h : EvD K dk ta Γ (fr q)) (h' : EvD K dk tb Γ (fr r)) (s : Sm q) (s' : Sm r) (h0 : 0 < r) (hn : r.num < 2 ^ 4000) : EvD K dk (tCall (sp_law_over K) [] E0 (tCons ta (tCons tb tNil))) Γ (fr (q / r)) := ev_over h h' s s' h0 hn
theorem se_law_is_less : SeF K (t_law_is_less K) 2 (fun a : Rat × Rat => [fr a.1, fr a.2]) (fun a => Sm a.1 ∧ Sm a.2) fun a => .bool (decide (a.1 < a.2)) := fun dk ⟨q, r⟩ ⟨h, h'⟩ =>
  s_ret ((ev_opD (ev_opD (fx0 (ev_var rfl)) (fx1 (ev_var rfl)) (opd_mulX (mulnd h h'))) (ev_opD (fx0 (ev_var rfl)) (fx1 (ev_var rfl)) (opd_mulX (mulnd h' h))) opd_lt).cast (by
    have := Rat.lt_iff q r
    by_cases c : q < r
    · show PyData.bool _ = PyData.bool (decide (q < r)); rw [decide_eq_true (this.mp c), decide_eq_true c]
    · show PyData.bool _ = PyData.bool (decide (q < r)); rw [decide_eq_false (fun z => c (this.mpr z)), decide_eq_false c]))
theorem ev_law_is_less (h : EvD K dk ta Γ (fr q)) (h' : EvD K dk tb Γ (fr r)) (s : Sm q) (s' : Sm r) : EvD K dk (tCall (sp_law_is_less K) [] E0 (tCons ta (tCons tb tNil))) Γ (.bool (decide (q < r))) := ev_callF (q, r) (ea2 h h') ⟨s, s'⟩
/-! sums -/
theorem Tot.part {qs : List Rat} (h : Tot qs) (i : Nat) : Sm (qs.take i).sum := by
  obtain ⟨hl, N, hN, hq⟩ := h
  have key : ∀ (l : List Rat), (∀ q, q ∈ l → In N q ∧ 0 ≤ q ∧ q ≤ p2 190) → 0 < N → In N l.sum ∧ 0 ≤ l.sum ∧ l.sum ≤ (l.length : Rat) * p2 190 := fun l hl h0 => by
    induction l with
    | nil => exact ⟨In.zero h0, by rw [List.sum_nil]; grind, by simp only [List.sum_nil, List.length_nil]; have := p2_pos 190; grind⟩
    | cons a l ih =>
      obtain ⟨i1, i2, i3⟩ := ih fun q hq => hl q (List.mem_cons_of_mem _ hq)
      obtain ⟨a1, a2, a3⟩ := hl a List.mem_cons_self
      rw [List.sum_cons, List.length_cons]
      refine ⟨a1.add i1, by grind, ?_⟩
      rw [Rat.natCast_add]
      grind
  by_cases hN0 : 0 < N
  · have hm : ∀ q, q ∈ qs.take i → In N q ∧ 0 ≤ q ∧ q ≤ p2 190 := fun q hq' => hq q (List.mem_of_mem_take hq')
    obtain ⟨k1, k2, k3⟩ := key _ hm hN0
    refine Sm.of k1 (Nat.lt_of_lt_of_le hN (Nat.pow_le_pow_right (by omega) (by omega))) k2 (Rat.le_trans k3 ?_)
    have h64 : (((qs.take i).length : Nat) : Rat) ≤ ((64 : Nat) : Rat) := Rat.natCast_le_natCast.mpr (by rw [List.length_take]; omega)
    have h2 : p2 200 = 1024 * p2 190 := by rw [show (200 : Nat) = 10 + 190 from rfl, p2_add]; rfl
    rw [h2]
    have := Rat.mul_le_mul_of_nonneg_right h64 (Rat.le_of_lt (p2_pos 190))
    have := p2_pos 190
    have h64' : ((64 : Nat) : Rat) = 64 := rfl
    grind
  · have : qs = [] := by
      cases qs with
      | nil => rfl
      | cons a l => exact absurd (hq a List.mem_cons_self).1.1 hN0
    subst this
    rw [List.take_nil, List.sum_nil]
    exact ⟨by decide +kernel, by decide +kernel⟩
theorem Tot.mem {qs : List Rat} (h : Tot qs) {q : Rat} (hq : q ∈ qs) : Sm q := by
  obtain ⟨hl, N, hN, h'⟩ := h
  obtain ⟨a1, a2, a3⟩ := h' q hq
  exact Sm.of a1 (Nat.lt_of_lt_of_le hN (Nat.pow_le_pow_right (by omega) (by omega))) a2 (Rat.le_trans a3 (p2_le (by omega)))
theorem seqB_of (b : Bool) (ds : List PyData) : seqOf (seqB b ds) = some ds := by cases b <;> rfl
theorem take_sum {qs : List Rat} {i : Nat} {q : Rat} (h : qs[i]? = some q) : (qs.take (i + 1)).sum = (qs.take i).sum + q := by
  rw [List.take_add_one, h, List.sum_append]
  simp only [Option.toList, List.sum_cons, List.sum_nil]
  grind
theorem se_total (Z : Zo K) : SeF K (t_total K) 3 (fun a : Bool × List Rat => [seqB a.1 (a.2.map fr)]) (fun a => Tot a.2) fun a => fr a.2.sum := fun dk ⟨b, qs⟩ h => by
  refine q_set (ev_zero Z) (q_for (ei_seq (ev_var rfl) (seqB_of b _)) (fun i Γ => ∃ g, Γ = [.dat (seqB b (qs.map fr)), .dat (fr (qs.take i).sum), g]) ⟨_, rfl⟩ (fun i x Γ1 hx => ?_) ?_)
  · rintro ⟨g, rfl⟩
    rw [List.getElem?_map] at hx
    cases hq : qs[i]? with
    | none => rw [hq] at hx; cases hx
    | some q =>
      rw [hq] at hx
      cases hx
      refine ⟨_, [2], tg_name (by simp), s_end (q_set (ev_plus (ev_var rfl) (ev_var rfl) (h.part i) (h.mem (List.mem_of_getElem? hq))) (s_next ⟨.dat (fr q), ?_⟩))⟩
      rw [take_sum hq]
      rfl
  · rintro Γ1 ⟨g, rfl⟩
    refine s_ret ((ev_var rfl).cast ?_)
    rw [List.length_map, List.take_length]
theorem se_law_total : SeF K (t_law_total K) 3 (fun a : Bool × List Rat => [seqB a.1 (a.2.map fr)]) (fun a => Tot a.2) fun a => fr a.2.sum := fun dk ⟨b, qs⟩ h => by
  refine q_set ev_zeroT (q_for (ei_seq (ev_var rfl) (seqB_of b _)) (fun i Γ => ∃ g, Γ = [.dat (seqB b (qs.map fr)), .dat (fr (qs.take i).sum), g]) ⟨_, rfl⟩ (fun i x Γ1 hx => ?_) ?_)
  · rintro ⟨g, rfl⟩
    rw [List.getElem?_map] at hx
    cases hq : qs[i]? with
    | none => rw [hq] at hx; cases hx
    | some q =>
      rw [hq] at hx
      cases hx
      refine ⟨_, [2], tg_name (by simp), s_end (q_set (ev_law_plus (ev_var rfl) (ev_var rfl) (h.part i) (h.mem (List.mem_of_getElem? hq))) (s_next ⟨.dat (fr q), ?_⟩))⟩
      rw [take_sum hq]
      rfl
  · rintro Γ1 ⟨g, rfl⟩
    refine s_ret ((ev_var rfl).cast ?_)
    rw [List.length_map, List.take_length]
theorem ev_totalL {qs : List Rat} (h : EvM K dk te Γ (fun r => r = qs.map fr)) (t : Tot qs) : EvD K dk (tCall (sp_total K) [] E0 (tCons te tNil)) Γ (fr qs.sum) := ev_callF (true, qs) (ea1 h.stillD) t
theorem ev_totalT {qs : List Rat} (h : EvD K dk te Γ (.tuple (qs.map fr))) (t : Tot qs) : EvD K dk (tCall (sp_total K) [] E0 (tCons te tNil)) Γ (fr qs.sum) := ev_callF (false, qs) (ea1 h) t
theorem ev_law_totalL {qs : List Rat} (h : EvM K dk te Γ (fun r => r = qs.map fr)) (t : Tot qs) : EvD K dk (tCall (sp_law_total K) [] E0 (tCons te tNil)) Γ (fr qs.sum) := ev_callF (true, qs) (ea1 h.stillD) t
theorem floor_eq (q : Rat) : dig q 0 = q.num / (q.den : Int) := Rat.floor_def q
theorem se_whole_of : SeF K (t_whole_of K) 1 (fun q : Rat => [fr q]) (fun q => Sm q) fun q => .int (dig q 0) := fun dk q h => by
  refine s_ret ((ev_opD (fx0 (ev_var rfl)) (fx1 (ev_var rfl)) (opd_div (cdivw (den_posI q) ?_))).cast (by show _ = PyData.int (dig q 0); rw [floor_eq]))
  rw [Int.natAbs_natCast]
  exact Nat.lt_of_lt_of_le h.1 (Nat.pow_le_pow_right (by omega) (by omega))
theorem ev_whole_of (h : EvD K dk te Γ (fr q)) (s : Sm q) : EvD K dk (tCall (sp_whole_of K) [] E0 (tCons te tNil)) Γ (.int (dig q 0)) := ev_callF q (ea1 h) s
theorem p2_int (k : Nat) : (((2 : Int) ^ k : Int) : Rat) = p2 k := by
  unfold p2
  rw [← Rat.intCast_natCast]
  congr 1
theorem se_shifted : SeF K (t_shifted K) 2 (fun a : Rat × Nat => [fr a.1, .int a.2]) (fun a => Sm a.1 ∧ a.2 ≤ 300) fun a => fr (a.1 / p2 a.2) := fun dk ⟨q, k⟩ ⟨h, hk⟩ => by
  have hk' : k ≤ 300 := hk
  have hpos : (0 : Int) < 2 ^ k := Int.pow_pos (by omega)
  refine s_ret (ev_lowest (fx0 (ev_var rfl)) (ev_opD (fx1 (ev_var rfl)) (ev_var rfl) (opd_shl (cshl (den_abs h)))) (Int.mul_pos (den_posI q) (by simpa using hpos)) ?_ ?_)
  · have : q.den * 2 ^ k < 2 ^ 9000 := by
      refine Nat.lt_of_lt_of_le (Nat.mul_lt_mul_of_pos_right h.1 (Nat.two_pow_pos k)) ?_
      rw [← Nat.pow_add]
      exact Nat.pow_le_pow_right (by omega) (by omega)
    rw [Int.toNat_natCast]
    exact_mod_cast this
  · rw [Int.toNat_natCast, Rat.intCast_mul, p2_int, Rat.intCast_natCast, num_eq]
    have := den_ne q; have := p2_ne k; grind
theorem ev_shifted {k : Nat} (h : EvD K dk ta Γ (fr q)) (h' : EvD K dk tb Γ (.int k)) (s : Sm q) (hk : k ≤ 300) : EvD K dk (tCall (sp_shifted K) [] E0 (tCons ta (tCons tb tNil))) Γ (fr (q / p2 k)) := ev_callF (q, k) (ea2 h h') ⟨s, hk⟩
end
end K39

set_option Elab.async false
set_option linter.all false
set_option maxRecDepth 100000
set_option maxHeartbeats 1000000
set_option exponentiation.threshold 20000
/-! SE4: tables, powers, digits -/
namespace K39
open PySem PySem.Spec PyProof.Rows L2
section
variable {K : PySem.W.Frag} {dk : Dk} {Γ : List K39.G} {ta tb tc te : TE} {x y : PyData} {q r : Rat}
/-! lots -/
theorem lot_between {n : Nat} {l : Nat → Bool} : ∀ i ∈ (lotL n l).map (fun (i : Nat) => (i : Int)), (0 : Int) ≤ i ∧ i ≤ n - 1 := fun i hi => by
  obtain ⟨j, hj, rfl⟩ := List.mem_map.mp hi
  have := (lot_mem.mp hj).1
  omega
theorem lot_pair (n : Nat) (l : Nat → Bool) : (lotL n l).Pairwise (· < ·) := List.Pairwise.filter _ List.pairwise_lt_range
theorem se_is_ascending : SeF K (t_is_ascending K) 3 (fun a : Nat × (Nat → Bool) => [lotD a.1 a.2]) (fun a => a.1 ≤ 100 ∧ lotL a.1 a.2 ≠ []) fun _ => .bool true := fun dk ⟨n, l⟩ ⟨hn, h⟩ => by
  have hne : ((lotL n l).map fun (i : Nat) => PyData.int i) ≠ [] := by
    intro e; exact h (List.map_eq_nil_iff.mp e)
  have hlen : (zipD ((lotL n l).map fun (i : Nat) => PyData.int i) (((lotL n l).map fun (i : Nat) => PyData.int i).drop 1)).length ≤ 100 := by
    rw [zipD_len, List.length_map]
    have := lot_lenle n l
    have : n ≤ 100 := hn
    omega
  refine s_ret (ev_allT (n := (zipD ((lotL n l).map fun (i : Nat) => PyData.int i) (((lotL n l).map fun (i : Nat) => PyData.int i).drop 1)).length) (em_map _ (ei_zip (ea2 (ev_var rfl) (ev_dropT (ev_var rfl) hne)) rfl rfl) (Nat.le_trans hlen (by omega)) mp_len fun i x y hx hy => ?_))
  obtain ⟨hi, rfl⟩ := mp_get' hy
  obtain ⟨a, b, ha, hb, rfl⟩ := zipD_get hx
  rw [List.getElem?_drop, List.getElem?_map] at hb
  rw [List.getElem?_map] at ha
  cases h1 : (lotL n l)[i]? with
  | none => rw [h1] at ha; cases ha
  | some u =>
    cases h2 : (lotL n l)[1 + i]? with
    | none => rw [h2] at hb; cases hb
    | some v =>
      rw [h1] at ha; rw [h2] at hb
      cases ha; cases hb
      refine ⟨_, tg_two (by simp) (by simp), (ev_opD (ev_var rfl) (ev_var rfl) opd_lt).cast ?_⟩
      have hu := List.getElem?_eq_some_iff.mp h1
      have hv := List.getElem?_eq_some_iff.mp h2
      obtain ⟨u1, u2⟩ := hu
      obtain ⟨v1, v2⟩ := hv
      have := List.pairwise_iff_getElem.mp (lot_pair n l) i (1 + i) u1 v1 (by omega)
      rw [u2, v2] at this
      rw [decide_eq_true]
      omega
theorem ev_is_ascending {n : Nat} {l : Nat → Bool} (h : EvD K dk te Γ (lotD n l)) (hn : n ≤ 100) (hl : lotL n l ≠ []) : EvD K dk (tCall (sp_is_ascending K) [] E0 (tCons te tNil)) Γ (.bool true) := ev_callF (n, l) (ea1 h) ⟨hn, hl⟩
theorem se_is_lot_value : SeF K (t_is_lot_value K) 2 (fun a : Nat × (Nat → Bool) => [.int a.1, lotD a.1 a.2]) (fun a => a.1 ≤ 100 ∧ lotL a.1 a.2 ≠ []) fun _ => .bool true := fun dk ⟨n, l⟩ ⟨hn, h⟩ => by
  refine s_ret (ev_andV (a := true) (b := true) (ev_are_between ((ev_var rfl).cast (lotD_ints n l)) ev_int (ev_opD (ev_var rfl) ev_int opd_sub) ?_ lot_between) fun _ => ev_is_ascending (ev_var rfl) hn h)
  rw [List.length_map]
  exact Nat.le_trans (lot_lenle n l) hn
theorem ev_is_lot_value {n : Nat} {l : Nat → Bool} (h0 : EvD K dk ta Γ (.int n)) (h : EvD K dk te Γ (lotD n l)) (hn : n ≤ 100) (hl : lotL n l ≠ []) : EvD K dk (tCall (sp_is_lot_value K) [] E0 (tCons ta (tCons te tNil))) Γ (.bool true) := ev_callF (n, l) (ea2 h0 h) ⟨hn, hl⟩
/-! tables -/
theorem tab_len {n : Nat} {f : Nat → Rat} : (mp n fun i => fr (f i)).length = n := mp_len
theorem tabD_map (n : Nat) (f : Nat → Rat) : tabD n f = .tuple ((mp n f).map fr) := by unfold tabD; rw [mp_map]
theorem one_le_p2 : (1 : Rat) ≤ p2 190 := p2_one 190
theorem Tab.le1 {n : Nat} {f : Nat → Rat} (h : Tab n f) {i : Nat} (hi : i < n) : f i ≤ 1 := by rw [← h.one]; exact sm_term h.nn hi
theorem Tab.tot {n : Nat} {f : Nat → Rat} (h : Tab n f) : Tot (mp n f) := by
  obtain ⟨N, hN, hi⟩ := h.ex
  refine ⟨by rw [mp_len]; have := h.n8; omega, N, Nat.lt_trans hN (Nat.pow_lt_pow_right (by omega) (by omega)), fun q hq => ?_⟩
  obtain ⟨i, hlt, rfl⟩ := mp_mem.mp hq
  exact ⟨hi i hlt, h.nn i hlt, Rat.le_trans (h.le1 hlt) one_le_p2⟩
theorem Tab.sm {n : Nat} {f : Nat → Rat} (h : Tab n f) {i : Nat} (hi : i < n) : Sm (f i) := by
  obtain ⟨N, hN, hi'⟩ := h.ex
  exact Sm.of (hi' i hi) (Nat.lt_trans hN (Nat.pow_lt_pow_right (by omega) (by omega))) (h.nn i hi) (Rat.le_trans (h.le1 hi) (p2_one 200))
theorem Tab.den {n : Nat} {f : Nat → Rat} (h : Tab n f) {i : Nat} (hi : i < n) : (f i).den < 2 ^ 300 := by
  obtain ⟨N, hN, hi'⟩ := h.ex
  exact Nat.lt_of_le_of_lt (hi' i hi).den hN
theorem se_is_table_value (Z : Zo K) : SeF K (t_is_table_value K) 2 (fun a : Nat × (Nat → Rat) => [tabD a.1 a.2]) (fun a => Tab a.1 a.2) fun _ => .bool true := fun dk ⟨n, f⟩ h => by
  have h1 := h.n1
  have h8 := h.n8
  refine q_ifF (et_orB (a := false) (et_notB (a := true) (et_BB (ev_isi (ev_var rfl) kit_tup_tup))) fun _ => et_orB (a := false) (b := false) (et_notB (a := true) ((et_testB (ev_chain ev_int (ev_lenT (ev_var rfl)) ev_int opd_le opd_le)).cast ?_)) fun _ =>
    et_notB (a := true) (et_BB (ev_allT (n := n) (em_map _ (ei_seq (ev_var rfl) rfl) (by rw [mp_len]; exact Nat.le_trans h8 (by omega)) (by rw [mp_len, mp_len]) fun i x y hx hy => ?_)))) (q_next ?_)
  · rw [mp_len]
    have : n ≤ 8 := h8
    have : 1 ≤ n := h1
    rw [decide_eq_true (by omega), decide_eq_true (by omega)]
    rfl
  · obtain ⟨hi, rfl⟩ := mp_get' hx
    obtain ⟨_, rfl⟩ := mp_get' hy
    exact ⟨_, tg_name (by simp), ev_is_share_value (ev_var rfl) (h.nn i hi)⟩
  · refine s_ret ((ev_eqfr (ev_totalT ((ev_var rfl).cast (tabD_map n f)) h.tot) (ev_one Z)).cast ?_)
    rw [sum_mp, h.one, decide_eq_true rfl]
theorem ev_is_table_value {n : Nat} {f : Nat → Rat} (h : EvD K dk te Γ (tabD n f)) (t : Tab n f) : EvD K dk (tCall (sp_is_table_value K) [] E0 (tCons te tNil)) Γ (.bool true) := ev_callF (n, f) (ea1 h) t
theorem se_need_table : SeF K (t_need_table K) 1 (fun a : Nat × (Nat → Rat) => [tabD a.1 a.2]) (fun a => Tab a.1 a.2) fun _ => .none := fun dk ⟨n, f⟩ h =>
  s_end (q_ifF (et_notB (a := true) (et_BB (ev_is_table_value (ev_var rfl) h))) (q_next (s_next rfl)))
theorem se_need_count : SeF K (t_need_count K) 1 (fun i : Nat => [.int i]) (fun _ => True) fun _ => .none := fun dk n _ =>
  s_end (q_ifF (et_notB (a := true) (et_BB (ev_is_count (ev_var rfl) (by omega)))) (q_next (s_next rfl)))
/-- a call for its own sake -/
theorem q_drop {t : TE} {u : TS} {P : PyData → Prop} {N : List K39.G → Prop} {R : PyData → Prop} (h : EvP K dk t Γ P) (hr : SOk K dk u Γ N R) : SOk K dk (tSeq (tDrop t) u) Γ N R := fun I0 H0 σ I H D e k1 k2 => by
  refine h I0 H0 σ I H _ e fun v d I1 H1 p1 n1 r1 => ?_
  exact hr I0 H0 σ I1 H1 D (e.step n1) (fun Γ' σ' I' H' n e2 s => k1 Γ' σ' I' H' n e2 (n1.ii.trans s)) k2
theorem ev_need_table {n : Nat} {f : Nat → Rat} (h : EvD K dk te Γ (tabD n f)) (t : Tab n f) : EvD K dk (tCall (sp_need_table K) [] E0 (tCons te tNil)) Γ .none := ev_callF (n, f) (ea1 h) t
theorem ev_need_count {n : Nat} (h : EvD K dk te Γ (.int n)) : EvD K dk (tCall (sp_need_count K) [] E0 (tCons te tNil)) Γ .none := ev_callF n (ea1 h) trivial
/-! powers of two by a bottom -/
theorem se_power_by : SeF K (t_power_by K) 5 (fun a : Nat × Nat => [.int a.1, .int a.2]) (fun a => 0 < a.2 ∧ a.2 < 2 ^ 4000) fun a => .int ((2 ^ a.1 % a.2 : Nat) : Int) := fun dk ⟨k, m⟩ ⟨hm, h9⟩ => by
  have hm' : 0 < m := hm
  have h9' : m < 2 ^ 4000 := h9
  refine q_par3 (ea3 (ev_opD ev_int (ev_var rfl) (opd_mod (by show (0 : Int) < (m : Int); omega))) (ev_opD ev_int (ev_var rfl) (opd_mod (by show (0 : Int) < (m : Int); omega))) (ev_var rfl)) ?_
  refine q_while (fun p : Nat × Nat × Nat => [K39.G.dat (.int k), .dat (.int m), .dat (.int p.1), .dat (.int p.2.1), .dat (.int p.2.2)]) (fun p => p.1 < m ∧ p.2.1 < m ∧ p.1 * p.2.1 ^ p.2.2 % m = 2 ^ k % m) (fun p => p.2.2) (1 % m, 2 % m, k) rfl
    ⟨Nat.mod_lt _ hm', Nat.mod_lt _ hm', by show 1 % m * (2 % m) ^ k % m = _; rw [Nat.mul_mod, Nat.mod_mod, ← Nat.mul_mod, Nat.one_mul, ← Nat.pow_mod]⟩ fun ⟨f, b, l⟩ ⟨hf, hb, he⟩ => ?_
  have hf' : f < m := hf
  have hb' : b < m := hb
  have he' : f * b ^ l % m = 2 ^ k % m := he
  have big : ∀ {a : Nat}, a < m → ((a : Nat) : Int).natAbs < 2 ^ 4000 := fun {a} h => by rw [Int.natAbs_natCast]; omega
  refine ⟨_, et_testB (ev_opD (ev_var rfl) ev_int opd_gt), fun hl => ?_, fun hl => ?_⟩
  · have hl' : 0 < l := by simp at hl; omega
    have key : f * b ^ l = (if l % 2 = 1 then f * b else f) * (b * b) ^ (l / 2) := by
      have e2 : (b * b) ^ (l / 2) = b ^ (2 * (l / 2)) := by rw [Nat.pow_mul, Nat.pow_two]
      rw [e2]
      split
      · rename_i h
        rw [Nat.mul_assoc, ← Nat.pow_succ', show (2 * (l / 2)).succ = l by omega]
      · rw [show 2 * (l / 2) = l by omega]
    have fin : ∀ g : Nat, g % m = (if l % 2 = 1 then f * b else f) % m → g * (b * b % m) ^ (l / 2) % m = 2 ^ k % m := fun g hg => by
      rw [← he', key, Nat.mul_mod, hg, ← Nat.pow_mod, ← Nat.mul_mod]
    have rest : ∀ g : Nat, g < m → g % m = (if l % 2 = 1 then f * b else f) % m → SOk K dk (tSeq (tAsg (tOp rModP (tOp rMulX (tVar 3) (tVar 3)) (tVar 1)) (gName 3)) (tAsg (tOp rDivW (tVar 4) (tC (.int 2))) (gName 4))) [K39.G.dat (.int k), .dat (.int m), .dat (.int g), .dat (.int b), .dat (.int l)]
        (fun Γ2 => ∃ a' : Nat × Nat × Nat, Γ2 = [K39.G.dat (.int k), .dat (.int m), .dat (.int a'.1), .dat (.int a'.2.1), .dat (.int a'.2.2)] ∧ (a'.1 < m ∧ a'.2.1 < m ∧ a'.1 * a'.2.1 ^ a'.2.2 % m = 2 ^ k % m) ∧ a'.2.2 < l) (fun d => d = .int ((2 ^ k % m : Nat) : Int)) := fun g hg1 hg2 => by
      refine q_set (ev_opD (ev_opD (ev_var rfl) (ev_var rfl) (opd_mulX (cmulx (big hb') (big hb')))) (ev_var rfl) (opd_mod (by omega))) (s_end (q_set (ev_opD (ev_var rfl) ev_int (opd_div (cdivw (by decide) (by decide)))) (s_next ?_)))
      exact ⟨(g, b * b % m, l / 2), rfl, ⟨hg1, Nat.mod_lt _ hm', fin g hg2⟩, Nat.div_lt_self hl' (by omega)⟩
    refine q_ifB (et_testB (ev_opD (ev_opD (ev_var rfl) ev_int (opd_mod (by decide))) ev_int opd_eqI)) (fun ho => ?_) fun ho => ?_
    · have ho' : l % 2 = 1 := by simp at ho; omega
      refine q_set (ev_opD (ev_opD (ev_var rfl) (ev_var rfl) (opd_mulX (cmulx (big hf') (big hb')))) (ev_var rfl) (opd_mod (by omega))) ?_
      have := rest (f * b % m) (Nat.mod_lt _ hm') (by rw [if_pos ho', Nat.mod_mod])
      exact this
    · have ho' : ¬ l % 2 = 1 := by simp at ho; omega
      exact q_next (rest f hf' (by rw [if_neg ho']))
  · have hl' : l = 0 := by simp at hl; omega
    subst hl'
    refine s_ret ((ev_var rfl).cast ?_)
    rw [Nat.pow_zero, Nat.mul_one, Nat.mod_eq_of_lt hf'] at he'
    rw [he']
theorem ev_power_by {k m : Nat} (h : EvD K dk ta Γ (.int k)) (h' : EvD K dk tb Γ (.int m)) (h0 : 0 < m) (h9 : m < 2 ^ 4000) : EvD K dk (tCall (sp_power_by K) [] E0 (tCons ta (tCons tb tNil))) Γ (.int ((2 ^ k % m : Nat) : Int)) := ev_callF (k, m) (ea2 h h') ⟨h0, h9⟩
theorem modpow (a : Int) (k m : Nat) : a * ((2 ^ k % m : Nat) : Int) % (m : Int) = a * 2 ^ k % (m : Int) := by
  rw [Int.natCast_emod, Int.mul_emod, Int.emod_emod_of_dvd _ (Int.dvd_refl _), ← Int.mul_emod]
  simp
theorem floor_div (a : Int) (m : Nat) (h : 0 < m) : ((a : Rat) / ((m : Nat) : Rat)).floor = a / (m : Int) := by
  have h1 : (a : Rat) / ((m : Nat) : Rat) = Rat.divInt a m := by rw [Rat.divInt_eq_div]; rfl
  have hm := natne h
  have hmp : (0 : Rat) < ((m : Nat) : Rat) := Rat.natCast_pos.mpr h
  have e : (a : Rat) = ((a / (m : Int) : Int) : Rat) * ((m : Nat) : Rat) + ((a % (m : Int) : Int) : Rat) := by
    have := Int.mul_ediv_add_emod a m
    have h2 : ((a : Int) : Rat) = (((m : Int) * (a / (m : Int)) + a % (m : Int) : Int) : Rat) := by rw [this]
    rw [h2, Rat.intCast_add, Rat.intCast_mul, Rat.intCast_natCast]
    grind
  have r0 : 0 ≤ a % (m : Int) := Int.emod_nonneg _ (by omega)
  have r1 : a % (m : Int) < m := Int.emod_lt_of_pos _ (by omega)
  have r0' : (0 : Rat) ≤ ((a % (m : Int) : Int) : Rat) := by exact_mod_cast Rat.intCast_le_intCast.mpr r0
  have r1' : ((a % (m : Int) : Int) : Rat) < ((m : Nat) : Rat) := by rw [← Rat.intCast_natCast]; exact Rat.intCast_lt_intCast.mpr r1
  have q1 : ((a / (m : Int) : Int) : Rat) ≤ (a : Rat) / ((m : Nat) : Rat) := by
    refine Rat.not_lt.mp fun z => ?_
    have := (Rat.div_lt_iff hmp).mp z; grind
  have q2 : (a : Rat) / ((m : Nat) : Rat) < ((a / (m : Int) + 1 : Int) : Rat) := by
    rw [Rat.div_lt_iff hmp, Rat.intCast_add, Rat.intCast_one]; grind
  have f1 := Rat.le_floor_iff.mpr q1
  have f2 := Rat.floor_le ((a : Rat) / ((m : Nat) : Rat))
  have f3 : (((a : Rat) / ((m : Nat) : Rat)).floor : Rat) < ((a / (m : Int) + 1 : Int) : Rat) := by grind
  have f4 := Rat.intCast_lt_intCast.mp f3
  omega
theorem frac_div (a : Int) (m : Nat) (h : 0 < m) : ((a % (m : Int) : Int) : Rat) / ((m : Nat) : Rat) = fracQ ((a : Rat) / ((m : Nat) : Rat)) := by
  unfold fracQ
  rw [floor_div a m h]
  have hm := natne h
  have := Int.mul_ediv_add_emod a m
  have h2 : ((a % (m : Int) : Int) : Rat) = (a : Rat) - ((m : Nat) : Rat) * ((a / (m : Int) : Int) : Rat) := by
    have h3 : a % (m : Int) = a - (m : Int) * (a / (m : Int)) := by omega
    rw [h3, Rat.intCast_sub, Rat.intCast_mul, Rat.intCast_natCast]
  rw [h2]
  grind
theorem q_pow (q : Rat) (k : Nat) : ((q.num * 2 ^ k : Int) : Rat) / ((q.den : Nat) : Rat) = q * p2 k := by
  rw [Rat.intCast_mul, p2_int, num_eq]
  have := den_ne q; grind
theorem se_raw_rest : SeF K (t_raw_rest K) 4 (fun a : Rat × Nat => [fr a.1, .int a.2]) (fun a => Sm a.1) fun a => fr (fracQ (a.1 * p2 a.2)) := fun dk ⟨q, k⟩ h => by
  have hs : Sm q := h
  refine q_unp2 (ev_var rfl) (s_ret (ev_lowest (ev_opD (ev_opD (ev_var rfl) (ev_power_by (ev_var rfl) (ev_var rfl) q.den_pos hs.1) (opd_mulX (cmulx hs.2 (b := 4000) ?_))) (ev_var rfl) (opd_mod (den_posI q))) (ev_var rfl) (den_posI q) ?_ ?_))
  · rw [Int.natAbs_natCast]
    exact Nat.lt_of_lt_of_le (Nat.mod_lt _ q.den_pos) (Nat.le_of_lt hs.1)
  · have : q.den < 2 ^ 9000 := Nat.lt_of_lt_of_le hs.1 (Nat.pow_le_pow_right (by omega) (by omega))
    exact_mod_cast this
  · rw [modpow, Rat.intCast_natCast, frac_div _ _ q.den_pos, q_pow]
theorem ev_raw_rest {k : Nat} (h : EvD K dk ta Γ (fr q)) (h' : EvD K dk tb Γ (.int k)) (s : Sm q) : EvD K dk (tCall (sp_raw_rest K) [] E0 (tCons ta (tCons tb tNil))) Γ (fr (fracQ (q * p2 k))) := ev_callF (q, k) (ea2 h h') s
theorem dig_eq (q : Rat) (k : Nat) : q.num * 2 ^ k % (q.den : Int) * 2 / (q.den : Int) = dig q (k + 1) := by
  have h0 := q.den_pos
  show _ = (q * p2 (k + 1)).floor - 2 * (q * p2 k).floor
  rw [← q_pow q k, ← q_pow q (k + 1), floor_div _ _ h0, floor_div _ _ h0]
  have e : q.num * 2 ^ (k + 1) = 2 * (q.num * 2 ^ k) := by rw [Int.pow_succ]; grind
  rw [e]
  generalize q.num * 2 ^ k = a
  have h1 := Int.mul_ediv_add_emod a (q.den : Int)
  have e2 : 2 * a = a % (q.den : Int) * 2 + (q.den : Int) * (2 * (a / (q.den : Int))) := by grind
  rw [e2, Int.add_mul_ediv_left _ _ (by omega)]
  omega
theorem se_raw_digit : SeF K (t_raw_digit K) 4 (fun a : Rat × Nat => [fr a.1, .int a.2]) (fun a => Sm a.1 ∧ 1 ≤ a.2) fun a => .int (dig a.1 a.2) := fun dk ⟨q, k⟩ ⟨h, hk⟩ => by
  have hs : Sm q := h
  have hk' : 1 ≤ k := hk
  obtain ⟨k, rfl⟩ : ∃ j, k = j + 1 := ⟨k - 1, by omega⟩
  have e1 : (((k + 1 : Nat) : Int) - 1) = ((k : Nat) : Int) := by omega
  refine q_unp2 (ev_var rfl) (s_ret ((ev_opD (ev_opD (ev_opD (ev_opD (ev_var rfl) (ev_power_by ((ev_opD (ev_var rfl) ev_int opd_sub).cast (congrArg PyData.int e1)) (ev_var rfl) q.den_pos hs.1) (opd_mulX (cmulx hs.2 (b := 4000) ?_))) (ev_var rfl) (opd_mod (den_posI q))) ev_int (opd_mulX (cmulx (a := 4000) (b := 2) ?_ (by decide)))) (ev_var rfl) (opd_div (cdivw (den_posI q) ?_))).cast ?_))
  · rw [Int.natAbs_natCast]
    exact Nat.lt_of_lt_of_le (Nat.mod_lt _ q.den_pos) (Nat.le_of_lt hs.1)
  · have h1 := Int.emod_nonneg (q.num * ((2 ^ k % q.den : Nat) : Int)) (show (q.den : Int) ≠ 0 by have := den_posI q; omega)
    have h2 := Int.emod_lt_of_pos (q.num * ((2 ^ k % q.den : Nat) : Int)) (den_posI q)
    have h3 := hs.1
    show (q.num * ((2 ^ k % q.den : Nat) : Int) % (q.den : Int)).natAbs < 2 ^ 4000
    omega
  · rw [Int.natAbs_natCast]
    exact Nat.lt_of_lt_of_le hs.1 (Nat.pow_le_pow_right (by omega) (by omega))
  · show PyData.int _ = PyData.int (dig q (k + 1))
    rw [modpow, dig_eq]
theorem ev_raw_digit {k : Nat} (h : EvD K dk ta Γ (fr q)) (h' : EvD K dk tb Γ (.int k)) (s : Sm q) (hk : 1 ≤ k) : EvD K dk (tCall (sp_raw_digit K) [] E0 (tCons ta (tCons tb tNil))) Γ (.int (dig q k)) := ev_callF (q, k) (ea2 h h') ⟨s, hk⟩
end
end K39

set_option Elab.async false
set_option linter.all false
set_option maxRecDepth 100000
set_option maxHeartbeats 1000000
set_option exponentiation.threshold 20000
/-! SE5: tables -/
namespace K39
open PySem PySem.Spec PyProof.Rows L2
section
variable {K : PySem.W.Frag} {dk : Dk} {Γ : List K39.G} {ta tb tc te : TE} {x y : PyData} {q r : Rat}
theorem frac_nonneg (x : Rat) : 0 ≤ fracQ x := by unfold fracQ; have := Rat.floor_le x; grind
theorem frac_lt (x : Rat) : fracQ x < 1 := by
  unfold fracQ
  have := Rat.lt_floor_add_one x
  rw [Rat.intCast_add, Rat.intCast_one] at this
  grind
theorem In.frac {N : Nat} {q : Rat} (h : In N q) : In N (fracQ q) := h.sub (In.int h.1 _)
theorem In.mulp {N : Nat} {q : Rat} (h : In N q) (k : Nat) : In N (q * p2 k) := by
  have := h.mul (In.int (N := 1) (by omega) ((2 ^ k : Nat) : Int))
  rw [Nat.mul_one, Rat.intCast_natCast] at this
  exact this
theorem Tab.totF {n : Nat} {f : Nat → Rat} (h : Tab n f) (t : Nat) : Tot (mp n fun i => fracQ (f i * p2 t)) := by
  obtain ⟨N, hN, hi⟩ := h.ex
  refine ⟨by rw [mp_len]; have := h.n8; omega, N, Nat.lt_trans hN (Nat.pow_lt_pow_right (by omega) (by omega)), fun q hq => ?_⟩
  obtain ⟨i, hlt, rfl⟩ := mp_mem.mp hq
  exact ⟨((hi i hlt).mulp t).frac, frac_nonneg _, Rat.le_trans (Rat.le_of_lt (frac_lt _)) one_le_p2⟩
/-- [e for x in table]: fractions -/
theorem em_tab {n : Nat} {f g : Nat → Rat} {i : Nat} (h : EvD K dk ta Γ (tabD n f)) (hn : n ≤ 1000) (hb : ∀ j, j < n → EvD K dk te ((wipeG Γ [i]).set i (.dat (fr (f j)))) (fr (g j))) : EvM K dk (tLc (iSeq K ta) (gName i) tYes te [i]) Γ (fun r => r = (mp n g).map fr) := by
  rw [mp_map]
  refine em_map _ (ei_seq h rfl) (by rw [mp_len]; exact hn) (by rw [mp_len, mp_len]) fun j x y hx hy => ?_
  obtain ⟨hj, rfl⟩ := mp_get' hx
  obtain ⟨_, rfl⟩ := mp_get' hy
  exact ⟨_, tg_name (by simp), hb j hj⟩
theorem se_raw_floor : SeF K (t_raw_floor K) 3 (fun a : (Nat × (Nat → Rat)) × Nat => [tabD a.1.1 a.1.2, .int a.2]) (fun a => Tab a.1.1 a.1.2 ∧ a.2 ≤ 300) fun a => fr (floQ a.1.1 a.1.2 a.2) := fun dk ⟨⟨n, f⟩, t⟩ ⟨h, ht⟩ => by
  have h' : Tab n f := h
  have hT := h'.totF t
  have hsum := hT.part n
  rw [List.take_of_length_le (by rw [mp_len]; exact Nat.le_refl _)] at hsum
  refine s_ret ((ev_shifted (ev_totalL (em_tab (g := fun i => fracQ (f i * p2 t)) (ev_var rfl) (Nat.le_trans h.n8 (by omega)) fun j hj => ev_raw_rest (ev_var rfl) (ev_var rfl) (h'.sm hj)) hT) (ev_var rfl) hsum ht).cast ?_)
  rw [sum_mp]
  rfl
theorem ev_raw_floor {n t : Nat} {f : Nat → Rat} (h : EvD K dk ta Γ (tabD n f)) (h' : EvD K dk tb Γ (.int t)) (T : Tab n f) (ht : t ≤ 300) : EvD K dk (tCall (sp_raw_floor K) [] E0 (tCons ta (tCons tb tNil))) Γ (fr (floQ n f t)) := ev_callF ((n, f), t) (ea2 h h') ⟨T, ht⟩
theorem se_floor_at : SeF K (t_floor_at K) 2 (fun a : (Nat × (Nat → Rat)) × Nat => [tabD a.1.1 a.1.2, .int a.2]) (fun a => Tab a.1.1 a.1.2 ∧ a.2 ≤ 300) fun a => fr (floQ a.1.1 a.1.2 a.2) := fun dk ⟨⟨n, f⟩, t⟩ ⟨h, ht⟩ =>
  q_drop (ev_need_table (ev_var rfl) h) (q_drop (ev_need_count (ev_var rfl)) (s_ret (ev_raw_floor (ev_var rfl) (ev_var rfl) h ht)))
theorem ev_floor_at {n t : Nat} {f : Nat → Rat} (h : EvD K dk ta Γ (tabD n f)) (h' : EvD K dk tb Γ (.int t)) (T : Tab n f) (ht : t ≤ 300) : EvD K dk (tCall (sp_floor_at K) [] E0 (tCons ta (tCons tb tNil))) Γ (fr (floQ n f t)) := ev_callF ((n, f), t) (ea2 h h') ⟨T, ht⟩
theorem lot_tot {n : Nat} {f : Nat → Rat} (h : Tab n f) (l : Nat → Bool) : Tot ((lotL n l).map f) := by
  obtain ⟨a, N, b, c⟩ := h.tot
  have h8 := h.n8
  refine ⟨by rw [List.length_map]; have := lot_lenle n l; omega, N, b, fun q hq => ?_⟩
  obtain ⟨i, hi, rfl⟩ := List.mem_map.mp hq
  exact c _ (mp_mem.mpr ⟨i, (lot_mem.mp hi).1, rfl⟩)
/-- [table[i] for i in lot] -/
theorem em_lot {n : Nat} {f : Nat → Rat} {l : Nat → Bool} (hn : n ≤ 8) (h0 : Γ[0]? = some (.dat (tabD n f))) (h1 : Γ[1]? = some (.dat (lotD n l))) (hG : ∀ d, ((wipeG Γ [2]).set 2 (.dat d))[0]? = Γ[0]? ∧ ((wipeG Γ [2]).set 2 (.dat d))[2]? = some (.dat d)) :
    EvM K dk (tLc (iSeq K (tVar 1)) (gName 2) tYes (tOp (rIx K) (tVar 0) (tVar 2)) [2]) Γ (fun r => r = ((lotL n l).map f).map fr) := by
  refine em_map _ (ei_seq (ev_var h1) rfl) (by rw [List.length_map]; exact Nat.le_trans (lot_lenle n l) (by omega)) (by simp) fun j x y hx hy => ⟨_, tg_name (by simp), ?_⟩
  rw [List.getElem?_map] at hx
  rw [List.map_map, List.getElem?_map] at hy
  cases hq : (lotL n l)[j]? with
  | none => rw [hq] at hx; cases hx
  | some i =>
    rw [hq] at hx hy
    cases hx; cases hy
    have hi := (lot_mem.mp (List.mem_of_getElem? hq)).1
    exact ev_opD (ev_var ((hG _).1.trans h0)) (ev_var (hG _).2) (opd_ixT (atN (mp_get hi)))
theorem se_raw_lot_chance : SeF K (t_raw_lot_chance K) 3 (fun a : (Nat × (Nat → Rat)) × (Nat → Bool) => [tabD a.1.1 a.1.2, lotD a.1.1 a.2]) (fun a => Tab a.1.1 a.1.2) fun a => fr (lotS a.1.1 a.1.2 a.2) := fun dk ⟨⟨n, f⟩, l⟩ h => by
  refine s_ret ((ev_totalL (em_lot h.n8 rfl rfl fun d => ⟨rfl, rfl⟩) (lot_tot h l)).cast ?_)
  rw [lot_sum]
theorem se_law_lot_chance : SeF K (t_law_lot_chance K) 3 (fun a : (Nat × (Nat → Rat)) × (Nat → Bool) => [tabD a.1.1 a.1.2, lotD a.1.1 a.2]) (fun a => Tab a.1.1 a.1.2) fun a => fr (lotS a.1.1 a.1.2 a.2) := fun dk ⟨⟨n, f⟩, l⟩ h => by
  refine s_ret ((ev_law_totalL (em_lot h.n8 rfl rfl fun d => ⟨rfl, rfl⟩) (lot_tot h l)).cast ?_)
  rw [lot_sum]
theorem ev_raw_lot_chance {n : Nat} {f : Nat → Rat} {l : Nat → Bool} (h : EvD K dk ta Γ (tabD n f)) (h' : EvD K dk tb Γ (lotD n l)) (T : Tab n f) : EvD K dk (tCall (sp_raw_lot_chance K) [] E0 (tCons ta (tCons tb tNil))) Γ (fr (lotS n f l)) := ev_callF ((n, f), l) (ea2 h h') T
theorem ev_law_lot_chance {n : Nat} {f : Nat → Rat} {l : Nat → Bool} (h : EvD K dk ta Γ (tabD n f)) (h' : EvD K dk tb Γ (lotD n l)) (T : Tab n f) : EvD K dk (tCall (sp_law_lot_chance K) [] E0 (tCons ta (tCons tb tNil))) Γ (fr (lotS n f l)) := ev_callF ((n, f), l) (ea2 h h') T
theorem lotS_nn {n : Nat} {f : Nat → Rat} (h : ∀ i, i < n → 0 ≤ f i) (l : Nat → Bool) : 0 ≤ lotS n f l := sm_nonneg fun i hi => by
  split
  · exact h i hi
  · grind
theorem lotS_le {n : Nat} {f : Nat → Rat} (h : ∀ i, i < n → 0 ≤ f i) (l : Nat → Bool) : lotS n f l ≤ sm n f := sm_le fun i hi => by
  have := h i hi
  split <;> grind
theorem lotS_In {n N : Nat} {f : Nat → Rat} (h0 : 0 < N) (h : ∀ i, i < n → In N (f i)) (l : Nat → Bool) : In N (lotS n f l) := In.sm h0 fun i hi => by
  split
  · exact h i hi
  · exact In.zero h0
theorem Tab.pos {n : Nat} {f : Nat → Rat} (h : Tab n f) {N : Nat} (hi : ∀ i, i < n → In N (f i)) : 0 < N := (hi 0 (by have := h.n1; omega)).1
/-- a lot's share: small, and its top, too -/
theorem lot_sm {n : Nat} {f : Nat → Rat} (h : Tab n f) (l : Nat → Bool) : Sm (lotS n f l) ∧ (lotS n f l).num < 2 ^ 4000 := by
  obtain ⟨N, hN, hi⟩ := h.ex
  have h1 : lotS n f l ≤ 1 := by rw [← h.one]; exact lotS_le h.nn l
  have h0 := lotS_nn h.nn l
  have hI := lotS_In (h.pos hi) hi l
  have hd := hI.den
  refine ⟨Sm.of hI (Nat.lt_trans hN (Nat.pow_lt_pow_right (by omega) (by omega))) h0 (Rat.le_trans h1 (p2_one 200)), ?_⟩
  have : (lotS n f l).num ≤ (lotS n f l).den := by
    have := Rat.mul_le_mul_of_nonneg_right h1 (Rat.le_of_lt (den_pos (lotS n f l)))
    rw [← num_eq] at this
    have e : ((lotS n f l).num : Rat) ≤ (((lotS n f l).den : Int) : Rat) := by rw [Rat.intCast_natCast]; grind
    exact Rat.intCast_le_intCast.mp e
  have h3 : ((lotS n f l).den : Int) < 2 ^ 4000 := by
    have : (lotS n f l).den < 2 ^ 4000 := Nat.lt_of_le_of_lt hd (Nat.lt_trans hN (Nat.pow_lt_pow_right (by omega) (by omega)))
    exact_mod_cast this
  omega
theorem lotS_pos {n : Nat} {f : Nat → Rat} (h : Tab n f) {l : Nat → Bool} (hne : lotS n f l ≠ 0) : 0 < lotS n f l := by
  have := lotS_nn h.nn l
  grind
/-- tuple([over(chance, whole) if i in lot else ZERO for i, chance in enumerate(table)]) -/
theorem se_raw_given (Z : Zo K) : SeF K (t_raw_given K) 5 (fun a : (Nat × (Nat → Rat)) × (Nat → Bool) => [tabD a.1.1 a.1.2, lotD a.1.1 a.2]) (fun a => Tab a.1.1 a.1.2 ∧ lotS a.1.1 a.1.2 a.2 ≠ 0) fun a => tabD a.1.1 fun i => if a.2 i then a.1.2 i / lotS a.1.1 a.1.2 a.2 else 0 := fun dk ⟨⟨n, f⟩, l⟩ ⟨h, hne⟩ => by
  have h' : Tab n f := h
  obtain ⟨s1, s2⟩ := lot_sm h' l
  refine q_set (ev_raw_lot_chance (ev_var rfl) (ev_var rfl) h) (s_ret (ev_tupL (em_map _ (ei_enum (ea1 (ev_var rfl)) rfl) (by rw [enumD_len, mp_len]; exact Nat.le_trans h.n8 (by omega)) (by rw [mp_len, enumD_len, mp_len]) fun i x y hx hy => ?_)))
  obtain ⟨e, he, rfl⟩ := enumD_get hx
  obtain ⟨hi, rfl⟩ := mp_get' he
  obtain ⟨_, rfl⟩ := mp_get' hy
  refine ⟨_, tg_two (by simp) (by simp), ev_if (et_testB ((ev_opD (ev_var rfl) ((ev_var rfl).cast (lotD_ints n l)) opd_inI).cast (by rw [lot_memI hi]))) (fun hl => ?_) fun hl => ?_⟩
  · have hl' : l i = true := hl.symm
    exact (ev_over (ev_var rfl) (ev_var rfl) (h'.sm hi) s1 (lotS_pos h' hne) s2).cast (by simp only [hl', if_true])
  · have hl' : l i = false := hl.symm
    exact (ev_zero Z).cast (by simp [hl'])
theorem ev_raw_given {n : Nat} {f : Nat → Rat} {l : Nat → Bool} (h : EvD K dk ta Γ (tabD n f)) (h' : EvD K dk tb Γ (lotD n l)) (T : Tab n f) (hne : lotS n f l ≠ 0) : EvD K dk (tCall (sp_raw_given K) [] E0 (tCons ta (tCons tb tNil))) Γ (tabD n fun i => if l i then f i / lotS n f l else 0) := ev_callF ((n, f), l) (ea2 h h') ⟨T, hne⟩
/-- [x if p for ..] by a filter of places -/
theorem filt_sum (n : Nat) (p : Nat → Bool) (f : Nat → Rat) : ((mp n fun j => if p j then some (fr (f j)) else none).filterMap id) = ((lotL n p).map f).map fr := by
  unfold mp lotL
  rw [List.filterMap_map, List.map_map]
  induction (List.range n) with
  | nil => rfl
  | cons a l ih =>
    rw [List.filterMap_cons, List.filter_cons]
    have ih' : List.filterMap (fun j => if p j = true then some (fr (f j)) else none) l = List.map (fr ∘ f) (List.filter p l) := ih
    cases h : p a <;> simp [h, ih']
theorem se_raw_renamed : SeF K (t_raw_renamed K) 6 (fun a : (Nat × (Nat → Rat)) × (Nat → Nat) × Nat => [tabD a.1.1 a.1.2, tupI a.1.1 a.2.1, .int a.2.2]) (fun a => Tab a.1.1 a.1.2 ∧ a.2.2 ≤ 8) fun a => tabD a.2.2 fun i => sm a.1.1 fun j => if a.2.1 j = i then a.1.2 j else 0 := fun dk ⟨⟨n, f⟩, nm, m⟩ ⟨h, hm⟩ => by
  have h' : Tab n f := h
  have hm' : m ≤ 8 := hm
  dsimp only
  refine s_ret (ev_tupL (em_map _ (ei_range1 (ea1 (ev_var rfl)) (by show -(2 ^ 62) ≤ (m : Int); omega) (by show (m : Int) < 2 ^ 62; omega)) (by rw [rangeD_len]; show (m : Int).toNat ≤ 1000; omega) (by rw [mp_len, rangeD_len]; show m = (m : Int).toNat; omega) fun i x y hx hy => ?_))
  obtain ⟨hi, rfl⟩ := rangeD_get hx
  obtain ⟨_, rfl⟩ := mp_get' hy
  refine ⟨_, tg_name (by simp), (ev_totalL ((em_filter (mp n fun j => if (fun j => decide (nm j = i)) j then some (fr (f j)) else none) (ei_zip (ea2 (ev_var rfl) (ev_var rfl)) rfl rfl) (by rw [zipD_len, mp_len, mp_len]; have := h'.n8; omega) (by rw [zipD_len, mp_len, mp_len, mp_len]; omega) fun j x o hx ho => ?_).imp fun ds e => by rw [e]; exact filt_sum n (fun j => decide (nm j = i)) f) (lot_tot h' _)).cast ?_⟩
  · obtain ⟨a, b, ha, hb, rfl⟩ := zipD_get hx
    obtain ⟨hj, rfl⟩ := mp_get' ha
    obtain ⟨_, rfl⟩ := mp_get' hb
    obtain ⟨_, rfl⟩ := mp_get' ho
    refine ⟨_, tg_two (by simp) (by simp), (et_testB (ev_opD (ev_var rfl) (ev_var rfl) opd_eqI)).cast ?_, fun y hy => ?_⟩
    · by_cases e : nm j = i
      · simp [e]
      · simp [e]; omega
    · by_cases e : nm j = i
      · simp [e] at hy
        subst hy
        exact ev_var rfl
      · simp [e] at hy
  · rw [lot_sum]
    unfold lotS
    show fr _ = fr (sm n fun j => if nm j = i then f j else 0)
    congr 1
    exact sm_congr fun j _ => by simp
theorem ev_raw_renamed {n m : Nat} {f : Nat → Rat} {nm : Nat → Nat} (h : EvD K dk ta Γ (tabD n f)) (h' : EvD K dk tb Γ (tupI n nm)) (h3 : EvD K dk tc Γ (.int m)) (T : Tab n f) (hm : m ≤ 8) : EvD K dk (tCall (sp_raw_renamed K) [] E0 (tCons ta (tCons tb (tCons tc tNil)))) Γ (tabD m fun i => sm n fun j => if nm j = i then f j else 0) := ev_callF ((n, f), nm, m) (ea3 h h' h3) ⟨T, hm⟩
end
end K39

set_option Elab.async false
set_option linter.all false
set_option maxRecDepth 100000
set_option maxHeartbeats 1000000
set_option exponentiation.threshold 20000
/-! SE6: mixed tables; figures of small fractions -/
namespace K39
open PySem PySem.Spec PyProof.Rows L2
section
variable {K : PySem.W.Frag} {dk : Dk} {Γ : List K39.G} {ta tb tc te : TE} {x y : PyData} {q r : Rat}
theorem mp_get2 {n i : Nat} {f : Nat → PyData} (h : i < n) : atI (mp n f) (i : Int) = some (f i) := atN (mp_get (f := f) h)
theorem se_raw_mixed : SeF K (t_raw_mixed K) 6 (fun a : (Nat × (Nat → Rat)) × Nat × (Nat → Nat → Rat) => [tabD a.1.1 a.1.2, .tuple (mp a.1.1 fun j => tabD a.2.1 (a.2.2 j))]) (fun a => MixOk a.1.1 a.1.2 a.2.1 a.2.2) fun a => tabD a.2.1 fun i => sm a.1.1 fun j => a.1.2 j * a.2.2 j i := fun dk ⟨⟨k, f⟩, n, g⟩ h => by
  obtain ⟨hf, hg, N, hN, hI⟩ : MixOk k f n g := h
  have k1 := hf.n1
  have k8 := hf.n8
  have n8 : n ≤ 8 := (hg 0 (by omega)).n8
  dsimp only
  have tot : ∀ i, i < n → Tot (mp k fun j => f j * g j i) := fun i hi => by
    refine ⟨by rw [mp_len]; omega, N, Nat.lt_trans hN (Nat.pow_lt_pow_right (by omega) (by omega)), fun q hq => ?_⟩
    obtain ⟨j, hj, rfl⟩ := mp_mem.mp hq
    have a1 := hf.nn j hj
    have a2 := hf.le1 hj
    have a3 := (hg j hj).nn i hi
    have a4 := (hg j hj).le1 hi
    refine ⟨hI j hj i hi, Rat.mul_nonneg a1 a3, Rat.le_trans ?_ one_le_p2⟩
    have := Rat.mul_le_mul_of_nonneg_right a2 a3
    grind
  refine q_setMD (em_lst ea_nil fun ds e => by rw [e]; simp) (q_for (ei_range1 (n := (n : Int)) (ea1 ((ev_lenT (ev_opD (ev_var rfl) ev_int (opd_ixT (d := tabD n (g 0)) (mp_get2 (i := 0) (by omega))))).cast ?_)) (by omega) (by omega))
    (fun i Γ => ∃ u, i ≤ n ∧ Γ = [.dat (tabD k f), .dat (.tuple (mp k fun j => tabD n (g j))), .mut (mp i fun i => fr (sm k fun j => f j * g j i)), u, .no, .no]) ⟨_, Nat.zero_le _, rfl⟩ (fun i x Γ1 hx => ?_) ?_)
  · rw [mp_len]
  · rintro ⟨u, hin, rfl⟩
    obtain ⟨hi, rfl⟩ := rangeD_get hx
    have hi' : i < n := by omega
    refine ⟨_, [3], tg_name (by simp), s_end (q_app rfl (by rw [mp_len]; omega) (ev_totalL (qs := mp k fun j => f j * g j i) (em_map _ (ei_zip (ea2 (ev_var rfl) (ev_var rfl)) rfl rfl) (by rw [zipD_len, mp_len, mp_len]; omega) (by rw [zipD_len, mp_len, mp_len, List.length_map, mp_len]; omega) fun j x y hx hy => ?_) (tot i hi')) fun d e => ?_)⟩
    · obtain ⟨a, b, ha, hb, rfl⟩ := zipD_get hx
      obtain ⟨hj, rfl⟩ := mp_get' ha
      obtain ⟨_, rfl⟩ := mp_get' hb
      rw [mp_map] at hy
      obtain ⟨_, rfl⟩ := mp_get' hy
      refine ⟨_, tg_two (by simp) (by simp), ev_times (ev_var rfl) (ev_opD (ev_var rfl) (ev_var rfl) (opd_ixT (d := fr (g j i)) ?_)) (hf.sm hj) ((hg j hj).sm hi')⟩
      rw [Int.zero_add]
      exact mp_get2 hi'
    · subst e
      refine s_next ⟨.dat (.int (0 + (i : Int))), hi', ?_⟩
      rw [sum_mp, mp_succ]
      rfl
  · rintro Γ1 ⟨u, _, rfl⟩
    refine q_freeze (i := 2) rfl (s_ret ((ev_CB (ea1 (ev_var rfl)) cd_tupL).imp fun d e => ?_))
    rw [e, rangeD_len]
    rfl
theorem ev_raw_mixed {k n : Nat} {f : Nat → Rat} {g : Nat → Nat → Rat} (h : EvD K dk ta Γ (tabD k f)) (h' : EvD K dk tb Γ (.tuple (mp k fun j => tabD n (g j)))) (m : MixOk k f n g) : EvD K dk (tCall (sp_raw_mixed K) [] E0 (tCons ta (tCons tb tNil))) Γ (tabD n fun i => sm k fun j => f j * g j i) := ev_callF ((k, f), n, g) (ea2 h h') m
/-! figures -/
theorem twos_facts : ∀ m, m < 17 → 1 ≤ m → (m % 2 = 0 → twosN m = twosN (m / 2) + 1) ∧ (m % 2 ≠ 0 → twosN m = 0) := by decide
theorem se_twos_of : SeF K (t_twos_of K) 2 (fun n : Nat => [.int n]) (fun n => 1 ≤ n ∧ n ≤ 16) fun n => .int (twosN n) := fun dk n ⟨h1, h16⟩ => by
  refine q_set ev_int (q_while (fun p : Nat × Nat => [K39.G.dat (.int p.1), .dat (.int p.2)]) (fun p => 1 ≤ p.1 ∧ p.1 ≤ 16 ∧ twosN n = p.2 + twosN p.1) (fun p => p.1) (n, 0) rfl ⟨h1, h16, by simp⟩ fun ⟨m, f⟩ ⟨hm1, hm16, he⟩ => ?_)
  have hm1' : 1 ≤ m := hm1
  have hm16' : m ≤ 16 := hm16
  have he' : twosN n = f + twosN m := he
  have F := twos_facts m (by omega) hm1'
  refine ⟨_, et_testB (ev_opD (ev_opD (ev_var rfl) ev_int (opd_mod (by decide))) ev_int opd_eqI), fun hy => ?_, fun hy => ?_⟩
  · have hy' : m % 2 = 0 := by simp at hy; omega
    have := F.1 hy'
    refine q_set (ev_opD (ev_var rfl) ev_int (opd_div (cdivw (by decide) (by decide)))) (s_end (q_aug rfl ev_int (s_next ⟨(m / 2, f + 1), rfl, ⟨by show 1 ≤ m / 2; omega, by show m / 2 ≤ 16; omega, by show twosN n = f + 1 + twosN (m / 2); omega⟩, by show m / 2 < m; omega⟩)))
  · have hy' : m % 2 ≠ 0 := by simp at hy; omega
    have := F.2 hy'
    refine s_ret ((ev_var rfl).cast ?_)
    have : f = twosN n := by omega
    rw [this]
theorem ev_twos_of {n : Nat} (h : EvD K dk te Γ (.int n)) (h1 : 1 ≤ n) (h16 : n ≤ 16) : EvD K dk (tCall (sp_twos_of K) [] E0 (tCons te tNil)) Γ (.int (twosN n)) := ev_callF n (ea1 h) ⟨h1, h16⟩
theorem rem_succ (a b i : Nat) : remF a b i * 2 % b = remF a b (i + 1) := by
  unfold remF
  rw [Nat.mod_mul_mod, Nat.mul_assoc, ← Nat.pow_succ]
def perB (a b : Nat) : Bool := decide (perF a b ≤ 12) && stopF a b (twosN b) (perF a b) && (List.range (perF a b)).all fun j => !stopF a b (twosN b) j
theorem per_all : ((List.range 17).all fun b => (List.range 17).all fun a => b == 0 || decide (b < a) || perB a b) = true := by decide +kernel
theorem per_facts (b : Nat) (hb : b < 17) (a : Nat) (ha : a < 17) (h1 : 1 ≤ b) (h2 : a ≤ b) : perF a b ≤ 12 ∧ stopF a b (twosN b) (perF a b) = true ∧ ∀ j, j < perF a b → stopF a b (twosN b) j = false := by
  have h := List.all_eq_true.mp (List.all_eq_true.mp per_all b (List.mem_range.mpr hb)) a (List.mem_range.mpr ha)
  have e1 : (b == 0) = false := by simp; omega
  have e2 : decide (b < a) = false := by simp; omega
  rw [e1, e2] at h
  simp only [Bool.false_or] at h
  unfold perB at h
  simp only [Bool.and_eq_true, decide_eq_true_eq, List.all_eq_true, List.mem_range, Bool.not_eq_true'] at h
  exact ⟨h.1.1, h.1.2, h.2⟩
theorem shaped_ints (ns : List Int) : SeqAt.shaped (.list (ns.map PyData.int)) = true := by
  have h2 : ∀ ns : List Int, PyData.depthAll (ns.map PyData.int) ≤ 1 := fun ns => by induction ns with | nil => decide | cons n ns ih => simp [PyData.depthAll, PyData.depth, ih]
  have h1 : ∀ ns : List Int, PyData.canLayAll0 (ns.map PyData.int) = true := fun ns => by induction ns with | nil => rfl | cons n ns ih => simp [PyData.canLayAll0, PyData.canLay0, ih]
  simp [SeqAt.shaped, PyData.canLay0, h1, PyData.depth]
  have := h2 ns
  omega
theorem eqv_nil (ds : List PyData) : PyData.eqv (.list ds) (.list []) = decide (ds.length = 0) := by
  cases ds <;> simp [PyData.eqv, PyData.eqvAll]
theorem rem_lt {a b i : Nat} (h : 1 ≤ b) : remF a b i < b := Nat.mod_lt _ (by omega)
theorem se_raw_figures : SeF K (t_raw_figures K) 8 (fun q : Rat => [fr q]) (fun q => Sml q) fun q => .tuple [.int (q.num.toNat / q.den : Nat), .tuple ((aheadL q.num.toNat q.den).map fun (i : Nat) => .int i), .tuple ((digitsL q.num.toNat q.den).map fun (i : Nat) => .int i)] := fun dk q h => by
  obtain ⟨hd, h0, h1⟩ : Sml q := h
  have hb : 1 ≤ q.den := q.den_pos
  generalize ha' : q.num.toNat = a
  have ha : q.num = (a : Int) := by omega
  generalize hb' : q.den = b at *
  have hab : a ≤ b := by omega
  obtain ⟨P1, P2, P3⟩ := per_facts b (by omega) a (by omega) hb hab
  have small : ∀ i, ((remF a b i : Nat) : Int).natAbs < 2 ^ 10 := fun i => by rw [Int.natAbs_natCast]; have := rem_lt (a := a) (i := i) hb; omega
  have fq : fr q = .tuple [.int (a : Int), .int (b : Int)] := by unfold fr; rw [ha, hb']
  have dg : ∀ i, ((remF a b i : Nat) : Int) * 2 / (b : Int) = ((digF a b i : Nat) : Int) := fun i => by unfold digF; rw [Int.natCast_ediv, Int.natCast_mul]; rfl
  have rm : ∀ i, ((remF a b i : Nat) : Int) * 2 % (b : Int) = ((remF a b (i + 1) : Nat) : Int) := fun i => by rw [← rem_succ, Int.natCast_emod, Int.natCast_mul]; rfl
  have stepq : ∀ {Γ : List K39.G} {i : Nat}, Γ[4]? = some (.dat (.int ((remF a b i : Nat) : Int))) → Γ[2]? = some (.dat (.int (b : Int))) → EvD K dk (tOp rDivW (tOp rMulX (tVar 4) (tC (.int 2))) (tVar 2)) Γ (.int ((digF a b i : Nat) : Int)) := fun g4 g2 =>
    (ev_opD (ev_opD (ev_var g4) ev_int (opd_mulX (cmulx (small _) (b := 2) (by decide)))) (ev_var g2) (opd_div (cdivw (by omega) (by rw [Int.natAbs_natCast]; exact Nat.lt_of_le_of_lt hd (by decide))))).cast (by rw [dg])
  have stepm : ∀ {Γ : List K39.G} {i : Nat}, Γ[4]? = some (.dat (.int ((remF a b i : Nat) : Int))) → Γ[2]? = some (.dat (.int (b : Int))) → EvD K dk (tOp rModP (tOp rMulX (tVar 4) (tC (.int 2))) (tVar 2)) Γ (.int ((remF a b (i + 1) : Nat) : Int)) := fun g4 g2 =>
    (ev_opD (ev_opD (ev_var g4) ev_int (opd_mulX (cmulx (small _) (b := 2) (by decide)))) (ev_var g2) (opd_mod (by omega))).cast (by rw [rm])
  have dl : ∀ {m : Nat} {f : Nat → Nat} {u : Nat}, u = f m → mp m (fun j => PyData.int ((f j : Nat) : Int)) ++ [PyData.int (u : Int)] = mp (m + 1) fun j => PyData.int ((f j : Nat) : Int) := fun {m f u} e => by rw [mp_succ, e]
  have w2 : twosN b ≤ 4 := (by decide : ∀ b, b < 17 → twosN b ≤ 4) b (by omega)
  refine q_unp2 (x := .int (a : Int)) (y := .int (b : Int)) ((ev_var rfl).cast fq) ?_
  refine q_par2M1 (by decide) (em_lst ea_nil fun ds e => by rw [e]; simp) ((ev_opD (ev_var rfl) (ev_var rfl) (opd_mod (by omega))).cast (y := .int ((remF a b 0 : Nat) : Int)) (by unfold remF; simp)) ?_
  refine q_for (ei_range1 (n := ((twosN b : Nat) : Int)) (ea1 (ev_twos_of (ev_var rfl) hb hd)) (by omega) (by omega))
    (fun i Γ => ∃ u, Γ = [.dat (fr q), .dat (.int (a : Int)), .dat (.int (b : Int)), .mut (mp i fun j => .int ((digF a b j : Nat) : Int)), .dat (.int ((remF a b i : Nat) : Int)), u, .no, .no]) ⟨_, rfl⟩ (fun i x Γ1 hx => ?_) ?_
  · rintro ⟨u, rfl⟩
    obtain ⟨hi, rfl⟩ := rangeD_get hx
    refine ⟨_, [5], tg_name (by simp), q_app rfl (by rw [mp_len]; omega) (stepq rfl rfl) fun d e => s_end (q_set (stepm rfl rfl) (s_next ⟨.dat (.int (0 + (i : Int))), ?_⟩))⟩
    subst e
    rw [dl rfl]
    rfl
  · rintro Γ1 ⟨u, rfl⟩
    rw [rangeD_len, Int.toNat_natCast]
    refine q_par2M1 (by decide) (em_lst ea_nil fun ds e => by rw [e]; simp) (ev_var rfl) ?_
    refine q_while (fun j : Nat => [K39.G.dat (fr q), .dat (.int (a : Int)), .dat (.int (b : Int)), .mut (mp (twosN b) fun j => .int ((digF a b j : Nat) : Int)), .dat (.int ((remF a b (twosN b + j) : Nat) : Int)), u, .mut (mp j fun j => .int ((digF a b (twosN b + j) : Nat) : Int)), .dat (.int ((remF a b (twosN b) : Nat) : Int))])
      (fun j => j ≤ perF a b) (fun j => perF a b - j) 0 rfl (Nat.zero_le _) fun j hj => ?_
    have mi : (mp j fun j => PyData.int ((digF a b (twosN b + j) : Nat) : Int)) = (mp j fun j => ((digF a b (twosN b + j) : Nat) : Int)).map PyData.int := by rw [mp_map]
    refine ⟨!stopF a b (twosN b) j, ?_, fun hs => ?_, fun hs => ?_⟩
    · refine (et_andB (et_testB (ev_opD (ev_var rfl) ev_int opd_neI)) fun _ => et_orB (a := decide (j = 0)) (et_thaw (i := 6) rfl ((et_testB (ev_opD (ev_var rfl) (em_lst ea_nil fun ds e => by rw [e]; simp).stillD (opd_eqD (by rw [mi]; exact shaped_ints _) (by decide)))).cast (by rw [eqv_nil, mp_len]))) fun _ => et_testB (ev_opD (ev_var rfl) (ev_var rfl) opd_neI)).cast ?_
      unfold stopF
      by_cases e1 : remF a b (twosN b + j) = 0
      · simp [e1]
      · by_cases e2 : j = 0
        · subst e2; simp; rfl
        · by_cases e3 : remF a b (twosN b + j) = remF a b (twosN b)
          · simp [e1, e2, e3]
          · have : ¬ ((remF a b (twosN b + j) : Nat) : Int) = ((remF a b (twosN b) : Nat) : Int) := by omega
            simp [e1, e2, e3, this]
    · have hs' : stopF a b (twosN b) j = false := by simpa using hs
      have hlt : j < perF a b := by
        rcases Nat.lt_or_ge j (perF a b) with z | z
        · exact z
        · have : j = perF a b := by omega
          rw [this, P2] at hs'
          cases hs'
      refine q_app rfl (by rw [mp_len]; omega) (stepq rfl rfl) fun d e => s_end (q_set (stepm rfl rfl) (s_next ⟨j + 1, ?_, hlt, by omega⟩))
      subst e
      rw [dl rfl]
      rfl
    · have hs' : stopF a b (twosN b) j = true := by simpa using hs
      have hje : j = perF a b := by
        rcases Nat.lt_or_ge j (perF a b) with z | z
        · rw [P3 j z] at hs'; cases hs'
        · omega
      subst hje
      refine q_freeze (i := 3) rfl (q_freeze (i := 6) rfl (s_ret ((ev_tup (ea3 (ev_opD (ev_var rfl) (ev_var rfl) (opd_div (cdivw (by omega) (by rw [Int.natAbs_natCast]; exact Nat.lt_of_le_of_lt hd (by decide))))) (ev_CB (ea1 (ev_var rfl)) cd_tupL) (ev_CB (ea1 (ev_var rfl)) cd_tupL)) (by simp)).cast ?_)))
      dsimp only
      rw [ha', hb']
      unfold aheadL digitsL
      rw [mp_map, mp_map]
      rw [Int.natCast_ediv]
theorem ev_raw_figures (h : EvD K dk te Γ (fr q)) (s : Sml q) : EvD K dk (tCall (sp_raw_figures K) [] E0 (tCons te tNil)) Γ (.tuple [.int (q.num.toNat / q.den : Nat), .tuple ((aheadL q.num.toNat q.den).map fun (i : Nat) => .int i), .tuple ((digitsL q.num.toNat q.den).map fun (i : Nat) => .int i)]) := ev_callF q (ea1 h) s
end
end K39

set_option Elab.async false
set_option linter.all false
set_option maxRecDepth 100000
set_option maxHeartbeats 1000000
set_option exponentiation.threshold 20000
/-! SE7: weights of small fractions -/
namespace K39
open PySem PySem.Spec PyProof.Rows L2
instance decSm (q : Rat) : Decidable (Sm q) := inferInstanceAs (Decidable (_ ∧ _))
/-- all weights' common bottom -/
def wN : Nat := 2 ^ 20 * (63 * 1023 * 4095 * 15 * 7) ^ 2
/-- what a small fraction's weight is made of, and what it is like -/
def wB (a b : Nat) : Bool :=
  let u := aheadL a b
  let d := digitsL a b
  let size : Rat := p2 d.length - 1
  let x1 : Rat := (u.length : Rat) * plainQ d
  let x2 := x1 + heavyQ d
  let r1 := (size + 1) / size
  let y1 : Rat := (d.length : Rat) * plainQ d
  let r2 := (size + 1) / (size * size)
  let z := x2 * r1 + y1 * r2
  decide (u.length ≤ 20) && decide (d.length ≤ 20) && decide (Sm (heavyQ u)) && decide (wN % (wF a b).den = 0) && decide (0 ≤ wF a b) && decide (wF a b ≤ 100) &&
    (d.length == 0 || (decide (1 ≤ 2 ^ d.length - 1) && decide (Sm (u.length : Rat)) && decide (Sm (d.length : Rat)) && decide (Sm (plainQ d)) && decide (Sm (heavyQ d)) && decide (Sm x1) && decide (Sm x2) && decide (Sm r1) && decide (Sm y1) && decide (Sm r2) && decide (Sm (x2 * r1)) && decide (Sm (y1 * r2)) && decide (Sm z) &&
      decide (Sm (z / p2 u.length)) && decide (r1.num = (2 ^ d.length : Nat)) && decide (r1.den = 2 ^ d.length - 1)))
theorem w_all : ((List.range 17).all fun b => (List.range 17).all fun a => b == 0 || decide (b < a) || wB a b) = true := by decide +kernel
theorem w_facts {a b : Nat} (hb : b < 17) (h1 : 1 ≤ b) (h2 : a ≤ b) : wB a b = true := by
  have h := List.all_eq_true.mp (List.all_eq_true.mp w_all b (List.mem_range.mpr hb)) a (List.mem_range.mpr (by omega))
  have e1 : (b == 0) = false := by simp; omega
  have e2 : decide (b < a) = false := by simp; omega
  rw [e1, e2] at h
  simpa only [Bool.false_or] using h
section
variable {K : PySem.W.Frag} {dk : Dk} {Γ : List K39.G} {ta tb tc te : TE} {x y : PyData} {q r : Rat}
theorem sm_natS (f : Nat → Nat) (i : Nat) : sm (i + 1) f = sm i f + f i := rfl
theorem se_sums_of : SeF K (t_sums_of K) 6 (fun a : List Nat => [.tuple (a.map fun (i : Nat) => .int i)]) (fun a => a.length ≤ 20) fun a => .tuple [fr (plainQ a), fr (heavyQ a)] := fun dk bits h => by
  have h' : bits.length ≤ 20 := h
  generalize hP : (fun i => if bits.getD i 0 = 1 then 2 ^ (bits.length - 1 - i) else 0) = P
  generalize hQ : (fun i => if bits.getD i 0 = 1 then (i + 1) * 2 ^ (bits.length - 1 - i) else 0) = Q
  refine q_par3 (ea3 ((ev_lenT (ev_var rfl)).cast (y := .int ((bits.length : Nat) : Int)) (by rw [List.length_map])) ev_int ev_int) (q_for (ei_enum (ea1 (ev_var rfl)) rfl)
    (fun i Γ => ∃ u v, Γ = [.dat (.tuple (bits.map fun (i : Nat) => .int i)), .dat (.int ((bits.length : Nat) : Int)), .dat (.int ((sm i P : Nat) : Int)), .dat (.int ((sm i Q : Nat) : Int)), u, v]) ⟨_, _, rfl⟩ (fun i x Γ1 hx => ?_) ?_)
  · rintro ⟨u, v, rfl⟩
    obtain ⟨e, he, rfl⟩ := enumD_get hx
    rw [List.getElem?_map] at he
    cases hq : bits[i]? with
    | none => rw [hq] at he; cases he
    | some bit =>
      rw [hq] at he
      cases he
      have hi : i < bits.length := len_lt hq
      have hg : bits.getD i 0 = bit := by rw [List.getD_eq_getElem?_getD, hq]; rfl
      have hP' : sm (i + 1) P = sm i P + if bit = 1 then 2 ^ (bits.length - 1 - i) else 0 := by rw [sm_natS, ← hP]; dsimp only; rw [hg]
      have hQ' : sm (i + 1) Q = sm i Q + if bit = 1 then (i + 1) * 2 ^ (bits.length - 1 - i) else 0 := by rw [sm_natS, ← hQ]; dsimp only; rw [hg]
      have sub : ∀ {Γ : List K39.G}, Γ[1]? = some (.dat (.int ((bits.length : Nat) : Int))) → Γ[4]? = some (.dat (.int (i : Int))) → EvD K dk (tOp rMinus (tOp rMinus (tVar 1) (tC (.int 1))) (tVar 4)) Γ (.int ((bits.length - 1 - i : Nat) : Int)) := fun g1 g4 =>
        (ev_opD (ev_opD (ev_var g1) ev_int opd_sub) (ev_var g4) opd_sub).cast (congrArg PyData.int (by omega))
      refine ⟨_, [4, 5], tg_two (by simp) (by simp), s_end (q_ifB (et_testB (ev_opD (ev_var rfl) ev_int opd_eqI)) (fun hb => ?_) fun hb => ?_)⟩
      · have hb' : bit = 1 := by simp at hb; omega
        refine q_assoc (q_aug rfl (ev_opD ev_int (sub rfl rfl) (opd_shl (cshl (a := 2) (by decide)))) (q_aug rfl (ev_opD (ev_opD (ev_var rfl) ev_int opd_add) (sub rfl rfl) (opd_shl (cshl (a := 10) (by omega)))) (s_next ⟨.dat (.int (i : Int)), .dat (.int (bit : Int)), ?_⟩)))
        rw [hP', hQ', if_pos hb', if_pos hb']
        simp [startG]
      · have hb' : ¬ bit = 1 := by simp at hb; omega
        refine q_next (s_next ⟨.dat (.int (i : Int)), .dat (.int (bit : Int)), ?_⟩)
        rw [hP', hQ', if_neg hb', if_neg hb']
        rfl
  · rintro Γ1 ⟨u, v, rfl⟩
    rw [enumD_len, List.length_map]
    have two : ∀ {Γ : List K39.G}, Γ[1]? = some (.dat (.int ((bits.length : Nat) : Int))) → EvD K dk (tOp rShlW (tC (.int 1)) (tVar 1)) Γ (.int (1 * 2 ^ bits.length)) := fun g1 => (ev_opD ev_int (ev_var g1) (opd_shl (cshl (a := 2) (by decide)))).cast (by rw [Int.toNat_natCast])
    have pos : (0 : Int) < 1 * 2 ^ bits.length := by rw [Int.one_mul]; exact Int.pow_pos (by omega)
    have lim : (1 : Int) * 2 ^ bits.length < 2 ^ 9000 := by
      rw [Int.one_mul]
      have : (2 : Nat) ^ bits.length < 2 ^ 9000 := Nat.pow_lt_pow_right (by omega) (by omega)
      exact_mod_cast this
    refine s_ret (ev_tup (ea2 (ev_lowest (ev_var rfl) (two rfl) pos lim ?_) (ev_lowest (ev_var rfl) (two rfl) pos lim ?_)) (by simp))
    · rw [Int.one_mul, p2_int, Rat.intCast_natCast, ← hP]
      rfl
    · rw [Int.one_mul, p2_int, Rat.intCast_natCast, ← hQ]
      rfl
theorem ev_sums_of {a : List Nat} (h : EvD K dk te Γ (.tuple (a.map fun (i : Nat) => .int i))) (hl : a.length ≤ 20) : EvD K dk (tCall (sp_sums_of K) [] E0 (tCons te tNil)) Γ (.tuple [fr (plainQ a), fr (heavyQ a)]) := ev_callF a (ea1 h) hl
theorem wB_parts {a b : Nat} (h : wB a b = true) : (aheadL a b).length ≤ 20 ∧ (digitsL a b).length ≤ 20 ∧ Sm (heavyQ (aheadL a b)) ∧ wN % (wF a b).den = 0 ∧ 0 ≤ wF a b ∧ wF a b ≤ 100 := by
  unfold wB at h
  simp only [Bool.and_eq_true, decide_eq_true_eq] at h
  obtain ⟨⟨⟨⟨⟨⟨h1, h2⟩, h3⟩, h4⟩, h5⟩, h6⟩, _⟩ := h
  exact ⟨h1, h2, h3, h4, h5, h6⟩
theorem eqv_nilT (ds : List PyData) : PyData.eqv (.tuple ds) (.tuple []) = decide (ds.length = 0) := by
  cases ds <;> simp [PyData.eqv, PyData.eqvAll]
theorem shaped_intsT (ns : List Int) : SeqAt.shaped (.tuple (ns.map PyData.int)) = true := by
  have h := shaped_ints ns
  simp only [SeqAt.shaped, PyData.canLay0, PyData.depth] at h ⊢
  exact h
theorem se_raw_weight : SeF K (t_raw_weight K) 11 (fun q : Rat => [fr q]) (fun q => Sml q) fun q => fr (wQ q) := fun dk q h => by
  obtain ⟨hd, h0, h1⟩ : Sml q := h
  have hb : 1 ≤ q.den := q.den_pos
  have hw := w_facts (a := q.num.toNat) (b := q.den) (by omega) hb (by omega)
  have hr : wQ q = wF q.num.toNat q.den := rfl
  dsimp only
  rw [hr]
  have hfig := ev_raw_figures (K := K) (dk := dk) (Γ := startG 11 [fr q]) (te := tVar 0) (ev_var rfl) ⟨hd, h0, h1⟩
  generalize q.num.toNat = a at hw hfig ⊢
  generalize q.den = b at hw hfig ⊢
  obtain ⟨u20, d20, su, _, _, _⟩ := wB_parts hw
  unfold wB at hw
  unfold wF
  generalize aheadL a b = u at hw u20 su hfig ⊢
  generalize digitsL a b = d at hw d20 hfig ⊢
  refine q_unp3 hfig ?_
  refine q_set (ev_opD (ev_sums_of (ev_var rfl) u20) ev_int (opd_ixT rfl)) ?_
  have md : (d.map fun (i : Nat) => PyData.int (i : Int)) = (d.map fun (i : Nat) => (i : Int)).map PyData.int := by rw [List.map_map]; rfl
  refine q_ifB (et_testB ((ev_opD (ev_var rfl) (ev_tup ea_nil (by simp)) (opd_eqD (by rw [md]; exact shaped_intsT _) (by decide))).cast (by rw [eqv_nilT, List.length_map]))) (fun hz => ?_) fun hz => ?_
  · have hz' : d.length = 0 := by simpa using hz
    refine s_ret ((ev_var rfl).cast ?_)
    simp only [hz', if_true]
  · have hz' : d.length ≠ 0 := by simpa using hz
    refine q_next ?_
    have e1 : (d.length == 0) = false := by simpa using hz'
    simp only [e1, Bool.false_or, Bool.and_eq_true, decide_eq_true_eq] at hw
    obtain ⟨_, ⟨⟨⟨⟨⟨⟨⟨⟨⟨⟨⟨⟨⟨⟨⟨s0, s1⟩, s2⟩, s3⟩, s4⟩, s5⟩, s6⟩, s7⟩, s8⟩, s9⟩, s10⟩, s11⟩, s12⟩, s13⟩, s14⟩, s15⟩⟩ := hw
    simp only [hz', if_false]
    generalize hsz : p2 d.length - 1 = size at *
    have hp1 : (1 : Nat) ≤ 2 ^ d.length := Nat.one_le_two_pow
    have hp2 : (2 : Nat) ^ d.length ≤ 2 ^ 20 := Nat.pow_le_pow_right (by omega) d20
    have hszI : ((((2 ^ d.length - 1 : Nat) : Int) : Int) : Rat) = size := by
      rw [← hsz, Rat.intCast_natCast]
      have : p2 d.length = ((2 ^ d.length - 1 : Nat) : Rat) + 1 := by
        unfold p2
        rw [show ((2 ^ d.length : Nat) : Rat) = (((2 ^ d.length - 1) + 1 : Nat) : Rat) by rw [Nat.sub_add_cancel hp1], Rat.natCast_add]
        rfl
      rw [this]; grind
    refine q_par2 (ea2 ((ev_lenT (ev_var rfl)).cast (y := .int ((d.length : Nat) : Int)) (by rw [List.length_map])) ((ev_opD (ev_opD ev_int ((ev_lenT (ev_var rfl)).cast (y := .int ((d.length : Nat) : Int)) (by rw [List.length_map])) (opd_shl (cshl (a := 2) (by decide)))) ev_int opd_sub).cast (y := .int ((2 ^ d.length - 1 : Nat) : Int)) ?_)) ?_
    · rw [Int.toNat_natCast, Int.one_mul, Int.natCast_sub hp1]
      congr 2
    refine q_unp2 (ev_sums_of (ev_var rfl) d20) ?_
    have l1 : ∀ {Γ : List K39.G}, Γ[2]? = some (.dat (.tuple (u.map fun (i : Nat) => .int i))) → EvD K dk (tCB (rLenQ K) (tCons (tVar 2) tNil)) Γ (.int ((u.length : Nat) : Int)) := fun g => (ev_lenT (ev_var g)).cast (by rw [List.length_map])
    have r1 : ∀ {Γ : List K39.G}, Γ[6]? = some (.dat (.int ((2 ^ d.length - 1 : Nat) : Int))) → EvD K dk (tTup (tCons (tOp rPlus (tVar 6) (tC (.int 1))) (tCons (tVar 6) tNil))) Γ (fr ((size + 1) / size)) := fun g =>
      (ev_tup (ea2 (ev_opD (ev_var g) ev_int opd_add) (ev_var g)) (by simp)).cast (by
        unfold fr
        rw [s14, s15]
        congr 3
        omega)
    refine q_set (ev_times (ev_plus (ev_times (ev_intT (l1 rfl)) (ev_var rfl) s1 s3) (ev_var rfl) s5 s4) (r1 rfl) s6 s7) ?_
    refine q_set (ev_times (ev_times (ev_intT (ev_var rfl)) (ev_var rfl) s2 s3) (ev_lowest (q := (size + 1) / (size * size)) (ev_opD (ev_var rfl) ev_int opd_add) (ev_opD (ev_var rfl) (ev_var rfl) (opd_mulX (cmulx (a := 30) (b := 30) (by omega) (by omega)))) ?_ ?_ ?_) s8 s9) ?_
    · exact Int.mul_pos (by omega) (by omega)
    · have : (2 ^ d.length - 1) * (2 ^ d.length - 1) < 2 ^ 9000 := Nat.lt_of_le_of_lt (Nat.mul_le_mul (show 2 ^ d.length - 1 ≤ 2 ^ 20 by omega) (show 2 ^ d.length - 1 ≤ 2 ^ 20 by omega)) (by decide)
      exact_mod_cast this
    · rw [Rat.intCast_add, Rat.intCast_mul, hszI]
      rfl
    · refine s_ret (ev_plus (ev_var rfl) (ev_shifted (ev_plus (ev_var rfl) (ev_var rfl) s10 s11) (l1 rfl) s12 (by omega)) su s13)
theorem ev_raw_weight (h : EvD K dk te Γ (fr q)) (s : Sml q) : EvD K dk (tCall (sp_raw_weight K) [] E0 (tCons te tNil)) Γ (fr (wQ q)) := ev_callF q (ea1 h) s
/-! a draw's table -/
theorem Dr.le {n B : Nat} {a : Nat → Nat} (h : Dr n B a) {i : Nat} (hi : i < n) : a i ≤ B := by
  rw [← h.sum]
  have : ∀ m, i < m → a i ≤ sm m a := fun m => by
    induction m with
    | zero => intro z; omega
    | succ m ih =>
      intro z
      rw [sm_natS]
      by_cases e : i = m
      · subst e; omega
      · have := ih (by omega); omega
  exact this n hi
theorem In.of_div (a B : Nat) (h : 0 < B) : In B (((a : Nat) : Rat) / ((B : Nat) : Rat)) := ⟨h, a, by rw [Rat.intCast_natCast]⟩
theorem Dr.In {n B : Nat} {a : Nat → Nat} (h : Dr n B a) (i : Nat) : K39.In B (drT B a i) := K39.In.of_div _ _ (by have := h.b1; omega)
theorem drT_nn (B : Nat) (a : Nat → Nat) (i : Nat) : 0 ≤ drT B a i := by
  unfold drT
  rcases Nat.eq_zero_or_pos B with e | e
  · subst e
    rw [show ((0 : Nat) : Rat) = 0 from rfl]
    grind
  · refine Rat.not_lt.mp fun z => ?_
    have h1 := (Rat.div_lt_iff (Rat.natCast_pos.mpr e)).mp z
    have h2 : (0 : Rat) ≤ ((a i : Nat) : Rat) := Rat.natCast_nonneg
    grind
theorem sm_natCast (n : Nat) (f : Nat → Nat) : ((sm n f : Nat) : Rat) = sm n fun i => ((f i : Nat) : Rat) := by
  induction n with
  | zero => rfl
  | succ n ih => simp only [sm, Rat.natCast_add, ih]
theorem Dr.tab {n B : Nat} {a : Nat → Nat} (h : Dr n B a) : Tab n (drT B a) := by
  have hB := natne (show 0 < B by have := h.b1; omega)
  refine ⟨h.n1, h.n8, ⟨B, Nat.lt_of_le_of_lt h.b16 (by decide), fun i _ => h.In i⟩, fun i _ => drT_nn B a i, ?_⟩
  have e : sm n (drT B a) = sm n (fun i => ((a i : Nat) : Rat)) * ((B : Nat) : Rat)⁻¹ := by
    rw [← sm_mulr]
    exact sm_congr fun i _ => by unfold drT; rw [Rat.div_def]
  rw [e, ← sm_natCast, h.sum]
  grind
theorem Dr.sml {n B : Nat} {a : Nat → Nat} (h : Dr n B a) {i : Nat} (hi : i < n) : Sml (drT B a i) := by
  have hd := (h.In i).den
  have h1 := h.tab.le1 hi
  have h0 := drT_nn B a i
  refine ⟨Nat.le_trans hd h.b16, Rat.num_nonneg.mpr h0, ?_⟩
  have := Rat.mul_le_mul_of_nonneg_right h1 (Rat.le_of_lt (den_pos (drT B a i)))
  rw [← num_eq] at this
  have e : ((drT B a i).num : Rat) ≤ (((drT B a i).den : Int) : Rat) := by rw [Rat.intCast_natCast]; grind
  exact Rat.intCast_le_intCast.mp e
theorem Sml.w {q : Rat} (h : Sml q) : In wN (wQ q) ∧ 0 ≤ wQ q ∧ wQ q ≤ 100 := by
  obtain ⟨hd, h0, h1⟩ := h
  obtain ⟨_, _, _, a1, a2, a3⟩ := wB_parts (w_facts (a := q.num.toNat) (b := q.den) (by omega) q.den_pos (by omega))
  exact ⟨(In.self (wQ q)).dvd (Nat.dvd_of_mod_eq_zero a1) (by decide), a2, a3⟩
theorem Dr.totw {n B : Nat} {a : Nat → Nat} (h : Dr n B a) : Tot (mp n fun i => wQ (drT B a i)) := by
  refine ⟨by rw [mp_len]; have := h.n8; omega, wN, Nat.lt_of_lt_of_le (show wN < 2 ^ 100 by decide) (Nat.pow_le_pow_right (by omega) (by omega)), fun q hq => ?_⟩
  obtain ⟨i, hi, rfl⟩ := mp_mem.mp hq
  obtain ⟨w1, w2, w3⟩ := (h.sml hi).w
  exact ⟨w1, w2, Rat.le_trans w3 (Rat.le_trans (by decide +kernel : (100 : Rat) ≤ p2 7) (p2_le (by omega)))⟩
theorem se_raw_least_mean : SeF K (t_raw_least_mean K) 2 (fun a : Nat × Nat × (Nat → Nat) => [tabD a.1 (drT a.2.1 a.2.2)]) (fun a => Dr a.1 a.2.1 a.2.2) fun a => fr (sm a.1 fun i => wQ (drT a.2.1 a.2.2 i)) := fun dk ⟨n, B, a⟩ h => by
  have h' : Dr n B a := h
  refine s_ret ((ev_totalL (em_tab (g := fun i => wQ (drT B a i)) (ev_var rfl) (Nat.le_trans h.n8 (by omega)) fun j hj => ev_raw_weight (ev_var rfl) (h'.sml hj)) h'.totw).cast ?_)
  rw [sum_mp]
theorem ev_raw_least_mean {n B : Nat} {a : Nat → Nat} (h : EvD K dk te Γ (tabD n (drT B a))) (d : Dr n B a) : EvD K dk (tCall (sp_raw_least_mean K) [] E0 (tCons te tNil)) Γ (fr (sm n fun i => wQ (drT B a i))) := ev_callF (n, B, a) (ea1 h) d
end
end K39

set_option Elab.async false
set_option linter.all false
set_option maxRecDepth 100000
set_option maxHeartbeats 1000000
set_option exponentiation.threshold 20000
/-! Ma1: sums over triangles, times of being thrown away, meanings -/
namespace K39
/-! ### triangles -/
theorem tri (t : Nat) (F : Nat → Nat → Rat) : sm (t + 1) (fun a => sm (a + 1) fun k => F k (a - k)) = sm (t + 1) fun k => sm (t - k + 1) fun b => F k b := by
  induction t with
  | zero => rfl
  | succ t ih =>
    have e1 : sm (t + 1 + 1) (fun a => sm (a + 1) fun k => F k (a - k)) = sm (t + 1) (fun a => sm (a + 1) fun k => F k (a - k)) + sm (t + 1 + 1) (fun k => F k (t + 1 - k)) := rfl
    have e2 : sm (t + 1 + 1) (fun k => sm (t + 1 - k + 1) fun b => F k b) = sm (t + 1) (fun k => sm (t + 1 - k + 1) fun b => F k b) + sm (t + 1 - (t + 1) + 1) (fun b => F (t + 1) b) := rfl
    have e3 : sm (t + 1) (fun k => sm (t + 1 - k + 1) fun b => F k b) = sm (t + 1) (fun k => sm (t - k + 1) (fun b => F k b) + F k (t + 1 - k)) := sm_congr fun k hk => by
      rw [show t + 1 - k + 1 = (t - k + 1) + 1 by omega]
      show sm (t - k + 1) _ + F k (t - k + 1) = _
      rw [show t - k + 1 = t + 1 - k by omega]
    have e4 : sm (t + 1 + 1) (fun k => F k (t + 1 - k)) = sm (t + 1) (fun k => F k (t + 1 - k)) + F (t + 1) (t + 1 - (t + 1)) := rfl
    have e5 : sm (t + 1 - (t + 1) + 1) (fun b => F (t + 1) b) = F (t + 1) (t + 1 - (t + 1)) := by
      rw [Nat.sub_self]
      show (0 : Rat) + F (t + 1) 0 = _
      grind
    rw [e1, e2, e3, sm_add, ih, e4, e5]
    grind
theorem conv_sum (t : Nat) (u v : Nat → Rat) : sm (t + 1) (fun s => sm (s + 1) fun a => u a * v (s - a)) = sm (t + 1) fun a => u a * sm (t - a + 1) v := by
  rw [tri t fun k b => u k * v b]
  exact sm_congr fun k _ => sm_mul _ _ _
theorem conv_assoc (t : Nat) (d u v : Nat → Rat) : sm (t + 1) (fun a => sm (a + 1) (fun k => d k * u (a - k)) * v (t - a)) = sm (t + 1) fun k => d k * sm (t - k + 1) fun b => u b * v (t - k - b) := by
  have e : sm (t + 1) (fun a => sm (a + 1) (fun k => d k * u (a - k)) * v (t - a)) = sm (t + 1) (fun a => sm (a + 1) fun k => (fun k b => d k * (u b * v (t - k - b))) k (a - k)) := sm_congr fun a ha => by
    rw [← sm_mulr]
    exact sm_congr fun k hk => by
      show _ = d k * (u (a - k) * v (t - k - (a - k)))
      rw [show t - k - (a - k) = t - a by omega]
      grind
  rw [e, tri t fun k b => d k * (u b * v (t - k - b))]
  exact sm_congr fun k _ => sm_mul _ _ _
/-! ### times of being thrown away -/
theorem ttF_eq (D : Nat → Int) : ∀ n m, m ≤ n → ttF D n m = tms D m
  | 0, m, h => by
    have : m = 0 := by omega
    subst this; rfl
  | n + 1, m, h => by
    by_cases e : m ≤ n
    · show (if m ≤ n then ttF D n m else _) = _
      rw [if_pos e]
      exact ttF_eq D n m e
    · have : m = n + 1 := by omega
      subst this; rfl
theorem tms_zero (D : Nat → Int) : tms D 0 = 1 := rfl
theorem tms_succ (D : Nat → Int) (n : Nat) : tms D (n + 1) = sm (n + 1) fun k => D (k + 1) * tms D (n - k) := by
  show (if n + 1 ≤ n then ttF D n (n + 1) else sm (n + 1) fun k => D (k + 1) * ttF D n (n - k)) = _
  rw [if_neg (by omega)]
  exact sm_congr fun k _ => by rw [ttF_eq D n (n - k) (by omega)]
/-- as a part of what may be drawn -/
def sc (u : Nat → Int) (s : Nat) : Rat := (u s : Rat) / p2 s
theorem conv_sc (u v : Nat → Int) (s : Nat) : ((conv u v s : Int) : Rat) / p2 s = sm (s + 1) fun a => sc u a * sc v (s - a) := by
  unfold conv
  rw [sm_cast, Rat.div_def, ← sm_mulr]
  refine sm_congr fun a ha => ?_
  unfold sc
  rw [Rat.intCast_mul, show s = a + (s - a) by omega, p2_add, show a + (s - a) - a = s - a by omega]
  have := p2_ne a; have := p2_ne (s - a)
  grind
theorem tms_sc (D : Nat → Int) (n : Nat) : sc (tms D) (n + 1) = sm (n + 1) fun k => sc D (k + 1) * sc (tms D) (n - k) := by
  show ((tms D (n + 1) : Int) : Rat) / p2 (n + 1) = _
  rw [tms_succ, sm_cast, Rat.div_def, ← sm_mulr]
  refine sm_congr fun k hk => ?_
  unfold sc
  rw [Rat.intCast_mul, show n + 1 = (k + 1) + (n - k) by omega, p2_add]
  have := p2_ne (k + 1); have := p2_ne (n - k)
  grind
theorem sc_nonneg {u : Nat → Int} {s : Nat} (h : 0 ≤ u s) : 0 ≤ sc u s := by
  unfold sc
  refine Rat.not_lt.mp fun z => ?_
  have h1 := (Rat.div_lt_iff (p2_pos s)).mp z
  have h2 : ((0 : Int) : Rat) ≤ (u s : Rat) := Rat.intCast_le_intCast.mpr h
  have h3 : ((0 : Int) : Rat) = 0 := rfl
  grind
theorem smI_nonneg {n : Nat} {f : Nat → Int} (h : ∀ i, i < n → 0 ≤ f i) : 0 ≤ sm n f := by
  induction n with
  | zero => exact Int.le_refl _
  | succ n ih => exact Int.add_nonneg (ih fun i hi => h i (by omega)) (h n (by omega))
theorem tms_nonneg {D : Nat → Int} (h : ∀ s, 0 ≤ D s) : ∀ n, 0 ≤ tms D n := fun n => by
  induction n using Nat.strongRecOn with
  | ind n ih =>
    cases n with
    | zero => rw [tms_zero]; decide
    | succ n =>
      rw [tms_succ]
      exact smI_nonneg fun k hk => Int.mul_nonneg (h _) (ih _ (by omega))
/-- the times' sum, where not more than e is thrown away in all -/
theorem tms_sum {D : Nat → Int} {c : Rat} (h : ∀ s, 0 ≤ D s) (hc : 0 < c) (hd : ∀ t, sm (t + 1) (sc D) ≤ 1 - c) (t : Nat) : c * sm (t + 1) (sc (tms D)) ≤ 1 := by
  have hT : ∀ s, 0 ≤ sc (tms D) s := fun s => sc_nonneg (tms_nonneg h s)
  have hD : ∀ s, 0 ≤ sc D s := fun s => sc_nonneg (h s)
  have t0 : sc (tms D) 0 = 1 := by unfold sc; rw [tms_zero, p2_zero]; decide +kernel
  have mono : ∀ {a b : Nat}, a ≤ b → sm a (sc (tms D)) ≤ sm b (sc (tms D)) := fun {a b} hab => by
    induction b with
    | zero =>
      have : a = 0 := by omega
      subst this; exact Rat.le_refl
    | succ b ih =>
      by_cases e : a = b + 1
      · subst e; exact Rat.le_refl
      · have := ih (by omega)
        have := hT b
        simp only [sm]; grind
  -- S_t = 1 + sum of d's times S's
  have rcs : ∀ t, sm (t + 1) (sc (tms D)) ≤ 1 + (1 - c) * sm (t + 1) (sc (tms D)) := fun t => by
    cases t with
    | zero =>
      have : sm 1 (sc (tms D)) = 1 := by show (0 : Rat) + sc (tms D) 0 = 1; rw [t0]; grind
      rw [this]
      have h1 := hd 0
      have h2 : sm (0 + 1) (sc D) = sc D 0 := by show (0 : Rat) + sc D 0 = _; grind
      have := hD 0
      grind
    | succ t =>
      have e1 : sm (t + 1 + 1) (sc (tms D)) = 1 + sm (t + 1) (fun n => sc (tms D) (n + 1)) := by
        rw [sm_shift (α := Rat), t0]
      have e2 : sm (t + 1) (fun n => sc (tms D) (n + 1)) = sm (t + 1) (fun k => sc D (k + 1) * sm (t - k + 1) (sc (tms D))) := by
        rw [← conv_sum t (fun k => sc D (k + 1)) (sc (tms D))]
        exact sm_congr fun n _ => tms_sc D n
      have e3 : sm (t + 1) (fun k => sc D (k + 1) * sm (t - k + 1) (sc (tms D))) ≤ sm (t + 1) (fun k => sc D (k + 1) * sm (t + 1 + 1) (sc (tms D))) := sm_le fun k hk => Rat.mul_le_mul_of_nonneg_left (mono (by omega)) (hD _)
      have e4 : sm (t + 1) (fun k => sc D (k + 1)) ≤ 1 - c := by
        have h1 := hd (t + 1)
        rw [sm_shift (α := Rat)] at h1
        have := hD 0
        grind
      rw [sm_mulr] at e3
      have e5 := Rat.mul_le_mul_of_nonneg_right e4 (show 0 ≤ sm (t + 1 + 1) (sc (tms D)) from sm_nonneg fun i _ => hT i)
      grind
  have := rcs t
  grind
end K39

set_option Elab.async false
set_option linter.all false
set_option maxRecDepth 100000
set_option maxHeartbeats 1000000
set_option exponentiation.threshold 20000
/-! Ma2: meanings, lengths -/
namespace K39
theorem div_nn {a b : Rat} (h : 0 ≤ a) (hb : 0 < b) : 0 ≤ a / b := Rat.not_lt.mp fun z => by
  have h1 := (Rat.div_lt_iff hb).mp z
  grind
theorem div_le {a b c : Rat} (hb : 0 < b) (h : a ≤ c * b) : a / b ≤ c := Rat.not_lt.mp fun z => by
  have h1 := (Rat.lt_div_iff hb).mp z
  grind
theorem le_div {a b c : Rat} (hb : 0 < b) (h : c * b ≤ a) : c ≤ a / b := Rat.not_lt.mp fun z => by
  have h1 := (Rat.div_lt_iff hb).mp z
  grind
theorem sm_pick {n x : Nat} (c : Rat) (hx : x < n) : sm n (fun i => if x = i then c else 0) = c := by
  rw [sm_one (j := x) hx fun i _ hne => by rw [if_neg fun e => hne e.symm]]
  rw [if_pos rfl]
structure Mn (p : Prog) (d : Nat) : Prop where
  n1 : 1 ≤ outs p
  n8 : outs p ≤ 8
  nn : ∀ i, 0 ≤ mean p i
  one : sm (outs p) (mean p) = 1
  ex : ∃ N : Nat, N ≤ 2 ^ 4 ^ (d + 1) ∧ ∀ i, In N (mean p i)
theorem In.allj {k b : Nat} {F : Nat → Nat → Rat} (h : ∀ j, j < k → ∃ N : Nat, N ≤ 2 ^ b ∧ ∀ i, In N (F j i)) : ∃ M : Nat, 0 < M ∧ M ≤ 2 ^ (b * k) ∧ ∀ j, j < k → ∀ i, In M (F j i) := by
  induction k with
  | zero => exact ⟨1, by omega, Nat.one_le_two_pow, fun j hj => by omega⟩
  | succ k ih =>
    obtain ⟨M, h0, h1, h2⟩ := ih fun j hj => h j (by omega)
    obtain ⟨N, h3, h4⟩ := h k (by omega)
    have hN := (h4 0).1
    refine ⟨M * N, Nat.mul_pos h0 hN, ?_, fun j hj i => ?_⟩
    · rw [Nat.mul_succ, Nat.pow_add]
      exact Nat.mul_le_mul h1 h3
    · by_cases e : j = k
      · subst e
        exact (h4 i).dvd (Nat.dvd_mul_left _ _) (Nat.mul_pos h0 hN)
      · exact (h2 j (by omega) i).dvd (Nat.dvd_mul_right _ _) (Nat.mul_pos h0 hN)
/-- a quotient of two with one bottom -/
theorem In.quot {N : Nat} {q r : Rat} (h : In N q) (h' : In N r) (h0 : 0 < r) (h1 : r ≤ 1) : ∃ A : Nat, A ≤ N ∧ In A (q / r) := by
  obtain ⟨hN, a, rfl⟩ := h
  obtain ⟨_, b, rfl⟩ := h'
  have hNp : (0 : Rat) < ((N : Nat) : Rat) := Rat.natCast_pos.mpr hN
  have hb : 0 < b := by
    have := (Rat.lt_div_iff hNp).mp h0
    have h2 : ((0 : Int) : Rat) < (b : Rat) := by have : ((0 : Int) : Rat) = 0 := rfl; grind
    exact Rat.intCast_lt_intCast.mp h2
  have hbN : b ≤ N := by
    refine Int.not_lt.mp fun z => ?_
    have z1 : (((N : Int) : Int) : Rat) < (b : Rat) := Rat.intCast_lt_intCast.mpr z
    rw [Rat.intCast_natCast] at z1
    have : (1 : Rat) < (b : Rat) / ((N : Nat) : Rat) := (Rat.lt_div_iff hNp).mpr (by grind)
    grind
  refine ⟨b.toNat, by omega, by omega, a, ?_⟩
  have e : ((b.toNat : Nat) : Rat) = (b : Rat) := by rw [← Rat.intCast_natCast, Int.toNat_of_nonneg (by omega)]
  rw [e]
  have hb' : (b : Rat) ≠ 0 := fun z => by
    have h2 : ((0 : Int) : Rat) < (b : Rat) := Rat.intCast_lt_intCast.mpr hb
    rw [z] at h2
    exact absurd h2 (by decide)
  have := natne hN
  grind
theorem pow4_mono (d : Nat) : 1 ≤ 4 ^ (d + 1) := Nat.one_le_pow _ _ (by omega)
theorem four_le (d : Nat) : 4 ≤ 4 ^ (d + 1) := by rw [Nat.pow_succ]; have := Nat.one_le_pow d 4 (by omega); omega
theorem Wf.mn : ∀ {p : Prog} {d : Nat}, Wf p d → Mn p d
  | .value n k, d, h => by
    obtain ⟨h1, h2⟩ := h
    refine ⟨by show 1 ≤ n; omega, h2, fun i => ?_, ?_, 1, Nat.one_le_two_pow, fun i => ?_⟩
    · show (0 : Rat) ≤ if i = k then 1 else 0
      split <;> grind
    · show sm n (fun i => if i = k then (1 : Rat) else 0) = 1
      rw [sm_one (j := k) h1 fun i _ hne => by rw [if_neg hne], if_pos rfl]
    · show In 1 (if i = k then 1 else 0)
      split
      · exact In.int (by omega) 1
      · exact In.int (by omega) 0
  | .draw n B a, d, h => by
    have h' : Dr n B a := h
    refine ⟨h'.n1, h'.n8, fun i => drT_nn B a i, h'.tab.one, B, Nat.le_trans h'.b16 ?_, fun i => h'.In i⟩
    have : (2 : Nat) ^ 4 ≤ 2 ^ 4 ^ (d + 1) := Nat.pow_le_pow_right (by omega) (four_le d)
    omega
  | .bind f k cs, d, h => by
    obtain ⟨e, rfl, hf, hk, k1, k3, hc⟩ := h
    have F := hf.mn
    have C : ∀ j, j < k → Mn (cs j) e := fun j hj => (hc j hj).1.mn
    have C0 := C 0 (by omega)
    obtain ⟨N, hN, hNI⟩ := F.ex
    obtain ⟨M, hM0, hM, hMI⟩ := In.allj fun j hj => (C j hj).ex
    refine ⟨C0.n1, C0.n8, fun i => sm_nonneg fun j hj => Rat.mul_nonneg (F.nn j) ((C j hj).nn i), ?_, N * M, ?_, fun i => In.sm (Nat.mul_pos (hNI 0).1 hM0) fun j hj => (hNI j).mul (hMI j hj i)⟩
    · show sm (outs (cs 0)) (fun i => sm k fun j => mean f j * mean (cs j) i) = 1
      rw [sm_swap]
      rw [← F.one, hk]
      refine sm_congr fun j hj => ?_
      rw [sm_mul, ← (hc j hj).2, (C j hj).one]
      grind
    · have : 2 ^ 4 ^ (e + 1) * 2 ^ (4 ^ (e + 1) * k) ≤ 2 ^ 4 ^ (e + 1 + 1) := by
        rw [← Nat.pow_add]
        refine Nat.pow_le_pow_right (by omega) ?_
        have h3 : 4 ^ (e + 1) * k ≤ 4 ^ (e + 1) * 3 := Nat.mul_le_mul_left _ k3
        have : 4 ^ (e + 1 + 1) = 4 ^ (e + 1) * 4 := Nat.pow_succ ..
        omega
      exact Nat.le_trans (Nat.mul_le_mul hN hM) this
  | .again p l, d, h => by
    obtain ⟨e, rfl, hp, hne⟩ := h
    have F := hp.mn
    obtain ⟨N, hN, hNI⟩ := F.ex
    have l0 : 0 ≤ lotS (outs p) (mean p) l := lotS_nn (fun i _ => F.nn i) l
    have lp : 0 < lotS (outs p) (mean p) l := by grind
    have l1 : lotS (outs p) (mean p) l ≤ 1 := by rw [← F.one]; exact lotS_le (fun i _ => F.nn i) l
    have lI : In N (lotS (outs p) (mean p) l) := lotS_In (hNI 0).1 (fun i _ => hNI i) l
    have hpow : (2 : Nat) ^ 4 ^ (e + 1) ≤ 2 ^ 4 ^ (e + 1 + 1) := Nat.pow_le_pow_right (by omega) (Nat.pow_le_pow_right (by omega) (by omega))
    refine ⟨F.n1, F.n8, fun i => ?_, ?_, ?_⟩
    · show 0 ≤ if l i then mean p i / lotS (outs p) (mean p) l else 0
      split
      · exact div_nn (F.nn i) lp
      · grind
    · show sm (outs p) (fun i => if l i then mean p i / lotS (outs p) (mean p) l else 0) = 1
      have e1 : sm (outs p) (fun i => if l i then mean p i / lotS (outs p) (mean p) l else 0) = sm (outs p) (fun i => (if l i then mean p i else 0) * (lotS (outs p) (mean p) l)⁻¹) := sm_congr fun i _ => by
        cases l i <;> simp [Rat.div_def]
      rw [e1, sm_mulr]
      show lotS (outs p) (mean p) l * _ = 1
      grind
    · have key : ∀ i, ∃ A : Nat, A ≤ N ∧ In A (mean p i / lotS (outs p) (mean p) l) := fun i => In.quot (hNI i) lI lp l1
      -- one bottom for all: the lot's top
      obtain ⟨_, b, hb⟩ := lI
      have hNp : (0 : Rat) < ((N : Nat) : Rat) := Rat.natCast_pos.mpr (hNI 0).1
      have hb0 : 0 < b := by
        rw [hb] at lp
        have := (Rat.lt_div_iff hNp).mp lp
        have h2 : ((0 : Int) : Rat) < (b : Rat) := by have : ((0 : Int) : Rat) = 0 := rfl; grind
        exact Rat.intCast_lt_intCast.mp h2
      have hbN : b ≤ N := by
        refine Int.not_lt.mp fun z => ?_
        have z1 : (((N : Int) : Int) : Rat) < (b : Rat) := Rat.intCast_lt_intCast.mpr z
        rw [Rat.intCast_natCast] at z1
        have : (1 : Rat) < (b : Rat) / ((N : Nat) : Rat) := (Rat.lt_div_iff hNp).mpr (by grind)
        grind
      have eb : ((b.toNat : Nat) : Rat) = (b : Rat) := by rw [← Rat.intCast_natCast, Int.toNat_of_nonneg (by omega)]
      have hbr : (b : Rat) ≠ 0 := fun z => by
        have h2 : ((0 : Int) : Rat) < (b : Rat) := Rat.intCast_lt_intCast.mpr hb0
        rw [z] at h2
        exact absurd h2 (by decide)
      refine ⟨b.toNat, Nat.le_trans (by omega : b.toNat ≤ N) (Nat.le_trans hN hpow), fun i => ?_⟩
      show In b.toNat (if l i then mean p i / lotS (outs p) (mean p) l else 0)
      split
      · obtain ⟨_, a, ha⟩ := hNI i
        refine ⟨by omega, a, ?_⟩
        rw [eb, hb, ha]
        have := natne (hNI 0).1
        grind
      · exact In.zero (by omega)
  | .ren p nm n, d, h => by
    obtain ⟨e, rfl, hp, n1, n8, hn⟩ := h
    have F := hp.mn
    obtain ⟨N, hN, hNI⟩ := F.ex
    have hpow : (2 : Nat) ^ 4 ^ (e + 1) ≤ 2 ^ 4 ^ (e + 1 + 1) := Nat.pow_le_pow_right (by omega) (Nat.pow_le_pow_right (by omega) (by omega))
    refine ⟨n1, n8, fun i => sm_nonneg fun j _ => ?_, ?_, N, Nat.le_trans hN hpow, fun i => In.sm (hNI 0).1 fun j _ => ?_⟩
    · split
      · exact F.nn j
      · grind
    · show sm n (fun i => sm (outs p) fun j => if nm j = i then mean p j else 0) = 1
      rw [sm_swap, ← F.one]
      exact sm_congr fun j hj => sm_pick _ (hn j hj)
    · split
      · exact hNI j
      · exact In.zero (hNI 0).1
theorem two300 {d : Nat} (h : d ≤ 3) : 2 ^ 4 ^ (d + 1) < 2 ^ 300 := by
  refine Nat.pow_lt_pow_right (by omega) ?_
  have : 4 ^ (d + 1) ≤ 4 ^ 4 := Nat.pow_le_pow_right (by omega) (by omega)
  omega
theorem Mn.tab {p : Prog} {d : Nat} (h : Mn p d) (hd : d ≤ 3) : Tab (outs p) (mean p) := by
  obtain ⟨N, hN, hI⟩ := h.ex
  exact ⟨h.n1, h.n8, ⟨N, Nat.lt_of_le_of_lt hN (two300 hd), fun i _ => hI i⟩, fun i _ => h.nn i, h.one⟩
theorem Wf.tab {p : Prog} {d : Nat} (h : Wf p d) (hd : d ≤ 3) : Tab (outs p) (mean p) := h.mn.tab hd
theorem Wf.up {p : Prog} : ∀ {d e : Nat}, Wf p d → d ≤ e → Wf p e := by
  induction p with
  | value n k => exact fun h _ => h
  | draw n B a => exact fun h _ => h
  | bind f k cs ihf ihc =>
    intro d e ⟨g, hd, hf, hk, k1, k3, hc⟩ hle
    exact ⟨e - 1, by omega, ihf hf (by omega), hk, k1, k3, fun j hj => ⟨ihc j (hc j hj).1 (by omega), (hc j hj).2⟩⟩
  | again p l ih =>
    intro d e ⟨g, hd, hp, hne⟩ hle
    exact ⟨e - 1, by omega, ih hp (by omega), hne⟩
  | ren p nm n ih =>
    intro d e ⟨g, hd, hp, r⟩ hle
    exact ⟨e - 1, by omega, ih hp (by omega), r⟩
theorem Wf.mix {f : Prog} {k : Nat} {cs : Nat → Prog} {d : Nat} (h : Wf (.bind f k cs) d) (hd : d ≤ 3) : MixOk k (mean f) (outs (cs 0)) (fun j => mean (cs j)) := by
  obtain ⟨e, rfl, hf, hk, k1, k3, hc⟩ := h
  have F := hf.mn
  obtain ⟨N, hN, hNI⟩ := F.ex
  obtain ⟨M, hM0, hM, hMI⟩ := In.allj fun j hj => ((hc j hj).1.mn).ex
  refine ⟨by rw [← hk]; exact hf.tab (by omega), fun j hj => by rw [← (hc j hj).2]; exact (hc j hj).1.tab (by omega), N * M, ?_, fun j hj i _ => (hNI j).mul (hMI j hj i)⟩
  refine Nat.lt_of_le_of_lt (Nat.mul_le_mul hN hM) (Nat.lt_of_le_of_lt ?_ (two300 hd))
  rw [← Nat.pow_add]
  refine Nat.pow_le_pow_right (by omega) ?_
  have h3 : 4 ^ (e + 1) * k ≤ 4 ^ (e + 1) * 3 := Nat.mul_le_mul_left _ k3
  have : 4 ^ (e + 1 + 1) = 4 ^ (e + 1) * 4 := Nat.pow_succ ..
  omega
/-! ### lengths -/
theorem dig_sum (q : Rat) (t : Nat) : sm (t + 1) (fun s => (dig q s : Rat) / p2 s) = ((q * p2 t).floor : Rat) / p2 t := by
  induction t with
  | zero =>
    show (0 : Rat) + (dig q 0 : Rat) / p2 0 = _
    rw [p2_zero, show q * 1 = q by grind]
    show (0 : Rat) + (q.floor : Rat) / 1 = _
    grind
  | succ t ih =>
    show sm (t + 1) _ + (dig q (t + 1) : Rat) / p2 (t + 1) = _
    rw [ih]
    show _ + (((q * p2 (t + 1)).floor - 2 * (q * p2 t).floor : Int) : Rat) / p2 (t + 1) = _
    rw [Rat.intCast_sub, Rat.intCast_mul, p2_succ]
    have := p2_ne t
    have h2 : ((2 : Int) : Rat) = 2 := rfl
    grind
theorem dig_nonneg {q : Rat} (h : 0 ≤ q) : ∀ s, 0 ≤ dig q s
  | 0 => Rat.le_floor_iff.mpr (by have : ((0 : Int) : Rat) = 0 := rfl; grind)
  | k + 1 => by
    show 0 ≤ (q * p2 (k + 1)).floor - 2 * (q * p2 k).floor
    have : 2 * (q * p2 k).floor ≤ (q * p2 (k + 1)).floor := by
      rw [Rat.le_floor_iff, Rat.intCast_mul, p2_succ]
      have := Rat.floor_le (q * p2 k)
      have h2 : ((2 : Int) : Rat) = 2 := rfl
      grind
    omega
structure Ln (p : Prog) : Prop where
  nn : ∀ s i, 0 ≤ len p s i
  le : ∀ t i, sm (t + 1) (sc fun s => len p s i) ≤ mean p i
theorem sc_sum {k : Nat} (u : Nat → Nat → Int) (s : Nat) : sc (fun s => sm k fun j => u j s) s = sm k fun j => sc (u j) s := by
  unfold sc
  rw [sm_cast, Rat.div_def, ← sm_mulr]
  exact sm_congr fun j _ => by rw [Rat.div_def]
theorem conv_nonneg {u v : Nat → Int} (hu : ∀ s, 0 ≤ u s) (hv : ∀ s, 0 ≤ v s) (s : Nat) : 0 ≤ conv u v s := smI_nonneg fun a _ => Int.mul_nonneg (hu a) (hv _)
theorem conv_le {u v : Nat → Int} {A V : Rat} (hu : ∀ s, 0 ≤ u s) (hA : ∀ t, sm (t + 1) (sc u) ≤ A) (hV : ∀ t, sm (t + 1) (sc v) ≤ V) (hV0 : 0 ≤ V) (t : Nat) : sm (t + 1) (sc (conv u v)) ≤ A * V := by
  have e : sm (t + 1) (sc (conv u v)) = sm (t + 1) fun a => sc u a * sm (t - a + 1) (sc v) := by
    rw [← conv_sum]
    exact sm_congr fun s _ => conv_sc u v s
  rw [e]
  refine Rat.le_trans (sm_le fun a ha => Rat.mul_le_mul_of_nonneg_left (hV (t - a)) (sc_nonneg (hu a))) ?_
  rw [sm_mulr]
  exact Rat.mul_le_mul_of_nonneg_right (hA t) hV0
theorem thr_nonneg {n : Nat} {l : Nat → Bool} {L : Nat → Nat → Int} (h : ∀ s i, 0 ≤ L s i) (s : Nat) : 0 ≤ thr n l L s := smI_nonneg fun o _ => by
  split
  · exact Int.le_refl _
  · exact h s o
theorem thr_sc (n : Nat) (l : Nat → Bool) (L : Nat → Nat → Int) (s : Nat) : sc (thr n l L) s = sm n fun o => if l o then 0 else sc (fun s => L s o) s := by
  unfold sc thr
  rw [sm_cast, Rat.div_def, ← sm_mulr]
  exact sm_congr fun o _ => by
    cases l o <;> simp [Rat.div_def]
theorem thr_sum {p : Prog} {d : Nat} (M : Mn p d) (L : Ln p) (l : Nat → Bool) (t : Nat) : sm (t + 1) (sc (thr (outs p) l (len p))) ≤ 1 - lotS (outs p) (mean p) l := by
  have e : sm (t + 1) (sc (thr (outs p) l (len p))) = sm (outs p) fun o => if l o then 0 else sm (t + 1) (sc fun s => len p s o) := by
    rw [sm_congr (fun s _ => thr_sc (outs p) l (len p) s), sm_swap]
    exact sm_congr fun o _ => by
      cases l o
      · rfl
      · exact sm_zero _
  rw [e]
  have h1 : 1 - lotS (outs p) (mean p) l = sm (outs p) fun o => if l o then 0 else mean p o := by
    rw [← M.one]
    unfold lotS
    rw [← sm_sub]
    exact sm_congr fun o _ => by cases l o <;> simp <;> grind
  rw [h1]
  exact sm_le fun o _ => by
    cases l o
    · exact L.le t o
    · exact Rat.le_refl
theorem Wf.ln : ∀ {p : Prog} {d : Nat}, Wf p d → Ln p
  | .value n k, d, h => by
    refine ⟨fun s i => ?_, fun t i => ?_⟩
    · show 0 ≤ if s = 0 ∧ i = k then (1 : Int) else 0
      split <;> omega
    · show sm (t + 1) (sc fun s => if s = 0 ∧ i = k then (1 : Int) else 0) ≤ if i = k then 1 else 0
      rw [sm_shift (α := Rat)]
      have e : sm t (fun s => sc (fun s => if s = 0 ∧ i = k then (1 : Int) else 0) (s + 1)) = 0 := (sm_congr fun s _ => by
        unfold sc
        dsimp only
        rw [if_neg (by omega)]
        show ((0 : Int) : Rat) / p2 (s + 1) = 0
        have := p2_ne (s + 1); have : ((0 : Int) : Rat) = 0 := rfl; grind).trans (sm_zero t)
      rw [e]
      unfold sc
      rw [p2_zero]
      by_cases c : i = k
      · simp [c]; grind
      · simp [c]; grind
  | .draw n B a, d, h => by
    refine ⟨fun s i => dig_nonneg (drT_nn B a i) s, fun t i => ?_⟩
    show sm (t + 1) (fun s => (dig (drT B a i) s : Rat) / p2 s) ≤ drT B a i
    rw [dig_sum]
    exact div_le (p2_pos t) (Rat.floor_le _)
  | .bind f k cs, d, h => by
    obtain ⟨e, rfl, hf, hk, k1, k3, hc⟩ := h
    have F := hf.ln
    have C : ∀ j, j < k → Ln (cs j) := fun j hj => (hc j hj).1.ln
    refine ⟨fun s i => smI_nonneg fun j hj => conv_nonneg (fun a => F.nn a j) (fun b => (C j hj).nn b i) s, fun t i => ?_⟩
    show sm (t + 1) (sc fun s => sm k fun j => conv (fun a => len f a j) (fun b => len (cs j) b i) s) ≤ sm k fun j => mean f j * mean (cs j) i
    rw [sm_congr (fun s _ => sc_sum (fun j s => conv (fun a => len f a j) (fun b => len (cs j) b i) s) s), sm_swap]
    exact sm_le fun j hj => conv_le (fun a => F.nn a j) (fun t => F.le t j) (fun t => (C j hj).le t i) ((hc j hj).1.mn.nn i) t
  | .again p l, d, h => by
    obtain ⟨e, rfl, hp, hne⟩ := h
    have F := hp.ln
    have M := hp.mn
    have l0 : 0 ≤ lotS (outs p) (mean p) l := lotS_nn (fun i _ => M.nn i) l
    have lp : 0 < lotS (outs p) (mean p) l := by grind
    have T0 := tms_nonneg (fun s => thr_nonneg (n := outs p) (l := l) F.nn s)
    refine ⟨fun s i => ?_, fun t i => ?_⟩
    · show 0 ≤ if l i then conv (tms (thr (outs p) l (len p))) (fun b => len p b i) s else 0
      split
      · exact conv_nonneg T0 (fun b => F.nn b i) s
      · omega
    · show sm (t + 1) (sc fun s => if l i then conv (tms (thr (outs p) l (len p))) (fun b => len p b i) s else 0) ≤ if l i then mean p i / lotS (outs p) (mean p) l else 0
      cases hl : l i
      · simp
        have e : sm (t + 1) (sc fun s => (0 : Int)) = 0 := (sm_congr fun s _ => by
          unfold sc
          have := p2_ne s; have : ((0 : Int) : Rat) = 0 := rfl; grind).trans (sm_zero _)
        rw [e]; grind
      · simp
        have hA : ∀ t, sm (t + 1) (sc (tms (thr (outs p) l (len p)))) ≤ 1 / lotS (outs p) (mean p) l := fun t => le_div lp (by
          have := tms_sum (fun s => thr_nonneg (n := outs p) (l := l) F.nn s) lp (fun t => thr_sum M F l t) t
          grind)
        have := conv_le T0 hA (fun t => F.le t i) (M.nn i) t
        have e : 1 / lotS (outs p) (mean p) l * mean p i = mean p i / lotS (outs p) (mean p) l := by grind
        rw [e] at this
        exact this
  | .ren p nm n, d, h => by
    obtain ⟨e, rfl, hp, n1, n8, hn⟩ := h
    have F := hp.ln
    refine ⟨fun s i => smI_nonneg fun j _ => ?_, fun t i => ?_⟩
    · split
      · exact F.nn s j
      · omega
    · show sm (t + 1) (sc fun s => sm (outs p) fun j => if nm j = i then len p s j else 0) ≤ sm (outs p) fun j => if nm j = i then mean p j else 0
      rw [sm_congr (fun s _ => sc_sum (fun j s => if nm j = i then len p s j else 0) s), sm_swap]
      refine sm_le fun j _ => ?_
      by_cases c : nm j = i
      · simp only [c, if_true]
        exact F.le t j
      · simp only [c, if_false]
        have e : sm (t + 1) (sc fun s => (0 : Int)) = 0 := (sm_congr fun s _ => by
          unfold sc
          have := p2_ne s; have : ((0 : Int) : Rat) = 0 := rfl; grind).trans (sm_zero _)
        rw [e]; grind
theorem one_le {p : Prog} {d : Nat} (h : Mn p d) {i : Nat} (hi : i < outs p) : mean p i ≤ 1 := by rw [← h.one]; exact sm_term (fun i _ => h.nn i) hi
/-- not more rows than there are -/
theorem Wf.lenle {p : Prog} {d : Nat} (h : Wf p d) {i : Nat} (hi : i < outs p) (s : Nat) : len p s i ≤ 2 ^ s := by
  have L := h.ln
  have h1 := L.le s i
  have h2 := one_le h.mn hi
  have h3 : sc (fun s => len p s i) s ≤ sm (s + 1) (sc fun s => len p s i) := sm_term (f := sc fun s => len p s i) (j := s) (n := s + 1) (fun j _ => sc_nonneg (L.nn j i)) (by omega)
  have h4 : (len p s i : Rat) / p2 s ≤ 1 := Rat.le_trans h3 (Rat.le_trans h1 h2)
  have h5 : (len p s i : Rat) ≤ p2 s := by
    refine Rat.not_lt.mp fun z => ?_
    have : 1 < (len p s i : Rat) / p2 s := (Rat.lt_div_iff (p2_pos s)).mpr (by grind)
    grind
  have h6 : (len p s i : Rat) ≤ (((2 : Int) ^ s : Int) : Rat) := by rw [p2_int]; exact h5
  exact Rat.intCast_le_intCast.mp h6
theorem Wf.sumLt {p : Prog} {d T : Nat} (h : Wf p d) (hT : T ≤ 300) : sumLt (len p) (outs p) T := fun s i hs hi => ⟨h.ln.nn s i, Int.le_trans (h.lenle hi s) (by
  have : (2 : Nat) ^ s ≤ 2 ^ 400 := Nat.pow_le_pow_right (by omega) (by omega)
  exact_mod_cast this)⟩
theorem Wf.tmsle {p : Prog} {l : Nat → Bool} {d : Nat} (h : Wf (.again p l) d) {s T : Nat} (hs : s ≤ T) (hT : T ≤ 300) : 0 ≤ tms (thr (outs p) l (len p)) s ∧ tms (thr (outs p) l (len p)) s ≤ 2 ^ 400 := by
  obtain ⟨e, rfl, hp, hne⟩ := h
  have F := hp.ln
  have M := hp.mn
  have D0 := fun s => thr_nonneg (n := outs p) (l := l) F.nn s
  have l0 : 0 ≤ lotS (outs p) (mean p) l := lotS_nn (fun i _ => M.nn i) l
  have lp : 0 < lotS (outs p) (mean p) l := by grind
  have D1 : ∀ t, sm (t + 1) (sc (thr (outs p) l (len p))) ≤ 1 := fun t => by have := thr_sum M F l t; grind
  have key : ∀ s, sc (tms (thr (outs p) l (len p))) s ≤ 1 := fun s => by
    induction s using Nat.strongRecOn with
    | ind s ih =>
      cases s with
      | zero => unfold sc; rw [tms_zero, p2_zero]; decide +kernel
      | succ n =>
        rw [tms_sc]
        refine Rat.le_trans (sm_le fun k hk => Rat.mul_le_mul_of_nonneg_left (ih (n - k) (by omega)) (sc_nonneg (D0 (k + 1)))) ?_
        rw [sm_mulr]
        have h1 := D1 (n + 1)
        rw [sm_shift (α := Rat)] at h1
        have := sc_nonneg (D0 0)
        grind
  refine ⟨tms_nonneg D0 s, ?_⟩
  have h5 : (tms (thr (outs p) l (len p)) s : Rat) ≤ p2 s := by
    refine Rat.not_lt.mp fun z => ?_
    have : 1 < sc (tms (thr (outs p) l (len p))) s := (Rat.lt_div_iff (p2_pos s)).mpr (by grind)
    have := key s
    grind
  have h6 : (tms (thr (outs p) l (len p)) s : Rat) ≤ (((2 : Int) ^ s : Int) : Rat) := by rw [p2_int]; exact h5
  have h7 := Rat.intCast_le_intCast.mp h6
  have : (2 : Nat) ^ s ≤ 2 ^ 400 := Nat.pow_le_pow_right (by omega) (by omega)
  have h8 : (2 : Int) ^ s ≤ 2 ^ 400 := by exact_mod_cast this
  omega
end K39

set_option Elab.async false
set_option linter.all false
set_option maxRecDepth 100000
set_option maxHeartbeats 1000000
set_option exponentiation.threshold 20000
/-! Ma3: tails, costs -/
namespace K39
/-- how likely one ends behind just so many bits -/
def mass (p : Prog) (s : Nat) : Rat := sm (outs p) fun i => sc (fun s => len p s i) s
theorem mass_eq (p : Prog) (s : Nat) : sm (outs p) (fun i => (len p s i : Rat)) / p2 s = mass p s := by
  unfold mass sc
  rw [Rat.div_def, ← sm_mulr]
  exact sm_congr fun i _ => by rw [Rat.div_def]
theorem tail_eq (p : Prog) (t : Nat) : tail p t = 1 - sm (t + 1) (mass p) := by
  unfold tail
  congr 1
  exact sm_congr fun s _ => mass_eq p s
theorem mass_nn {p : Prog} (h : Ln p) (s : Nat) : 0 ≤ mass p s := sm_nonneg fun i _ => sc_nonneg (h.nn s i)
theorem mass_sum {p : Prog} {d : Nat} (h : Ln p) (m : Mn p d) (t : Nat) : sm (t + 1) (mass p) ≤ 1 := by
  unfold mass
  rw [sm_swap, ← m.one]
  exact sm_le fun i _ => h.le t i
theorem tail_nn {p : Prog} {d : Nat} (h : Wf p d) (t : Nat) : 0 ≤ tail p t := by
  rw [tail_eq]
  have := mass_sum h.ln h.mn t
  grind
theorem tail_le {p : Prog} {d : Nat} (h : Wf p d) (t : Nat) : tail p t ≤ 1 := by
  rw [tail_eq]
  have : 0 ≤ sm (t + 1) (mass p) := sm_nonneg fun s _ => mass_nn h.ln s
  grind
/-! ### weights are no less than the digits' own sums -/
def restF (a b s : Nat) : Rat := ((a * 2 ^ s % b : Nat) : Rat) / ((b : Nat) : Rat) / p2 s
theorem wt_all : ((List.range 17).all fun b => (List.range 17).all fun a => b == 0 || decide (b < a) || decide (sm 10 (restF a b) ≤ wF a b)) = true := by decide +kernel
theorem wt_facts {a b : Nat} (hb : b < 17) (h1 : 1 ≤ b) (h2 : a ≤ b) : sm 10 (restF a b) ≤ wF a b := by
  have h := List.all_eq_true.mp (List.all_eq_true.mp wt_all b (List.mem_range.mpr hb)) a (List.mem_range.mpr (by omega))
  have e1 : (b == 0) = false := by simp; omega
  have e2 : decide (b < a) = false := by simp; omega
  rw [e1, e2] at h
  simpa only [Bool.false_or, decide_eq_true_eq] using h
theorem rest_eq {q : Rat} (h0 : 0 ≤ q.num) (s : Nat) : fracQ (q * p2 s) / p2 s = restF q.num.toNat q.den s := by
  unfold restF
  congr 1
  rw [← q_pow, ← frac_div _ _ q.den_pos]
  congr 1
  rw [← Rat.intCast_natCast, Int.natCast_emod, Int.natCast_mul, Int.toNat_of_nonneg h0]
  congr 2
theorem sm_mono {a b : Nat} {f : Nat → Rat} (h : ∀ i, 0 ≤ f i) (hab : a ≤ b) : sm a f ≤ sm b f := by
  induction b with
  | zero =>
    have : a = 0 := by omega
    subst this; exact Rat.le_refl
  | succ b ih =>
    by_cases e : a = b + 1
    · subst e; exact Rat.le_refl
    · have := ih (by omega)
      have := h b
      simp only [sm]; grind
theorem frac_nn2 (q : Rat) (s : Nat) : 0 ≤ fracQ (q * p2 s) / p2 s := div_nn (frac_nonneg _) (p2_pos s)
theorem w_ge {q : Rat} (h : Sml q) {t : Nat} (ht : t ≤ 9) : sm (t + 1) (fun s => fracQ (q * p2 s) / p2 s) ≤ wQ q := by
  refine Rat.le_trans (sm_mono (b := 10) (frac_nn2 q) (by omega)) ?_
  obtain ⟨hd, h0, h1⟩ := h
  rw [sm_congr fun s _ => rest_eq h0 s]
  exact wt_facts (by omega) q.den_pos (by omega)
/-! ### the tails of each kind -/
theorem draw_tail {n B : Nat} {a : Nat → Nat} (h : Dr n B a) (t : Nat) : tail (.draw n B a) t = sm n fun i => fracQ (drT B a i * p2 t) / p2 t := by
  rw [tail_eq]
  unfold mass
  rw [sm_swap]
  have e : sm (outs (.draw n B a)) (fun i => sm (t + 1) fun s => sc (fun s => len (.draw n B a) s i) s) = sm n fun i => ((drT B a i * p2 t).floor : Rat) / p2 t := sm_congr fun i _ => dig_sum (drT B a i) t
  rw [e]
  have one : (1 : Rat) = sm n (drT B a) := h.tab.one.symm
  rw [one, ← sm_sub]
  refine sm_congr fun i _ => ?_
  unfold fracQ
  have := p2_ne t
  grind
theorem bind_mass {f : Prog} {k : Nat} {cs : Nat → Prog} (ho : ∀ j, j < k → outs (cs j) = outs (cs 0)) (s : Nat) : mass (.bind f k cs) s = sm k fun j => sm (s + 1) fun a => sc (fun a => len f a j) a * mass (cs j) (s - a) := by
  show sm (outs (cs 0)) (fun i => sc (fun s => sm k fun j => conv (fun a => len f a j) (fun b => len (cs j) b i) s) s) = _
  rw [sm_congr (fun i _ => sc_sum (fun j s => conv (fun a => len f a j) (fun b => len (cs j) b i) s) s), sm_swap]
  refine sm_congr fun j hj => ?_
  have e : sm (outs (cs 0)) (fun i => sc (conv (fun a => len f a j) (fun b => len (cs j) b i)) s) = sm (outs (cs 0)) fun i => sm (s + 1) fun a => sc (fun a => len f a j) a * sc (fun b => len (cs j) b i) (s - a) := sm_congr fun i _ => conv_sc _ _ s
  refine e.trans ?_
  rw [sm_swap]
  refine sm_congr fun a _ => ?_
  rw [sm_mul]
  unfold mass
  rw [ho j hj]
theorem bind_tail {f : Prog} {k : Nat} {cs : Nat → Prog} (hk : outs f = k) (ho : ∀ j, j < k → outs (cs j) = outs (cs 0)) (t : Nat) : tail (.bind f k cs) t = tail f t + sm k fun j => sm (t + 1) fun a => sc (fun a => len f a j) a * tail (cs j) (t - a) := by
  have e : sm (t + 1) (mass (.bind f k cs)) = sm k fun j => sm (t + 1) fun a => sc (fun a => len f a j) a * sm (t - a + 1) (mass (cs j)) := by
    rw [sm_congr (fun s _ => bind_mass ho s), sm_swap]
    exact sm_congr fun j _ => conv_sum t _ _
  have e2 : sm (t + 1) (mass f) = sm k fun j => sm (t + 1) fun a => sc (fun a => len f a j) a := by
    unfold mass
    rw [sm_swap, hk]
  rw [tail_eq, e, tail_eq f t, e2]
  have e3 : sm k (fun j => sm (t + 1) fun a => sc (fun a => len f a j) a * sm (t - a + 1) (mass (cs j))) = sm k (fun j => sm (t + 1) (fun a => sc (fun a => len f a j) a) - sm (t + 1) fun a => sc (fun a => len f a j) a * tail (cs j) (t - a)) := sm_congr fun j _ => by
    rw [← sm_sub]
    refine sm_congr fun a _ => ?_
    rw [tail_eq]
    grind
  rw [e3, sm_sub]
  grind
theorem bind_tails {f : Prog} {k : Nat} {cs : Nat → Prog} (hk : outs f = k) (ho : ∀ j, j < k → outs (cs j) = outs (cs 0)) (T : Nat) : sm (T + 1) (tail (.bind f k cs)) = sm (T + 1) (tail f) + sm k fun j => sm (T + 1) fun a => sc (fun a => len f a j) a * sm (T - a + 1) (tail (cs j)) := by
  rw [sm_congr (fun t _ => bind_tail hk ho t), sm_add]
  congr 1
  rw [sm_swap]
  exact sm_congr fun j _ => conv_sum T _ _
theorem again_zero {p : Prog} {d : Nat} {l : Nat → Bool} (M : Mn p d) (L : Ln p) (hne : lotS (outs p) (mean p) l ≠ 0) : thr (outs p) l (len p) 0 = 0 := by
  have h1 := thr_sum M L l 0
  have l0 : 0 ≤ lotS (outs p) (mean p) l := lotS_nn (fun i _ => M.nn i) l
  have e : sm (0 + 1) (sc (thr (outs p) l (len p))) = (thr (outs p) l (len p) 0 : Rat) := by
    show (0 : Rat) + sc _ 0 = _
    unfold sc
    rw [p2_zero]
    grind
  rw [e] at h1
  have h2 : (thr (outs p) l (len p) 0 : Rat) < ((1 : Int) : Rat) := by have : ((1 : Int) : Rat) = 1 := rfl; grind
  have h3 := Rat.intCast_lt_intCast.mp h2
  have h4 := thr_nonneg (n := outs p) (l := l) L.nn 0
  omega
theorem again_tail {p : Prog} {d : Nat} {l : Nat → Bool} (M : Mn p d) (L : Ln p) (hne : lotS (outs p) (mean p) l ≠ 0) (t : Nat) : tail (.again p l) t = sm (t + 1) fun a => sc (tms (thr (outs p) l (len p))) a * tail p (t - a) := by
  generalize hD : thr (outs p) l (len p) = D
  have D0 : D 0 = 0 := by rw [← hD]; exact again_zero M L hne
  have lots : ∀ s, mass (.again p l) s = sm (s + 1) fun a => sc (tms D) a * sm (outs p) fun i => if l i then sc (fun s => len p s i) (s - a) else 0 := fun s => by
    show sm (outs p) (fun i => sc (fun s => if l i then conv (tms (thr (outs p) l (len p))) (fun b => len p b i) s else 0) s) = _
    rw [hD]
    have e : ∀ i, sc (fun s => if l i then conv (tms D) (fun b => len p b i) s else 0) s = sm (s + 1) fun a => sc (tms D) a * if l i then sc (fun s => len p s i) (s - a) else 0 := fun i => by
      cases h : l i
      · simp
        rw [sm_zero]
        unfold sc
        have := p2_ne s; have : ((0 : Int) : Rat) = 0 := rfl
        grind
      · simp
        exact conv_sc (tms D) (fun b => len p b i) s
    rw [sm_congr fun i _ => e i, sm_swap]
    exact sm_congr fun a _ => sm_mul _ _ _
  have part : ∀ b, sm (outs p) (fun i => if l i then sc (fun s => len p s i) b else 0) = mass p b - sc D b := fun b => by
    rw [← hD, thr_sc]
    unfold mass
    rw [← sm_sub]
    exact sm_congr fun i _ => by cases l i <;> simp <;> grind
  have e1 : sm (t + 1) (mass (.again p l)) = sm (t + 1) fun a => sc (tms D) a * sm (t - a + 1) (fun b => mass p b - sc D b) := by
    rw [sm_congr fun s _ => lots s]
    rw [conv_sum t (sc (tms D)) fun b => sm (outs p) fun i => if l i then sc (fun s => len p s i) b else 0]
    exact sm_congr fun a _ => by rw [sm_congr fun b _ => part b]
  -- the times themselves: d behind them is what they are but for the first
  have ren : sm (t + 1) (fun a => sc (tms D) a * sm (t - a + 1) (sc D)) = sm (t + 1) (sc (tms D)) - 1 := by
    have c1 : sm (t + 1) (fun a => sc (tms D) a * sm (t - a + 1) (sc D)) = sm (t + 1) (fun s => sm (s + 1) fun a => sc D a * sc (tms D) (s - a)) := by
      rw [← conv_sum]
      refine sm_congr fun s _ => ?_
      have := tri s fun k b => if k + b = s then sc (tms D) k * sc D b else 0
      -- the other order
      have rev : ∀ (u v : Nat → Rat) (n : Nat), sm (n + 1) (fun a => u a * v (n - a)) = sm (n + 1) fun a => v a * u (n - a) := fun u v n => by
        have key : ∀ (m : Nat) (g : Nat → Rat), sm m g = sm m fun i => g (m - 1 - i) := fun m => by
          induction m with
          | zero => intro g; rfl
          | succ m ih =>
            intro g
            have a1 : sm (m + 1) (fun i => g (m + 1 - 1 - i)) = g m + sm m (fun i => g (m + 1 - 1 - (i + 1))) := sm_shift (α := Rat) m (fun i => g (m + 1 - 1 - i))
            rw [a1]
            show sm m g + g m = _
            rw [ih g, sm_congr (f := fun i => g (m + 1 - 1 - (i + 1))) (g := fun i => g (m - 1 - i)) fun i _ => by rw [show m + 1 - 1 - (i + 1) = m - 1 - i by omega]]
            grind
        rw [key (n + 1) fun a => u a * v (n - a)]
        refine sm_congr fun a ha => ?_
        show u (n + 1 - 1 - a) * v (n - (n + 1 - 1 - a)) = _
        rw [show n + 1 - 1 - a = n - a by omega, show n - (n - a) = a by omega]
        grind
      exact rev _ _ s
    have c2 : ∀ s, sm (s + 1) (fun a => sc D a * sc (tms D) (s - a)) = if s = 0 then 0 else sc (tms D) s := fun s => by
      have d0 : sc D 0 = 0 := by unfold sc; rw [D0, p2_zero]; decide +kernel
      cases s with
      | zero =>
        show (0 : Rat) + sc D 0 * _ = 0
        rw [d0]; grind
      | succ n =>
        have a1 : sm (n + 1 + 1) (fun a => sc D a * sc (tms D) (n + 1 - a)) = sc D 0 * sc (tms D) (n + 1 - 0) + sm (n + 1) (fun a => sc D (a + 1) * sc (tms D) (n + 1 - (a + 1))) := sm_shift (α := Rat) (n + 1) (fun a => sc D a * sc (tms D) (n + 1 - a))
        rw [a1, d0, if_neg (by omega), tms_sc]
        rw [sm_congr (f := fun a => sc D (a + 1) * sc (tms D) (n + 1 - (a + 1))) (g := fun k => sc D (k + 1) * sc (tms D) (n - k)) fun a _ => by rw [show n + 1 - (a + 1) = n - a by omega]]
        grind
    rw [c1, sm_congr fun s _ => c2 s]
    rw [sm_shift (α := Rat), sm_shift (α := Rat)]
    have t0 : sc (tms D) 0 = 1 := by unfold sc; rw [tms_zero, p2_zero]; decide +kernel
    rw [t0, if_pos rfl, sm_congr (f := fun i => if i + 1 = 0 then (0 : Rat) else sc (tms D) (i + 1)) (g := fun i => sc (tms D) (i + 1)) fun i _ => by rw [if_neg (by omega)]]
    grind
  rw [tail_eq, e1]
  have e2 : sm (t + 1) (fun a => sc (tms D) a * sm (t - a + 1) (fun b => mass p b - sc D b)) = sm (t + 1) (fun a => (sc (tms D) a - sc (tms D) a * tail p (t - a)) - sc (tms D) a * sm (t - a + 1) (sc D)) := sm_congr fun a _ => by
    rw [sm_sub, tail_eq]
    grind
  rw [e2, sm_sub, sm_sub, ren]
  have : sm (t + 1) (fun i => sc (tms D) i) = sm (t + 1) (sc (tms D)) := rfl
  grind
theorem ren_mass {p : Prog} {nm : Nat → Nat} {n : Nat} (hn : ∀ j, j < outs p → nm j < n) (s : Nat) : mass (.ren p nm n) s = mass p s := by
  show sm n (fun i => sc (fun s => sm (outs p) fun j => if nm j = i then len p s j else 0) s) = _
  rw [sm_congr (fun i _ => sc_sum (fun j s => if nm j = i then len p s j else 0) s), sm_swap]
  unfold mass
  refine sm_congr fun j hj => ?_
  rw [← sm_pick (sc (fun s => len p s j) s) (hn j hj)]
  refine sm_congr fun i _ => ?_
  by_cases c : nm j = i
  · simp only [c, if_true]
  · simp only [c, if_false]
    unfold sc
    have := p2_ne s; have : ((0 : Int) : Rat) = 0 := rfl; grind
/-! ### costs -/
structure Cs (p : Prog) (d : Nat) : Prop where
  nn : 0 ≤ cost p
  ex : ∃ N : Nat, 0 < N ∧ N ≤ 2 ^ (d * 4 ^ d) ∧ In (wN * N) (cost p)
  le : cost p ≤ p2 (10 + 2 * 4 ^ d)
  tl : ∀ t, t ≤ 9 → sm (t + 1) (tail p) ≤ cost p
theorem wN_pos : 0 < wN := by decide
theorem inv_lot {N : Nat} {r : Rat} (h : In N r) (h0 : 0 < r) : 1 ≤ r * (N : Rat) := by
  obtain ⟨hN, a, rfl⟩ := h
  have hNp : (0 : Rat) < ((N : Nat) : Rat) := Rat.natCast_pos.mpr hN
  have ha : 0 < a := by
    have := (Rat.lt_div_iff hNp).mp h0
    have h2 : ((0 : Int) : Rat) < (a : Rat) := by have : ((0 : Int) : Rat) = 0 := rfl; grind
    exact Rat.intCast_lt_intCast.mp h2
  have h1 : ((1 : Int) : Rat) ≤ (a : Rat) := Rat.intCast_le_intCast.mpr (by omega)
  have h2 : ((1 : Int) : Rat) = 1 := rfl
  have := natne hN
  have e : (a : Rat) / ((N : Nat) : Rat) * ((N : Nat) : Rat) = (a : Rat) := by grind
  rw [e, ← h2]
  exact h1
theorem p2_of {N k : Nat} (h : N ≤ 2 ^ k) : (N : Rat) ≤ p2 k := Rat.natCast_le_natCast.mpr h
theorem pow_v (d : Nat) : 10 + 2 * 4 ^ d + 4 ^ (d + 1) + 1 ≤ 10 + 2 * 4 ^ (d + 1) := by
  rw [Nat.pow_succ]
  have := Nat.one_le_pow d 4 (by omega)
  omega
theorem Wf.cs : ∀ {p : Prog} {d : Nat}, Wf p d → Cs p d
  | .value n k, d, h => by
    refine ⟨by show (0 : Rat) ≤ 0; grind, ⟨1, by omega, Nat.one_le_two_pow, In.zero (by have := wN_pos; omega)⟩, Rat.le_of_lt (p2_pos _), fun t _ => ?_⟩
    show sm (t + 1) (tail (.value n k)) ≤ 0
    have hkn : k < n := h.1
    have m0 : mass (.value n k) 0 = 1 := by
      show sm n (fun i => sc (fun s => if s = 0 ∧ i = k then (1 : Int) else 0) 0) = 1
      rw [sm_one (j := k) hkn fun i _ hne => by
        unfold sc
        simp [hne]
        rw [p2_zero]; decide +kernel]
      unfold sc
      simp
      rw [p2_zero]; decide +kernel
    have : ∀ s, tail (.value n k) s ≤ 0 := fun s => by
      rw [tail_eq, sm_shift (α := Rat), m0]
      have : 0 ≤ sm s (fun i => mass (.value n k) (i + 1)) := sm_nonneg fun i _ => mass_nn (Wf.ln (d := d) h) _
      grind
    refine Rat.le_trans (sm_le (g := fun _ => 0) fun s _ => this s) ?_
    rw [sm_zero]
    exact Rat.le_refl
  | .draw n B a, d, h => by
    have h' : Dr n B a := h
    have n8 := h'.n8
    refine ⟨sm_nonneg fun i hi => (h'.sml hi).w.2.1, ⟨1, by omega, Nat.one_le_two_pow, by rw [Nat.mul_one]; exact In.sm wN_pos fun i hi => (h'.sml hi).w.1⟩, ?_, fun t ht => ?_⟩
    · refine Rat.le_trans (sm_le (g := fun _ => 100) fun i hi => (h'.sml hi).w.2.2) ?_
      have e : sm n (fun _ => (100 : Rat)) = (n : Rat) * 100 := by
        clear n8 h' h
        induction n with
        | zero => simp only [sm]; decide +kernel
        | succ n ih => simp only [sm, ih, Rat.natCast_add]; have : ((1 : Nat) : Rat) = 1 := rfl; grind
      rw [e]
      have h8 : (n : Rat) ≤ ((8 : Nat) : Rat) := Rat.natCast_le_natCast.mpr n8
      have h8' : ((8 : Nat) : Rat) = 8 := rfl
      have h10 : p2 10 ≤ p2 (10 + 2 * 4 ^ d) := p2_le (by omega)
      have h10' : p2 10 = 1024 := rfl
      grind
    · rw [sm_congr fun s _ => draw_tail h' s, sm_swap]
      exact sm_le fun i hi => w_ge (h'.sml hi) ht
  | .bind f k cs, d, h => by
    obtain ⟨e, rfl, hf, hk, k1, k3, hc⟩ := h
    have F := hf.cs
    have FM := hf.mn
    have FL := hf.ln
    have C : ∀ j, j < k → Cs (cs j) e := fun j hj => (hc j hj).1.cs
    obtain ⟨N, hN, hNI⟩ := FM.ex
    obtain ⟨Kf, kf0, kf1, kf2⟩ := F.ex
    have exC : ∃ M : Nat, 0 < M ∧ M ≤ 2 ^ (e * 4 ^ e * k) ∧ ∀ j, j < k → In (wN * M) (cost (cs j)) := by
      clear kf2 kf1 kf0 hNI hN FL FM F hk hf
      induction k with
      | zero => exact ⟨1, by omega, Nat.one_le_two_pow, fun j hj => by omega⟩
      | succ k ih =>
        by_cases k0 : k = 0
        · subst k0
          obtain ⟨M, m0, m1, m2⟩ := (C 0 (by omega)).ex
          exact ⟨M, m0, by rw [Nat.zero_add, Nat.mul_one]; exact m1, fun j hj => by
            have : j = 0 := by omega
            subst this; exact m2⟩
        · obtain ⟨M, h0, h1, h2⟩ := ih (by omega) (by omega) (fun j hj => hc j (by omega)) (fun j hj => C j (by omega))
          obtain ⟨M', m0, m1, m2⟩ := (C k (by omega)).ex
          have hpos := wN_pos
          refine ⟨M * M', Nat.mul_pos h0 m0, ?_, fun j hj => ?_⟩
          · rw [Nat.mul_succ, Nat.pow_add]
            exact Nat.mul_le_mul h1 m1
          · by_cases e : j = k
            · subst e
              exact m2.dvd (Nat.mul_dvd_mul_left _ (Nat.dvd_mul_left _ _)) (Nat.mul_pos hpos (Nat.mul_pos h0 m0))
            · exact (h2 j (by omega)).dvd (Nat.mul_dvd_mul_left _ (Nat.dvd_mul_right _ _)) (Nat.mul_pos hpos (Nat.mul_pos h0 m0))
    obtain ⟨M, m0, m1, m2⟩ := exC
    have hpos := wN_pos
    have n0 := (hNI 0).1
    have sumnn : 0 ≤ sm k fun j => mean f j * cost (cs j) := sm_nonneg fun j hj => Rat.mul_nonneg (FM.nn j) (C j hj).nn
    refine ⟨by show 0 ≤ cost f + _; have := F.nn; grind, ⟨Kf * (N * M), Nat.mul_pos kf0 (Nat.mul_pos n0 m0), ?_, ?_⟩, ?_, fun t ht => ?_⟩
    · refine Nat.le_trans (Nat.mul_le_mul kf1 (Nat.mul_le_mul hN m1)) ?_
      rw [← Nat.pow_add, ← Nat.pow_add]
      refine Nat.pow_le_pow_right (by omega) ?_
      have h3 : e * 4 ^ e * k ≤ e * 4 ^ e * 3 := Nat.mul_le_mul_left _ k3
      have h4 : (e + 1) * 4 ^ (e + 1) = 4 * (e * 4 ^ e) + 4 ^ (e + 1) := by rw [Nat.add_mul, Nat.one_mul, Nat.pow_succ, ← Nat.mul_assoc, Nat.mul_comm (e * 4 ^ e) 4]
      omega
    · have hall : 0 < wN * (Kf * (N * M)) := Nat.mul_pos hpos (Nat.mul_pos kf0 (Nat.mul_pos n0 m0))
      refine In.add (kf2.dvd (Nat.mul_dvd_mul_left _ (Nat.dvd_mul_right _ _)) hall) (In.sm hall fun j hj => ?_)
      refine ((hNI j).mul (m2 j hj)).dvd ?_ hall
      rw [show N * (wN * M) = wN * (N * M) by rw [← Nat.mul_assoc, Nat.mul_comm N wN, Nat.mul_assoc]]
      exact Nat.mul_dvd_mul_left _ (Nat.dvd_mul_left _ _)
    · show cost f + sm k (fun j => mean f j * cost (cs j)) ≤ _
      have h1 : sm k (fun j => mean f j * cost (cs j)) ≤ p2 (10 + 2 * 4 ^ e) := by
        refine Rat.le_trans (sm_le (g := fun j => mean f j * p2 (10 + 2 * 4 ^ e)) fun j hj => Rat.mul_le_mul_of_nonneg_left (C j hj).le (FM.nn j)) ?_
        rw [sm_mulr, ← hk, FM.one]
        grind
      have h2 := F.le
      have h3 : p2 (10 + 2 * 4 ^ e + 1) ≤ p2 (10 + 2 * 4 ^ (e + 1)) := p2_le (by have := pow_v e; omega)
      rw [p2_succ] at h3
      grind
    · rw [bind_tails hk (fun j hj => (hc j hj).2)]
      have h1 := F.tl t ht
      have h2 : sm k (fun j => sm (t + 1) fun a => sc (fun a => len f a j) a * sm (t - a + 1) (tail (cs j))) ≤ sm k fun j => mean f j * cost (cs j) := sm_le fun j hj => by
        refine Rat.le_trans (sm_le (g := fun a => sc (fun a => len f a j) a * cost (cs j)) fun a _ => Rat.mul_le_mul_of_nonneg_left ((C j hj).tl (t - a) (by omega)) (sc_nonneg (FL.nn a j))) ?_
        rw [sm_mulr]
        exact Rat.mul_le_mul_of_nonneg_right (FL.le t j) (C j hj).nn
      show _ ≤ cost f + sm k fun j => mean f j * cost (cs j)
      grind
  | .again p l, d, h => by
    obtain ⟨e, rfl, hp, hne⟩ := h
    have F := hp.cs
    have M := hp.mn
    have L := hp.ln
    obtain ⟨N, hN, hNI⟩ := M.ex
    have l0 : 0 ≤ lotS (outs p) (mean p) l := lotS_nn (fun i _ => M.nn i) l
    have lp : 0 < lotS (outs p) (mean p) l := by grind
    have l1 : lotS (outs p) (mean p) l ≤ 1 := by rw [← M.one]; exact lotS_le (fun i _ => M.nn i) l
    have lI : In N (lotS (outs p) (mean p) l) := lotS_In (hNI 0).1 (fun i _ => hNI i) l
    obtain ⟨Kf, kf0, kf1, kf2⟩ := F.ex
    have linv := inv_lot lI lp
    obtain ⟨A, hA, hAI⟩ := In.quot (In.int (hNI 0).1 1) lI lp l1
    refine ⟨div_nn F.nn lp, ⟨Kf * A, Nat.mul_pos kf0 hAI.1, ?_, ?_⟩, ?_, fun t ht => ?_⟩
    · refine Nat.le_trans (Nat.mul_le_mul kf1 (Nat.le_trans hA hN)) ?_
      rw [← Nat.pow_add]
      refine Nat.pow_le_pow_right (by omega) ?_
      have h4 : (e + 1) * 4 ^ (e + 1) = 4 * (e * 4 ^ e) + 4 ^ (e + 1) := by rw [Nat.add_mul, Nat.one_mul, Nat.pow_succ, ← Nat.mul_assoc, Nat.mul_comm (e * 4 ^ e) 4]
      omega
    · have := kf2.mul hAI
      rw [Nat.mul_assoc] at this
      have e2 : cost p * (((1 : Int) : Rat) / lotS (outs p) (mean p) l) = cost p / lotS (outs p) (mean p) l := by
        have : ((1 : Int) : Rat) = 1 := rfl
        grind
      rw [e2] at this
      exact this
    · show cost p / lotS (outs p) (mean p) l ≤ _
      refine div_le lp ?_
      have h1 := F.le
      have h2 : (N : Rat) ≤ p2 (4 ^ (e + 1)) := p2_of hN
      have h3 : p2 (10 + 2 * 4 ^ e + 4 ^ (e + 1)) ≤ p2 (10 + 2 * 4 ^ (e + 1)) := p2_le (by have := pow_v e; omega)
      rw [p2_add] at h3
      have h4 : 1 ≤ lotS (outs p) (mean p) l * p2 (4 ^ (e + 1)) := Rat.le_trans linv (Rat.mul_le_mul_of_nonneg_left h2 l0)
      have h5 := Rat.mul_le_mul_of_nonneg_left h4 (Rat.le_of_lt (p2_pos (10 + 2 * 4 ^ e)))
      have h6 := Rat.mul_le_mul_of_nonneg_right h3 l0
      grind
    · rw [sm_congr fun t _ => again_tail M L hne t, conv_sum]
      show _ ≤ cost p / lotS (outs p) (mean p) l
      have D0 := fun s => thr_nonneg (n := outs p) (l := l) L.nn s
      have T0 := tms_nonneg D0
      refine Rat.le_trans (sm_le (g := fun a => sc (tms (thr (outs p) l (len p))) a * cost p) fun a _ => Rat.mul_le_mul_of_nonneg_left (F.tl (t - a) (by omega)) (sc_nonneg (T0 a))) ?_
      rw [sm_mulr]
      have h1 := tms_sum D0 lp (fun t => thr_sum M L l t) t
      refine le_div lp ?_
      have h2 := Rat.mul_le_mul_of_nonneg_right h1 F.nn
      have : sm (t + 1) (fun i => sc (tms (thr (outs p) l (len p))) i) = sm (t + 1) (sc (tms (thr (outs p) l (len p)))) := rfl
      grind
  | .ren p nm n, d, h => by
    obtain ⟨e, rfl, hp, n1, n8, hn⟩ := h
    have F := hp.cs
    obtain ⟨N, n0, hN, hI⟩ := F.ex
    have e1 : e * 4 ^ e ≤ (e + 1) * 4 ^ (e + 1) := Nat.mul_le_mul (by omega) (Nat.pow_le_pow_right (by omega) (by omega))
    refine ⟨F.nn, ⟨N, n0, Nat.le_trans hN (Nat.pow_le_pow_right (by omega) e1), hI⟩, Rat.le_trans F.le (p2_le (by have := pow_v e; omega)), fun t ht => ?_⟩
    have : ∀ s, tail (.ren p nm n) s = tail p s := fun s => by
      rw [tail_eq, tail_eq]
      congr 1
      exact sm_congr fun s _ => ren_mass hn s
    rw [sm_congr fun s _ => this s]
    exact F.tl t ht
theorem four3 {d : Nat} (h : d ≤ 3) : 4 ^ d ≤ 64 := by
  have : 4 ^ d ≤ 4 ^ 3 := Nat.pow_le_pow_right (by omega) h
  omega
theorem wNlt : wN < 2 ^ 100 := by decide
theorem cost_In {p : Prog} {d : Nat} (h : Wf p d) (hd : d ≤ 3) : (∃ N, N < 2 ^ 300 ∧ In N (cost p)) ∧ 0 ≤ cost p ∧ cost p ≤ p2 150 := by
  have C := h.cs
  obtain ⟨N, n0, hN, hI⟩ := C.ex
  have h4 := four3 hd
  refine ⟨⟨wN * N, ?_, hI⟩, C.nn, Rat.le_trans C.le (p2_le (by omega))⟩
  have h2 : N ≤ 2 ^ 192 := Nat.le_trans hN (Nat.pow_le_pow_right (by omega) (Nat.mul_le_mul hd h4))
  have : wN * N < 2 ^ 100 * 2 ^ 193 := Nat.mul_lt_mul'' wNlt (Nat.lt_of_le_of_lt h2 (by decide))
  rw [← Nat.pow_add] at this
  exact Nat.lt_of_lt_of_le this (Nat.pow_le_pow_right (by omega) (by omega))
theorem cost_sm {p : Prog} {d : Nat} (h : Wf p d) (hd : d ≤ 3) : Sm (cost p) := by
  obtain ⟨⟨N, hN, hI⟩, h0, h1⟩ := cost_In h hd
  exact Sm.of hI (Nat.lt_trans hN (Nat.pow_lt_pow_right (by omega) (by omega))) h0 (Rat.le_trans h1 (p2_le (by omega)))
/-! ### tails, floors -/
theorem sc_In (u : Nat → Int) {s t : Nat} (h : s ≤ t) : In (2 ^ t) (sc u s) := by
  have h2 : In (2 ^ s) (sc u s) := ⟨Nat.two_pow_pos s, u s, rfl⟩
  exact h2.dvd (Nat.pow_dvd_pow 2 h) (Nat.two_pow_pos t)
theorem tail_In (p : Prog) (t : Nat) : In (2 ^ t) (tail p t) := by
  rw [tail_eq]
  exact (In.int (Nat.two_pow_pos t) 1).sub (In.sm (Nat.two_pow_pos t) fun s hs => In.sm (Nat.two_pow_pos t) fun i _ => sc_In _ (by omega))
theorem tail_sm {p : Prog} {d : Nat} (h : Wf p d) {t : Nat} (ht : t ≤ 300) : Sm (tail p t) :=
  Sm.of (tail_In p t) (Nat.pow_lt_pow_right (by omega) (by omega)) (tail_nn h t) (Rat.le_trans (tail_le h t) (p2_one 200))
theorem floor_le_of {N : Nat} {x y : Rat} {t : Nat} (h : In (2 ^ t) x) (hxy : x ≤ y) : x ≤ ((y * p2 t).floor : Rat) / p2 t := by
  obtain ⟨_, a, rfl⟩ := h
  refine le_div (p2_pos t) ?_
  have e : (a : Rat) / ((2 ^ t : Nat) : Rat) * p2 t = (a : Rat) := by
    show (a : Rat) / p2 t * p2 t = _
    have := p2_ne t; grind
  rw [e]
  refine Rat.intCast_le_intCast.mpr (Rat.le_floor_iff.mpr ?_)
  have := Rat.mul_le_mul_of_nonneg_right hxy (Rat.le_of_lt (p2_pos t))
  have e2 : (a : Rat) / ((2 ^ t : Nat) : Rat) * p2 t = (a : Rat) := e
  grind
theorem flo_eq {n : Nat} {f : Nat → Rat} (h : sm n f = 1) (t : Nat) : floQ n f t = lawFl n f t := by
  unfold floQ lawFl
  have e : sm n (fun i => fracQ (f i * p2 t)) = p2 t - sm n (fun i => ((f i * p2 t).floor : Rat)) := by
    unfold fracQ
    rw [sm_sub, sm_mulr, h]
    grind
  rw [e]
  have := p2_ne t
  grind
/-- a made machine's tail is never below the floor -/
theorem tail_ge {p : Prog} {d : Nat} (h : Wf p d) (t : Nat) : floQ (outs p) (mean p) t ≤ tail p t := by
  have M := h.mn
  have L := h.ln
  rw [flo_eq M.one, tail_eq]
  unfold lawFl mass
  rw [sm_swap]
  have : sm (outs p) (fun i => sm (t + 1) fun s => sc (fun s => len p s i) s) ≤ sm (outs p) (fun i => ((mean p i * p2 t).floor : Rat) / p2 t) := sm_le fun i _ =>
    floor_le_of (N := 0) (In.sm (Nat.two_pow_pos t) fun s hs => sc_In _ (by omega)) (L.le t i)
  have e : sm (outs p) (fun i => ((mean p i * p2 t).floor : Rat) / p2 t) = sm (outs p) (fun i => ((mean p i * p2 t).floor : Rat)) / p2 t := by
    rw [Rat.div_def, ← sm_mulr]
    exact sm_congr fun i _ => by rw [Rat.div_def]
  rw [e] at this
  grind
theorem flo_sm {n : Nat} {f : Nat → Rat} (h : Tab n f) {t : Nat} (ht : t ≤ 300) : Sm (floQ n f t) := by
  have n8 := h.n8
  have h0 : 0 ≤ floQ n f t := div_nn (sm_nonneg fun i _ => frac_nonneg _) (p2_pos t)
  have h1 : floQ n f t ≤ 8 := by
    refine div_le (p2_pos t) ?_
    have e : sm n (fun i => fracQ (f i * p2 t)) ≤ (n : Rat) := by
      have : ∀ m, sm m (fun i => fracQ (f i * p2 t)) ≤ (m : Rat) := fun m => by
        induction m with
        | zero => exact Rat.le_refl
        | succ m ih =>
          simp only [sm, Rat.natCast_add]
          have := frac_lt (f m * p2 t)
          have : ((1 : Nat) : Rat) = 1 := rfl
          grind
      exact this n
    have h8 : (n : Rat) ≤ ((8 : Nat) : Rat) := Rat.natCast_le_natCast.mpr n8
    have h8' : ((8 : Nat) : Rat) = 8 := rfl
    have := p2_one t
    grind
  have hI : In (2 ^ t) (floQ n f t) := by
    rw [flo_eq h.one]
    unfold lawFl
    refine (In.int (Nat.two_pow_pos t) 1).sub ?_
    refine ⟨Nat.two_pow_pos t, sm n fun i => (f i * p2 t).floor, ?_⟩
    rw [sm_cast]
    rfl
  refine Sm.of hI (Nat.pow_lt_pow_right (by omega) (by omega)) h0 (Rat.le_trans h1 ?_)
  exact Rat.le_trans (by decide +kernel : (8 : Rat) ≤ p2 3) (p2_le (by omega))
theorem lenQ_nn {p : Prog} {d : Nat} (h : Wf p d) (i t : Nat) : 0 ≤ lenQ p i t := sc_nonneg (u := fun s => len p s i) (h.ln.nn t i)
theorem lenQ_le {p : Prog} {d : Nat} (h : Wf p d) {i : Nat} (hi : i < outs p) (t : Nat) : lenQ p i t ≤ 1 := by
  have L := h.ln
  have h3 : sc (fun s => len p s i) t ≤ sm (t + 1) (sc fun s => len p s i) := sm_term (f := sc fun s => len p s i) (j := t) (n := t + 1) (fun j _ => sc_nonneg (L.nn j i)) (by omega)
  exact Rat.le_trans h3 (Rat.le_trans (L.le t i) (one_le h.mn hi))
theorem fall {p : Prog} (t : Nat) : tail p t - tail p (t + 1) = sm (outs p) fun i => lenQ p i (t + 1) := by
  rw [tail_eq, tail_eq]
  show 1 - sm (t + 1) (mass p) - (1 - (sm (t + 1) (mass p) + mass p (t + 1))) = mass p (t + 1)
  grind
/-- again's rows by the program's way: E = L + D E -/
theorem again_rec (n : Nat) (L : Nat → Nat → Int) (l : Nat → Bool) (s i : Nat) : agL n L l s i = (if l i then L s i else 0) + sm s fun k => thr n l L (k + 1) * agL n L l (s - 1 - k) i := by
  unfold agL
  cases hl : l i
  · simp
    have : ∀ m, sm m (fun k => (0 : Int)) = 0 := fun m => by induction m with | zero => rfl | succ m ih => simp only [sm, ih]; rfl
    exact (this s).symm
  · simp
    generalize thr n l L = D
    have cast_inj : ∀ a b : Int, (a : Rat) = (b : Rat) → a = b := fun a b => Rat.intCast_inj.mp
    apply cast_inj
    cases s with
    | zero =>
      show ((conv (tms D) (fun b => L b i) 0 : Int) : Rat) = ((L 0 i + 0 : Int) : Rat)
      congr 1
      show (0 : Int) + tms D 0 * L 0 i = _
      rw [tms_zero]
      omega
    | succ t =>
      unfold conv
      rw [sm_cast, Rat.intCast_add, sm_cast, sm_shift (α := Rat)]
      have e0 : ((tms D 0 * L (t + 1 - 0) i : Int) : Rat) = (L (t + 1) i : Rat) := by rw [tms_zero, Int.one_mul]; rfl
      rw [e0]
      congr 1
      have e1 : sm (t + 1) (fun a => ((tms D (a + 1) * L (t + 1 - (a + 1)) i : Int) : Rat)) = sm (t + 1) (fun a => sm (a + 1) (fun k => ((D (k + 1) : Int) : Rat) * ((tms D (a - k) : Int) : Rat)) * ((L (t - a) i : Int) : Rat)) := sm_congr fun a _ => by
        rw [Rat.intCast_mul, tms_succ, sm_cast, show t + 1 - (a + 1) = t - a by omega]
        congr 1
        exact sm_congr fun k _ => Rat.intCast_mul _ _
      rw [e1, conv_assoc t (fun k => ((D (k + 1) : Int) : Rat)) (fun m => ((tms D m : Int) : Rat)) (fun b => ((L b i : Int) : Rat))]
      refine sm_congr fun k _ => ?_
      rw [Rat.intCast_mul, sm_cast]
      congr 1
      rw [show t + 1 - 1 - k = t - k by omega]
      exact sm_congr fun b _ => (Rat.intCast_mul _ _).symm
end K39

set_option Elab.async false
set_option linter.all false
set_option maxRecDepth 100000
set_option maxHeartbeats 1000000
set_option exponentiation.threshold 20000
/-! SE8: programs -/
namespace K39
open PySem PySem.Spec PyProof.Rows L2
section
variable {K : PySem.W.Frag} {dk : Dk} {Γ : List K39.G} {ta tb tc te : TE} {x y z u : PyData} {ds : List PyData} {q r : Rat} {N : List K39.G → Prop} {R : PyData → Prop}
/-! items of written tuples -/
theorem ix0 (h : EvD K dk te Γ (.tuple (x :: ds))) : EvD K dk (tOp (rIx K) te (tC (.int 0))) Γ x := ev_opD h ev_int (opd_ixT (atN (n := 0) rfl))
theorem ix1 (h : EvD K dk te Γ (.tuple (x :: y :: ds))) : EvD K dk (tOp (rIx K) te (tC (.int 1))) Γ y := ev_opD h ev_int (opd_ixT (atN (n := 1) rfl))
theorem ix2 (h : EvD K dk te Γ (.tuple (x :: y :: z :: ds))) : EvD K dk (tOp (rIx K) te (tC (.int 2))) Γ z := ev_opD h ev_int (opd_ixT (atN (n := 2) rfl))
theorem ix3 (h : EvD K dk te Γ (.tuple (x :: y :: z :: u :: ds))) : EvD K dk (tOp (rIx K) te (tC (.int 3))) Γ u := ev_opD h ev_int (opd_ixT (atN (n := 3) rfl))
/-- the first of some -/
theorem ixm0 {n : Nat} {f : Nat → PyData} (h : EvD K dk te Γ (.tuple (mp n f))) (hn : 0 < n) : EvD K dk (tOp (rIx K) te (tC (.int 0))) Γ (f 0) := ev_opD h ev_int (opd_ixT (mp_get2 (i := 0) hn))
theorem ixm0L {n : Nat} {f : Nat → PyData} (h : EvD K dk te Γ (.list (mp n f))) (hn : 0 < n) : EvD K dk (tOp (rIx K) te (tC (.int 0))) Γ (f 0) := ev_opD h ev_int (opd_ixL (mp_get2 (i := 0) hn))
theorem wT {s t : Str} {b : Bool} (h : EvD K dk te Γ (.str s)) (e : decide (s = t) = b) : EvB K dk (tTest (tOp rEq te (tC (.str t)))) Γ b := (et_testB (ev_opD h ev_str opd_eqS)).cast e
theorem lenT {n : Nat} (h : EvD K dk te Γ (.tuple ds)) (e : ds.length = n) : EvD K dk (tCB (rLenQ K) (tCons te tNil)) Γ (.int (n : Int)) := (ev_lenT h).cast (by rw [e])
theorem wordB {w v : Str} {b : Bool} (h : EvD K dk te Γ (.tuple (.str w :: ds))) (e : decide (w = v) = b) : EvB K dk (tB (tCall (sp_is_word K) [] E0 (tCons te (tCons (tC (.str v)) tNil)))) Γ b := (et_BB (ev_is_word h)).cast e
theorem At.wf {n : Nat} {p : Prog} (h : At (n + 1) p) : Wf p n ∧ n ≤ 3 := by
  obtain ⟨d, e, h3, hw⟩ := h
  have : d = n := by omega
  subst this
  exact ⟨hw, h3⟩
theorem at_of {e : Nat} {p : Prog} (h : Wf p e) (h3 : e ≤ 3) : At (e + 1) p := ⟨e, rfl, h3, h⟩
theorem at4 {p : Prog} (h : Wf p 3) : At 4 p := ⟨3, rfl, by omega, h⟩
theorem at_false {p : Prog} (h : At 0 p) : False := by
  obtain ⟨d, e, _⟩ := h
  omega
theorem q_no {c : TT} {t r : TS} (h : EvB K dk c Γ false) (hr : SOk K dk r Γ N R) : SOk K dk (tSeq (tIfS c t tNext) r) Γ N R := q_ifF h (q_next hr)
theorem ev_str2 {a b : Str} : EvD K dk (tTup (tCons (tC (.str a)) (tCons (tC (.str b)) tNil))) Γ (.tuple [.str a, .str b]) := ev_tup (ea2 ev_str ev_str) (by simp)
/-- no word of these -/
theorem wN0 {s t : Str} {u r : TS} (h : EvD K dk te Γ (.str s)) (hr : SOk K dk r Γ N R) (e : decide (s = t) = false := by decide) : SOk K dk (tSeq (tIfS (tTest (tOp rEq te (tC (.str t)))) u tNext) r) Γ N R := q_no (wT h e) hr
theorem wY {s t : Str} {u v r : TS} (h : EvD K dk te Γ (.str s)) (hr : SOk K dk (tSeq u r) Γ N R) (e : decide (s = t) = true := by decide) : SOk K dk (tSeq (tIfS (tTest (tOp rEq te (tC (.str t)))) u v) r) Γ N R := q_ifT (wT h e) hr
/-! outcomes -/
theorem ev_raw_outcomes {n : Nat} {p : Prog} (h : EvD K dk te Γ (enc p)) (a : At n p) : EvD K dk (tCall (sp_raw_outcomes K n) [] E0 (tCons te tNil)) Γ (.int (outs p)) := ev_callF p (ea1 h) a
theorem ev_law_outcomes {n : Nat} {p : Prog} (h : EvD K dk te Γ (enc p)) (a : At n p) : EvD K dk (tCall (sp_law_outcomes K n) [] E0 (tCons te tNil)) Γ (.int (outs p)) := ev_callF p (ea1 h) a
theorem se_raw_outcomes (n : Nat) : SeF K (t_raw_outcomes K n) 2 (fun p : Prog => [enc p]) (fun p => At (n + 1) p) fun p => .int (outs p) := fun dk p h => by
  obtain ⟨hw, h3⟩ := h.wf
  cases p with
  | value m k => exact q_set (ix0 (ev_var rfl)) (wY (ev_var rfl) (q_ret (ix1 (ev_var rfl))))
  | draw m B a => exact q_set (ix0 (ev_var rfl)) (wN0 (ev_var rfl) (wY (ev_var rfl) (q_ret (lenT (ix1 (ev_var rfl)) mp_len))))
  | bind f k cs =>
    obtain ⟨e, rfl, hf, hk, k1, k3, hc⟩ := hw
    exact q_set (ix0 (ev_var rfl)) (wN0 (ev_var rfl) (wN0 (ev_var rfl) (wN0 (ev_var rfl) (wY (ev_var rfl) (q_ret (ev_raw_outcomes (p := cs 0) (ixm0 (n := k) (f := fun j => enc (cs j)) (ix2 (ev_var rfl)) (by omega)) (at_of (hc 0 (by omega)).1 (by omega))))))))
  | again p l =>
    obtain ⟨e, rfl, hp, hne⟩ := hw
    exact q_set (ix0 (ev_var rfl)) (wN0 (ev_var rfl) (wN0 (ev_var rfl) (wN0 (ev_var rfl) (wN0 (ev_var rfl) (s_ret (ev_if (wT (b := true) (ev_var rfl) (by decide)) (fun _ => ev_raw_outcomes (p := p) (ix1 (ev_var rfl)) (at_of hp (by omega))) fun z => by cases z))))))
  | ren p nm m =>
    exact q_set (ix0 (ev_var rfl)) (wN0 (ev_var rfl) (wN0 (ev_var rfl) (wN0 (ev_var rfl) (wN0 (ev_var rfl) (s_ret (ev_if (wT (b := false) (ev_var rfl) (by decide)) (fun z => by cases z) fun _ => ix3 (ev_var rfl)))))))
/-! what is within -/
theorem se_inner_of : SeF K (t_inner_of K) 1 (fun p : Prog => [enc p]) (fun p => Wf p 3) fun p => .tuple (innerL p) := fun dk p h => by
  cases p with
  | value m k => exact wN0 (ix0 (ev_var rfl)) ((s_ret (ev_if (B1 := fun b => b = false) ((et_testB (ev_opD (ix0 (ev_var rfl)) ev_str2 opd_inS)).cast (by decide)) (fun z => by cases z) fun _ => ev_tup ea_nil (by show 0 ≤ 1000; omega))))
  | draw m B a => exact wN0 (ix0 (ev_var rfl)) ((s_ret (ev_if (B1 := fun b => b = false) ((et_testB (ev_opD (ix0 (ev_var rfl)) ev_str2 opd_inS)).cast (by decide)) (fun z => by cases z) fun _ => ev_tup ea_nil (by show 0 ≤ 1000; omega))))
  | bind f k cs =>
    obtain ⟨e, he, hf, hk, k1, k3, hc⟩ := h
    exact wY (ix0 (ev_var rfl)) (q_ret (ev_opD (ev_tup (ea1 (ix1 (ev_var rfl))) (by show 1 ≤ 1000; omega)) (ix2 (ev_var rfl)) (opd_catT (by simp) (by rw [mp_len]; simp; omega))))
  | again p l => exact wN0 (ix0 (ev_var rfl)) ((s_ret (ev_if (B1 := fun b => b = true) ((et_testB (ev_opD (ix0 (ev_var rfl)) ev_str2 opd_inS)).cast (by decide)) (fun _ => ev_tup (ea1 (ix1 (ev_var rfl))) (by show 1 ≤ 1000; omega)) fun z => by cases z)))
  | ren p nm m => exact wN0 (ix0 (ev_var rfl)) ((s_ret (ev_if (B1 := fun b => b = true) ((et_testB (ev_opD (ix0 (ev_var rfl)) ev_str2 opd_inS)).cast (by decide)) (fun _ => ev_tup (ea1 (ix1 (ev_var rfl))) (by show 1 ≤ 1000; omega)) fun z => by cases z)))
theorem ev_inner_of {p : Prog} (h : EvD K dk te Γ (enc p)) (a : Wf p 3) : EvD K dk (tCall (sp_inner_of K) [] E0 (tCons te tNil)) Γ (.tuple (innerL p)) := ev_callF p (ea1 h) a
/-- xs.extend(..) by a list -/
theorem q_ext {i : Nat} {ds es : List PyData} {r : TS} (hi : Γ[i]? = some (.mut ds)) (hl : ds.length + es.length ≤ 1000) (h : EvD K dk te Γ (.list es)) (hr : SOk K dk r (Γ.set i (.mut (ds ++ es))) N R) :
    SOk K dk (tSeq (tDrop (tBM K "list" rExtend (tVar i) (tCons te tNil))) r) Γ N R := fun I0 H0 σ I H D e k1 k2 => by
  obtain ⟨p, vs, h1, h2, h3, h4, h5, h6⟩ := e.mu i ds hi
  refine ⟨_, h1, .inl ⟨rfl, vs, .inl (.inl h2)⟩, h I0 H0 σ I H _ e fun v d I1 H1 p1 n1 r1 => ?_⟩
  subst p1
  cases r1 with
  | @lst b zs _ hb hz =>
    have e1 := e.step n1
    have h2' := n1.hh _ _ h2 h5
    refine ⟨p, b, vs, zs, rfl, rfl, h2', n1.ok.sub _ _ hb, by rw [h6.len, hz.len]; exact small_line hl, ?_⟩
    exact hr I0 H0 σ I1 _ D (e1.mutate hi h1 ((h6.mono n1.ii).app hz)) (fun Γ' σ' I' H' n e2 s => k1 Γ' σ' I' H' n e2 (n1.ii.trans s)) k2
theorem ev_places_in {n : Nat} {p : Prog} (h : EvD K dk te Γ (enc p)) (a : At n p) : EvD K dk (tCall (sp_places_in K n) [] E0 (tCons te tNil)) Γ (.list []) := ev_callF p (ea1 h) a
theorem enc_word {p : Prog} : ∃ w ds, enc p = .tuple (.str w :: ds) ∧ decide (w = "place") = false := by
  cases p with
  | value m k => exact ⟨_, _, rfl, by decide⟩
  | draw m B a => exact ⟨_, _, rfl, by decide⟩
  | bind f k cs => exact ⟨_, _, rfl, by decide⟩
  | again p l => exact ⟨_, _, rfl, by decide⟩
  | ren p nm m => exact ⟨_, _, rfl, by decide⟩
theorem inner_sub {p : Prog} {n : Nat} (h : Wf p n) (h3 : n ≤ 3) {i : Nat} {x : PyData} (hx : (innerL p)[i]? = some x) : ∃ s, x = enc s ∧ At n s := by
  cases p with
  | value m k => simp [innerL] at hx
  | draw m B a => simp [innerL] at hx
  | bind f k cs =>
    obtain ⟨e, rfl, hf, hk, k1, k3, hc⟩ := h
    cases i with
    | zero => cases hx; exact ⟨f, rfl, at_of hf (by omega)⟩
    | succ i =>
      obtain ⟨hi, rfl⟩ := mp_get' (n := k) (f := fun j => enc (cs j)) hx
      exact ⟨cs i, rfl, at_of (hc i hi).1 (by omega)⟩
  | again p l =>
    obtain ⟨e, rfl, hp, hne⟩ := h
    cases i with
    | zero => cases hx; exact ⟨p, rfl, at_of hp (by omega)⟩
    | succ i => cases hx
  | ren p nm m =>
    obtain ⟨e, rfl, hp, _⟩ := h
    cases i with
    | zero => cases hx; exact ⟨p, rfl, at_of hp (by omega)⟩
    | succ i => cases hx
theorem se_places_in (n : Nat) : SeF K (t_places_in K n) 3 (fun p : Prog => [enc p]) (fun p => At (n + 1) p) fun _ => .list [] := fun dk p h => by
  obtain ⟨hw, h3⟩ := h.wf
  have hw3 := hw.up h3
  obtain ⟨w, ds, he, hne⟩ := enc_word (p := p)
  refine q_ifF (wT (ix0 ((ev_var rfl).cast he)) hne) (q_next (q_setMD (em_lst ea_nil fun ds e => by rw [e]; simp) (q_for (ei_seq (ev_inner_of (ev_var rfl) hw3) rfl) (fun i Γ => ∃ g, Γ = [.dat (enc p), .mut [], g]) ⟨_, rfl⟩ (fun i x Γ1 hx => ?_) ?_)))
  · rintro ⟨g, rfl⟩
    obtain ⟨s, rfl, hs⟩ := inner_sub hw h3 hx
    exact ⟨_, [2], tg_name (by simp), s_end (q_ext rfl (by simp) (ev_places_in (ev_var rfl) hs) (s_next ⟨.dat (enc s), rfl⟩))⟩
  · rintro Γ1 ⟨g, rfl⟩
    exact q_freeze (i := 1) rfl (s_ret (ev_var rfl))
/-! meanings -/
theorem ev_raw_meaning {n : Nat} {p : Prog} (h : EvD K dk te Γ (enc p)) (a : At n p) : EvD K dk (tCall (sp_raw_meaning K n) [] E0 (tCons te tNil)) Γ (tabD (outs p) (mean p)) := ev_callF p (ea1 h) a
theorem ev_law_meaning {n : Nat} {p : Prog} (h : EvD K dk te Γ (enc p)) (a : At n p) : EvD K dk (tCall (sp_law_meaning K n) [] E0 (tCons te tNil)) Γ (tabD (outs p) (mean p)) := ev_callF p (ea1 h) a
theorem tabD_congr {n m : Nat} {f g : Nat → Rat} (e : n = m) (h : ∀ i, i < n → f i = g i) : tabD n f = tabD m g := by
  subst e
  unfold tabD
  rw [mp_congr fun i hi => by rw [h i hi]]
theorem se_raw_meaning (Z : Zo K) (n : Nat) : SeF K (t_raw_meaning K n) 4 (fun p : Prog => [enc p]) (fun p => At (n + 1) p) fun p => tabD (outs p) (mean p) := fun dk p h => by
  obtain ⟨hw, h3⟩ := h.wf
  cases p with
  | value m k =>
    have hk : k < m := hw.1
    have hm : m ≤ 8 := hw.2
    refine q_set (ix0 (ev_var rfl)) (q_ifT (wT (ev_var rfl) (by decide)) (q_ret (ev_tupL (em_map _ (ei_range1 (n := (m : Int)) (ea1 (ix1 (ev_var rfl))) (by omega) (by omega)) (by rw [rangeD_len]; omega) (by rw [mp_len, rangeD_len]; show m = _; omega) fun i x y hx hy => ?_))))
    obtain ⟨hi, rfl⟩ := rangeD_get hx
    obtain ⟨_, rfl⟩ := mp_get' hy
    refine ⟨_, tg_name (by simp), ev_if (et_testB (ev_opD (ev_var rfl) (ix2 (ev_var rfl)) opd_eqI)) (fun hl => ?_) fun hl => ?_⟩
    · have hl' : i = k := by
        have := of_decide_eq_true hl.symm
        omega
      exact (ev_one Z).cast (by show fr 1 = fr (if i = k then 1 else 0); rw [if_pos hl'])
    · have hl' : ¬ i = k := by
        have := of_decide_eq_false hl.symm
        omega
      exact (ev_zero Z).cast (by show fr 0 = fr (if i = k then 1 else 0); rw [if_neg hl'])
  | draw m B a => exact q_set (ix0 (ev_var rfl)) (q_ifF (wT (ev_var rfl) (by decide)) (q_next (q_ifT (wT (ev_var rfl) (by decide)) (q_ret (ix1 (ev_var rfl))))))
  | bind f k cs =>
    have mix := Wf.mix hw h3
    obtain ⟨e, rfl, hf, hk, k1, k3, hc⟩ := hw
    refine q_set (ix0 (ev_var rfl)) (wN0 (ev_var rfl) (wN0 (ev_var rfl) (wY (ev_var rfl) (q_ret
      (ev_raw_mixed ((ev_raw_meaning (ix1 (ev_var rfl)) (at_of hf (by omega))).cast (tabD_congr hk fun _ _ => rfl)) (ev_tupL (em_map _ (ei_seq (ix2 (ev_var rfl)) rfl) (by rw [mp_len]; omega) (by rw [mp_len, mp_len]) fun j x y hx hy => ?_)) mix)))))
    obtain ⟨hj, rfl⟩ := mp_get' hx
    obtain ⟨_, rfl⟩ := mp_get' hy
    exact ⟨_, tg_name (by simp), (ev_raw_meaning (ev_var rfl) (at_of (hc j hj).1 (by omega))).cast (tabD_congr (hc j hj).2 fun _ _ => rfl)⟩
  | again p l =>
    obtain ⟨e, rfl, hp, hne⟩ := hw
    exact q_set (ix0 (ev_var rfl)) (wN0 (ev_var rfl) (wN0 (ev_var rfl) (wN0 (ev_var rfl) (wY (ev_var rfl) (q_ret (ev_raw_given (ev_raw_meaning (ix1 (ev_var rfl)) (at_of hp (by omega))) (ix2 (ev_var rfl)) (hp.tab (by omega)) hne))))))
  | ren p nm m =>
    obtain ⟨e, rfl, hp, n1, n8, hn⟩ := hw
    exact q_set (ix0 (ev_var rfl)) (wN0 (ev_var rfl) (wN0 (ev_var rfl) (wN0 (ev_var rfl) (wN0 (ev_var rfl) (s_ret (ev_raw_renamed (ev_raw_meaning (ix1 (ev_var rfl)) (at_of hp (by omega))) (ix2 (ev_var rfl)) (ix3 (ev_var rfl)) (hp.tab (by omega)) n8))))))
end
end K39

set_option Elab.async false
set_option linter.all false
set_option maxRecDepth 100000
set_option maxHeartbeats 1000000
set_option exponentiation.threshold 20000
/-! SE9: programs looked at -/
namespace K39
open PySem PySem.Spec PyProof.Rows L2
section
variable {K : PySem.W.Frag} {dk : Dk} {Γ : List K39.G} {ta tb tc te : TE} {x y z u : PyData} {ds : List PyData} {q r : Rat} {N : List K39.G → Prop} {R : PyData → Prop}
theorem ev_looked_at {n k : Nat} {p : Prog} {d : Nat} (h : EvD K dk ta Γ (enc p)) (h' : EvD K dk tb Γ (.int k)) (e : n = d + 1) (a : LookOk p d k) : EvD K dk (tCall (sp_looked_at K n) [] E0 (tCons ta (tCons tb tNil))) Γ (lookD p) := ev_callF (p, k) (ea2 h h') ⟨d, e, a⟩
theorem betw {i a b : Int} {ti : TE} (h : EvD K dk ti Γ (.int i)) (h2 : EvD K dk ta Γ (.int a)) (h3 : EvD K dk tb Γ (.int b)) (h4 : a ≤ i) (h5 : i ≤ b) : EvD K dk (tCall (sp_is_between K) [] E0 (tCons ti (tCons ta (tCons tb tNil)))) Γ (.bool true) := (ev_is_between h h2 h3).cast (by rw [decide_eq_true h4, decide_eq_true h5]; rfl)
theorem eqI {i j : Int} (h : EvD K dk ta Γ (.int i)) (h2 : EvD K dk tb Γ (.int j)) (e : i = j) : EvD K dk (tOp rEq ta tb) Γ (.bool true) := (ev_opD h h2 opd_eqI).cast (by rw [decide_eq_true e])
theorem neI {i j : Int} (h : EvD K dk ta Γ (.int i)) (h2 : EvD K dk tb Γ (.int j)) (e : i = j) : EvD K dk (tOp rNe ta tb) Γ (.bool false) := (ev_opD h h2 opd_neI).cast (by rw [decide_eq_true e]; rfl)
theorem ev_nilL : EvD K dk (tLst tNil) Γ (.list []) := (em_lst ea_nil fun ds e => by rw [e]; simp).stillD
theorem look_tup (p : Prog) : lookD p = .tuple [.int (outs p), .list [], .int (parts p)] := rfl
theorem parts_pos : ∀ p : Prog, 1 ≤ parts p := fun p => by cases p <;> simp [parts] <;> omega
theorem sm_mem (f : Nat → Nat) : ∀ {k j : Nat}, j < k → f j ≤ sm k f := fun {k j} h => by
  induction k with
  | zero => omega
  | succ k ih =>
    rw [sm_natS]
    by_cases e : j = k
    · subst e; omega
    · have := ih (by omega); omega
theorem lot_ne {n : Nat} {f : Nat → Rat} {l : Nat → Bool} (h : lotS n f l ≠ 0) : lotL n l ≠ [] := fun e => h (by rw [← lot_sum, e]; rfl)
theorem se_looked_at (n : Nat) : SeF K (t_looked_at K n) 3 (fun a : Prog × Nat => [enc a.1, .int a.2]) (fun a => ∃ d, n + 1 = d + 1 ∧ LookOk a.1 d a.2) fun a => lookD a.1 := fun dk ⟨p, k⟩ h => by
  obtain ⟨d, hd, hw, h3, h7, h40⟩ := h
  have : d = n := by omega
  subst this
  have h7' : k + d ≤ 7 := h7
  refine q_no ((et_testB (ev_opD (ev_var rfl) ev_int opd_eqI)).cast (decide_eq_false (by show ¬ (k : Int) = 8; omega))) ?_
  cases p with
  | value m i =>
    have hi : i < m := hw.1
    have hm : m ≤ 8 := hw.2
    refine q_ifT (wordB (ev_var rfl) (by decide)) (q_assoc (q_set (d := .bool true) (ev_andV (a := true) (b := true) (eqI (lenT (n := 3) (ev_var rfl) rfl) ev_int rfl) fun _ => ev_andV (a := true) (b := true) (betw (i := (m : Int)) (a := 1) (b := 8) (ix1 (ev_var rfl)) ev_int ev_int (by omega) (by omega)) fun _ => betw (i := (i : Int)) (a := 0) (b := (m : Int) - 1) (ix2 (ev_var rfl)) ev_int (ev_opD (ix1 (ev_var rfl)) ev_int opd_sub) (by omega) (by omega)) (q_ret ?_)))
    exact ev_if (et_BB (ev_var rfl)) (fun _ => ev_tup (ea3 (ix1 (ev_var rfl)) ev_nilL ev_int) (by simp)) fun z => by cases z
  | draw m B a =>
    have hD : Dr m B a := hw
    refine q_no (wordB (ev_var rfl) (by decide)) (q_ifT (wordB (ev_var rfl) (by decide)) (q_ret ?_))
    exact ev_if (et_andB (a := true) (b := true) (et_testB (eqI (lenT (n := 2) (ev_var rfl) rfl) ev_int rfl)) fun _ => et_BB (ev_is_table_value (ix1 (ev_var rfl)) hD.tab)) (fun _ => ev_tup (ea3 (lenT (ix1 (ev_var rfl)) mp_len) ev_nilL ev_int) (by simp)) fun z => by cases z
  | bind f j cs =>
    refine q_no (wordB (ev_var rfl) (by decide)) (q_no (wordB (ev_var rfl) (by decide)) (q_no (wordB (ev_var rfl) (by decide)) (q_ifT (et_andB (a := true) (b := true) (wordB (ev_var rfl) (by decide)) fun _ => et_testB (eqI (lenT (n := 3) (ev_var rfl) rfl) ev_int rfl)) (q_ret ?_))))
    exact ev_callF (Prog.bind f j cs, k) (ea2 (ev_var rfl) (ev_var rfl)) ⟨trivial, hw, h3, h7, h40⟩
  | again p l =>
    refine q_no (wordB (ev_var rfl) (by decide)) (q_no (wordB (ev_var rfl) (by decide)) (q_no (wordB (ev_var rfl) (by decide)) (q_no (et_andB (a := false) (b := true) (wordB (ev_var rfl) (by decide)) fun z => by cases z) (q_ifT (et_andB (a := true) (b := true) (wordB (ev_var rfl) (by decide)) fun _ => et_testB (eqI (lenT (n := 3) (ev_var rfl) rfl) ev_int rfl)) (q_ret ?_)))))
    · exact ev_callF (Prog.again p l, k) (ea2 (ev_var rfl) (ev_var rfl)) ⟨trivial, hw, h3, h7, h40⟩
  | ren p nm m =>
    refine q_no (wordB (ev_var rfl) (by decide)) (q_no (wordB (ev_var rfl) (by decide)) (q_no (wordB (ev_var rfl) (by decide)) (q_no (et_andB (a := false) (b := true) (wordB (ev_var rfl) (by decide)) fun z => by cases z) (q_no (et_andB (a := false) (b := true) (wordB (ev_var rfl) (by decide)) fun z => by cases z) (q_ifT (et_andB (a := true) (b := true) (wordB (ev_var rfl) (by decide)) fun _ => et_testB (eqI (lenT (n := 4) (ev_var rfl) rfl) ev_int rfl)) (q_ret ?_))))))
    · exact ev_callF (Prog.ren p nm m, k) (ea2 (ev_var rfl) (ev_var rfl)) ⟨trivial, hw, h3, h7, h40⟩
theorem shaped_of {ds : List PyData} (h : ∀ d, d ∈ ds → PyData.canLay0 d = true ∧ PyData.depth d ≤ 10) : SeqAt.shaped (.list ds) = true := by
  have h1 : PyData.canLayAll0 ds = true ∧ PyData.depthAll ds ≤ 10 := by
    induction ds with
    | nil => exact ⟨rfl, by decide⟩
    | cons d ds ih =>
      obtain ⟨a, b⟩ := ih fun d hd => h d (List.mem_cons_of_mem _ hd)
      obtain ⟨c, e⟩ := h d List.mem_cons_self
      simp [PyData.canLayAll0, PyData.depthAll, a, c]
      omega
  simp [SeqAt.shaped, PyData.canLay0, PyData.depth, h1.1]
  omega
theorem se_bind_looked_at (n : Nat) : SeF K (t_bind_looked_at K n) 7 (fun a : Prog × Nat => [enc a.1, .int a.2]) (fun a => isBind a.1 ∧ LookOk a.1 n a.2) fun a => lookD a.1 := fun dk ⟨p, k⟩ ⟨hb, hw, h3, h7, h40⟩ => by
  cases p with
  | bind f j cs =>
    obtain ⟨e, rfl, hf, hk, k1, k3, hc⟩ := hw
    have h7' : k + (e + 1) ≤ 7 := h7
    have hp : 1 + parts f + sm j (fun i => parts (cs i)) ≤ 40 := h40
    have p0 : ∀ i, i < j → parts (cs i) ≤ sm j fun i => parts (cs i) := fun i hi => sm_mem (fun i => parts (cs i)) hi
    have deep : ∀ {Γ : List K39.G}, Γ[1]? = some (.dat (.int (k : Int))) → EvD K dk (tOp rPlus (tVar 1) (tC (.int 1))) Γ (.int ((k + 1 : Nat) : Int)) := fun g => ev_opD (ev_var g) ev_int opd_add
    refine q_set (ev_looked_at (p := f) (ix1 (ev_var rfl)) (deep rfl) rfl ⟨hf, by omega, by omega, by omega⟩) ?_
    refine q_no (et_orB (a := false) (b := false) (et_testB (ev_opD (ev_var rfl) ev_non opd_isN)) fun _ => et_orB (a := false) (b := false) (et_notB (a := true) (et_BB (ev_isi (ix2 (ev_var rfl)) kit_tup_tup))) fun _ => et_testB (neI (lenT (n := j) (ix2 (ev_var rfl)) mp_len) (ix0 (ev_var rfl)) (by rw [hk]))) ?_
    refine q_setMD (em_map (mp j fun i => lookD (cs i)) (ei_seq (ix2 (ev_var rfl)) rfl) (by rw [mp_len]; omega) (by rw [mp_len, mp_len]) fun i x y hx hy => ?_) ?_
    · obtain ⟨hi, rfl⟩ := mp_get' hx
      obtain ⟨_, rfl⟩ := mp_get' hy
      have := p0 i hi
      exact ⟨_, tg_name (by simp), ev_looked_at (p := cs i) (ev_var rfl) (deep rfl) rfl ⟨(hc i hi).1, by omega, by omega, by omega⟩⟩
    refine q_freeze (i := 3) rfl ?_
    refine q_no (et_orB (a := false) (b := false) (et_testB ((ev_opD ev_non (ev_var rfl) (opd_inD (by decide) (shaped_of fun d hd => ?_))).cast ?_)) fun _ => et_notB (a := true) (et_BB (ev_allT (n := j) (em_map _ (ei_seq (ev_var rfl) rfl) (by rw [mp_len]; omega) (by rw [mp_len, mp_len]) fun i x y hx hy => ?_)))) ?_
    · obtain ⟨i, _, rfl⟩ := mp_mem.mp hd
      exact ⟨by simp [lookD, PyData.canLay0, PyData.canLayAll0], by simp [lookD, PyData.depth, PyData.depthAll]⟩
    · congr 1
      rw [List.any_eq_false]
      intro d hd
      obtain ⟨i, _, rfl⟩ := mp_mem.mp hd
      simp [lookD, PyData.eqv]
    · obtain ⟨hi, rfl⟩ := mp_get' hx
      obtain ⟨_, rfl⟩ := mp_get' hy
      exact ⟨_, tg_name (by simp), eqI (ix0 (ev_var rfl)) (ix0 (ixm0L (n := j) (f := fun i => lookD (cs i)) (ev_var rfl) (by omega))) (by rw [(hc i hi).2])⟩
    refine q_par2 (ea2 (ix1 (ev_var rfl)) (ev_opD (ix2 (ev_var rfl)) ev_int opd_add)) ?_
    refine q_for (ei_seq (ev_var rfl) rfl) (fun i Γ => ∃ g, Γ = [.dat (enc (.bind f j cs)), .dat (.int (k : Int)), .dat (lookD f), .dat (.list (mp j fun i => lookD (cs i))), g, .dat (.list []), .dat (.int (((parts f + 1 + sm i fun i => parts (cs i) : Nat)) : Int))]) ⟨_, rfl⟩ (fun i x Γ1 hx => ?_) ?_
    · rintro ⟨g, rfl⟩
      obtain ⟨hi, rfl⟩ := mp_get' hx
      refine ⟨_, [4], tg_name (by simp), s_end (q_par2 (ea2 ((em_op (ev_var rfl) (ix1 (ev_var rfl)) (opm_cat (by simp))).stillD) (ev_opD (ev_var rfl) (ix2 (ev_var rfl)) opd_add)) (s_next ⟨.dat (lookD (cs i)), ?_⟩))⟩
      rw [sm_natS, ← Nat.add_assoc, Int.natCast_add (parts f + 1 + sm i fun i => parts (cs i))]
      rfl
    · rintro Γ1 ⟨g, rfl⟩
      rw [mp_len]
      refine s_ret ((ev_tup (ea3 (ix0 (ixm0L (n := j) (f := fun i => lookD (cs i)) (ev_var rfl) (by omega))) (ev_var rfl) (ev_var rfl)) (by simp)).cast ?_)
      show PyData.tuple [.int (outs (cs 0)), .list [], _] = PyData.tuple [.int (outs (cs 0)), .list [], .int ((1 + parts f + sm j fun i => parts (cs i) : Nat) : Int)]
      rw [Nat.add_comm (parts f) 1]
  | value m i => exact hb.elim
  | draw m B a => exact hb.elim
  | again p l => exact hb.elim
  | ren p nm m => exact hb.elim
theorem se_again_looked_at (Z : Zo K) (n : Nat) : SeF K (t_again_looked_at K n) 3 (fun a : Prog × Nat => [enc a.1, .int a.2]) (fun a => isAgain a.1 ∧ LookOk a.1 n a.2) fun a => lookD a.1 := fun dk ⟨p, k⟩ ⟨hb, hw, h3, h7, h40⟩ => by
  cases p with
  | again p l =>
    obtain ⟨e, rfl, hp, hne⟩ := hw
    have h7' : k + (e + 1) ≤ 7 := h7
    have hp40 : 1 + parts p ≤ 40 := h40
    have n8 := hp.mn.n8
    refine q_set (ev_looked_at (p := p) (k := k + 1) (ix1 (ev_var rfl)) (ev_opD (ev_var rfl) ev_int opd_add) rfl ⟨hp, by omega, by omega, by omega⟩) ?_
    refine q_no (et_orB (a := false) (b := false) (et_testB (ev_opD (ev_var rfl) ev_non opd_isN)) fun _ => et_orB (a := false) (b := false) (et_testB ((ev_opD (ix1 (ev_var rfl)) ev_nilL (opd_neD (by decide) (by decide))).cast (by simp [PyData.eqv, PyData.eqvAll]))) fun _ =>
      et_orB (a := false) (b := false) (et_testB ((ev_opD (ix2 (ev_var rfl)) ev_int opd_ge).cast (congrArg PyData.bool (decide_eq_false (by omega))))) fun _ => et_notB (a := true) (et_BB (ev_is_lot_value (ix0 (ev_var rfl)) (ix2 (ev_var rfl)) (by omega) (lot_ne hne)))) ?_
    refine q_no ((et_testB (ev_eqfr (ev_raw_lot_chance (ev_raw_meaning (p := p) (ix1 (ev_var rfl)) (at_of hp (by omega))) (ix2 (ev_var rfl)) (hp.tab (by omega))) (ev_zero Z))).cast (decide_eq_false hne)) (s_ret ((ev_tup (ea3 (ix0 (ev_var rfl)) ev_nilL (ev_opD (ix2 (ev_var rfl)) ev_int opd_add)) (by simp)).cast ?_))
    show PyData.tuple [.int (outs p), .list [], .int ((parts p : Int) + 1)] = PyData.tuple [.int (outs p), .list [], .int ((1 + parts p : Nat) : Int)]
    rw [Nat.add_comm 1]
    rfl
  | value m i => exact hb.elim
  | draw m B a => exact hb.elim
  | bind f j cs => exact hb.elim
  | ren p nm m => exact hb.elim
theorem se_map_looked_at (n : Nat) : SeF K (t_map_looked_at K n) 3 (fun a : Prog × Nat => [enc a.1, .int a.2]) (fun a => isRen a.1 ∧ LookOk a.1 n a.2) fun a => lookD a.1 := fun dk ⟨p, k⟩ ⟨hb, hw, h3, h7, h40⟩ => by
  cases p with
  | ren p nm m =>
    obtain ⟨e, rfl, hp, n1, n8, hn⟩ := hw
    have h7' : k + (e + 1) ≤ 7 := h7
    have hp40 : 1 + parts p ≤ 40 := h40
    have p8 := hp.mn.n8
    have tI : tupI (outs p) nm = .tuple ((mp (outs p) fun j => ((nm j : Nat) : Int)).map PyData.int) := by unfold tupI; rw [mp_map]
    refine q_set (ev_looked_at (p := p) (k := k + 1) (ix1 (ev_var rfl)) (ev_opD (ev_var rfl) ev_int opd_add) rfl ⟨hp, by omega, by omega, by omega⟩) ?_
    refine q_no (et_orB (a := false) (b := false) (et_testB (ev_opD (ev_var rfl) ev_non opd_isN)) fun _ => et_orB (a := false) (b := false) (et_notB (a := true) (et_BB (betw (ix3 (ev_var rfl)) ev_int ev_int (by omega) (by omega)))) fun _ =>
      et_notB (a := true) (et_BB (ev_are_between ((ix2 (ev_var rfl)).cast tI) ev_int (ev_opD (ix3 (ev_var rfl)) ev_int opd_sub) (by rw [mp_len]; omega) fun i hi => ?_))) ?_
    · obtain ⟨j, hj, rfl⟩ := mp_mem.mp hi
      have := hn j hj
      omega
    refine s_ret (ev_if (et_testB (eqI (lenT (n := outs p) (ix2 (ev_var rfl)) mp_len) (ix0 (ev_var rfl)) rfl)) (fun _ => (ev_tup (ea3 (ix3 (ev_var rfl)) (ix1 (ev_var rfl)) (ev_opD (ix2 (ev_var rfl)) ev_int opd_add)) (by simp)).cast ?_) fun z => by cases z)
    show PyData.tuple [.int (m : Int), .list [], .int ((parts p : Int) + 1)] = PyData.tuple [.int (m : Int), .list [], .int ((1 + parts p : Nat) : Int)]
    rw [Nat.add_comm 1]
    rfl
  | value m i => exact hb.elim
  | draw m B a => exact hb.elim
  | bind f j cs => exact hb.elim
  | again p l => exact hb.elim
/-- a new dict that nothing is known of -/
theorem q_newDict {i : Nat} {t : TS} (hr : SOk K dk t (Γ.set i .no) N R) : SOk K dk (tSeq (tAsg tDNewK (gName i)) t) Γ N R := fun I0 H0 σ I H D e k1 k2 => fun p hp => by
  have n1 := Nx.newM (u := .dK []) e.ok hp
  refine hr I0 H0 _ I _ D ((e.step n1).weak (List.length_set ..) (List.length_set ..) fun j g h => ?_) (fun Γ' σ' I' H' n e2 s => k1 Γ' σ' I' H' n e2 s) k2
  rcases set_at h with ⟨_, _, e⟩ | ⟨hne, h⟩
  · exact .inl e
  · exact .inr ⟨h, List.getElem?_set_ne hne⟩
theorem se_are_of_one_size : SeF K (t_are_of_one_size K) 4 (fun _ : Unit => [.list []]) (fun _ => True) fun _ => .bool true := fun dk _ _ => by
  refine q_newDict (s_ret (ev_allT (n := 0) (em_map _ (ei_seq (ev_var rfl) rfl) (by simp) rfl fun i x y hx hy => by simp at hx)))
theorem ev_are_of_one_size (h : EvD K dk te Γ (.list [])) : EvD K dk (tCall (sp_are_of_one_size K) [] E0 (tCons te tNil)) Γ (.bool true) := ev_callF () (ea1 h) trivial
theorem Fit.look {p : Prog} (h : Fit p) : LookOk p 3 0 := ⟨h.1, by omega, by omega, h.2⟩
theorem se_is_program_value : SeF K (t_is_program_value K) 2 (fun p : Prog => [enc p]) (fun p => Fit p) fun _ => .bool true := fun dk p h => by
  have h40 : parts p ≤ 40 := h.2
  refine q_set (ev_looked_at (k := 0) (ev_var rfl) ev_int rfl h.look) (s_ret (ev_andV (a := true) (b := true) (ev_opD (ev_var rfl) ev_non opd_notN) fun _ => ev_andV (a := true) (b := true) ((ev_opD (ix2 (ev_var rfl)) ev_int opd_le).cast (congrArg PyData.bool (decide_eq_true (by omega)))) fun _ => ev_are_of_one_size (ix1 (ev_var rfl))))
theorem ev_is_program_value {p : Prog} (h : EvD K dk te Γ (enc p)) (a : Fit p) : EvD K dk (tCall (sp_is_program_value K) [] E0 (tCons te tNil)) Γ (.bool true) := ev_callF p (ea1 h) a
theorem ev_raw_places {p : Prog} (h : EvD K dk te Γ (enc p)) (a : Wf p 3) : EvD K dk (tCall (sp_raw_places K) [] E0 (tCons te tNil)) Γ (.tuple []) := ev_callF p (ea1 h) a
theorem se_need_closed : SeF K (t_need_closed K) 1 (fun p : Prog => [enc p]) (fun p => Fit p) fun _ => .none := fun dk p h =>
  s_end (q_no (et_orB (a := false) (b := false) (et_notB (a := true) (et_BB (ev_is_program_value (ev_var rfl) h))) fun _ => et_testB ((ev_opD (ev_raw_places (ev_var rfl) h.1) (ev_tup ea_nil (by simp)) (opd_neD (by decide) (by decide))).cast (by simp [PyData.eqv, PyData.eqvAll]))) (s_next rfl))
theorem ev_need_closed {p : Prog} (h : EvD K dk te Γ (enc p)) (a : Fit p) : EvD K dk (tCall (sp_need_closed K) [] E0 (tCons te tNil)) Γ .none := ev_callF p (ea1 h) a
/-! the places, by hand -/
def t_raw_places (K : PySem.W.Frag) : TS := (tRet (tCB (rTupQ K) (tCons (tCB (rSorted K) (tCons (tCB rListD (tCons (tDc (iSeq K (tCall (sp_places_in K 4) [] E0 (tCons (tVar 0) tNil))) (gName 1) tYes (tVar 1) (tC (.bl true)) [1]) tNil)) tNil)) tNil)))
theorem se_raw_places : SeF K (t_raw_places K) 2 (fun p : Prog => [enc p]) (fun p => Wf p 3) fun _ => .tuple [] := fun dk p h => by
  refine s_ret fun I0 H0 σ I H Q e k => ?_
  unfold tCB tCons tDc
  dsimp only
  refine ei_seq (ev_places_in (p := p) (ev_var (i := 0) (Γ := startG 2 [enc p]) rfl) (at4 h)) rfl I0 H0 σ I H _ e fun J I1 H1 n1 w => fun D hD => ?_
  have nD := Nx.newM (u := .dK []) n1.ok hD
  obtain ⟨ws, wg⟩ := w 0 I1 _ nD.ok nD.ii
  refine ⟨fun i m H => i = 0 ∧ m = 0 ∧ H = upd H1 D (.dK []), ⟨0, rfl, rfl, rfl⟩, ?_⟩
  rintro i m H' ⟨rfl, rfl, rfl⟩
  refine .inl ⟨ws rfl, D, [], rfl, upd_same, fun p1 hp1 => ?_⟩
  refine ⟨p1, [], rfl, .inl (.inl upd_same), by decide, fun ns' p2 hn _ hp2 => ?_⟩
  have : ns' = [] := hn.eq_nil
  subst this
  have n2 := Nx.newM (u := .lst []) nD.ok hp1
  have n3 := Nx.newM (u := .lst []) n2.ok hp2
  refine ⟨p2, [], rfl, .inl ⟨.inl (.inl upd_same), fun p3 hp3 => ?_⟩⟩
  have n4 := Nx.new (u := .tup []) n3.ok hp3
  exact k _ _ _ _ rfl ((((n1.trans nD).trans n2).trans n3).trans n4) (.tup (.inl (.inl upd_same)) .nil)
end
end K39

set_option Elab.async false
set_option linter.all false
set_option maxRecDepth 100000
set_option maxHeartbeats 1000000
set_option exponentiation.threshold 20000
/-! SE10: costs, lengths -/
namespace K39
open PySem PySem.Spec PyProof.Rows L2
section
variable {K : PySem.W.Frag} {dk : Dk} {Γ : List K39.G} {ta tb tc te : TE} {x y z u : PyData} {ds : List PyData} {q r : Rat} {N : List K39.G → Prop} {R : PyData → Prop}
/-! costs -/
theorem ev_raw_cost {n : Nat} {p : Prog} (h : EvD K dk te Γ (enc p)) (a : At n p) : EvD K dk (tCall (sp_raw_cost K n) [] E0 (tCons te tNil)) Γ (fr (cost p)) := ev_callF p (ea1 h) a
theorem Wf.totc {f : Prog} {k : Nat} {cs : Nat → Prog} {d : Nat} (h : Wf (.bind f k cs) d) (hd : d ≤ 3) : Tot (mp k fun j => mean f j * cost (cs j)) := by
  obtain ⟨e, rfl, hf, hk, k1, k3, hc⟩ := h
  have F := hf.mn
  obtain ⟨N, hN, hNI⟩ := F.ex
  have hN300 := Nat.lt_of_le_of_lt hN (two300 (d := e) (by omega))
  obtain ⟨M, hM0, hM, hMI⟩ := In.allj (k := k) (b := 300) (F := fun j _ => cost (cs j)) fun j hj => by
    obtain ⟨⟨M, h1, h2⟩, _⟩ := cost_In (hc j hj).1 (by omega)
    exact ⟨M, Nat.le_of_lt h1, fun _ => h2⟩
  refine ⟨by rw [mp_len]; omega, N * M, ?_, fun q hq => ?_⟩
  · have h1 : M ≤ 2 ^ 900 := Nat.le_trans hM (Nat.pow_le_pow_right (by omega) (by omega))
    have : N * M < 2 ^ 300 * 2 ^ 901 := Nat.mul_lt_mul'' hN300 (Nat.lt_of_le_of_lt h1 (Nat.pow_lt_pow_right (by omega) (by omega)))
    rw [← Nat.pow_add] at this
    exact Nat.lt_of_lt_of_le this (Nat.pow_le_pow_right (by omega) (by omega))
  · obtain ⟨j, hj, rfl⟩ := mp_mem.mp hq
    obtain ⟨_, c0, c1⟩ := cost_In (hc j hj).1 (by omega)
    have m1 := one_le F (i := j) (by omega)
    refine ⟨(hNI j).mul (hMI j hj 0), Rat.mul_nonneg (F.nn j) c0, Rat.le_trans ?_ (p2_le (a := 150) (by omega))⟩
    have := Rat.mul_le_mul_of_nonneg_right m1 c0
    grind
theorem se_raw_cost (Z : Zo K) (n : Nat) : SeF K (t_raw_cost K n) 6 (fun p : Prog => [enc p]) (fun p => At (n + 1) p) fun p => fr (cost p) := fun dk p h => by
  obtain ⟨hw, h3⟩ := h.wf
  cases p with
  | value m k => exact q_set (ix0 (ev_var rfl)) (wY (ev_var rfl) (q_ret (ev_zero Z)))
  | draw m B a => exact q_set (ix0 (ev_var rfl)) (wN0 (ev_var rfl) (wY (ev_var rfl) (q_ret (ev_raw_least_mean (ix1 (ev_var rfl)) hw))))
  | bind f k cs =>
    have tot := Wf.totc hw h3
    have ssum := tot.part k
    rw [List.take_of_length_le (by rw [mp_len]; exact Nat.le_refl _)] at ssum
    obtain ⟨e, rfl, hf, hk, k1, k3, hc⟩ := hw
    refine q_set (ix0 (ev_var rfl)) (wN0 (ev_var rfl) (wN0 (ev_var rfl) (q_set (ev_raw_cost (p := f) (ix1 (ev_var rfl)) (at_of hf (by omega))) (wY (ev_var rfl) (q_assoc (q_set (ev_raw_meaning (p := f) (ix1 (ev_var rfl)) (at_of hf (by omega))) (q_ret
      ((ev_plus (ev_var rfl) (ev_totalL (qs := mp k fun j => mean f j * cost (cs j)) (em_map _ (ei_zip (ea2 (ev_var rfl) (ix2 (ev_var rfl))) rfl rfl) (by rw [zipD_len, mp_len, mp_len]; omega) (by rw [zipD_len, mp_len, mp_len, List.length_map, mp_len]; omega) fun j x y hx hy => ?_) tot) (cost_sm hf (by omega)) ssum).cast ?_))))))))
    · obtain ⟨a, b, ha, hb, rfl⟩ := zipD_get hx
      obtain ⟨hj', rfl⟩ := mp_get' ha
      obtain ⟨hj, rfl⟩ := mp_get' hb
      rw [mp_map] at hy
      obtain ⟨_, rfl⟩ := mp_get' hy
      exact ⟨_, tg_two (by simp) (by simp), ev_times (ev_var rfl) (ev_raw_cost (p := cs j) (ev_var rfl) (at_of (hc j hj).1 (by omega))) ((hf.tab (by omega)).sm hj') (cost_sm (hc j hj).1 (by omega))⟩
    · rw [sum_mp]
      rfl
  | again p l =>
    obtain ⟨e, rfl, hp, hne⟩ := hw
    have T := hp.tab (by omega)
    obtain ⟨s1, s2⟩ := lot_sm T l
    exact q_set (ix0 (ev_var rfl)) (wN0 (ev_var rfl) (wN0 (ev_var rfl) (q_set (ev_raw_cost (p := p) (ix1 (ev_var rfl)) (at_of hp (by omega))) (wN0 (ev_var rfl) (s_ret (ev_if (wT (b := true) (ev_var rfl) (by decide)) (fun _ =>
      ev_over (ev_var rfl) (ev_raw_lot_chance (ev_raw_meaning (p := p) (ix1 (ev_var rfl)) (at_of hp (by omega))) (ix2 (ev_var rfl)) T) (cost_sm hp (by omega)) s1 (lotS_pos T hne) s2) fun z => by cases z))))))
  | ren p nm m =>
    obtain ⟨e, rfl, hp, n1, n8, hn⟩ := hw
    exact q_set (ix0 (ev_var rfl)) (wN0 (ev_var rfl) (wN0 (ev_var rfl) (q_set (ev_raw_cost (p := p) (ix1 (ev_var rfl)) (at_of hp (by omega))) (wN0 (ev_var rfl) (s_ret (ev_if (wT (b := false) (ev_var rfl) (by decide)) (fun z => by cases z) fun _ => ev_var rfl))))))
/-! rows of draws -/
theorem se_draw_lengths : SeF K (t_draw_lengths K) 5 (fun a : (Nat × (Nat → Rat)) × Nat => [tabD a.1.1 a.1.2, .int a.2]) (fun a => Tab a.1.1 a.1.2 ∧ a.2 ≤ 300) fun a => .list (mp (a.2 + 1) fun s => rowD a.1.1 fun i => dig (a.1.2 i) s) := fun dk ⟨⟨n, f⟩, t⟩ ⟨h, ht⟩ => by
  have h' : Tab n f := h
  have ht' : t ≤ 300 := ht
  have n8 := h'.n8
  dsimp only
  have row : ∀ {Γ : List K39.G} {te : TE} (s : Nat), Γ[0]? = some (.dat (tabD n f)) → (∀ j, j < n → EvD K dk te ((wipeG Γ [3]).set 3 (.dat (fr (f j)))) (.int (dig (f j) s))) → EvD K dk (tLc (iSeq K (tVar 0)) (gName 3) tYes te [3]) Γ (rowD n fun i => dig (f i) s) := fun s g hb =>
    (em_map _ (ei_seq (ev_var g) rfl) (by rw [mp_len]; omega) (by rw [mp_len, mp_len]) fun i x y hx hy => by
      obtain ⟨hi, rfl⟩ := mp_get' hx
      obtain ⟨_, rfl⟩ := mp_get' hy
      exact ⟨_, tg_name (by simp), hb i hi⟩ : EvM K dk _ _ fun r => r = mp n fun i => PyData.int (dig (f i) s)).stillD
  refine q_setMD (ds := mp 1 fun s => rowD n fun i => dig (f i) s) (em_lst (ea1 (row 0 rfl fun j hj => ev_whole_of (ev_var rfl) (h'.sm hj))) fun ds e => by rw [e]; show 1 ≤ 1000; omega) ?_
  refine q_for (ei_range2 (a := 1) (n := (t : Int) + 1) (ea2 ev_int (ev_opD (ev_var rfl) ev_int opd_add)) ⟨by omega, by omega, by omega, by omega⟩) (fun i Γ => ∃ g, i ≤ t ∧ Γ = [.dat (tabD n f), .dat (.int (t : Int)), .mut (mp (i + 1) fun s => rowD n fun i => dig (f i) s), .no, g]) ⟨_, Nat.zero_le _, rfl⟩ (fun i x Γ1 hx => ?_) ?_
  · rintro ⟨g, hit, rfl⟩
    obtain ⟨hi, rfl⟩ := rangeD_get hx
    have e1 : (1 : Int) + (i : Int) = ((i + 1 : Nat) : Int) := by omega
    rw [e1]
    refine ⟨_, [4], tg_name (by simp), s_end (q_app rfl (by rw [mp_len]; omega) (row (i + 1) rfl fun j hj => ev_raw_digit (k := i + 1) (ev_var rfl) (ev_var rfl) (h'.sm hj) (by omega)) fun d e => s_next ⟨.dat (.int ((i + 1 : Nat) : Int)), by omega, ?_⟩)⟩
    subst e
    rw [mp_succ (n := i + 1)]
    rfl
  · rintro Γ1 ⟨g, hit, rfl⟩
    refine q_freeze (i := 2) rfl (s_ret ((ev_var rfl).cast ?_))
    rw [rangeD_len, show ((t : Int) + 1 - 1).toNat = t by omega]
theorem ev_draw_lengths {n t : Nat} {f : Nat → Rat} (h : EvD K dk ta Γ (tabD n f)) (h' : EvD K dk tb Γ (.int t)) (T : Tab n f) (ht : t ≤ 300) : EvD K dk (tCall (sp_draw_lengths K) [] E0 (tCons ta (tCons tb tNil))) Γ (.list (mp (t + 1) fun s => rowD n fun i => dig (f i) s)) := ev_callF ((n, f), t) (ea2 h h') ⟨T, ht⟩
/-! again's rows -/
theorem small400 {i : Int} (h0 : 0 ≤ i) (h1 : i ≤ 2 ^ 400) : i.natAbs < 2 ^ 401 := by
  have : (i.natAbs : Int) < ((2 ^ 401 : Nat) : Int) := by
    rw [Int.natAbs_of_nonneg h0]
    have : (2 : Nat) ^ 400 < 2 ^ 401 := Nat.pow_lt_pow_right (by omega) (by omega)
    have h2 : (2 : Int) ^ 400 < ((2 ^ 401 : Nat) : Int) := by exact_mod_cast this
    omega
  exact_mod_cast this
theorem smI_le {n : Nat} {f : Nat → Int} {c : Int} (h : ∀ i, i < n → f i ≤ c) : sm n f ≤ n * c := by
  induction n with
  | zero => show (0 : Int) ≤ _; omega
  | succ n ih =>
    have h1 := ih fun i hi => h i (by omega)
    have h2 := h n (by omega)
    show sm n f + f n ≤ _
    have : ((n + 1 : Nat) : Int) * c = (n : Int) * c + c := by rw [Int.natCast_add, Int.add_mul]; omega
    omega
theorem thr_small {n T : Nat} {l : Nat → Bool} {L : Nat → Nat → Int} (h : sumLt L n T) (hn : n ≤ 8) {s : Nat} (hs : s ≤ T) : (thr n l L s).natAbs < 2 ^ 410 := by
  have h0 : 0 ≤ thr n l L s := smI_nonneg fun o ho => by
    split
    · omega
    · exact (h s o hs ho).1
  have h1 : thr n l L s ≤ n * 2 ^ 400 := smI_le fun o ho => by
    have := h s o hs ho
    split
    · exact Int.le_of_lt (Int.pow_pos (by omega))
    · exact this.2
  have h2 : (n : Int) * 2 ^ 400 ≤ 8 * 2 ^ 400 := Int.mul_le_mul_of_nonneg_right (by omega) (Int.le_of_lt (Int.pow_pos (by omega)))
  have h3 : (8 : Int) * 2 ^ 400 < ((2 ^ 410 : Nat) : Int) := by
    have : 8 * 2 ^ 400 < 2 ^ 410 := by rw [show (410 : Nat) = 10 + 400 from rfl, Nat.pow_add]; exact Nat.mul_lt_mul_of_pos_right (by decide : 8 < 2 ^ 10) (Nat.two_pow_pos _)
    exact_mod_cast this
  have : ((thr n l L s).natAbs : Int) < ((2 ^ 410 : Nat) : Int) := by rw [Int.natAbs_of_nonneg h0]; omega
  exact_mod_cast this
theorem conv_small {u v : Nat → Int} {T s : Nat} (hu : ∀ a, a ≤ T → 0 ≤ u a ∧ u a ≤ 2 ^ 400) (hv : ∀ a, a ≤ T → 0 ≤ v a ∧ v a ≤ 2 ^ 400) (hs : s ≤ T) (hT : T ≤ 300) : 0 ≤ conv u v s ∧ (conv u v s).natAbs < 2 ^ 900 := by
  have h0 : 0 ≤ conv u v s := smI_nonneg fun a ha => Int.mul_nonneg (hu a (by omega)).1 (hv _ (by omega)).1
  refine ⟨h0, ?_⟩
  have h1 : conv u v s ≤ (s + 1 : Nat) * (2 ^ 400 * 2 ^ 400) := smI_le fun a ha => Int.mul_le_mul (hu a (by omega)).2 (hv _ (by omega)).2 (hv _ (by omega)).1 (Int.le_of_lt (Int.pow_pos (by omega)))
  have h2 : ((s + 1 : Nat) : Int) * (2 ^ 400 * 2 ^ 400) ≤ 512 * (2 ^ 400 * 2 ^ 400) := Int.mul_le_mul_of_nonneg_right (by omega) (Int.mul_nonneg (Int.le_of_lt (Int.pow_pos (by omega))) (Int.le_of_lt (Int.pow_pos (by omega))))
  have h3 : (512 : Int) * (2 ^ 400 * 2 ^ 400) < ((2 ^ 900 : Nat) : Int) := by
    have : 512 * (2 ^ 400 * 2 ^ 400) < 2 ^ 900 := by decide +kernel
    exact_mod_cast this
  have : ((conv u v s).natAbs : Int) < ((2 ^ 900 : Nat) : Int) := by rw [Int.natAbs_of_nonneg h0]; omega
  exact_mod_cast this
theorem agL_small {n T : Nat} {l : Nat → Bool} {L : Nat → Nat → Int} (h : AgOk n L l T) {s i : Nat} (hs : s ≤ T) (hi : i < n) : (agL n L l s i).natAbs < 2 ^ 900 := by
  obtain ⟨hn, hT, hL, ht⟩ := h
  unfold agL
  split
  · exact (conv_small ht (fun a ha => hL a i ha hi) hs hT).2
  · exact Nat.lt_of_lt_of_le (by decide : (0 : Int).natAbs < 1) (Nat.one_le_two_pow)
theorem filt_int (n : Nat) (p : Nat → Bool) (f : Nat → Int) : ((mp n fun j => if p j then some (PyData.int (f j)) else none).filterMap id) = ((lotL n p).map f).map PyData.int := by
  unfold mp lotL
  rw [List.filterMap_map, List.map_map]
  induction (List.range n) with
  | nil => rfl
  | cons a l ih =>
    rw [List.filterMap_cons, List.filter_cons]
    have ih' : List.filterMap (fun j => if p j = true then some (PyData.int (f j)) else none) l = List.map (PyData.int ∘ f) (List.filter p l) := ih
    cases h : p a <;> simp [h, ih']
theorem lot_sumI (n : Nat) (f : Nat → Int) (l : Nat → Bool) : ((lotL n fun i => !l i).map f).sum = sm n fun i => if l i then 0 else f i := by
  unfold lotL
  induction n with
  | zero => rfl
  | succ n ih =>
    rw [List.range_succ, List.filter_append, List.map_append, List.sum_append, ih]
    simp only [sm]
    cases h : l n <;> simp [h]
/-- a step of the program's sum -/
def agS (n : Nat) (L : Nat → Nat → Int) (l : Nat → Bool) (s m i : Nat) : Int := (if l i then L s i else 0) + sm m fun k => thr n l L (k + 1) * agL n L l (s - 1 - k) i
theorem se_again_lengths : SeF K (t_again_lengths K) 11 (fun a : (Nat × (Nat → Nat → Int)) × (Nat → Bool) × Nat => [.list (mp (a.2.2 + 1) fun s => rowD a.1.1 (a.1.2 s)), lotD a.1.1 a.2.1]) (fun a => AgOk a.1.1 a.1.2 a.2.1 a.2.2) fun a => .list (mp (a.2.2 + 1) fun s => rowD a.1.1 (agL a.1.1 a.1.2 a.2.1 s)) := fun dk ⟨⟨n, L⟩, l, T⟩ h => by
  have h' : AgOk n L l T := h
  have hA : AgOk n L l T := h
  obtain ⟨hn, hT, hL, ht⟩ := h'
  dsimp only
  refine q_setMD (em_lst ea_nil fun ds e => by rw [e]; simp) (q_for (ei_enum (ea1 (ev_var rfl)) rfl)
    (fun s Γ => ∃ g3 g4 g5 g6 g7, s ≤ T + 1 ∧ Γ = [.dat (.list (mp (T + 1) fun s => rowD n (L s))), .dat (lotD n l), .mut (mp s fun s => rowD n (agL n L l s)), g3, g4, g5, g6, g7, .no, .no, .no]) ⟨_, _, _, _, _, Nat.zero_le _, rfl⟩ (fun s x Γ1 hx => ?_) ?_)
  · rintro ⟨g3, g4, g5, g6, g7, hsT, rfl⟩
    obtain ⟨e, he, rfl⟩ := enumD_get hx
    obtain ⟨hs, rfl⟩ := mp_get' he
    refine ⟨_, [3, 4], tg_two (by simp) (by simp), ?_⟩
    -- the rows that end in the lot
    refine q_set (d := rowD n (agS n L l s 0)) (EvM.stillD (em_map _ (ei_enum (ea1 (ev_var rfl)) rfl) (by rw [enumD_len, mp_len]; omega) (by rw [mp_len, enumD_len, mp_len]) fun i x y hx hy => ?_)) ?_
    · obtain ⟨e, he, rfl⟩ := enumD_get hx
      obtain ⟨hi, rfl⟩ := mp_get' he
      obtain ⟨_, rfl⟩ := mp_get' hy
      have e0 : agS n L l s 0 i = if l i then L s i else 0 := by unfold agS; show (if l i then L s i else 0) + 0 = _; omega
      refine ⟨_, tg_two (by simp) (by simp), ev_if (et_testB ((ev_opD (ev_var rfl) ((ev_var rfl).cast (lotD_ints n l)) opd_inI).cast (by rw [lot_memI hi]))) (fun hl => ?_) fun hl => ?_⟩
      · have hl' : l i = true := hl.symm
        exact (ev_var rfl).cast (by rw [e0]; simp [hl'])
      · have hl' : l i = false := hl.symm
        exact ev_int.cast (by rw [e0]; simp [hl'])
    -- those thrown away less bits before
    refine q_for (ei_range2 (a := 1) (n := (s : Int) + 1) (ea2 ev_int (ev_opD (ev_var rfl) ev_int opd_add)) ⟨by omega, by omega, by omega, by omega⟩)
      (fun m Γ => ∃ g6 g7, m ≤ s ∧ Γ = [.dat (.list (mp (T + 1) fun s => rowD n (L s))), .dat (lotD n l), .mut (mp s fun s => rowD n (agL n L l s)), .dat (.int (s : Int)), .dat (rowD n (L s)), .dat (rowD n (agS n L l s m)), g6, g7, .no, .no, .no]) ⟨_, _, Nat.zero_le _, rfl⟩ (fun m x Γ1 hx => ?_) ?_
    · rintro ⟨g6, g7, hms, rfl⟩
      obtain ⟨hm, rfl⟩ := rangeD_get hx
      have e1 : (1 : Int) + (m : Int) = ((m + 1 : Nat) : Int) := by omega
      rw [e1]
      have hm' : m < s := by omega
      refine ⟨_, [6], tg_name (by simp), ?_⟩
      refine q_set (d := .int (thr n l L (m + 1))) ((ev_CB (ea1 (EvM.stillD ((em_filter (mp n fun j => if (fun j => !l j) j then some (PyData.int (L (m + 1) j)) else none) (ei_enum (ea1 (ev_opD (ev_var rfl) (ev_var rfl) (opd_ixL (mp_get2 (f := fun s => rowD n (L s)) (i := m + 1) (by omega))))) rfl) (by rw [enumD_len, mp_len]; omega) (by rw [mp_len, enumD_len, mp_len]) fun j x o hx ho => ?_).imp fun ds e => by rw [e]; exact filt_int n (fun j => !l j) (L (m + 1))))) cd_sum).imp fun d e => ?_) ?_
      · obtain ⟨e, he, rfl⟩ := enumD_get hx
        obtain ⟨hj, rfl⟩ := mp_get' he
        obtain ⟨_, rfl⟩ := mp_get' ho
        refine ⟨_, tg_two (by simp) (by simp), (et_testB (ev_opD (ev_var rfl) ((ev_var rfl).cast (lotD_ints n l)) opd_notInI)).cast ?_, fun y hy => ?_⟩
        · rw [lot_memI hj]
          dsimp only
          by_cases hl : l j = true
          · simp [hl]
          · simp [hl]
        · cases hl : l j <;> simp [hl] at hy
          subst hy
          exact ev_var rfl
      · rw [e, lot_sumI]
        rfl
      · refine s_end (q_set (d := rowD n (agS n L l s (m + 1))) (EvM.stillD (em_map _ (ei_zip (ea2 (ev_var rfl) (ev_ixM (i := 2) rfl ((ev_opD (ev_var rfl) (ev_var rfl) opd_sub).cast (y := .int ((s - 1 - m : Nat) : Int)) (congrArg PyData.int (by omega))) (mp_get2 (f := fun s => rowD n (agL n L l s)) (i := s - 1 - m) (by omega)))) rfl rfl) (by rw [zipD_len, mp_len, mp_len]; omega) (by rw [zipD_len, mp_len, mp_len, mp_len]; omega) fun i x y hx hy => ?_)) (s_next ⟨_, _, by omega, rfl⟩))
        obtain ⟨a, b, ha, hb, rfl⟩ := zipD_get hx
        obtain ⟨hi, rfl⟩ := mp_get' ha
        obtain ⟨_, rfl⟩ := mp_get' hb
        obtain ⟨_, rfl⟩ := mp_get' hy
        refine ⟨_, tg_two (by simp) (by simp), (ev_opD (ev_var rfl) (ev_opD (ev_var rfl) (ev_var rfl) (opd_mulX (cmulx (thr_small hL hn (by omega)) (agL_small hA (s := s - 1 - m) (by omega) hi)))) opd_add).cast ?_⟩
        unfold agS
        show PyData.int (_ + _ + _) = PyData.int (_ + (_ + _))
        rw [Int.add_assoc]
    · rintro Γ1 ⟨g6, g7, hms, rfl⟩
      rw [rangeD_len, show ((s : Int) + 1 - 1).toNat = s by omega]
      refine s_end (q_app rfl (by rw [mp_len]; omega) (ev_var rfl) fun d e => s_next ?_)
      subst e
      have e2 : rowD n (agS n L l s s) = rowD n (agL n L l s) := by
        unfold rowD
        exact congrArg PyData.list (mp_congr fun i _ => by rw [again_rec n L l s i]; rfl)
      rw [e2, mp_succ (n := s)]
      exact ⟨_, _, _, _, _, by omega, rfl⟩
  · rintro Γ1 ⟨g3, g4, g5, g6, g7, hsT, rfl⟩
    refine q_freeze (i := 2) rfl (s_ret ((ev_var rfl).cast ?_))
    rw [enumD_len, mp_len]
theorem ev_again_lengths {n T : Nat} {L : Nat → Nat → Int} {l : Nat → Bool} (h : EvD K dk ta Γ (.list (mp (T + 1) fun s => rowD n (L s)))) (h' : EvD K dk tb Γ (lotD n l)) (a : AgOk n L l T) : EvD K dk (tCall (sp_again_lengths K) [] E0 (tCons ta (tCons tb tNil))) Γ (.list (mp (T + 1) fun s => rowD n (agL n L l s))) := ev_callF ((n, L), l, T) (ea2 h h') a
end
end K39

set_option Elab.async false
set_option linter.all false
set_option maxRecDepth 100000
set_option maxHeartbeats 1000000
set_option exponentiation.threshold 20000
/-! SE11: lists of lists that change -/
namespace K39
open PySem PySem.Spec PyProof.Rows L2
section
variable {K : PySem.W.Frag} {dk : Dk} {Γ : List K39.G} {I H I1 H1 I2 H2 I0 H0 : Hp} {f : Addr} {rs : Nat → Addr} {n T : Nat} {X Y : Nat → Nat → Int}
/-! slots of data alone -/
inductive Sl (K : PySem.W.Frag) (I : Hp) : List K39.G → L2.St → Prop
  | nil : Sl K I [] []
  | no {Γ : List K39.G} {σ : L2.St} (x : Option V) : Sl K I Γ σ → Sl K I (.no :: Γ) (x :: σ)
  | dat {Γ : List K39.G} {σ : L2.St} {v : V} {d : PyData} : Rp K I v d → Sl K I Γ σ → Sl K I (.dat d :: Γ) (some v :: σ)
theorem Sl.know {σ : L2.St} (s : Sl K I Γ σ) (o : Ok dk I H) : Know K dk I H Γ σ I H := by
  have key : Γ.length = σ.length ∧ ∀ (i : Nat) (g : K39.G), Γ[i]? = some g → g = .no ∨ ∃ d v, g = .dat d ∧ σ[i]? = some (some v) ∧ Rp K I v d := by
    induction s with
    | nil => exact ⟨rfl, fun i g h => by simp at h⟩
    | no x _ ih =>
      refine ⟨by simp [ih.1], fun i g h => ?_⟩
      cases i with
      | zero => exact .inl (Option.some.inj h).symm
      | succ i => exact ih.2 i g h
    | dat r _ ih =>
      refine ⟨by simp [ih.1], fun i g h => ?_⟩
      cases i with
      | zero => exact .inr ⟨_, _, (Option.some.inj h).symm, rfl, r⟩
      | succ i => exact ih.2 i g h
  refine ⟨Nx.refl o, key.1.symm, fun i d h => ?_, fun i ds h => ?_, fun i j ds es p h => ?_, fun i h => ?_⟩
  · rcases key.2 i _ h with z | ⟨d', v, z, a, b⟩
    · cases z
    · cases z; exact ⟨v, a, b⟩
  · rcases key.2 i _ h with z | ⟨d', v, z, a, b⟩ <;> cases z
  · rcases key.2 i _ h with z | ⟨d', v, z, a, b⟩ <;> cases z
  · rcases key.2 i _ h with z | ⟨d', v, z, a, b⟩ <;> cases z
theorem Ok.mut {p : Addr} {w : HO} (o : Ok dk I H) (h1 : I p = none) (nz : ¬ zone dk p) : Ok dk I (L2.upd H p w) := by
  refine ⟨fun a x q => ?_, fun q eq => ?_⟩
  · rw [upd_ne (ne_of_none q h1)]; exact o.sub a x q
  · obtain ⟨D, k1, k2⟩ := o.dk q eq
    obtain ⟨cs, m, c, g1, g2, g3⟩ := D.ex
    exact ⟨⟨cs, m, c, by rw [upd_ne (fun z => nz ⟨q, eq, .inl z.symm⟩)]; exact g1, by rw [upd_ne (fun z => nz ⟨q, eq, .inr z.symm⟩)]; exact g2, g3⟩, k1, k2⟩
theorem Mx.step (m : Mx dk f rs n T X I H) (x : Nx dk I H I1 H1) : Mx dk f rs n T X I1 H1 :=
  ⟨x.ok, x.hh _ _ m.hf m.zf, x.fr _ _ m.hf m.nf, m.zf, fun r hr => x.hh _ _ (m.row r hr) (m.zr r hr), fun r hr => x.fr _ _ (m.row r hr) (m.nr r hr), m.zr, m.ne, m.inj⟩
theorem Mx.put (m : Mx dk f rs n T X I H) {r : Nat} (hr : r ≤ T) (hY : ∀ r', r' ≤ T → r' ≠ r → ∀ i, i < n → Y r' i = X r' i) : Mx dk f rs n T Y I (upd H (rs r) (.lst (mp n fun i => V.int (Y r i)))) := by
  refine ⟨m.ok.mut (m.nr r hr) (m.zr r hr), ?_, m.nf, m.zf, fun r' hr' => ?_, m.nr, m.zr, m.ne, m.inj⟩
  · rw [upd_ne (fun z => m.ne r hr z.symm)]; exact m.hf
  · by_cases e : r' = r
    · subst e; exact upd_same
    · rw [upd_ne (fun z => e (m.inj r' r hr' hr z)), m.row r' hr']
      congr 2
      exact mp_congr fun i hi => by rw [hY r' hr' e i hi]
theorem Mx.congr (m : Mx dk f rs n T X I H) (h : ∀ r i, r ≤ T → i < n → X r i = Y r i) : Mx dk f rs n T Y I H :=
  ⟨m.ok, m.hf, m.nf, m.zf, fun r hr => by rw [m.row r hr]; congr 2; exact mp_congr fun i hi => by rw [h r i hr hi], m.nr, m.zr, m.ne, m.inj⟩
theorem Kp.refl : Kp dk rs T I H I H := ⟨Same.refl I, fun _ _ h _ _ => h, fun _ _ _ h => h⟩
theorem Kp.of (x : Nx dk I H I1 H1) : Kp dk rs T I H I1 H1 := ⟨x.ii, fun a o h z _ => x.hh a o h z, x.fr⟩
theorem Kp.put {r : Nat} (hr : r ≤ T) {w : HO} : Kp dk rs T I H I (upd H (rs r) w) := ⟨Same.refl I, fun a o h _ ne => by rw [upd_ne (ne r hr)]; exact h, fun _ _ _ h => h⟩
theorem Kp.trans (a : Kp dk rs T I H I1 H1) (b : Kp dk rs T I1 H1 I2 H2) (m : Mx dk f rs n T X I2 H2) (m1 : Mx dk f rs n T Y I1 H1) : Kp dk rs T I H I2 H2 := by
  refine ⟨a.ii.trans b.ii, fun x o h z ne => b.hh x o (a.hh x o h z ne) z ne, fun x o h h0 => ?_⟩
  by_cases z : zone dk x
  · exact (m.ok.zoneH z).2
  · by_cases e : ∃ r, r ≤ T ∧ x = rs r
    · obtain ⟨r, hr, rfl⟩ := e
      exact m.nr r hr
    · exact b.fr x o (a.hh x o h z fun r hr ee => e ⟨r, hr, ee⟩) (a.fr x o h h0)
/-- a loop by what one says of the heap -/
theorem for_raw {J : It} {g : TG} {tb : TS} {items : List PyData} {D : Ends} {σ : L2.St} (w : Walks K dk J I items) (S : Nat → L2.St → Hp → Hp → Prop) (ok : ∀ i σ' I' H', S i σ' I' H' → Ok dk I' H' ∧ Same I I') (h0 : S 0 σ I H)
    (hs : ∀ i x σ1 I1 H1, items[i]? = some x → S i σ1 I1 H1 → ∀ v I3 H3, Nx dk I1 H1 I3 H3 → Rp K I3 v x → g v σ1 H3 fun σ2 H4 => tb { D with nx := fun σ' H' => ∃ I', S (i + 1) σ' I' H', ct := fun σ' H' => ∃ I', S (i + 1) σ' I' H', bk := D.nx } σ2 H4)
    (hd : ∀ σ1 I1 H1, S items.length σ1 I1 H1 → D.nx σ1 H1) :
    ∃ W : Nat → Nat → L2.St → Hp → Prop, (∃ m, W 0 m σ H) ∧ ∀ i m σ H, W i m σ H → (J.stop i H ∧ D.nx σ H) ∨ (J.go i H ∧ ∃ N : L2.St → Hp → Prop, (∀ σ' H', N σ' H' → ∃ m', m' < m ∧ W (i + 1) m' σ' H') ∧ ∀ x H', J.yld i H x H' → g x σ H' fun σ2 H2 => tb { D with nx := N, ct := N, bk := D.nx } σ2 H2) := by
  refine ⟨fun i m σ' H' => m = items.length - i ∧ i ≤ items.length ∧ ∃ I', S i σ' I' H', ⟨_, rfl, Nat.zero_le _, I, h0⟩, ?_⟩
  rintro i m σ1 H1 ⟨rfl, hile, I1, s⟩
  obtain ⟨o1, s1⟩ := ok i σ1 I1 H1 s
  obtain ⟨ws, wg⟩ := w i I1 H1 o1 s1
  by_cases hlt : i < items.length
  · refine .inr ?_
    have hx : items[i]? = some items[i] := List.getElem?_eq_getElem hlt
    obtain ⟨go, yld⟩ := wg _ hx
    refine ⟨go, fun σ' H' => ∃ I', S (i + 1) σ' I' H', fun σ' H' q => ⟨items.length - (i + 1), by omega, rfl, hlt, q⟩, fun v H3 hy => ?_⟩
    obtain ⟨I3, n3, rv⟩ := yld v H3 hy
    exact hs i _ σ1 I1 H1 hx s v I3 H3 n3 rv
  · have ei : i = items.length := by omega
    subst ei
    exact .inl ⟨ws rfl, hd σ1 I1 H1 s⟩
theorem rp_pair {v : V} {x y : PyData} (r : Rp K I v (.tuple [x, y])) : ∃ a vx vy, v = .ref a ∧ SqT K I a [vx, vy] ∧ Rp K I vx x ∧ Rp K I vy y := by
  cases r with
  | tup hs hr =>
    obtain ⟨v1, v2, rfl, r1, r2⟩ := rpl2 hr
    exact ⟨_, v1, v2, rfl, hs, r1, r2⟩
theorem rp_int {v : V} {i : Int} (r : Rp K I v (.int i)) : v = .int i := by cases r; rfl
theorem se_put_behind (vs : List V) (H : Hp) (Q : VK) (E : XK) (h : sp_put_behind K vs H Q E) : t_put_behind K { nx := fun _ H' => Q .non H', rt := Q } (L2.start nm_put_behind vs) H := by
  obtain ⟨dk, I, f, rs, n, T, s, X, ways, C, cv, rfl, m, hn, hT, hs, w0, w1, hC, rc, k⟩ := h
  have hs' : s ≤ T := hs
  -- how many rows
  refine ⟨_, rfl, f, _, rfl, .inl (.inl (.inl m.hf)), ?_⟩
  refine ⟨.int s, rfl, ((T + 1 : Nat) : Int), (s : Int), congrArg (fun k : Nat => V.int (k : Int)) mp_len, rfl, ?_⟩
  show ∃ q : Int, _
  have e1 : ((T + 1 : Nat) : Int) - (s : Int) = ((T + 1 - s : Nat) : Int) := by omega
  refine ⟨((T + 1 - s : Nat) : Int), by rw [← e1], by omega, by omega, ?_⟩
  refine for_raw (K := K) (dk := dk) (I := I) (items := rangeD 0 ((T + 1 - s : Nat) : Int).toNat) walks_range
    (fun i σ I' H' => Mx dk f rs n T (fun r c => X r c + if s ≤ r ∧ r < s + i then ways * C (r - s) c else 0) I' H' ∧ Kp dk rs T I H I' H' ∧ ∃ g4 g5 g6 g7, σ = [some (.ref f), some (.int s), some (.int ways), some cv, g4, g5, g6, g7])
    (fun i σ' I' H' ⟨a, b, _⟩ => ⟨a.ok, b.ii⟩) ⟨m.congr fun r i _ _ => by rw [if_neg (by omega), Int.add_zero], Kp.refl, none, none, none, none, rfl⟩ (fun i x σ1 I1 H1 hx => ?_) fun σ1 I1 H1 => ?_
  · rintro ⟨m1, k1, g4, g5, g6, g7, rfl⟩ v I3 H3 n3 rv
    obtain ⟨hi, rfl⟩ := rangeD_get hx
    have hi' : i < T + 1 - s := by omega
    have := rp_int rv
    subst this
    have m3 := m1.step n3
    have rc3 := (rc.mono k1.ii).mono n3.ii
    -- row = found[s + more]
    refine ⟨.ref f, rfl, .int s, rfl, .int (0 + (i : Int)), rfl, (s : Int), 0 + (i : Int), rfl, rfl, ?_⟩
    refine .inl ⟨f, _, (s : Int) + (0 + (i : Int)), .ref (rs (s + i)), rfl, rfl, .inl (.inl m3.hf), ?_, ?_⟩
    · have : (s : Int) + (0 + (i : Int)) = ((s + i : Nat) : Int) := by omega
      rw [this]
      unfold atI
      rw [mp_len, ixNat (by omega)]
      exact mp_get (by omega)
    -- the row of the case
    have sl : Sl K I3 [.no, .no, .dat (.int ways), .dat (.list (mp (T + 1) fun b => rowD n (C b))), .dat (.int (0 + (i : Int))), .no, .no, .no] [some (.ref f), some (.int s), some (.int ways), some cv, some (.int (0 + (i : Int))), some (.ref (rs (s + i))), g6, g7] :=
      .no _ (.no _ (.dat (.int _) (.dat rc3 (.dat (.int _) (.no _ (.no _ (.no _ .nil)))))))
    show tFor (iEnumS K (tCons (tOp (rIx K) (tVar 3) (tVar 4)) tNil)) (gTup K 2 (gCons (gName 6) (gCons (gName 7) gNil))) (tAugS (tVar 5) (tVar 6) (tOp rMulX (tVar 2) (tVar 7)) (gIxL K) (ipI fun i j => i + j) rSetL) _ [some (.ref f), some (.int s), some (.int ways), some cv, some (.int (0 + (i : Int))), some (.ref (rs (s + i))), g6, g7] H3
    unfold tFor
    refine ei_enum (K := K) (dk := dk) (x := rowD n (C i)) (ds := mp n fun c => .int (C i c)) (ea1 (ev_opD (ev_var (i := 3) (d := .list (mp (T + 1) fun b => rowD n (C b))) rfl) (ev_var (i := 4) (d := .int (0 + (i : Int))) rfl) (opd_ixL (by rw [Int.zero_add]; exact mp_get2 (f := fun b => rowD n (C b)) (by omega))))) rfl I3 H3 _ I3 H3 _ (sl.know m3.ok) fun J I4 H4 n4 w4 => ?_
    have m4 := m3.step n4
    have k4 : Kp dk rs T I H I4 H4 := (k1.trans (Kp.of (n3.trans n4)) m4 m1)
    refine for_raw (K := K) (dk := dk) (I := I4) w4
      (fun c σ I' H' => Mx dk f rs n T (fun r c' => X r c' + if s ≤ r ∧ (r < s + i ∨ (r = s + i ∧ c' < c)) then ways * C (r - s) c' else 0) I' H' ∧ Kp dk rs T I H I' H' ∧ Same I4 I' ∧ ∃ g6 g7, σ = [some (.ref f), some (.int s), some (.int ways), some cv, some (.int (0 + (i : Int))), some (.ref (rs (s + i))), g6, g7])
      (fun c σ' I' H' ⟨a, _, b, _⟩ => ⟨a.ok, b⟩) ⟨m4.congr fun r c _ _ => ?_, k4, Same.refl _, _, _, rfl⟩ (fun c x σ2 I5 H5 hx => ?_) fun σ2 I5 H5 => ?_
    · by_cases z : s ≤ r ∧ r < s + i
      · rw [if_pos z, if_pos ⟨z.1, .inl z.2⟩]
      · rw [if_neg z, if_neg (by omega)]
    · rintro ⟨m5, k5, s5, g6, g7, rfl⟩ v I6 H6 n6 rv
      obtain ⟨e, he, rfl⟩ := enumD_get hx
      obtain ⟨hc, rfl⟩ := mp_get' he
      obtain ⟨a, vx, vy, rfl, hs6, r1, r2⟩ := rp_pair rv
      have := rp_int r1
      subst this
      have := rp_int r2
      subst this
      have m6 := m5.step n6
      refine ⟨a, _, rfl, Same.sqt m6.ok.sub hs6, rfl, _, _, rfl, _, _, rfl, rfl, ?_⟩
      -- row[outcome] += ways * number
      have hri : s + i ≤ T := by omega
      have row := m6.row (s + i) hri
      refine ⟨.ref (rs (s + i)), rfl, .int (c : Int), rfl, rs (s + i), _, (c : Int), .int (X (s + i) c + if s ≤ s + i ∧ (s + i < s + i ∨ s + i = s + i ∧ c < c) then ways * C (s + i - s) c else 0), rfl, rfl, .inl (.inl row), ?_, ?_⟩
      · unfold atI
        rw [mp_len, ixNat hc]
        exact mp_get hc
      have hCi := hC i c (by omega) hc
      refine ⟨.int ways, rfl, .int (C i c), rfl, ways, C i c, rfl, rfl, cmulx (small400 w0 w1) (small400 hCi.1 hCi.2), _, _, rfl, rfl, rs (s + i), _, (c : Int), c, rfl, rfl, row, by rw [mp_len, ixNat hc], ?_⟩
      rw [mp_set]
      have hY : (mp n fun j => if j = c then V.int (X (s + i) c + (if s ≤ s + i ∧ (s + i < s + i ∨ s + i = s + i ∧ c < c) then ways * C (s + i - s) c else 0) + ways * C i c) else V.int (X (s + i) j + if s ≤ s + i ∧ (s + i < s + i ∨ s + i = s + i ∧ j < c) then ways * C (s + i - s) j else 0)) =
          mp n fun j => V.int ((fun r c' => X r c' + if s ≤ r ∧ (r < s + i ∨ (r = s + i ∧ c' < c + 1)) then ways * C (r - s) c' else 0) (s + i) j) := mp_congr fun j _ => by
        dsimp only
        have e0 : s + i - s = i := by omega
        by_cases z : j = c
        · subst z
          rw [if_pos rfl, if_neg (by omega), if_pos (by omega), e0]
          congr 1
          omega
        · rw [if_neg z]
          by_cases z2 : j < c
          · rw [if_pos (by omega), if_pos (by omega)]
          · rw [if_neg (by omega), if_neg (by omega)]
      have m7 := m6.put (Y := fun r c' => X r c' + if s ≤ r ∧ (r < s + i ∨ (r = s + i ∧ c' < c + 1)) then ways * C (r - s) c' else 0) (r := s + i) hri fun r' hr' hne j _ => by
        congr 1
        by_cases z : s ≤ r' ∧ r' < s + i
        · rw [if_pos ⟨z.1, .inl z.2⟩, if_pos ⟨z.1, .inl z.2⟩]
        · rw [if_neg (by omega), if_neg (by omega)]
      rw [← hY] at m7
      exact ⟨I6, m7, (k5.trans (Kp.of n6) m6 m5).trans (Kp.put hri) m7 m6, s5.trans n6.ii, _, _, rfl⟩
    · rintro ⟨m5, k5, s5, g6, g7, rfl⟩
      rw [enumD_len, mp_len] at m5
      refine ⟨I5, m5.congr fun r c hr hc => ?_, k5, _, _, _, _, rfl⟩
      congr 1
      by_cases z : s ≤ r ∧ r < s + (i + 1)
      · rw [if_pos z, if_pos (by omega)]
      · rw [if_neg z, if_neg (by omega)]
  · rintro ⟨m1, k1, _⟩
    rw [rangeD_len] at m1
    refine k I1 H1 (m1.congr fun r c hr hc => ?_) k1
    congr 1
    by_cases z : s ≤ r
    · rw [if_pos z, if_pos (by omega)]
    · rw [if_neg z, if_neg (by omega)]
end
end K39

set_option Elab.async false
set_option linter.all false
set_option maxRecDepth 100000
set_option maxHeartbeats 1000000
set_option exponentiation.threshold 20000
/-! SE12: rows of programs one behind another -/
namespace K39
open PySem PySem.Spec PyProof.Rows L2
section
variable {K : PySem.W.Frag} {dk : Dk} {Γ : List K39.G} {I H I1 H1 I2 H2 I0 H0 : Hp} {f : Addr} {rs : Nat → Addr} {n T : Nat} {X Y : Nat → Nat → Int} {ta tb tc te : TE}
/-- the addresses of new lists, one by one -/
structure News (K : PySem.W.Frag) (H : Hp) (D : Addr) (as : List Addr) (F : List PyData) (I' H' : Hp) : Prop where
  hD : H' D = some (.lst (as.map V.ref))
  iD : I' D = none
  nw : ∀ a, a ∈ as → H a = none ∧ I' a = none ∧ a ≠ D ∧ ∃ vs, H' a = some (.lst vs) ∧ RpL K I' vs F
  nd : as.Nodup
theorem News.step {D : Addr} {as : List Addr} {F : List PyData} (x : News K H D as F I1 H1) (n : Nx dk I1 H1 I2 H2) (nz : ∀ a, H a = none → ¬ zone dk a) (hD : H D = none) : News K H D as F I2 H2 :=
  ⟨n.hh _ _ x.hD (nz _ hD), n.fr _ _ x.hD x.iD, fun a ha => by
    obtain ⟨a1, a2, a3, vs, a4, a5⟩ := x.nw a ha
    exact ⟨a1, n.fr _ _ a4 a2, a3, vs, n.hh _ _ a4 (nz _ a1), a5.mono n.ii⟩, x.nd⟩
/-- [new list for ..] -/
theorem raw_lcM {wi : TI} {g : TG} {vs : List Nat} {items F : List PyData} {σ : L2.St} {Q : VK} (hi : EvI K dk wi Γ items) (hl : items.length ≤ 1000) (hb : ∀ (i : Nat) (x : PyData), items[i]? = some x → ∃ Γx, Tg K dk g vs x (wipeG Γ vs) Γx ∧ EvM K dk te Γx (fun ds => ds = F))
    (e : Know K dk I0 H0 Γ σ I H) (k : ∀ D as I' H', Nx dk I H I' H' → H D = none → as.length = items.length → News K H D as F I' H' → Q (.ref D) H') : tLc wi g tYes te vs σ H Q := by
  unfold tLc
  refine hi I0 H0 σ I H _ e fun J I1 H1 n1 w => fun D hD => ?_
  have hD0 : H D = none := n1.free hD
  have nzA : ∀ a, H a = none → ¬ zone dk a := fun a ha => e.ok.nz ha
  refine ⟨fun i m H2 => m = items.length - i ∧ ∃ I2 as, i ≤ items.length ∧ Nx dk I H I2 H2 ∧ Same I1 I2 ∧ as.length = i ∧ News K H D as F I2 H2,
    ⟨_, rfl, I1, [], Nat.zero_le _, n1.trans (Nx.newM n1.ok hD), Same.refl _, rfl, ⟨upd_same, n1.ok.none_of hD, fun a ha => (by simp at ha), .nil⟩⟩, ?_⟩
  rintro i m H2 ⟨rfl, I2, as, hile, n2, s2, hlen, nw⟩
  obtain ⟨ws, wg⟩ := w i I2 H2 n2.ok s2
  by_cases hlt : i < items.length
  · refine .inr ?_
    have hx : items[i]? = some items[i] := List.getElem?_eq_getElem hlt
    obtain ⟨go, yld⟩ := wg _ hx
    refine ⟨go, fun H' => ∃ I2 as, Nx dk I H I2 H' ∧ Same I1 I2 ∧ as.length = i + 1 ∧ News K H D as F I2 H', fun H' ⟨I3, as', a1, a2, a3, a4⟩ => ⟨items.length - (i + 1), by omega, rfl, I3, as', hlt, a1, a2, a3, a4⟩, fun v H3 hy => ?_⟩
    obtain ⟨I3, n3, rv⟩ := yld v H3 hy
    obtain ⟨Γx, tg, em⟩ := hb i _ hx
    have n13 := n2.trans n3
    have e3 := (e.step n13).wipe vs
    refine tg I0 H0 v _ I3 H3 _ e3 rv fun σ2 e2 hw => ⟨hw.trans (wipe_twice σ vs), ?_⟩
    unfold tYes
    dsimp only
    rw [if_pos rfl]
    have nw3 := nw.step n3 nzA hD0
    refine em I0 H0 σ2 I3 H3 _ e2 fun p us ds I4 H4 ed n4 h0 h1 h2 r4 => ?_
    subst ed
    have nw4 := nw3.step n4 nzA hD0
    have n14 := n13.trans n4
    have hp0 : H p = none := n13.free h0
    have hpD : p ≠ D := fun z => by subst z; rw [nw3.hD] at h0; cases h0
    have hpas : p ∉ as := fun z => by
      obtain ⟨_, _, _, us', a4, _⟩ := nw3.nw p z
      rw [a4] at h0; cases h0
    have hl2 : (as.map V.ref).length < sizeLine := by rw [List.length_map]; exact small1000 (by omega)
    refine ⟨as.map V.ref, nw4.hD, hl2, I4, as ++ [p], ?_, (s2.trans n3.ii).trans n4.ii, by simp [hlen], ?_⟩
    · exact n14.mutp hD0 nw4.iD (nzA D hD0)
    · refine ⟨by rw [upd_same, List.map_append]; rfl, nw4.iD, fun a ha => ?_, ?_⟩
      · rcases List.mem_append.mp ha with z | z
        · obtain ⟨a1, a2, a3, us', a4, a5⟩ := nw4.nw a z
          exact ⟨a1, a2, a3, us', by rw [upd_ne a3]; exact a4, a5⟩
        · have : a = p := by simpa using z
          subst this
          exact ⟨hp0, h2, hpD, us, by rw [upd_ne hpD]; exact h1, r4⟩
      · refine List.nodup_append.mpr ⟨nw4.nd, by simp, fun a ha b hb => ?_⟩
        have : b = p := by simpa using hb
        subst this
        exact fun z => hpas (z ▸ ha)
  · have ei : i = items.length := by omega
    exact .inl ⟨ws ei, k D as I2 H2 n2 hD0 (by omega) nw⟩
theorem Nx.kp {n1 : Nx dk I0 H0 I1 H1} (k : Kp dk rs T I1 H1 I2 H2) (o : Ok dk I2 H2) (hn : ∀ r, r ≤ T → H0 (rs r) = none) : Nx dk I0 H0 I2 H2 := by
  refine ⟨o, n1.ii.trans k.ii, fun a x h z => k.hh a x (n1.hh a x h z) z fun r hr e => ?_, fun a x h h0 => ?_⟩
  · subst e; rw [hn r hr] at h; cases h
  · by_cases z : zone dk a
    · exact (o.zoneH z).2
    · exact k.fr a x (n1.hh a x h z) (n1.fr a x h h0)
theorem rpl_mp {m : Nat} {f : Nat → V} {g : Nat → PyData} (h : ∀ i, i < m → Rp K I (f i) (g i)) : RpL K I (mp m f) (mp m g) := by
  induction m with
  | zero => exact .nil
  | succ m ih =>
    rw [mp_succ, mp_succ]
    exact (ih fun i hi => h i (by omega)).app (.cons (h m (by omega)) .nil)
theorem rpl_ints {m : Nat} {f : Nat → Int} : RpL K I (mp m fun i => V.int (f i)) (mp m fun i => PyData.int (f i)) := rpl_mp fun i _ => .int _
open Classical in
/-- all the rows stand still from now on -/
theorem Mx.still (m : Mx dk f rs n T X I1 H1) (n1 : Nx dk I0 H0 I1 H1) (hf : H0 f = none) (hn : ∀ r, r ≤ T → H0 (rs r) = none) :
    ∃ I2, Nx dk I0 H0 I2 H1 ∧ Rp K I2 (.ref f) (.list (mp (T + 1) fun r => rowD n (X r))) := by
  let P : Addr → Prop := fun a => a = f ∨ ∃ r, r ≤ T ∧ a = rs r
  let I2 : Hp := fun a => if P a then H1 a else I1 a
  have pI : ∀ a, P a → I1 a = none := fun a h => by
    rcases h with rfl | ⟨r, hr, rfl⟩
    · exact m.nf
    · exact m.nr r hr
  have pH : ∀ a, P a → H0 a = none := fun a h => by
    rcases h with rfl | ⟨r, hr, rfl⟩
    · exact hf
    · exact hn r hr
  have yes : ∀ a, P a → I2 a = H1 a := fun a h => if_pos h
  have no : ∀ a, ¬ P a → I2 a = I1 a := fun a h => if_neg h
  have pz : ∀ a, P a → ¬ zone dk a := fun a h => by
    rcases h with rfl | ⟨r, hr, rfl⟩
    · exact m.zf
    · exact m.zr r hr
  refine ⟨I2, ⟨⟨fun a x q => ?_, fun p ep => ?_⟩, fun a x q => ?_, n1.hh, fun a x q q0 => ?_⟩, ?_⟩
  · by_cases h : P a
    · rw [yes a h] at q; exact q
    · rw [no a h] at q; exact m.ok.sub a x q
  · obtain ⟨D, k1, k2⟩ := m.ok.dk p ep
    refine ⟨D, ?_, ?_⟩
    · rw [no _ fun h => pz _ h ⟨p, ep, .inl rfl⟩]; exact k1
    · rw [no _ fun h => pz _ h ⟨p, ep, .inr rfl⟩]; exact k2
  · have q1 := n1.ii a x q
    rw [no a fun h => by rw [pI a h] at q1; cases q1]
    exact q1
  · rw [no a fun h => by rw [pH a h] at q; cases q]
    exact n1.fr a x q q0
  · refine .lst (by rw [yes f (.inl rfl)]; exact m.hf) (rpl_mp fun r hr => ?_)
    exact .lst (by rw [yes _ (.inr ⟨r, by omega, rfl⟩)]; exact m.row r (by omega)) rpl_ints
theorem tFor_by {wi : TI} {g : TG} {tb : TS} {D : Ends} {σ : L2.St} {H : Hp} (h : wi σ H fun J H1 => ∃ W : Nat → Nat → L2.St → Hp → Prop, (∃ m, W 0 m σ H1) ∧ ∀ i m σ H, W i m σ H →
  (J.stop i H ∧ D.nx σ H) ∨ (J.go i H ∧ ∃ N : L2.St → Hp → Prop, (∀ σ' H', N σ' H' → ∃ m', m' < m ∧ W (i + 1) m' σ' H') ∧ ∀ x H', J.yld i H x H' → g x σ H' fun σ2 H2 => tb { D with nx := N, ct := N, bk := D.nx } σ2 H2)) : tFor wi g tb D σ H := h
/-- what is there behind s rows and j cases -/
def bsX (k : Nat) (F : Nat → Nat → Int) (C : Nat → Nat → Nat → Int) (s j r i : Nat) : Int := sm k (fun j => sm (min s (r + 1)) fun a => F a j * C j (r - a) i) + sm j fun j => if s ≤ r then F s j * C j (r - s) i else 0
theorem smI_add (n : Nat) (f g : Nat → Int) : sm n (fun i => f i + g i) = sm n f + sm n g := by
  induction n with
  | zero => rfl
  | succ n ih => simp only [sm, ih]; omega
theorem smI_zero (n : Nat) : sm n (fun _ => (0 : Int)) = 0 := by
  induction n with
  | zero => rfl
  | succ n ih => simp only [sm, ih]; rfl
theorem bsX_step (k : Nat) (F : Nat → Nat → Int) (C : Nat → Nat → Nat → Int) (s r i : Nat) : bsX k F C s k r i = bsX k F C (s + 1) 0 r i := by
  unfold bsX
  show _ = _ + (0 : Int)
  rw [Int.add_zero, ← smI_add]
  refine sm_congr fun j _ => ?_
  by_cases h : s ≤ r
  · rw [if_pos h, Nat.min_eq_left (show s ≤ r + 1 by omega), Nat.min_eq_left (show s + 1 ≤ r + 1 by omega)]
    rfl
  · rw [if_neg h, Nat.min_eq_right (show r + 1 ≤ s by omega), Nat.min_eq_right (show r + 1 ≤ s + 1 by omega)]
    omega
theorem bsX_end (k : Nat) (F : Nat → Nat → Int) (C : Nat → Nat → Nat → Int) {T r : Nat} (h : r ≤ T) (i : Nat) : bsX k F C (T + 1) 0 r i = bindS k F C r i := by
  unfold bsX bindS conv
  show _ + (0 : Int) = _
  rw [Int.add_zero]
  exact sm_congr fun j _ => by rw [Nat.min_eq_right (show r + 1 ≤ T + 1 by omega)]
theorem se_bind_lengths : SeF K (t_bind_lengths K) 7 (fun a : (Nat × (Nat → Nat → Int)) × (Nat × (Nat → Nat → Nat → Int)) × Nat => [.list (mp (a.2.2 + 1) fun s => rowD a.1.1 (a.1.2 s)), .list (mp a.1.1 fun j => .list (mp (a.2.2 + 1) fun s => rowD a.2.1.1 (a.2.1.2 j s)))])
    (fun a => BindOk a.1.1 a.1.2 a.2.1.1 a.2.1.2 a.2.2) fun a => .list (mp (a.2.2 + 1) fun s => rowD a.2.1.1 (bindS a.1.1 a.1.2 a.2.1.2 s)) := fun dk ⟨⟨k, F⟩, ⟨n, C⟩, T⟩ h => by
  obtain ⟨k1, k8, n8, hT, hF, hC⟩ : BindOk k F n C T := h
  dsimp only
  intro I0 H0 σ I H D e d1 d2
  obtain ⟨v0, s0, r0⟩ := e.dat 0 _ rfl
  obtain ⟨v1, s1, r1⟩ := e.dat 1 _ rfl
  -- found
  unfold t_bind_lengths tSeq tAsg
  dsimp only
  refine raw_lcM (K := K) (dk := dk) (F := mp n fun _ => PyData.int 0) (ei_seq (ev_var (Γ := startG 7 [.list (mp (T + 1) fun s => rowD k (F s)), .list (mp k fun j => .list (mp (T + 1) fun s => rowD n (C j s)))]) (i := 0) rfl) rfl) (by rw [mp_len]; omega) (fun i x hx => ⟨_, tg_name (by simp), ?_⟩) e fun Df as I1 H1 n1 hD hlen nw => ?_
  · refine (em_op (x := .list [.int 0]) (y := .int (n : Int)) (em_lst (ea1 (x := .int 0) ev_int) fun ds e => by rw [e]; show 1 ≤ 1000; omega).stillD ((ev_lenL (ixm0L (n := T + 1) (f := fun s => rowD n (C 0 s)) (ixm0L (n := k) (f := fun j => PyData.list (mp (T + 1) fun s => rowD n (C j s))) (ev_var rfl) (by omega)) (by omega))).cast (by rw [mp_len])) (opm_rep (by omega) (by omega) (Nat.le_refl 1))).imp fun ds e => ?_
    rw [e, Int.toNat_natCast, rep_one, mp_rep]
  rw [mp_len] at hlen
  have nzA : ∀ a, H a = none → ¬ zone dk a := fun a ha => e.ok.nz ha
  have H0n : ∀ a, H a = none → H0 a = none := fun a ha => e.nx.free ha
  let rs : Nat → Addr := fun r => as.getD r 0
  have hrs : ∀ r, r ≤ T → as[r]? = some (rs r) := fun r hr => by
    show as[r]? = some (as.getD r 0)
    rw [List.getD_eq_getElem?_getD, List.getElem?_eq_getElem (by omega : r < as.length)]
    rfl
  have hmem : ∀ r, r ≤ T → rs r ∈ as := fun r hr => List.mem_of_getElem? (hrs r hr)
  have has : as.map V.ref = mp (T + 1) fun r => V.ref (rs r) := by
    refine List.ext_getElem? fun i => ?_
    by_cases hi : i < T + 1
    · rw [mp_get hi, List.getElem?_map, hrs i (by omega)]; rfl
    · rw [List.getElem?_eq_none (by rw [List.length_map]; omega), List.getElem?_eq_none (by rw [mp_len]; omega)]
  have inj : ∀ r r', r ≤ T → r' ≤ T → rs r = rs r' → r = r' := fun r r' hr hr' e => by
    have h1 := hrs r hr
    have h2 := hrs r' hr'
    rw [e, ← h2] at h1
    exact (List.getElem?_inj (by omega) nw.nd).mp h1
  have m0 : Mx dk Df rs n T (fun _ _ => 0) I1 H1 := by
    refine ⟨n1.ok, by rw [nw.hD, has], nw.iD, nzA Df hD, fun r hr => ?_, fun r hr => (nw.nw _ (hmem r hr)).2.1, fun r hr => nzA _ (nw.nw _ (hmem r hr)).1, fun r hr => (nw.nw _ (hmem r hr)).2.2.1, inj⟩
    obtain ⟨_, _, _, us, a4, a5⟩ := nw.nw _ (hmem r hr)
    rw [a4]
    have e1 : (mp n fun _ => PyData.int 0) = (mp n fun _ => (0 : Int)).map PyData.int := mp_map.symm
    rw [e1] at a5
    rw [a5.ints, mp_map]
  have n01 := e.nx.trans n1
  have hf0 : H0 Df = none := H0n _ hD
  have hr0 : ∀ r, r ≤ T → H0 (rs r) = none := fun r hr => H0n _ (nw.nw _ (hmem r hr)).1
  have hσl : σ.length = 7 := e.len
  -- the slots
  obtain ⟨g2, g3, g4, g5, g6, rfl⟩ : ∃ g2 g3 g4 g5 g6, σ = [some v0, some v1, g2, g3, g4, g5, g6] := by
    match σ, hσl with
    | [a, b, c, d, e, f, g], _ =>
      cases s0; cases s1
      exact ⟨c, d, e, f, g, rfl⟩
  show tFor (iEnumS K (tCons (tVar 0) tNil)) (gTup K 2 (gCons (gName 4) (gCons (gName 3) gNil))) (tFor (iZipS K (tCons (tVar 3) (tCons (tVar 1) tNil))) (gTup K 2 (gCons (gName 5) (gCons (gName 6) gNil))) (tIfS (tTest (tOp rNe (tVar 5) (tC (.int 0)))) (tDrop (tCall (sp_put_behind K) [] E0 (tCons (tVar 2) (tCons (tVar 4) (tCons (tVar 5) (tCons (tVar 6) tNil)))))) tNext)) _ [some v0, some v1, some (.ref Df), g3, g4, g5, g6] H1
  refine tFor_by ?_
  have sl1 : Sl K I1 [.dat (.list (mp (T + 1) fun s => rowD k (F s))), .dat (.list (mp k fun j => .list (mp (T + 1) fun s => rowD n (C j s)))), .no, .no, .no, .no, .no] [some v0, some v1, some (.ref Df), g3, g4, g5, g6] :=
    .dat (r0.mono n1.ii) (.dat (r1.mono n1.ii) (.no _ (.no _ (.no _ (.no _ (.no _ .nil))))))
  refine ei_enum (K := K) (dk := dk) (x := .list (mp (T + 1) fun s => rowD k (F s))) (ds := mp (T + 1) fun s => rowD k (F s)) (ea1 (ev_var (i := 0) rfl)) rfl I1 H1 _ I1 H1 _ (sl1.know m0.ok) fun J I2 H2 n2 w2 => ?_
  refine for_raw (K := K) (dk := dk) (I := I2) w2
    (fun s σ I' H' => Mx dk Df rs n T (bsX k F C s 0) I' H' ∧ Nx dk I0 H0 I' H' ∧ Same I2 I' ∧ ∃ g3 g4 g5 g6, σ = [some v0, some v1, some (.ref Df), g3, g4, g5, g6])
    (fun s σ' I' H' ⟨a, _, b, _⟩ => ⟨a.ok, b⟩) ⟨(m0.step n2).congr fun r i _ _ => ?_, n01.trans n2, Same.refl _, _, _, _, _, rfl⟩ (fun s x σ1 I3 H3 hx => ?_) fun σ1 I3 H3 => ?_
  · unfold bsX
    show (0 : Int) = sm k (fun j => sm (min 0 (r + 1)) _) + (0 : Int)
    rw [Int.add_zero, sm_congr fun j _ => by rw [Nat.zero_min]]
    exact (smI_zero k).symm
  · rintro ⟨m3, n03, s3, g3, g4, g5, g6, rfl⟩ v I4 H4 n4 rv
    obtain ⟨ed, he, rfl⟩ := enumD_get hx
    obtain ⟨hs, rfl⟩ := mp_get' he
    obtain ⟨a, vx, vy, rfl, hs4, q1, q2⟩ := rp_pair rv
    have := rp_int q1
    subst this
    have m4 := m3.step n4
    refine ⟨a, _, rfl, Same.sqt m4.ok.sub hs4, rfl, _, _, rfl, _, _, rfl, rfl, ?_⟩
    have r0' := (r0.mono n1.ii).mono (n2.ii.trans (s3.trans n4.ii))
    have r1' := (r1.mono n1.ii).mono (n2.ii.trans (s3.trans n4.ii))
    have sl4 : Sl K I4 [.no, .dat (.list (mp k fun j => .list (mp (T + 1) fun s => rowD n (C j s)))), .no, .dat (rowD k (F s)), .dat (.int (s : Int)), .no, .no] [some v0, some v1, some (.ref Df), some vy, some (.int (s : Int)), g5, g6] :=
      .no _ (.dat r1' (.no _ (.dat q2 (.dat (.int _) (.no _ (.no _ .nil))))))
    show tFor (iZipS K (tCons (tVar 3) (tCons (tVar 1) tNil))) (gTup K 2 (gCons (gName 5) (gCons (gName 6) gNil))) (tIfS (tTest (tOp rNe (tVar 5) (tC (.int 0)))) (tDrop (tCall (sp_put_behind K) [] E0 (tCons (tVar 2) (tCons (tVar 4) (tCons (tVar 5) (tCons (tVar 6) tNil)))))) tNext) _ [some v0, some v1, some (.ref Df), some vy, some (.int (s : Int)), g5, g6] H4
    refine tFor_by ?_
    refine ei_zip (K := K) (dk := dk) (x := rowD k (F s)) (y := .list (mp k fun j => .list (mp (T + 1) fun s => rowD n (C j s)))) (ds := mp k fun j => .int (F s j)) (es := mp k fun j => .list (mp (T + 1) fun s => rowD n (C j s))) (ea2 (ev_var (i := 3) rfl) (ev_var (i := 1) rfl)) rfl rfl I4 H4 _ I4 H4 _ (sl4.know m4.ok) fun J5 I5 H5 n5 w5 => ?_
    refine for_raw (K := K) (dk := dk) (I := I5) w5
      (fun j σ I' H' => Mx dk Df rs n T (bsX k F C s j) I' H' ∧ Nx dk I0 H0 I' H' ∧ Same I5 I' ∧ ∃ g5 g6, σ = [some v0, some v1, some (.ref Df), some vy, some (.int (s : Int)), g5, g6])
      (fun s σ' I' H' ⟨a, _, b, _⟩ => ⟨a.ok, b⟩) ⟨m4.step n5, (n03.trans n4).trans n5, Same.refl _, _, _, rfl⟩ (fun j x σ2 I6 H6 hx => ?_) fun σ2 I6 H6 => ?_
    · rintro ⟨m6, n06, s6, g5, g6, rfl⟩ v I7 H7 n7 rv
      obtain ⟨x1, x2, hx1, hx2, rfl⟩ := zipD_get hx
      obtain ⟨hj, rfl⟩ := mp_get' hx1
      obtain ⟨_, rfl⟩ := mp_get' hx2
      obtain ⟨a, vx, cv, rfl, hs7, q1, q2⟩ := rp_pair rv
      have := rp_int q1
      subst this
      have m7 := m6.step n7
      have n07 := n06.trans n7
      refine ⟨a, _, rfl, Same.sqt m7.ok.sub hs7, rfl, _, _, rfl, _, _, rfl, rfl, ?_⟩
      have hFs := hF s j (by omega) hj
      -- ways != 0
      refine ⟨.int (F s j), rfl, ?_⟩
      refine ⟨rfl, !decide (V.int (F s j) = V.int 0), rfl, ?_⟩
      dsimp only
      by_cases hz : F s j = 0
      · have e1 : (!decide (V.int (F s j) = V.int 0)) = false := by simp [hz]
        rw [e1, if_neg Bool.false_ne_true]
        refine ⟨I7, m7.congr fun r i _ _ => ?_, n07, s6.trans n7.ii, _, _, rfl⟩
        unfold bsX
        have e0 : (if s ≤ r then F s j * C j (r - s) i else 0) = 0 := by rw [hz]; split <;> simp
        show _ = _ + (_ + if s ≤ r then F s j * C j (r - s) i else 0)
        rw [e0, Int.add_zero]
      · have e1 : (!decide (V.int (F s j) = V.int 0)) = true := by simp [hz]
        rw [e1, if_pos rfl]
        refine ⟨.ref Df, rfl, .int (s : Int), rfl, .int (F s j), rfl, cv, rfl, ?_⟩
        refine ⟨dk, I7, Df, rs, n, T, s, bsX k F C s j, F s j, C j, cv, rfl, m7, n8, hT, by omega, hFs.1, hFs.2, hC j hj, q2, fun I8 H8 m8 k8 => ?_⟩
        refine ⟨I8, m8.congr fun r i _ _ => ?_, Nx.kp (n1 := n07) k8 m8.ok hr0, (s6.trans n7.ii).trans k8.ii, _, _, rfl⟩
        unfold bsX
        show _ + _ + _ = _ + (_ + _)
        rw [Int.add_assoc]
    · rintro ⟨m6, n06, s6, g5, g6, rfl⟩
      rw [zipD_len, mp_len, mp_len, Nat.min_self] at m6
      exact ⟨I6, m6.congr fun r i _ _ => bsX_step k F C s r i, n06, ((s3.trans n4.ii).trans n5.ii).trans s6, _, _, _, _, rfl⟩
  · rintro ⟨m3, n03, s3, g3, g4, g5, g6, rfl⟩
    rw [enumD_len, mp_len] at m3
    obtain ⟨I9, n9, r9⟩ := Mx.still (K := K) (m3.congr fun r i hr hi => bsX_end k F C hr i) n03 hf0 hr0
    exact ⟨.ref Df, rfl, d2 _ _ I9 H3 rfl n9 r9⟩
theorem ev_bind_lengths {k n T : Nat} {F : Nat → Nat → Int} {C : Nat → Nat → Nat → Int} (h : EvD K dk ta Γ (.list (mp (T + 1) fun s => rowD k (F s)))) (h' : EvD K dk tb Γ (.list (mp k fun j => .list (mp (T + 1) fun s => rowD n (C j s))))) (a : BindOk k F n C T) :
    EvD K dk (tCall (sp_bind_lengths K) [] E0 (tCons ta (tCons tb tNil))) Γ (.list (mp (T + 1) fun s => rowD n (bindS k F C s))) := ev_callF ((k, F), (n, C), T) (ea2 h h') a
end
end K39

set_option Elab.async false
set_option linter.all false
set_option maxRecDepth 100000
set_option maxHeartbeats 1000000
set_option exponentiation.threshold 20000
/-! SE13: lengths, tails, what is asked by name -/
namespace K39
open PySem PySem.Spec PyProof.Rows L2
section
variable {K : PySem.W.Frag} {dk : Dk} {Γ : List K39.G} {ta tb tc te : TE} {x y z u : PyData} {ds : List PyData} {q r : Rat} {N : List K39.G → Prop} {R : PyData → Prop}
theorem ev_raw_lengths {n T : Nat} {p : Prog} (h : EvD K dk ta Γ (enc p)) (h' : EvD K dk tb Γ (.int T)) (a : At n p) (hT : T ≤ 300) : EvD K dk (tCall (sp_raw_lengths K n) [] E0 (tCons ta (tCons tb tNil))) Γ (lensD p T) := ev_callF (p, T) (ea2 h h') ⟨a, hT⟩
theorem rowD_congr {n m : Nat} {f g : Nat → Int} (e : n = m) (h : ∀ i, i < n → f i = g i) : rowD n f = rowD m g := by
  subst e
  unfold rowD
  rw [mp_congr fun i hi => by rw [h i hi]]
/-- [0] * n -/
theorem em_zeros {n : Nat} (h : EvD K dk te Γ (.int n)) (hn : n ≤ 1000) : EvM K dk (tOp rRep (tLst (tCons (tC (.int 0)) tNil)) te) Γ (fun r => r = mp n fun _ => PyData.int 0) :=
  (em_op (x := .list [.int 0]) (y := .int (n : Int)) (em_lst (ea1 (x := .int 0) ev_int) fun ds e => by rw [e]; show 1 ≤ 1000; omega).stillD h (opm_rep (by omega) (by omega) (Nat.le_refl 1))).imp fun ds e => by rw [e, Int.toNat_natCast, rep_one, mp_rep]
theorem se_raw_lengths (n : Nat) : SeF K (t_raw_lengths K n) 12 (fun a : Prog × Nat => [enc a.1, .int a.2]) (fun a => At (n + 1) a.1 ∧ a.2 ≤ 300) fun a => lensD a.1 a.2 := fun dk ⟨p, T⟩ ⟨h, hT⟩ => by
  obtain ⟨hw, h3⟩ := At.wf (p := p) h
  have hT' : T ≤ 300 := hT
  cases p with
  | value m k =>
    have hk : k < m := hw.1
    have hm : m ≤ 8 := hw.2
    refine q_set (ix0 (ev_var rfl)) (wY (ev_var rfl) (q_assoc (q_set (d := rowD m fun i => if (0 : Nat) = 0 ∧ i = k then 1 else 0) (EvM.stillD (em_map _ (ei_range1 (n := (m : Int)) (ea1 (ix1 (ev_var rfl))) (by omega) (by omega)) (by rw [rangeD_len]; omega) (by rw [mp_len, rangeD_len]; omega) fun i x y hx hy => ?_)) (q_ret
      ((em_op (x := .list [rowD m fun i => if (0 : Nat) = 0 ∧ i = k then 1 else 0]) (y := .list (mp T fun s => rowD m fun i => if s + 1 = 0 ∧ i = k then 1 else 0)) (em_lst (ea1 (ev_var rfl)) fun ds e => by rw [e]; show 1 ≤ 1000; omega).stillD
        (EvM.stillD (em_map _ (ei_range1 (n := (T : Int)) (ea1 (ev_var rfl)) (by omega) (by omega)) (by rw [rangeD_len]; omega) (by rw [mp_len, rangeD_len]; omega) fun s x y hx hy => ?_)) (opm_cat (by rw [mp_len]; show 1 + T ≤ 1000; omega))).stillD.cast ?_)))))
    · obtain ⟨hi, rfl⟩ := rangeD_get hx
      obtain ⟨_, rfl⟩ := mp_get' hy
      refine ⟨_, tg_name (by simp), ev_if (et_testB (ev_opD (ev_var rfl) (ix2 (ev_var rfl)) opd_eqI)) (fun hl => ?_) fun hl => ?_⟩
      · have hl' : i = k := by
          have := of_decide_eq_true hl.symm
          omega
        exact ev_int.cast (by show PyData.int 1 = PyData.int (if (0 : Nat) = 0 ∧ i = k then 1 else 0); rw [if_pos ⟨rfl, hl'⟩])
      · have hl' : ¬ i = k := by
          have := of_decide_eq_false hl.symm
          omega
        exact ev_int.cast (by show PyData.int 0 = PyData.int (if (0 : Nat) = 0 ∧ i = k then 1 else 0); rw [if_neg (by omega)])
    · obtain ⟨hs, rfl⟩ := rangeD_get hx
      obtain ⟨_, rfl⟩ := mp_get' hy
      refine ⟨_, tg_name (by simp), (em_zeros (n := m) (ix1 (ev_var rfl)) (by omega)).stillD.cast ?_⟩
      exact rowD_congr (f := fun _ => 0) rfl fun i _ => by rw [if_neg (by omega)]
    · show _ = PyData.list (mp (T + 1) fun s => rowD m (len (.value m k) s))
      rw [mp_succ']
      rfl
  | draw m B a =>
    exact q_set (ix0 (ev_var rfl)) (wN0 (ev_var rfl) (wY (ev_var rfl) (q_ret (ev_draw_lengths (ix1 (ev_var rfl)) (ev_var rfl) (Dr.tab hw) hT'))))
  | bind f k cs =>
    obtain ⟨e, rfl, hf, hk, k1, k3, hc⟩ := hw
    have bo : BindOk k (len f) (outs (cs 0)) (fun j => len (cs j)) T := by
      refine ⟨k1, by omega, (hc 0 (by omega)).1.mn.n8, hT', ?_, fun j hj => ?_⟩
      · rw [← hk]; exact hf.sumLt hT'
      · have := (hc j hj).1.sumLt hT'
        rwa [(hc j hj).2] at this
    refine q_set (ix0 (ev_var rfl)) (wN0 (ev_var rfl) (wN0 (ev_var rfl) (q_set (ev_raw_lengths (p := f) (ix1 (ev_var rfl)) (ev_var rfl) (at_of hf (by omega)) hT') (wY (ev_var rfl) (q_ret
      ((ev_bind_lengths (k := k) (F := len f) (n := outs (cs 0)) (C := fun j => len (cs j)) (T := T) ((ev_var rfl).cast ?_) (EvM.stillD (em_map _ (ei_seq (ix2 (ev_var rfl)) rfl) (by rw [mp_len]; omega) (by rw [mp_len, mp_len]) fun j x y hx hy => ?_)) bo).cast ?_))))))
    · show lensD f T = _
      unfold lensD
      rw [hk]
    · obtain ⟨hj, rfl⟩ := mp_get' hx
      obtain ⟨_, rfl⟩ := mp_get' hy
      refine ⟨_, tg_name (by simp), (ev_raw_lengths (p := cs j) (ev_var rfl) (ev_var rfl) (at_of (hc j hj).1 (by omega)) hT').cast ?_⟩
      unfold lensD
      rw [(hc j hj).2]
    · rfl
  | again p l =>
    have ao : AgOk (outs p) (len p) l T := by
      have hw' := hw
      obtain ⟨e, _, hp, hne⟩ := hw'
      exact ⟨hp.mn.n8, hT', hp.sumLt hT', fun s hs => Wf.tmsle hw hs hT'⟩
    obtain ⟨e, rfl, hp, hne⟩ := hw
    exact q_set (ix0 (ev_var rfl)) (wN0 (ev_var rfl) (wN0 (ev_var rfl) (q_set (ev_raw_lengths (p := p) (ix1 (ev_var rfl)) (ev_var rfl) (at_of hp (by omega)) hT') (wN0 (ev_var rfl) (wY (ev_var rfl) (q_ret (ev_again_lengths (n := outs p) (L := len p) (T := T) (ev_var rfl) (ix2 (ev_var rfl)) ao)))))))
  | ren p nm m =>
    obtain ⟨e, rfl, hp, n1, n8, hn⟩ := hw
    have p8 := hp.mn.n8
    refine q_set (ix0 (ev_var rfl)) (wN0 (ev_var rfl) (wN0 (ev_var rfl) (q_set (ev_raw_lengths (p := p) (ix1 (ev_var rfl)) (ev_var rfl) (at_of hp (by omega)) hT') (wN0 (ev_var rfl) (wN0 (ev_var rfl) (q_setMD (em_lst ea_nil fun ds e => by rw [e]; simp) (q_for (ei_seq (ev_var rfl) rfl)
      (fun s Γ => ∃ g3 g9 g10 g11, s ≤ T + 1 ∧ Γ = [.dat (enc (.ren p nm m)), .dat (.int (T : Int)), .dat (.str "map"), g3, .no, .no, .dat (lensD p T), .no, .mut (mp s fun s => rowD m (len (.ren p nm m) s)), g9, g10, g11]) ⟨_, _, _, _, Nat.zero_le _, rfl⟩ (fun s x Γ1 hx => ?_) ?_)))))))
    · rintro ⟨g3, g9, g10, g11, hsT, rfl⟩
      obtain ⟨hs, rfl⟩ := mp_get' (n := T + 1) (f := fun s => rowD (outs p) (len p s)) hx
      refine ⟨_, [3], tg_name (by simp), q_setMD (em_zeros (n := m) (ix3 (ev_var rfl)) (by omega)) (q_for (ei_zip (ea2 (ev_var rfl) (ix2 (ev_var rfl))) rfl rfl)
        (fun j Γ => ∃ g10 g11, Γ = [.dat (enc (.ren p nm m)), .dat (.int (T : Int)), .dat (.str "map"), .dat (rowD (outs p) (len p s)), .no, .no, .dat (lensD p T), .no, .mut (mp s fun s => rowD m (len (.ren p nm m) s)), .mut (mp m fun i => .int (sm j fun j => if nm j = i then len p s j else 0)), g10, g11]) ⟨_, _, rfl⟩ (fun j x Γ2 hx => ?_) ?_)⟩
      · rintro ⟨g10, g11, rfl⟩
        obtain ⟨a, b, ha, hb, rfl⟩ := zipD_get hx
        obtain ⟨hj, rfl⟩ := mp_get' ha
        obtain ⟨_, rfl⟩ := mp_get' hb
        have hnj := hn j hj
        refine ⟨_, [10, 11], tg_two (by simp) (by simp), s_end (q_augix (i := 9) (m := nm j) (a := sm j fun j' => if nm j' = nm j then len p s j' else 0) rfl (ev_var rfl) (by rw [mp_len]; exact ixNat hnj) (mp_get hnj) (ev_var rfl) (s_next ?_))⟩
        rw [mp_set]
        have e2 : (mp m fun i => if i = nm j then PyData.int ((fun i j => i + j) (sm j fun j' => if nm j' = nm j then len p s j' else 0) (len p s j)) else PyData.int (sm j fun j => if nm j = i then len p s j else 0)) = mp m fun i => PyData.int (sm (j + 1) fun j => if nm j = i then len p s j else 0) := mp_congr fun i _ => by
          show _ = PyData.int (sm j (fun j => if nm j = i then len p s j else 0) + if nm j = i then len p s j else 0)
          by_cases c : i = nm j
          · subst c; rw [if_pos rfl, if_pos rfl]
          · rw [if_neg c, if_neg fun z => c z.symm, Int.add_zero]
        rw [e2]
        exact ⟨_, _, rfl⟩
      · rintro Γ2 ⟨g10, g11, rfl⟩
        rw [zipD_len, mp_len, mp_len, Nat.min_self]
        refine q_freeze (i := 9) rfl (s_end (q_app rfl (by rw [mp_len]; omega) (ev_var rfl) fun d e => s_next ?_))
        subst e
        rw [mp_succ (n := s)]
        exact ⟨_, _, _, _, by omega, rfl⟩
    · rintro Γ1 ⟨g3, g9, g10, g11, hsT, rfl⟩
      refine q_freeze (i := 8) rfl (s_ret ((ev_var rfl).cast ?_))
      rw [mp_len]
      rfl
/-! tails -/
theorem Sm.int {i : Int} (h : i.natAbs < 2 ^ 4400) : Sm ((i : Int) : Rat) := ⟨by rw [Rat.den_intCast]; exact Nat.one_lt_two_pow (by omega), by rw [Rat.num_intCast]; exact h⟩
theorem mass_sm {p : Prog} {d : Nat} (h : Wf p d) {t : Nat} (ht : t ≤ 300) : Sm (mass p t) := by
  have h0 := mass_nn h.ln t
  have h1 : mass p t ≤ 1 := by
    have := mass_sum h.ln h.mn t
    have h2 : mass p t ≤ sm (t + 1) (mass p) := sm_term (f := mass p) (j := t) (n := t + 1) (fun j _ => mass_nn h.ln j) (by omega)
    exact Rat.le_trans h2 this
  exact Sm.of (N := 2 ^ t) (In.sm (Nat.two_pow_pos t) fun i _ => sc_In _ (Nat.le_refl t)) (Nat.pow_lt_pow_right (by omega) (by omega)) h0 (Rat.le_trans h1 (p2_one 200))
def tailB (p : Prog) (i : Nat) : Rat := 1 - sm i (mass p)
theorem tailB_zero (p : Prog) : tailB p 0 = 1 := by unfold tailB; show 1 - (0 : Rat) = 1; grind
theorem tailB_sm {p : Prog} {d : Nat} (h : Wf p d) {i : Nat} (ht : i ≤ 300) : Sm (tailB p i) := by
  cases i with
  | zero => rw [tailB_zero]; exact ⟨by decide +kernel, by decide +kernel⟩
  | succ i =>
    have := tail_sm h (t := i) (by omega)
    rw [tail_eq] at this
    exact this
theorem ev_sumRow {n : Nat} {f : Nat → Int} (h : EvD K dk te Γ (rowD n f)) : EvD K dk (tCB (rSum K) (tCons te tNil)) Γ (.int (sm n f)) := by
  have e : rowD n f = .list ((mp n f).map PyData.int) := by unfold rowD; rw [mp_map]
  exact (ev_CB (ea1 (h.cast e)) cd_sum).imp fun d ed => by rw [ed, sum_mpI]
theorem sum_small {p : Prog} {d : Nat} (h : Wf p d) {s : Nat} (hs : s ≤ 300) : (sm (outs p) (len p s)).natAbs < 2 ^ 4400 := by
  have n8 := h.mn.n8
  have h0 : 0 ≤ sm (outs p) (len p s) := smI_nonneg fun i _ => h.ln.nn s i
  have h1 : sm (outs p) (len p s) ≤ outs p * 2 ^ 400 := smI_le fun i hi => (h.sumLt hs s i (Nat.le_refl s) hi).2
  have h2 : (outs p : Int) * 2 ^ 400 ≤ 8 * 2 ^ 400 := Int.mul_le_mul_of_nonneg_right (by omega) (Int.le_of_lt (Int.pow_pos (by omega)))
  have h3 : (8 : Int) * 2 ^ 400 < ((2 ^ 4400 : Nat) : Int) := by
    have : 8 * 2 ^ 400 < 2 ^ 4400 := by decide +kernel
    exact_mod_cast this
  have : ((sm (outs p) (len p s)).natAbs : Int) < ((2 ^ 4400 : Nat) : Int) := by rw [Int.natAbs_of_nonneg h0]; omega
  exact_mod_cast this
theorem se_raw_made_tails (Z : Zo K) : SeF K (t_raw_made_tails K) 6 (fun a : Prog × Nat => [enc a.1, .int a.2]) (fun a => Wf a.1 3 ∧ a.2 ≤ 300) fun a => .list (mp (a.2 + 1) fun t => fr (tail a.1 t)) := fun dk ⟨p, T⟩ ⟨h, hT⟩ => by
  have hw : Wf p 3 := h
  have hT' : T ≤ 300 := hT
  refine q_par2M1 (by decide) (em_lst ea_nil fun ds e => by rw [e]; simp) (ev_one Z) (q_for (ei_enum (ea1 (ev_raw_lengths (ev_var rfl) (ev_var rfl) (at4 hw) hT')) rfl)
    (fun s Γ => ∃ g4 g5, s ≤ T + 1 ∧ Γ = [.dat (enc p), .dat (.int (T : Int)), .mut (mp s fun t => fr (tail p t)), .dat (fr (tailB p s)), g4, g5]) ⟨.no, .no, Nat.zero_le _, by rw [tailB_zero]; rfl⟩ (fun s x Γ1 hx => ?_) ?_)
  · rintro ⟨g4, g5, hsT, rfl⟩
    obtain ⟨e, he, rfl⟩ := enumD_get hx
    obtain ⟨hs, rfl⟩ := mp_get' he
    have em : (((sm (outs p) (len p s) : Int) : Rat)) / p2 s = mass p s := by rw [sm_cast]; exact mass_eq p s
    refine ⟨_, [4, 5], tg_two (by simp) (by simp), q_set (ev_minus (ev_var rfl) ((ev_shifted (k := s) (ev_intT (ev_sumRow (ev_var rfl))) (ev_var rfl) (Sm.int (sum_small hw (by omega))) (by omega)).cast (congrArg fr em)) (tailB_sm hw (by omega)) (mass_sm hw (by omega))) (s_end (q_app rfl (by rw [mp_len]; omega) (ev_var rfl) fun d e => s_next ?_))⟩
    subst e
    have e2 : tailB p s - mass p s = tailB p (s + 1) := by unfold tailB; show _ = 1 - (sm s (mass p) + mass p s); grind
    have e3 : tailB p (s + 1) = tail p s := (tail_eq p s).symm
    rw [e2, mp_succ (n := s), ← e3]
    exact ⟨_, _, by omega, rfl⟩
  · rintro Γ1 ⟨g4, g5, hsT, rfl⟩
    refine q_freeze (i := 2) rfl (s_ret ((ev_var rfl).cast ?_))
    rw [enumD_len, mp_len]
theorem ev_raw_made_tails {T : Nat} {p : Prog} (h : EvD K dk ta Γ (enc p)) (h' : EvD K dk tb Γ (.int T)) (a : Wf p 3) (hT : T ≤ 300) : EvD K dk (tCall (sp_raw_made_tails K) [] E0 (tCons ta (tCons tb tNil))) Γ (.list (mp (T + 1) fun t => fr (tail p t))) := ev_callF (p, T) (ea2 h h') ⟨a, hT⟩
theorem se_plain_cost : SeF K (t_plain_cost K) 1 (fun p : Prog => [enc p]) (fun p => Fit p) fun p => fr (cost p) := fun dk p h =>
  q_drop (ev_need_closed (ev_var rfl) h) (s_ret (ev_raw_cost (ev_var rfl) (at4 h.1)))
theorem ev_plain_cost {p : Prog} (h : EvD K dk te Γ (enc p)) (a : Fit p) : EvD K dk (tCall (sp_plain_cost K) [] E0 (tCons te tNil)) Γ (fr (cost p)) := ev_callF p (ea1 h) a
theorem se_length_chance : SeF K (t_length_chance K) 3 (fun a : Prog × Nat × Nat => [enc a.1, .int a.2.1, .int a.2.2]) (fun a => Fit a.1 ∧ a.2.1 < outs a.1 ∧ a.2.2 ≤ 300) fun a => fr (lenQ a.1 a.2.1 a.2.2) := fun dk ⟨p, i, t⟩ ⟨h, hi, ht⟩ => by
  have hf : Fit p := h
  have hi' : i < outs p := hi
  have ht' : t ≤ 300 := ht
  dsimp only
  refine q_drop (ev_need_closed (ev_var rfl) hf) (q_no (et_notB (a := true) (et_BB (betw (i := (i : Int)) (a := 0) (b := (outs p : Int) - 1) (ev_var rfl) ev_int (ev_opD (ev_raw_outcomes (ev_var rfl) (at4 hf.1)) ev_int opd_sub) (by omega) (by omega)))) (q_drop (ev_need_count (ev_var rfl)) (s_ret ?_)))
  have hb := hf.1.sumLt ht' t i (Nat.le_refl t) hi'
  refine ev_shifted (k := t) (ev_intT (i := len p t i) (ev_opD (ev_opD (ev_raw_lengths (ev_var rfl) (ev_var rfl) (at4 hf.1) ht') (ev_var rfl) (opd_ixL (mp_get2 (f := fun s => rowD (outs p) (len p s)) (i := t) (by omega)))) (ev_var rfl) (opd_ixL (mp_get2 (f := fun j => PyData.int (len p t j)) hi')))) (ev_var rfl) (Sm.int ?_) ht'
  exact Nat.lt_trans (small400 hb.1 hb.2) (Nat.pow_lt_pow_right (by omega) (by omega))
theorem ev_length_chance {p : Prog} {i t : Nat} (h : EvD K dk ta Γ (enc p)) (h2 : EvD K dk tb Γ (.int i)) (h3 : EvD K dk tc Γ (.int t)) (a : Fit p) (hi : i < outs p) (ht : t ≤ 300) : EvD K dk (tCall (sp_length_chance K) [] E0 (tCons ta (tCons tb (tCons tc tNil)))) Γ (fr (lenQ p i t)) := ev_callF (p, i, t) (ea3 h h2 h3) ⟨a, hi, ht⟩
theorem ev_length_chanceK {p : Prog} {i t : Nat} (h3 : EvD K dk ta Γ (.int t)) (h2 : EvD K dk tb Γ (.int i)) (h : EvD K dk tc Γ (enc p)) (a : Fit p) (hi : i < outs p) (ht : t ≤ 300) : EvD K dk (tCallK (sp_length_chance K) gv_3 E0 tNil (tCons ta (tCons tb (tCons tc tNil)))) Γ (fr (lenQ p i t)) := ev_callK3L (p, i, t) (ea3 h3 h2 h) rfl ⟨a, hi, ht⟩ fun _ e => e
theorem se_made_tail : SeF K (t_made_tail K) 2 (fun a : Prog × Nat => [enc a.1, .int a.2]) (fun a => Fit a.1 ∧ a.2 ≤ 300) fun a => fr (tail a.1 a.2) := fun dk ⟨p, t⟩ ⟨h, ht⟩ => by
  have hf : Fit p := h
  have ht' : t ≤ 300 := ht
  exact q_drop (ev_need_closed (ev_var rfl) hf) (q_drop (ev_need_count (ev_var rfl)) (s_ret (ev_opD (ev_raw_made_tails (ev_var rfl) (ev_var rfl) hf.1 ht') (ev_var rfl) (opd_ixL (mp_get2 (f := fun t => fr (tail p t)) (i := t) (by omega))))))
theorem ev_made_tail {p : Prog} {t : Nat} (h : EvD K dk ta Γ (enc p)) (h3 : EvD K dk tb Γ (.int t)) (a : Fit p) (ht : t ≤ 300) : EvD K dk (tCall (sp_made_tail K) [] E0 (tCons ta (tCons tb tNil))) Γ (fr (tail p t)) := ev_callF (p, t) (ea2 h h3) ⟨a, ht⟩
theorem ev_made_tailK {p : Prog} {t : Nat} (h3 : EvD K dk ta Γ (.int t)) (h : EvD K dk tb Γ (enc p)) (a : Fit p) (ht : t ≤ 300) : EvD K dk (tCallK (sp_made_tail K) gv_2 E0 tNil (tCons ta (tCons tb tNil))) Γ (fr (tail p t)) := ev_callK2L (p, t) (ea2 h3 h) rfl ⟨a, ht⟩ fun _ e => e
end
end K39

set_option Elab.async false
set_option linter.all false
set_option maxRecDepth 100000
set_option maxHeartbeats 1000000
set_option exponentiation.threshold 20000
/-! SE14: the law's own counts -/
namespace K39
open PySem PySem.Spec PyProof.Rows L2
section
variable {K : PySem.W.Frag} {dk : Dk} {Γ : List K39.G} {ta tb tc te : TE} {x y z u : PyData} {ds : List PyData} {q r : Rat} {N : List K39.G → Prop} {R : PyData → Prop}
theorem se_law_outcomes (n : Nat) : SeF K (t_law_outcomes K n) 1 (fun p : Prog => [enc p]) (fun p => At (n + 1) p) fun p => .int (outs p) := fun dk p h => by
  obtain ⟨hw, h3⟩ := h.wf
  cases p with
  | value m k => exact wN0 (ix0 (ev_var rfl)) (wN0 (ix0 (ev_var rfl)) (s_ret (ev_if (wT (b := false) (ix0 (ev_var rfl)) (by decide)) (fun z => by cases z) fun _ => ev_if (wT (b := false) (ix0 (ev_var rfl)) (by decide)) (fun z => by cases z) fun _ => ix1 (ev_var rfl))))
  | draw m B a => exact wN0 (ix0 (ev_var rfl)) (wN0 (ix0 (ev_var rfl)) (s_ret (ev_if (wT (b := true) (ix0 (ev_var rfl)) (by decide)) (fun _ => lenT (ix1 (ev_var rfl)) mp_len) fun z => by cases z)))
  | bind f k cs =>
    obtain ⟨e, rfl, hf, hk, k1, k3, hc⟩ := hw
    exact wY (ix0 (ev_var rfl)) (q_ret (ev_law_outcomes (p := cs 0) (ixm0 (n := k) (f := fun j => enc (cs j)) (ix2 (ev_var rfl)) (by omega)) (at_of (hc 0 (by omega)).1 (by omega))))
  | again p l =>
    obtain ⟨e, rfl, hp, hne⟩ := hw
    exact wN0 (ix0 (ev_var rfl)) (wY (ix0 (ev_var rfl)) (q_ret (ev_law_outcomes (p := p) (ix1 (ev_var rfl)) (at_of hp (by omega)))))
  | ren p nm m =>
    exact wN0 (ix0 (ev_var rfl)) (wN0 (ix0 (ev_var rfl)) (s_ret (ev_if (wT (b := false) (ix0 (ev_var rfl)) (by decide)) (fun z => by cases z) fun _ => ev_if (wT (b := true) (ix0 (ev_var rfl)) (by decide)) (fun _ => ix3 (ev_var rfl)) fun z => by cases z)))
theorem Sm.den_div {q : Rat} (h : Sm q) (i : Int) : CDivW i (q.den : Int) := cdivw (den_posI q) (by rw [Int.natAbs_natCast]; exact Nat.lt_of_lt_of_le h.1 (Nat.pow_le_pow_right (by omega) (by omega)))
/-- the top behind k doublings, the whole taken off each time -/
def topD (q : Rat) : Nat → Int
  | 0 => q.num
  | k + 1 => 2 * (topD q k - topD q k / (q.den : Int) * (q.den : Int))
theorem topD_mod (q : Rat) (k : Nat) : topD q k = (if k = 0 then q.num else 2 * (q.num * 2 ^ (k - 1) % (q.den : Int))) := by
  induction k with
  | zero => rfl
  | succ k ih =>
    rw [if_neg (by omega)]
    show 2 * (topD q k - topD q k / (q.den : Int) * (q.den : Int)) = _
    have e : topD q k - topD q k / (q.den : Int) * (q.den : Int) = topD q k % (q.den : Int) := by
      have := Int.mul_ediv_add_emod (topD q k) (q.den : Int)
      rw [Int.mul_comm] at this
      omega
    rw [e, ih]
    cases k with
    | zero => simp
    | succ k =>
      rw [if_neg (by omega)]
      show 2 * (2 * (q.num * 2 ^ k % (q.den : Int)) % (q.den : Int)) = 2 * (q.num * 2 ^ (k + 1) % (q.den : Int))
      congr 1
      have e2 : q.num * 2 ^ (k + 1) = 2 * (q.num * 2 ^ k) := by rw [Int.pow_succ]; grind
      rw [e2, Int.mul_emod 2 (q.num * 2 ^ k % (q.den : Int)), Int.emod_emod_of_dvd _ (Int.dvd_refl _), ← Int.mul_emod]
theorem se_law_bottoms : SeF K (t_law_bottoms K) 0 (fun _ : Unit => []) (fun _ => True) fun _ => .list (([2, 3, 4, 5, 2, 6, 8, 7, 3, 4, 10, 12, 16] : List Int).map PyData.int) := fun dk _ _ =>
  s_ret (em_lst (ea_cons ev_int (ea_cons ev_int (ea_cons ev_int (ea_cons ev_int (ea_cons ev_int (ea_cons ev_int (ea_cons ev_int (ea_cons ev_int (ea_cons ev_int (ea_cons ev_int (ea_cons ev_int (ea_cons ev_int (ea1 ev_int))))))))))))) fun ds e => by rw [e]; show 13 ≤ 1000; omega).stillD
theorem topD_nn {q : Rat} (h : 0 ≤ q) (k : Nat) : 0 ≤ topD q k := by
  rw [topD_mod]
  split
  · exact Rat.num_nonneg.mpr h
  · have := Int.emod_nonneg (q.num * 2 ^ (k - 1)) (show (q.den : Int) ≠ 0 by have := den_posI q; omega)
    omega
theorem topD_small {q : Rat} (h : Sm q) (k : Nat) : (topD q k).natAbs < 2 ^ 4400 := by
  rw [topD_mod]
  split
  · exact h.2
  · have h1 := Int.emod_nonneg (q.num * 2 ^ (k - 1)) (show (q.den : Int) ≠ 0 by have := den_posI q; omega)
    have h2 := Int.emod_lt_of_pos (q.num * 2 ^ (k - 1)) (den_posI q)
    have h3 := h.1
    have h4 : (2 * (q.num * 2 ^ (k - 1) % (q.den : Int))).natAbs < 2 * 2 ^ 4000 := by
      generalize (2 : Nat) ^ 4000 = z at *
      omega
    have h5 : 2 * 2 ^ 4000 ≤ 2 ^ 4400 := by
      rw [← Nat.pow_succ']
      exact Nat.pow_le_pow_right (by omega) (by omega)
    omega
theorem topD_dig (q : Rat) (k : Nat) : topD q k / (q.den : Int) = dig q k := by
  cases k with
  | zero => exact (floor_eq q).symm
  | succ k =>
    rw [topD_mod, if_neg (by omega), ← dig_eq, Int.mul_comm]
    rfl
theorem quot_small {a b : Int} (h0 : 0 ≤ a) (hb : 0 < b) {k : Nat} (h : a.natAbs < 2 ^ k) : (a / b).natAbs < 2 ^ k := by
  have h1 : 0 ≤ a / b := Int.ediv_nonneg h0 (by omega)
  have h2 : a / b ≤ a := Int.ediv_le_self _ h0
  generalize (2 : Nat) ^ k = z at *
  omega
theorem se_law_digits : SeF K (t_law_digits K) 6 (fun a : Rat × Nat => [fr a.1, .int a.2]) (fun a => Sm a.1 ∧ 0 ≤ a.1 ∧ a.2 ≤ 300) fun a => rowD (a.2 + 1) (dig a.1) := fun dk ⟨q, T⟩ ⟨h, h0, hT⟩ => by
  have hq : Sm q := h
  have hq0 : 0 ≤ q := h0
  have hT' : T ≤ 300 := hT
  refine q_unp2 (ev_var rfl) (q_setMD (ds := mp 1 fun k => PyData.int (dig q k)) (em_lst (ea1 ((ev_opD (ev_var rfl) (ev_var rfl) (opd_div (hq.den_div _))).cast (by rw [← floor_eq]))) fun ds e => by rw [e]; show 1 ≤ 1000; omega) (q_for (ei_range1 (n := (T : Int)) (ea1 (ev_var rfl)) (by omega) (by omega))
    (fun k Γ => ∃ g, k ≤ T ∧ Γ = [.dat (fr q), .dat (.int (T : Int)), .dat (.int (topD q k)), .dat (.int (q.den : Int)), .mut (mp (k + 1) fun k => .int (dig q k)), g]) ⟨_, Nat.zero_le _, rfl⟩ (fun k x Γ1 hx => ?_) ?_))
  · rintro ⟨g, hk, rfl⟩
    obtain ⟨hi, rfl⟩ := rangeD_get hx
    have t0 := topD_nn hq0 k
    have ts := topD_small hq k
    have qs := quot_small t0 (den_posI q) ts
    have rs : (topD q k - topD q k / (q.den : Int) * (q.den : Int)).natAbs < 2 ^ 4400 := by
      have e : topD q k - topD q k / (q.den : Int) * (q.den : Int) = topD q k % (q.den : Int) := by
        have := Int.mul_ediv_add_emod (topD q k) (q.den : Int)
        rw [Int.mul_comm] at this
        omega
      rw [e]
      have h1 := Int.emod_nonneg (topD q k) (show (q.den : Int) ≠ 0 by have := den_posI q; omega)
      have h2 := Int.emod_lt_of_pos (topD q k) (den_posI q)
      have h3 := hq.1
      have h5 : 2 ^ 4000 ≤ 2 ^ 4400 := Nat.pow_le_pow_right (by omega) (by omega)
      omega
    refine ⟨_, [5], tg_name (by simp), q_set (d := .int (topD q (k + 1))) (ev_opD ev_int (ev_opD (ev_var rfl) (ev_opD (ev_opD (ev_var rfl) (ev_var rfl) (opd_div (hq.den_div _))) (ev_var rfl) (opd_mulX (cmulx qs (den_abs hq)))) opd_sub) (opd_mulX (cmulx (a := 2) (by decide) rs)))
      (s_end (q_app rfl (by rw [mp_len]; omega) ((ev_opD (ev_var rfl) (ev_var rfl) (opd_div (hq.den_div _))).cast (congrArg PyData.int (topD_dig q (k + 1)))) fun d e => s_next ?_))⟩
    subst e
    rw [mp_succ (n := k + 1)]
    exact ⟨_, by omega, rfl⟩
  · rintro Γ1 ⟨g, hk, rfl⟩
    refine q_freeze (i := 4) rfl (s_ret ((ev_var rfl).cast ?_))
    rw [rangeD_len, Int.toNat_natCast]
    rfl
theorem ev_law_digits {T : Nat} (h : EvD K dk ta Γ (fr q)) (h' : EvD K dk tb Γ (.int T)) (s : Sm q) (h0 : 0 ≤ q) (hT : T ≤ 300) : EvD K dk (tCall (sp_law_digits K) [] E0 (tCons ta (tCons tb tNil))) Γ (rowD (T + 1) (dig q)) := ev_callF (q, T) (ea2 h h') ⟨s, h0, hT⟩
/-! one behind another -/
def bhX (u v : Nat → Int) (a s : Nat) : Int := sm (min a (s + 1)) fun a => u a * v (s - a)
def bhY (u v : Nat → Int) (a m s : Nat) : Int := bhX u v a s + if a ≤ s ∧ s < a + m then u a * v (s - a) else 0
theorem bhY_end (u v : Nat → Int) {a s T : Nat} (hs : s ≤ T) (ha : a ≤ T) : bhY u v a (T + 1 - a) s = bhX u v (a + 1) s := by
  unfold bhY bhX
  by_cases h : a ≤ s
  · rw [if_pos (by omega), Nat.min_eq_left (show a ≤ s + 1 by omega), Nat.min_eq_left (show a + 1 ≤ s + 1 by omega)]
    rfl
  · rw [if_neg (by omega), Nat.min_eq_right (show s + 1 ≤ a by omega), Nat.min_eq_right (show s + 1 ≤ a + 1 by omega), Int.add_zero]
theorem se_law_behind : SeF K (t_law_behind K) 7 (fun a : (Nat → Int) × (Nat → Int) × Nat => [rowD (a.2.2 + 1) a.1, rowD (a.2.2 + 1) a.2.1, .int a.2.2]) (fun a => a.2.2 ≤ 300 ∧ bdL a.1 a.2.2 ∧ bdL a.2.1 a.2.2) fun a => rowD (a.2.2 + 1) (conv a.1 a.2.1) := fun dk ⟨u, v, T⟩ ⟨hT, hu, hv⟩ => by
  have hT' : T ≤ 300 := hT
  have hu' : bdL u T := hu
  have hv' : bdL v T := hv
  dsimp only
  refine q_setMD (em_zeros (n := T + 1) (ev_opD (ev_var rfl) ev_int opd_add) (by omega)) (q_for (ei_enum (ea1 (ev_var rfl)) rfl)
    (fun a Γ => ∃ g4 g5 g6, a ≤ T + 1 ∧ Γ = [.dat (rowD (T + 1) u), .dat (rowD (T + 1) v), .dat (.int (T : Int)), .mut (mp (T + 1) fun s => .int (bhX u v a s)), g4, g5, g6]) ⟨.no, .no, .no, Nat.zero_le _, ?_⟩ (fun a x Γ1 hx => ?_) ?_)
  · have : (mp (T + 1) fun _ => PyData.int 0) = mp (T + 1) fun s => PyData.int (bhX u v 0 s) := mp_congr fun s _ => by
      unfold bhX
      rw [Nat.zero_min]
      rfl
    rw [this]
    rfl
  · rintro ⟨g4, g5, g6, haT, rfl⟩
    obtain ⟨e, he, rfl⟩ := enumD_get hx
    obtain ⟨ha, rfl⟩ := mp_get' he
    have ua := hu' a (by omega)
    refine ⟨_, [4, 5], tg_two (by simp) (by simp), s_end (q_ifB (et_testB (ev_opD (ev_var rfl) ev_int opd_neI)) (fun hb => ?_) fun hb => ?_)⟩
    · refine q_for (ei_range1 (n := ((T + 1 - a : Nat) : Int)) (ea1 ((ev_opD (ev_opD (ev_var rfl) ev_int opd_add) (ev_var rfl) opd_sub).cast (congrArg PyData.int (by omega)))) (by omega) (by omega))
        (fun m Γ => ∃ g6, m ≤ T + 1 - a ∧ Γ = [.dat (rowD (T + 1) u), .dat (rowD (T + 1) v), .dat (.int (T : Int)), .mut (mp (T + 1) fun s => .int (bhY u v a m s)), .dat (.int (a : Int)), .dat (.int (u a)), g6]) ⟨g6, Nat.zero_le _, ?_⟩ (fun m x Γ2 hx => ?_) ?_
      · have : (mp (T + 1) fun s => PyData.int (bhX u v a s)) = mp (T + 1) fun s => PyData.int (bhY u v a 0 s) := mp_congr fun s _ => by
          unfold bhY
          rw [if_neg (by omega), Int.add_zero]
        rw [this]
        rfl
      · rintro ⟨g6, hm, rfl⟩
        obtain ⟨hi, rfl⟩ := rangeD_get hx
        have hi' : m < T + 1 - a := by omega
        have vm := hv' m (by omega)
        have ix : ∀ {Γ : List K39.G}, Γ[4]? = some (.dat (.int (a : Int))) → Γ[6]? = some (.dat (.int (0 + (m : Int)))) → EvD K dk (tOp rPlus (tVar 4) (tVar 6)) Γ (.int ((a + m : Nat) : Int)) := fun g4 g6 => (ev_opD (ev_var g4) (ev_var g6) opd_add).cast (congrArg PyData.int (by omega))
        refine ⟨_, [6], tg_name (by simp), s_end (q_setix (m := a + m) rfl (ev_opD (ev_ixM (i := 3) rfl (ix rfl rfl) (mp_get2 (f := fun s => PyData.int (bhY u v a m s)) (i := a + m) (by omega))) (ev_opD (ev_var rfl) (ev_opD (ev_var rfl) (ev_var rfl) (opd_ixL (d := .int (v m)) (by rw [Int.zero_add]; exact mp_get2 (f := fun s => PyData.int (v s)) (by omega)))) (opd_mulX (cmulx (small400 ua.1 ua.2) (small400 vm.1 vm.2)))) opd_add) (ix rfl rfl) (by rw [mp_len]; exact ixNat (by omega)) fun d e => s_next ?_)⟩
        subst e
        rw [mp_set]
        have e2 : (mp (T + 1) fun s => if s = a + m then PyData.int (bhY u v a m (a + m) + u a * v m) else PyData.int (bhY u v a m s)) = mp (T + 1) fun s => PyData.int (bhY u v a (m + 1) s) := mp_congr fun s _ => by
          by_cases c : s = a + m
          · subst c
            rw [if_pos rfl]
            unfold bhY
            rw [if_neg (by omega), if_pos (by omega), Int.add_zero, show a + m - a = m by omega]
          · rw [if_neg c]
            unfold bhY
            by_cases c2 : a ≤ s ∧ s < a + m
            · rw [if_pos c2, if_pos (by omega)]
            · rw [if_neg c2, if_neg (by omega)]
        rw [e2]
        exact ⟨_, by omega, rfl⟩
      · rintro Γ2 ⟨g6, hm, rfl⟩
        rw [rangeD_len, Int.toNat_natCast]
        have e2 : (mp (T + 1) fun s => PyData.int (bhY u v a (T + 1 - a) s)) = mp (T + 1) fun s => PyData.int (bhX u v (a + 1) s) := mp_congr fun s hs => by rw [bhY_end u v (T := T) (by omega) (by omega)]
        rw [e2]
        exact s_next ⟨_, _, _, by omega, rfl⟩
    · have hz : u a = 0 := by simpa using hb
      refine q_next (s_next ?_)
      have e2 : (mp (T + 1) fun s => PyData.int (bhX u v a s)) = mp (T + 1) fun s => PyData.int (bhX u v (a + 1) s) := mp_congr fun s hs => by
        rw [← bhY_end u v (T := T) (s := s) (a := a) (by omega) (by omega)]
        unfold bhY
        rw [hz]
        split <;> simp
      rw [e2]
      exact ⟨_, _, _, by omega, rfl⟩
  · rintro Γ1 ⟨g4, g5, g6, haT, rfl⟩
    refine q_freeze (i := 3) rfl (s_ret ((ev_var rfl).cast ?_))
    rw [enumD_len, mp_len]
    unfold rowD
    rw [mp_congr fun s hs => by unfold bhX; rw [Nat.min_eq_right (show s + 1 ≤ T + 1 by omega)]]
    rfl
theorem ev_law_behind {T : Nat} {u v : Nat → Int} (h : EvD K dk ta Γ (rowD (T + 1) u)) (h' : EvD K dk tb Γ (rowD (T + 1) v)) (h3 : EvD K dk tc Γ (.int T)) (hT : T ≤ 300) (hu : bdL u T) (hv : bdL v T) : EvD K dk (tCall (sp_law_behind K) [] E0 (tCons ta (tCons tb (tCons tc tNil)))) Γ (rowD (T + 1) (conv u v)) := ev_callF (u, v, T) (ea3 h h' h3) ⟨hT, hu, hv⟩
/-! the tail, the floor -/
theorem ev_shl1 {t : Nat} (h : EvD K dk te Γ (.int t)) (ht : t ≤ 300) : EvD K dk (tOp rShlW (tC (.int 1)) te) Γ (.int (2 ^ t)) := (ev_opD ev_int h (opd_shl (cshl (a := 2) (by decide)))).cast (by rw [Int.toNat_natCast, Int.one_mul])
theorem shl_pos (t : Nat) : (0 : Int) < 2 ^ t := Int.pow_pos (by omega)
theorem shl_lt {t : Nat} (ht : t ≤ 300) : (2 : Int) ^ t < 2 ^ 9000 := by
  have : (2 : Nat) ^ t < 2 ^ 9000 := Nat.pow_lt_pow_right (by omega) (by omega)
  exact_mod_cast this
def mtX (L : Nat → Nat → Int) (t i : Nat) : Int := 2 ^ t - sm i fun i => sm (t + 1) fun s => L s i * 2 ^ (t - s)
theorem mtX_tail (p : Prog) (t : Nat) : ((mtX (len p) t (outs p) : Int) : Rat) / (((2 : Int) ^ t : Int) : Rat) = tail p t := by
  rw [p2_int]
  unfold mtX tail
  rw [Rat.intCast_sub, p2_int, sm_cast]
  have e : sm (outs p) (fun i => ((sm (t + 1) fun s => len p s i * 2 ^ (t - s) : Int) : Rat)) = p2 t * sm (t + 1) fun s => sm (outs p) (fun i => (len p s i : Rat)) / p2 s := by
    rw [← sm_mul, sm_congr fun i _ => sm_cast (t + 1) _, sm_swap]
    refine sm_congr fun s hs => ?_
    rw [Rat.div_def, ← sm_mulr, ← sm_mul]
    refine sm_congr fun i _ => ?_
    rw [Rat.intCast_mul, p2_int]
    have e2 : p2 t = p2 s * p2 (t - s) := by rw [← p2_add, show s + (t - s) = t by omega]
    rw [e2]
    have := p2_ne s
    grind
  rw [e]
  have := p2_ne t
  grind
theorem ev_sumI {n : Nat} {f : Nat → Int} (h : EvM K dk te Γ (fun r => r = mp n fun i => PyData.int (f i))) : EvD K dk (tCB (rSum K) (tCons te tNil)) Γ (.int (sm n f)) := ev_sumRow h.stillD
theorem se_law_made_tail : SeF K (t_law_made_tail K) 6 (fun a : Prog × Nat × Nat => [rowsD (outs a.1) (len a.1) a.2.1, .int a.2.2]) (fun a => Wf a.1 3 ∧ a.2.1 ≤ 300 ∧ a.2.2 ≤ a.2.1) fun a => fr (tail a.1 a.2.2) := fun dk ⟨p, T, t⟩ ⟨h, hT, ht⟩ => by
  have hw : Wf p 3 := h
  have hT' : T ≤ 300 := hT
  have ht' : t ≤ T := ht
  have p8 := hw.mn.n8
  dsimp only
  refine q_set (ev_shl1 (ev_var rfl) (by omega)) (q_for (ei_seq (ev_var rfl) rfl) (fun i Γ => ∃ g, i ≤ outs p ∧ Γ = [.dat (rowsD (outs p) (len p) T), .dat (.int (t : Int)), .dat (.int (mtX (len p) t i)), g, .no, .no]) ⟨.no, Nat.zero_le _, ?_⟩ (fun i x Γ1 hx => ?_) ?_)
  · have : mtX (len p) t 0 = 2 ^ t := by unfold mtX; show 2 ^ t - (0 : Int) = _; omega
    rw [this]
    rfl
  · rintro ⟨g, hi, rfl⟩
    obtain ⟨hi', rfl⟩ := mp_get' hx
    refine ⟨_, [3], tg_name (by simp), s_end (q_set (d := .int (mtX (len p) t (i + 1))) ((ev_opD (ev_var rfl) (ev_sumI (n := t + 1) (f := fun s => len p s i * 2 ^ (t - s)) (em_map _ (ei_enum (ds := mp (t + 1) fun s => .int (len p s i)) (ea1 (EvM.stillD ((em_takeL (k := t + 1) (ev_var rfl) (ev_opD (ev_var rfl) ev_int opd_add)).imp fun ds e => by rw [e, mp_take, Nat.min_eq_left (by omega)]))) rfl) (by rw [enumD_len, mp_len]; omega) (by rw [mp_len, enumD_len, mp_len]) fun s x y hx hy => ?_)) opd_sub).cast ?_) (s_next ⟨_, hi', rfl⟩))⟩
    · obtain ⟨e, he, rfl⟩ := enumD_get hx
      obtain ⟨hs, rfl⟩ := mp_get' he
      obtain ⟨_, rfl⟩ := mp_get' hy
      have hb := hw.sumLt (T := t) (by omega) s i (by omega) hi'
      refine ⟨_, tg_two (by simp) (by simp), (ev_opD (ev_var rfl) ((ev_opD (ev_var rfl) (ev_var rfl) opd_sub).cast (y := .int ((t - s : Nat) : Int)) (congrArg PyData.int (by omega))) (opd_shl (cshl (small400 hb.1 hb.2)))).cast ?_⟩
      rw [Int.toNat_natCast]
    · unfold mtX
      exact congrArg PyData.int (Int.sub_sub _ _ _)
  · rintro Γ1 ⟨g, hi, rfl⟩
    rw [mp_len]
    exact s_ret (ev_law_fraction (ev_var rfl) (ev_shl1 (ev_var rfl) (by omega)) (shl_pos t) (shl_lt (by omega)) (mtX_tail p t))
theorem ev_law_made_tail {p : Prog} {T t : Nat} (h : EvD K dk ta Γ (rowsD (outs p) (len p) T)) (h' : EvD K dk tb Γ (.int t)) (w : Wf p 3) (hT : T ≤ 300) (ht : t ≤ T) : EvD K dk (tCall (sp_law_made_tail K) [] E0 (tCons ta (tCons tb tNil))) Γ (fr (tail p t)) := ev_callF (p, T, t) (ea2 h h') ⟨w, hT, ht⟩
theorem se_law_floor : SeF K (t_law_floor K) 4 (fun a : (Nat × (Nat → Rat)) × Nat => [tabD a.1.1 a.1.2, .int a.2]) (fun a => Tab a.1.1 a.1.2 ∧ a.2 ≤ 300) fun a => fr (lawFl a.1.1 a.1.2 a.2) := fun dk ⟨⟨n, f⟩, t⟩ ⟨h, ht⟩ => by
  have h' : Tab n f := h
  have ht' : t ≤ 300 := ht
  have n8 := h'.n8
  dsimp only
  refine s_ret (ev_law_fraction (ev_opD (ev_shl1 (ev_var rfl) (by omega)) (ev_sumI (n := n) (f := fun i => (f i * p2 t).floor) (em_map _ (ei_seq (ev_var rfl) rfl) (by rw [mp_len]; omega) (by rw [mp_len, mp_len]) fun i x y hx hy => ?_)) opd_sub) (ev_shl1 (ev_var rfl) (by omega)) (shl_pos t) (shl_lt (by omega)) ?_)
  · obtain ⟨hi, rfl⟩ := mp_get' hx
    obtain ⟨_, rfl⟩ := mp_get' hy
    have hs := h'.sm hi
    refine ⟨_, tg_two (x := .int (f i).num) (y := .int (f i).den) (by simp) (by simp), (ev_opD (ev_opD (ev_var rfl) (ev_var rfl) (opd_shl (cshl (a := 4400) hs.2))) (ev_var rfl) (opd_div (hs.den_div _))).cast ?_⟩
    rw [Int.toNat_natCast, ← q_pow, floor_div _ _ (f i).den_pos]
  · unfold lawFl
    rw [Rat.intCast_sub, p2_int, sm_cast]
    have := p2_ne t
    grind
theorem ev_law_floor {n t : Nat} {f : Nat → Rat} (h : EvD K dk ta Γ (tabD n f)) (h' : EvD K dk tb Γ (.int t)) (T : Tab n f) (ht : t ≤ 300) : EvD K dk (tCall (sp_law_floor K) [] E0 (tCons ta (tCons tb tNil))) Γ (fr (lawFl n f t)) := ev_callF ((n, f), t) (ea2 h h') ⟨T, ht⟩
end
end K39

set_option Elab.async false
set_option linter.all false
set_option maxRecDepth 100000
set_option maxHeartbeats 1000000
set_option exponentiation.threshold 20000
/-! SE15: the law's meaning and rows -/
namespace K39
open PySem PySem.Spec PyProof.Rows L2
section
variable {K : PySem.W.Frag} {dk : Dk} {Γ : List K39.G} {ta tb tc te t1 t2 : TE} {x y z u : PyData} {ds : List PyData} {q r : Rat} {N : List K39.G → Prop} {R : PyData → Prop} {P : PyData → Prop}
theorem smN_cast (k : Nat) (f : Nat → Nat) : sm k (fun j => (f j : Int)) = ((sm k f : Nat) : Int) := by
  induction k with
  | zero => rfl
  | succ k ih => rw [sm_natS, Int.natCast_add, ← ih]; rfl
theorem ev_law_parts {n : Nat} {p : Prog} (h : EvD K dk te Γ (enc p)) (a : At n p) : EvD K dk (tCall (sp_law_parts K n) [] E0 (tCons te tNil)) Γ (.int (parts p)) := ev_callF p (ea1 h) a
theorem memT {s a b : Str} {c : Bool} (h : EvD K dk te Γ (.str s)) (e : (decide (s = a) || decide (s = b)) = c) : EvB K dk (tTest (tOp (rIn K false) te (tTup (tCons (tC (.str a)) (tCons (tC (.str b)) tNil))))) Γ c := (et_testB (ev_opD h ev_str2 opd_inS)).cast e
theorem se_law_parts (n : Nat) : SeF K (t_law_parts K n) 3 (fun p : Prog => [enc p]) (fun p => At (n + 1) p) fun p => .int (parts p) := fun dk p h => by
  obtain ⟨hw, h3⟩ := h.wf
  cases p with
  | value m k => exact q_ifT (memT (ix0 (ev_var rfl)) (by decide)) (q_ret ev_int)
  | draw m B a => exact q_ifT (memT (ix0 (ev_var rfl)) (by decide)) (q_ret ev_int)
  | bind f k cs =>
    obtain ⟨e, rfl, hf, hk, k1, k3, hc⟩ := hw
    refine q_no (memT (ix0 (ev_var rfl)) (by decide)) (q_set (ev_opD ev_int (ev_law_parts (p := f) (ix1 (ev_var rfl)) (at_of hf (by omega))) opd_add) (wY (ix0 (ev_var rfl)) (q_set (ev_opD (ev_var rfl) (ev_sumI (n := k) (f := fun j => (parts (cs j) : Int)) (em_map _ (ei_seq (ix2 (ev_var rfl)) rfl) (by rw [mp_len]; omega) (by rw [mp_len, mp_len]) fun j x y hx hy => ?_)) opd_add) (s_ret ((ev_var rfl).cast ?_)))))
    · obtain ⟨hj, rfl⟩ := mp_get' hx
      obtain ⟨_, rfl⟩ := mp_get' hy
      exact ⟨_, tg_name (by simp), ev_law_parts (p := cs j) (ev_var rfl) (at_of (hc j hj).1 (by omega))⟩
    · rw [smN_cast]
      show PyData.int (1 + (parts f : Int) + _) = PyData.int ((1 + parts f + sm k fun j => parts (cs j) : Nat) : Int)
      congr 1
  | again p l =>
    obtain ⟨e, rfl, hp, hne⟩ := hw
    exact q_no (memT (ix0 (ev_var rfl)) (by decide)) (q_set (ev_opD ev_int (ev_law_parts (p := p) (ix1 (ev_var rfl)) (at_of hp (by omega))) opd_add) (wN0 (ix0 (ev_var rfl)) (s_ret (ev_var rfl))))
  | ren p nm m =>
    obtain ⟨e, rfl, hp, _⟩ := hw
    exact q_no (memT (ix0 (ev_var rfl)) (by decide)) (q_set (ev_opD ev_int (ev_law_parts (p := p) (ix1 (ev_var rfl)) (at_of hp (by omega))) opd_add) (wN0 (ix0 (ev_var rfl)) (s_ret (ev_var rfl))))
/-! meanings -/
theorem mix_tot {k n : Nat} {f : Nat → Rat} {g : Nat → Nat → Rat} (h : MixOk k f n g) {i : Nat} (hi : i < n) : Tot (mp k fun j => f j * g j i) := by
  obtain ⟨hf, hg, N, hN, hI⟩ := h
  have k8 := hf.n8
  refine ⟨by rw [mp_len]; omega, N, Nat.lt_trans hN (Nat.pow_lt_pow_right (by omega) (by omega)), fun q hq => ?_⟩
  obtain ⟨j, hj, rfl⟩ := mp_mem.mp hq
  have a1 := hf.nn j hj
  have a2 := hf.le1 hj
  have a3 := (hg j hj).nn i hi
  have a4 := (hg j hj).le1 hi
  refine ⟨hI j hj i hi, Rat.mul_nonneg a1 a3, Rat.le_trans ?_ one_le_p2⟩
  have := Rat.mul_le_mul_of_nonneg_right a2 a3
  grind
theorem tot_part {k : Nat} {f : Nat → Rat} (h : Tot (mp k f)) {j : Nat} (hj : j ≤ k) : Sm (sm j f) := by
  have := h.part j
  rwa [mp_take, Nat.min_eq_left hj, sum_mp] at this
/-- [(0, 1)] * n -/
theorem em_zeroQ {n : Nat} (h : EvD K dk te Γ (.int n)) (hn : n ≤ 1000) : EvM K dk (tOp rRep (tLst (tCons (tTup (tCons (tC (.int 0)) (tCons (tC (.int 1)) tNil))) tNil)) te) Γ (fun r => r = mp n fun _ => fr 0) :=
  (em_op (x := .list [fr 0]) (y := .int (n : Int)) (em_lst (ea1 ev_zeroT) fun ds e => by rw [e]; show 1 ≤ 1000; omega).stillD h (opm_rep (by omega) (by omega) (Nat.le_refl 1))).imp fun ds e => by rw [e, Int.toNat_natCast, rep_one, mp_rep]
theorem intB {b : Bool} (h : EvD K dk te Γ (.bool b)) : EvD K dk (tCB rIntQ (tCons te tNil)) Γ (.int (if b then 1 else 0)) := ev_CB (ea1 h) cd_intB
theorem se_law_meaning (n : Nat) : SeF K (t_law_meaning K n) 13 (fun p : Prog => [enc p]) (fun p => At (n + 1) p) fun p => tabD (outs p) (mean p) := fun dk p h => by
  obtain ⟨hw, h3⟩ := h.wf
  cases p with
  | value m k =>
    have hk : k < m := hw.1
    have hm : m ≤ 8 := hw.2
    refine q_par2 (ea2 (ix0 (ev_var rfl)) (ev_law_outcomes (p := .value m k) (ev_var rfl) h)) (wY (ev_var rfl) (q_ret (ev_tupL (em_map _ (ei_range1 (n := (m : Int)) (ea1 (ev_var rfl)) (by omega) (by omega)) (by rw [rangeD_len]; omega) (by rw [mp_len, rangeD_len]; show m = _; omega) fun i x y hx hy => ?_))))
    obtain ⟨hi, rfl⟩ := rangeD_get hx
    obtain ⟨_, rfl⟩ := mp_get' hy
    refine ⟨_, tg_name (by simp), (ev_intT (intB (ev_opD (ev_var rfl) (ix2 (ev_var rfl)) opd_eqI))).cast ?_⟩
    show fr _ = fr (if i = k then 1 else 0)
    by_cases c : i = k
    · rw [if_pos c, decide_eq_true (by omega)]; rfl
    · rw [if_neg c, decide_eq_false (by omega)]; rfl
  | draw m B a => exact q_par2 (ea2 (ix0 (ev_var rfl)) (ev_law_outcomes (p := .draw m B a) (ev_var rfl) h)) (wN0 (ev_var rfl) (wY (ev_var rfl) (q_ret (ix1 (ev_var rfl)))))
  | bind f k cs =>
    have mix := Wf.mix hw h3
    obtain ⟨e, rfl, hf, hk, k1, k3, hc⟩ := hw
    have hn8 : outs (cs 0) ≤ 8 := (hc 0 (by omega)).1.mn.n8
    refine q_par2 (ea2 (ix0 (ev_var rfl)) (ev_law_outcomes (p := .bind f k cs) (ev_var rfl) h)) (wN0 (ev_var rfl) (wN0 (ev_var rfl) (q_set ((ev_law_meaning (p := f) (ix1 (ev_var rfl)) (at_of hf (by omega))).cast (tabD_congr hk fun _ _ => rfl)) (wY (ev_var rfl) (q_assoc (q_set (EvM.stillD (em_zeroQ (n := outs (cs 0)) (ev_var rfl) (by omega))) (q_assoc (q_for (ei_zip (ea2 (ev_var rfl) (ix2 (ev_var rfl))) rfl rfl)
      (fun j Γ => ∃ g6 g7, j ≤ k ∧ Γ = [.dat (enc (.bind f k cs)), .dat (.str "bind"), .dat (.int (outs (cs 0) : Nat)), .no, .dat (tabD k (mean f)), .dat (.list (mp (outs (cs 0)) fun i => fr (sm j fun j => mean f j * mean (cs j) i))), g6, g7, .no, .no, .no, .no, .no]) ⟨_, _, Nat.zero_le _, rfl⟩ (fun j x Γ1 hx => ?_) ?_))))))))
    · rintro ⟨g6, g7, hj, rfl⟩
      obtain ⟨a, b, ha, hb, rfl⟩ := zipD_get hx
      obtain ⟨hj', rfl⟩ := mp_get' ha
      obtain ⟨_, rfl⟩ := mp_get' hb
      refine ⟨_, [6, 7], tg_two (by simp) (by simp), s_end (q_set (d := .list (mp (outs (cs 0)) fun i => fr (sm (j + 1) fun j => mean f j * mean (cs j) i))) (EvM.stillD (em_map _ (ei_zip (ea2 (ev_var rfl) ((ev_law_meaning (p := cs j) (ev_var rfl) (at_of (hc j hj').1 (by omega))).cast (tabD_congr (hc j hj').2 fun _ _ => rfl))) rfl rfl) (by rw [zipD_len, mp_len, mp_len]; omega) (by rw [zipD_len, mp_len, mp_len, mp_len]; omega) fun i x y hx hy => ?_)) (s_next ⟨_, _, hj', rfl⟩))⟩
      obtain ⟨a, b, ha, hb, rfl⟩ := zipD_get hx
      obtain ⟨hi, rfl⟩ := mp_get' ha
      obtain ⟨_, rfl⟩ := mp_get' hb
      obtain ⟨_, rfl⟩ := mp_get' hy
      have T := mix_tot mix hi
      exact ⟨_, tg_two (by simp) (by simp), ev_law_plus (ev_var rfl) (ev_law_times (ev_var rfl) (ev_var rfl) (mix.1.sm hj') ((mix.2.1 j hj').sm hi)) (tot_part T hj) (T.mem (mp_mem.mpr ⟨j, hj', rfl⟩))⟩
    · rintro Γ1 ⟨g6, g7, hj, rfl⟩
      refine q_ret ((ev_CB (ea1 (ev_var rfl)) cd_tupL).imp fun d e => ?_)
      rw [e, zipD_len, mp_len, mp_len, Nat.min_self]
      rfl
  | again p l =>
    have h' := h
    obtain ⟨e, rfl, hp, hne⟩ := hw
    have T := hp.tab (by omega)
    obtain ⟨s1, s2⟩ := lot_sm T l
    have n8 := T.n8
    refine q_par2 (ea2 (ix0 (ev_var rfl)) (ev_law_outcomes (p := .again p l) (ev_var rfl) h')) (wN0 (ev_var rfl) (wN0 (ev_var rfl) (q_set (ev_law_meaning (p := p) (ix1 (ev_var rfl)) (at_of hp (by omega))) (wN0 (ev_var rfl) (wY (ev_var rfl) (q_assoc (q_set (ev_law_lot_chance (ev_var rfl) (ix2 (ev_var rfl)) T) (q_ret
      (ev_tupL (em_map _ (ei_enum (ea1 (ev_var rfl)) rfl) (by rw [enumD_len, mp_len]; omega) (by rw [mp_len, enumD_len, mp_len]; rfl) fun i x y hx hy => ?_))))))))))
    obtain ⟨e, he, rfl⟩ := enumD_get hx
    obtain ⟨hi, rfl⟩ := mp_get' he
    obtain ⟨_, rfl⟩ := mp_get' hy
    refine ⟨_, tg_two (by simp) (by simp), ev_if (et_testB ((ev_opD (ev_var rfl) ((ix2 (ev_var rfl)).cast (lotD_ints (outs p) l)) opd_inI).cast (by rw [lot_memI hi]))) (fun hl => ?_) fun hl => ?_⟩
    · have hl' : l i = true := hl.symm
      exact (ev_law_over (ev_var rfl) (ev_var rfl) (T.sm hi) s1 (lotS_pos T hne) s2).cast (by show _ = fr (if l i then mean p i / lotS (outs p) (mean p) l else 0); simp only [hl', if_true])
    · have hl' : l i = false := hl.symm
      exact ev_zeroT.cast (by show _ = fr (if l i then mean p i / lotS (outs p) (mean p) l else 0); simp [hl'])
  | ren p nm m =>
    have h' := h
    obtain ⟨e, rfl, hp, n1, n8, hn⟩ := hw
    have T := hp.tab (by omega)
    have p8 := T.n8
    have ssm : ∀ j i, j ≤ outs p → Sm (sm j fun j => if nm j = i then mean p j else 0) := fun j i hj => by
      obtain ⟨N, hN, hI⟩ := T.ex
      have h0 : ∀ j', 0 ≤ (if nm j' = i then mean p j' else 0) := fun j' => by
        split
        · exact hp.mn.nn j'
        · grind
      refine Sm.of (In.sm (T.pos hI) fun j' hj' => ?_) (Nat.lt_trans hN (Nat.pow_lt_pow_right (by omega) (by omega))) (sm_nonneg fun j' _ => h0 j') (Rat.le_trans (b := 1) ?_ (p2_one 200))
      · split
        · exact hI j' (by omega)
        · exact In.zero (T.pos hI)
      · rw [← T.one]
        refine Rat.le_trans (sm_le (g := mean p) fun j' _ => ?_) (sm_mono (fun j' => hp.mn.nn j') hj)
        have := hp.mn.nn j'
        split
        · exact Rat.le_refl
        · exact this
    refine q_par2 (ea2 (ix0 (ev_var rfl)) (ev_law_outcomes (p := .ren p nm m) (ev_var rfl) h')) (wN0 (ev_var rfl) (wN0 (ev_var rfl) (q_set (ev_law_meaning (p := p) (ix1 (ev_var rfl)) (at_of hp (by omega))) (wN0 (ev_var rfl) (wN0 (ev_var rfl) (q_setMD (em_zeroQ (n := m) (ev_var rfl) (by omega)) (q_for (ei_zip (ea2 (ev_var rfl) (ix2 (ev_var rfl))) rfl rfl)
      (fun j Γ => ∃ g6 g12, j ≤ outs p ∧ Γ = [.dat (enc (.ren p nm m)), .dat (.str "map"), .dat (.int (m : Int)), .no, .dat (tabD (outs p) (mean p)), .mut (mp m fun i => fr (sm j fun j => if nm j = i then mean p j else 0)), g6, .no, .no, .no, .no, .no, g12]) ⟨_, _, Nat.zero_le _, rfl⟩ (fun j x Γ1 hx => ?_) ?_)))))))
    · rintro ⟨g6, g12, hj, rfl⟩
      obtain ⟨a, b, ha, hb, rfl⟩ := zipD_get hx
      obtain ⟨hj', rfl⟩ := mp_get' ha
      obtain ⟨_, rfl⟩ := mp_get' hb
      have hnj := hn j hj'
      refine ⟨_, [6, 12], tg_two (by simp) (by simp), s_end (q_setix (m := nm j) rfl (ev_law_plus (ev_ixM (i := 5) rfl (ev_var rfl) (mp_get2 (f := fun i => fr (sm j fun j => if nm j = i then mean p j else 0)) hnj)) (ev_var rfl) (ssm j (nm j) hj) (T.sm hj')) (ev_var rfl) (by rw [mp_len]; exact ixNat hnj) fun d e => s_next ?_)⟩
      subst e
      rw [mp_set]
      have e2 : (mp m fun i => if i = nm j then fr ((sm j fun j_1 => if nm j_1 = nm j then mean p j_1 else 0) + mean p j) else fr (sm j fun j => if nm j = i then mean p j else 0)) = mp m fun i => fr (sm (j + 1) fun j => if nm j = i then mean p j else 0) := mp_congr fun i _ => by
        show _ = fr (sm j (fun j => if nm j = i then mean p j else 0) + if nm j = i then mean p j else 0)
        by_cases c : i = nm j
        · subst c; rw [if_pos rfl, if_pos rfl]
        · rw [if_neg c, if_neg fun z => c z.symm]
          congr 1
          grind
      rw [e2]
      exact ⟨_, _, hj', rfl⟩
    · rintro Γ1 ⟨g6, g12, hj, rfl⟩
      refine q_freeze (i := 5) rfl (s_ret ((ev_CB (ea1 (ev_var rfl)) cd_tupL).imp fun d e => ?_))
      rw [e, zipD_len, mp_len, mp_len, Nat.min_self]
      rfl
end
end K39

set_option Elab.async false
set_option linter.all false
set_option maxRecDepth 100000
set_option maxHeartbeats 1000000
set_option exponentiation.threshold 20000
/-! SE16: the law's rows -/
namespace K39
open PySem PySem.Spec PyProof.Rows L2
section
variable {K : PySem.W.Frag} {dk : Dk} {Γ : List K39.G} {ta tb tc te t1 t2 : TE} {x y z u : PyData} {ds : List PyData} {q r : Rat} {N : List K39.G → Prop} {R : PyData → Prop} {P : PyData → Prop}
/-- a, b = v, [..] by a tuple: the second list may change -/
theorem q_tupM {i j : Nat} {t : TS} (hij : i ≠ j) (h1 : EvP K dk t1 Γ P) (h2 : EvM K dk t2 Γ (fun r => r = ds)) (hr : ∀ x, P x → SOk K dk t ((Γ.set i (.dat x)).set j (.mut ds)) N R) : SOk K dk (tSeq (tAsg (tTup (tCons t1 (tCons t2 tNil))) (gTup K 2 (gCons (gName i) (gCons (gName j) gNil)))) t) Γ N R := fun I0 H0 σ I H D e k1 k2 => by
  refine h1 I0 H0 σ I H _ e fun v d I1 H1 p1 n1 r1 => ?_
  refine h2 I0 H0 σ I1 H1 _ (e.step n1) fun p vs ds' I2 H2 p2 n2 g0 g1 g2 r2 => ?_
  subst p2
  refine ⟨by show 2 ≤ sizeLine; decide, fun T hT => ?_⟩
  have n3 := Nx.newM (u := .tup [v, .ref p]) n2.ok hT
  have n12 := n1.trans n2
  have n13 := n12.trans n3
  have h0 : H p = none := n1.free g0
  have hpT : p ≠ T := fun z => by subst z; rw [g1] at hT; cases hT
  refine ⟨T, _, rfl, .inl (.inl upd_same), rfl, v, [.ref p], rfl, .ref p, [], rfl, rfl, ?_⟩
  refine hr d p1 I0 H0 _ I2 _ D (((e.step n13).set (r1.mono n2.ii)).setM (by rw [upd_ne hpT]; exact g1) g2 (e.nx.free h0) (e.ok.nz h0) r2 fun k es hk hne hs => ?_) (fun Γ' σ' I' H' n e2 s => k1 Γ' σ' I' H' n e2 (n12.ii.trans s)) k2
  rcases set_at hk with ⟨_, _, z⟩ | ⟨hk', hk⟩
  · cases z
  · rw [List.getElem?_set_ne hk'] at hs
    obtain ⟨q, ws, a, b, _⟩ := e.mu k es hk
    rw [a] at hs
    cases hs
    rw [b] at h0; cases h0
theorem q_tupMD {i j : Nat} {t : TS} (hij : i ≠ j) (h1 : EvD K dk t1 Γ x) (h2 : EvM K dk t2 Γ (fun r => r = ds)) (hr : SOk K dk t ((Γ.set i (.dat x)).set j (.mut ds)) N R) : SOk K dk (tSeq (tAsg (tTup (tCons t1 (tCons t2 tNil))) (gTup K 2 (gCons (gName i) (gCons (gName j) gNil)))) t) Γ N R := q_tupM hij h1 h2 fun _ e => e ▸ hr
/-- [x + y for x, y in zip(.., ..)] -/
theorem em_add {n i j : Nat} {u v : Nat → Int} {vs : List Nat} (hij : i ≠ j) (hi : i ∈ vs) (hj : j ∈ vs) (h : EvD K dk ta Γ (rowD n u)) (h' : EvD K dk tb Γ (rowD n v)) (hn : n ≤ 1000)
    (hG : ∀ x y, (((wipeG Γ vs).set i (.dat x)).set j (.dat y))[i]? = some (.dat x) ∧ (((wipeG Γ vs).set i (.dat x)).set j (.dat y))[j]? = some (.dat y)) :
    EvD K dk (tLc (iZipS K (tCons ta (tCons tb tNil))) (gTup K 2 (gCons (gName i) (gCons (gName j) gNil))) tYes (tOp rPlus (tVar i) (tVar j)) vs) Γ (rowD n fun s => u s + v s) := by
  refine EvM.stillD (em_map _ (ei_zip (ea2 h h') rfl rfl) (by rw [zipD_len, mp_len, mp_len]; omega) (by rw [zipD_len, mp_len, mp_len, mp_len]; omega) fun s x y hx hy => ?_)
  obtain ⟨a, b, ha, hb, rfl⟩ := zipD_get hx
  obtain ⟨hs, rfl⟩ := mp_get' ha
  obtain ⟨_, rfl⟩ := mp_get' hb
  obtain ⟨_, rfl⟩ := mp_get' hy
  exact ⟨_, tg_two hi hj, ev_opD (ev_var (hG _ _).1) (ev_var (hG _ _).2) opd_add⟩
theorem ev_law_rows {n T : Nat} {p : Prog} (h : EvD K dk ta Γ (enc p)) (h' : EvD K dk tb Γ (.int T)) (a : At n p) (hT : T ≤ 300) : EvD K dk (tCall (sp_law_rows K n) [] E0 (tCons ta (tCons tb tNil))) Γ (rowsD (outs p) (len p) T) := ev_callF (p, T) (ea2 h h') ⟨a, hT⟩
/-- [1] + [0] * n -/
theorem em_first {n : Nat} {c : Int} (hc : EvD K dk tc Γ (.int c)) (h : EvD K dk te Γ (.int n)) (hn : n ≤ 900) : EvM K dk (tOp rCat (tLst (tCons tc tNil)) (tOp rRep (tLst (tCons (tC (.int 0)) tNil)) te)) Γ (fun r => r = mp (n + 1) fun s => PyData.int (if s = 0 then c else 0)) :=
  (em_op (x := .list [.int c]) (y := .list (mp n fun _ => PyData.int 0)) (em_lst (ea1 hc) fun ds e => by rw [e]; show 1 ≤ 1000; omega).stillD (em_zeros h (by omega)).stillD (opm_cat (by rw [mp_len]; show 1 + n ≤ 1000; omega))).imp fun ds e => by
    rw [e, mp_succ']
    rfl
theorem se_law_rows (n : Nat) : SeF K (t_law_rows K n) 18 (fun a : Prog × Nat => [enc a.1, .int a.2]) (fun a => At (n + 1) a.1 ∧ a.2 ≤ 300) fun a => rowsD (outs a.1) (len a.1) a.2 := fun dk ⟨p, T⟩ ⟨h, hT⟩ => by
  have h' : At (n + 1) p := h
  obtain ⟨hw, h3⟩ := h'.wf
  have hT' : T ≤ 300 := hT
  have hw3 := hw.up h3
  have zeros : ∀ {Γ : List K39.G}, Γ[1]? = some (.dat (.int (T : Int))) → EvM K dk (tOp rRep (tLst (tCons (tC (.int 0)) tNil)) (tOp rPlus (tVar 1) (tC (.int 1)))) Γ (fun r => r = mp (T + 1) fun _ => PyData.int 0) := fun g => em_zeros (n := T + 1) (ev_opD (ev_var g) ev_int opd_add) (by omega)
  have found : ∀ {Γ : List K39.G} {m : Nat}, m ≤ 8 → Γ[1]? = some (.dat (.int (T : Int))) → Γ[3]? = some (.dat (.int (m : Int))) → (∀ d, ((wipeG Γ [4]).set 4 (.dat d))[1]? = Γ[1]?) → EvM K dk (tLc (iRng1 (tCons (tVar 3) tNil)) (gName 4) tYes (tOp rRep (tLst (tCons (tC (.int 0)) tNil)) (tOp rPlus (tVar 1) (tC (.int 1)))) [4]) Γ (fun r => r = mp m fun i => rowD (T + 1) fun s => sm 0 fun j => (0 : Int)) := fun {Γ m} hm g1 g3 gw =>
    em_map _ (ei_range1 (n := (m : Int)) (ea1 (ev_var g3)) (by omega) (by omega)) (by rw [rangeD_len]; omega) (by rw [mp_len, rangeD_len]; omega) fun i x y hx hy => by
      obtain ⟨_, rfl⟩ := mp_get' hy
      exact ⟨_, tg_name (by simp), (zeros ((gw x).trans g1)).stillD⟩
  cases p with
  | value m k =>
    have hk : k < m := hw.1
    have hm : m ≤ 8 := hw.2
    refine q_par2 (ea2 (ix0 (ev_var rfl)) (ev_law_outcomes (p := .value m k) (ev_var rfl) h')) (wY (ev_var rfl) (q_ret (EvM.stillD (em_map _ (ei_range1 (n := (m : Int)) (ea1 (ev_var rfl)) (by omega) (by omega)) (by rw [rangeD_len]; omega) (by rw [mp_len, rangeD_len]; show m = _; omega) fun i x y hx hy => ?_))))
    obtain ⟨hi, rfl⟩ := rangeD_get hx
    obtain ⟨_, rfl⟩ := mp_get' hy
    refine ⟨_, tg_name (by simp), (em_first (n := T) (intB (ev_opD (ev_var rfl) (ix2 (ev_var rfl)) opd_eqI)) (ev_var rfl) (by omega)).stillD.cast ?_⟩
    refine congrArg PyData.list (mp_congr fun s _ => ?_)
    show PyData.int (if s = 0 then _ else 0) = PyData.int (if s = 0 ∧ i = k then 1 else 0)
    by_cases c : s = 0
    · by_cases c2 : i = k
      · rw [if_pos c, decide_eq_true (by omega), if_pos rfl, if_pos ⟨c, c2⟩]
      · rw [if_pos c, decide_eq_false (by omega), if_neg Bool.false_ne_true, if_neg fun z => c2 z.2]
    · rw [if_neg c, if_neg (by omega)]
  | draw m B a =>
    have hD : Dr m B a := hw
    have m8 := hD.n8
    refine q_par2 (ea2 (ix0 (ev_var rfl)) (ev_law_outcomes (p := .draw m B a) (ev_var rfl) h')) (wN0 (ev_var rfl) (wY (ev_var rfl) (q_ret (EvM.stillD (em_map _ (ei_seq (ix1 (ev_var rfl)) rfl) (by rw [mp_len]; omega) (by rw [mp_len, mp_len]; rfl) fun i x y hx hy => ?_)))))
    obtain ⟨hi, rfl⟩ := mp_get' hx
    obtain ⟨_, rfl⟩ := mp_get' hy
    exact ⟨_, tg_name (by simp), ev_law_digits (ev_var rfl) (ev_var rfl) (hD.tab.sm hi) (drT_nn B a i) hT'⟩
  | bind f k cs =>
    obtain ⟨e, rfl, hf, hk, k1, k3, hc⟩ := hw
    have n8 : outs (cs 0) ≤ 8 := (hc 0 (by omega)).1.mn.n8
    have fL := hf.sumLt hT'
    refine q_par2 (ea2 (ix0 (ev_var rfl)) (ev_law_outcomes (p := .bind f k cs) (ev_var rfl) h')) (wN0 (ev_var rfl) (wN0 (ev_var rfl) (q_set (d := rowsD k (len f) T) ((ev_law_rows (p := f) (ix1 (ev_var rfl)) (ev_var rfl) (at_of hf (by omega)) hT').cast (by rw [hk])) (q_setMD (found (m := outs (cs 0)) n8 rfl rfl fun d => rfl) (wN0 (ev_var rfl) (wY (ev_var rfl) (q_assoc (q_for (ei_zip (ea2 (ev_var rfl) (ix2 (ev_var rfl))) rfl rfl)
      (fun j Γ => ∃ g4 g9 g12 g13, j ≤ k ∧ Γ = [.dat (enc (.bind f k cs)), .dat (.int (T : Int)), .dat (.str "bind"), .dat (.int (outs (cs 0) : Nat)), g4, .no, .dat (rowsD k (len f) T), .mut (mp (outs (cs 0)) fun i => rowD (T + 1) fun s => sm j fun j => conv (fun a => len f a j) (fun b => len (cs j) b i) s), .no, g9, .no, .no, g12, g13, .no, .no, .no, .no]) ⟨_, _, _, _, Nat.zero_le _, rfl⟩ (fun j x Γ1 hx => ?_) ?_))))))))
    · rintro ⟨g4, g9, g12, g13, hj, rfl⟩
      obtain ⟨a, b, ha, hb, rfl⟩ := zipD_get hx
      obtain ⟨hj', rfl⟩ := mp_get' ha
      obtain ⟨_, rfl⟩ := mp_get' hb
      have cL := (hc j hj').1.sumLt hT'
      rw [(hc j hj').2] at cL
      refine ⟨_, [9, 12], tg_two (by simp) (by simp), s_end (q_for (ei_enum (ea1 ((ev_law_rows (p := cs j) (ev_var rfl) (ev_var rfl) (at_of (hc j hj').1 (by omega)) hT').cast (by rw [(hc j hj').2]))) rfl)
        (fun a Γ => ∃ g4 g13, a ≤ outs (cs 0) ∧ Γ = [.dat (enc (.bind f k cs)), .dat (.int (T : Int)), .dat (.str "bind"), .dat (.int (outs (cs 0) : Nat)), g4, .no, .dat (rowsD k (len f) T), .mut (mp (outs (cs 0)) fun i => rowD (T + 1) fun s => sm (if i < a then j + 1 else j) fun j => conv (fun a => len f a j) (fun b => len (cs j) b i) s), .no, .dat (rowD (T + 1) fun s => len f s j), .no, .no, .dat (enc (cs j)), g13, .no, .no, .no, .no]) ⟨g4, g13, Nat.zero_le _, rfl⟩ (fun a x Γ2 hx => ?_) ?_)⟩
      · rintro ⟨g4, g13, haN, rfl⟩
        obtain ⟨e, he, rfl⟩ := enumD_get hx
        obtain ⟨ha, rfl⟩ := mp_get' he
        refine ⟨_, [4, 13], tg_two (by simp) (by simp), s_end (q_setix (m := a) rfl (em_add (n := T + 1) (by decide) (by simp) (by simp) (ev_ixM (i := 7) rfl (ev_var rfl) (mp_get2 (f := fun i => rowD (T + 1) fun s => sm (if i < a then j + 1 else j) fun j => conv (fun a => len f a j) (fun b => len (cs j) b i) s) ha)) (ev_law_behind (u := fun s => len f s j) (v := fun s => len (cs j) s a) (ev_var rfl) (ev_var rfl) (ev_var rfl) hT' (fun s hs => fL s j hs (by omega)) (fun s hs => cL s a hs ha)) (by omega) fun x y => ⟨rfl, rfl⟩) (ev_var rfl) (by rw [mp_len]; exact ixNat ha) fun d e => s_next ?_)⟩
        subst e
        rw [mp_set]
        have e2 : (mp (outs (cs 0)) fun i => if i = a then rowD (T + 1) (fun s => (sm (if a < a then j + 1 else j) fun j => conv (fun a => len f a j) (fun b => len (cs j) b a) s) + conv (fun s => len f s j) (fun s => len (cs j) s a) s) else rowD (T + 1) fun s => sm (if i < a then j + 1 else j) fun j => conv (fun a => len f a j) (fun b => len (cs j) b i) s) =
            mp (outs (cs 0)) fun i => rowD (T + 1) fun s => sm (if i < a + 1 then j + 1 else j) fun j => conv (fun a => len f a j) (fun b => len (cs j) b i) s := mp_congr fun i _ => by
          by_cases c : i = a
          · subst c
            rw [if_pos rfl, if_neg (Nat.lt_irrefl _), if_pos (by omega)]
            rfl
          · rw [if_neg c]
            by_cases c2 : i < a
            · rw [if_pos c2, if_pos (by omega)]
            · rw [if_neg c2, if_neg (by omega)]
        rw [e2]
        exact ⟨_, _, ha, rfl⟩
      · rintro Γ2 ⟨g4, g13, haN, rfl⟩
        rw [enumD_len, mp_len]
        have e2 : (mp (outs (cs 0)) fun i => rowD (T + 1) fun s => sm (if i < outs (cs 0) then j + 1 else j) fun j => conv (fun a => len f a j) (fun b => len (cs j) b i) s) = mp (outs (cs 0)) fun i => rowD (T + 1) fun s => sm (j + 1) fun j => conv (fun a => len f a j) (fun b => len (cs j) b i) s := mp_congr fun i hi => by rw [if_pos hi]
        rw [e2]
        exact s_next ⟨_, _, _, _, hj', rfl⟩
    · rintro Γ1 ⟨g4, g9, g12, g13, hj, rfl⟩
      refine q_freeze (i := 7) rfl (q_ret ((ev_var rfl).cast ?_))
      rw [zipD_len, mp_len, mp_len, Nat.min_self]
      rfl
  | again p l =>
    have hwa := hw
    obtain ⟨e, rfl, hp, hne⟩ := hw
    have n8 := hp.mn.n8
    have pL := hp.sumLt hT'
    have tl : ∀ s, s ≤ T → 0 ≤ tms (thr (outs p) l (len p)) s ∧ tms (thr (outs p) l (len p)) s ≤ 2 ^ 400 := fun s hs => Wf.tmsle hwa hs hT'
    have nab : ∀ {i : Int}, 0 ≤ i ∧ i ≤ 2 ^ 400 → i.natAbs < 2 ^ 401 := fun h => small400 h.1 h.2
    refine q_par2 (ea2 (ix0 (ev_var rfl)) (ev_law_outcomes (p := .again p l) (ev_var rfl) h')) (wN0 (ev_var rfl) (wN0 (ev_var rfl) (q_set (ev_law_rows (p := p) (ix1 (ev_var rfl)) (ev_var rfl) (at_of hp (by omega)) hT') (q_setMD (found (m := outs p) n8 rfl rfl fun d => rfl) (q_forget (i := 7) (wN0 (ev_var rfl) (wN0 (ev_var rfl) (q_tupMD (by decide) (zeros rfl).stillD (em_first (n := T) ev_int (ev_var rfl) (by omega)) (q_for (ei_enum (ea1 (ev_var rfl)) rfl)
      (fun o Γ => ∃ g4 g9, o ≤ outs p ∧ Γ = [.dat (enc (.again p l)), .dat (.int (T : Int)), .dat (.str "again"), .dat (.int (outs p : Nat)), g4, .no, .dat (rowsD (outs p) (len p) T), .no, .no, g9, .no, .no, .no, .no, .dat (rowD (T + 1) fun s => sm o fun o => if l o then 0 else len p s o), .mut (mp (T + 1) fun s => .int (if s = 0 then 1 else 0)), .no, .no]) ⟨_, _, Nat.zero_le _, rfl⟩ (fun o x Γ1 hx => ?_) ?_)))))))))
    · rintro ⟨g4, g9, ho, rfl⟩
      obtain ⟨e, he, rfl⟩ := enumD_get hx
      obtain ⟨ho', rfl⟩ := mp_get' he
      refine ⟨_, [4, 9], tg_two (by simp) (by simp), s_end (q_ifB (et_testB ((ev_opD (ev_var rfl) ((ix2 (ev_var rfl)).cast (lotD_ints (outs p) l)) opd_notInI).cast (by rw [lot_memI ho']))) (fun hl => ?_) fun hl => ?_)⟩
      · have hl' : l o = false := by simpa using hl
        refine q_set (d := rowD (T + 1) fun s => sm (o + 1) fun o => if l o then 0 else len p s o) ((em_add (n := T + 1) (by decide) (by simp) (by simp) (ev_var rfl) (ev_var rfl) (by omega) fun x y => ⟨rfl, rfl⟩).cast ?_) (s_next ⟨_, _, ho', rfl⟩)
        refine rowD_congr rfl fun s _ => ?_
        show _ + len p s o = _ + if l o then 0 else len p s o
        rw [hl']
        rfl
      · have hl' : l o = true := by simpa using hl
        have e2 : (rowD (T + 1) fun s => sm o fun o => if l o then 0 else len p s o) = rowD (T + 1) fun s => sm (o + 1) fun o => if l o then 0 else len p s o := rowD_congr rfl fun s _ => by
          show _ = _ + if l o then 0 else len p s o
          rw [hl', if_pos rfl, Int.add_zero]
        rw [e2]
        exact q_next (s_next ⟨_, _, ho', rfl⟩)
    · rintro Γ1 ⟨g4, g9, ho, rfl⟩
      rw [enumD_len, mp_len]
      have eD : (rowD (T + 1) fun s => sm (outs p) fun o => if l o then 0 else len p s o) = rowD (T + 1) (thr (outs p) l (len p)) := rfl
      rw [eD]
      generalize hDD : thr (outs p) l (len p) = DD at tl ⊢
      have dS : ∀ s, s ≤ T → (DD s).natAbs < 2 ^ 410 := fun s hs => by rw [← hDD]; exact thr_small pL n8 hs
      refine q_for (ei_range2 (a := 1) (n := (T : Int) + 1) (ea2 ev_int (ev_opD (ev_var rfl) ev_int opd_add)) ⟨by omega, by omega, by omega, by omega⟩)
        (fun m Γ => ∃ g16, m ≤ T ∧ Γ = [.dat (enc (.again p l)), .dat (.int (T : Int)), .dat (.str "again"), .dat (.int (outs p : Nat)), g4, .no, .dat (rowsD (outs p) (len p) T), .no, .no, g9, .no, .no, .no, .no, .dat (rowD (T + 1) DD), .mut (mp (T + 1) fun s => .int (if s ≤ m then tms DD s else 0)), g16, .no]) ⟨.no, Nat.zero_le _, ?_⟩ (fun m x Γ2 hx => ?_) ?_
      · have e2 : (mp (T + 1) fun s => PyData.int (if s = 0 then 1 else 0)) = mp (T + 1) fun s => PyData.int (if s ≤ 0 then tms DD s else 0) := mp_congr fun s _ => by
          by_cases c : s = 0
          · subst c; rw [if_pos rfl, if_pos (Nat.le_refl 0), tms_zero]
          · rw [if_neg c, if_neg (by omega)]
        rw [e2]
      · rintro ⟨g16, hm, rfl⟩
        obtain ⟨hi, rfl⟩ := rangeD_get hx
        have e1 : (1 : Int) + (m : Int) = ((m + 1 : Nat) : Int) := by omega
        rw [e1]
        have hm' : m < T := by omega
        refine ⟨_, [16], tg_name (by simp), s_end (q_setix (m := m + 1) rfl (P := fun d => d = .int (tms DD (m + 1))) ((ev_sumI (n := m + 1) (f := fun k => DD (k + 1) * tms DD (m - k)) (em_map _ (ei_range2 (a := 1) (n := ((m + 1 : Nat) : Int) + 1) (ea2 ev_int (ev_opD (ev_var rfl) ev_int opd_add)) ⟨by omega, by omega, by omega, by omega⟩) (by rw [rangeD_len]; omega) (by rw [mp_len, rangeD_len]; omega) fun k x y hx hy => ?_)).cast (by rw [tms_succ])) (ev_var rfl) (by rw [mp_len]; exact ixNat (by omega)) fun d e => s_next ?_)⟩
        · obtain ⟨hk, rfl⟩ := rangeD_get hx
          obtain ⟨hk', rfl⟩ := mp_get' hy
          have e2 : (1 : Int) + (k : Int) = ((k + 1 : Nat) : Int) := by omega
          rw [e2]
          have tk := tl (m - k) (by omega)
          refine ⟨_, tg_name (by simp), ev_opD (ev_opD (ev_var rfl) (ev_var rfl) (opd_ixL (mp_get2 (f := fun s => PyData.int (DD s)) (i := k + 1) (by omega)))) (ev_ixM (i := 15) (d := .int (tms DD (m - k))) rfl ((ev_opD (ev_var rfl) (ev_var rfl) opd_sub).cast (y := .int ((m - k : Nat) : Int)) (congrArg PyData.int (by omega))) ?_) (opd_mulX (cmulx (dS (k + 1) (by omega)) (nab tk)))⟩
          have := mp_get2 (n := T + 1) (f := fun s => PyData.int (if s ≤ m then tms DD s else 0)) (i := m - k) (by omega)
          rw [if_pos (by omega)] at this
          exact this
        · subst e
          rw [mp_set]
          have e2 : (mp (T + 1) fun s => if s = m + 1 then PyData.int (tms DD (m + 1)) else PyData.int (if s ≤ m then tms DD s else 0)) = mp (T + 1) fun s => PyData.int (if s ≤ m + 1 then tms DD s else 0) := mp_congr fun s _ => by
            by_cases c : s = m + 1
            · subst c; rw [if_pos rfl, if_pos (Nat.le_refl _)]
            · rw [if_neg c]
              by_cases c2 : s ≤ m
              · rw [if_pos c2, if_pos (by omega)]
              · rw [if_neg c2, if_neg (by omega)]
          rw [e2]
          exact ⟨_, hm', rfl⟩
      · rintro Γ2 ⟨g16, hm, rfl⟩
        rw [rangeD_len, show ((T : Int) + 1 - 1).toNat = T by omega]
        have e2 : (mp (T + 1) fun s => PyData.int (if s ≤ T then tms DD s else 0)) = mp (T + 1) fun s => PyData.int (tms DD s) := mp_congr fun s hs => by rw [if_pos (by omega)]
        rw [e2]
        refine q_freeze (i := 15) rfl (s_ret (EvM.stillD (em_map _ (ei_enum (ea1 (ev_var rfl)) rfl) (by rw [enumD_len, mp_len]; omega) (by rw [mp_len, enumD_len, mp_len]; rfl) fun i x y hx hy => ?_)))
        obtain ⟨e, he, rfl⟩ := enumD_get hx
        obtain ⟨hi, rfl⟩ := mp_get' he
        obtain ⟨_, rfl⟩ := mp_get' hy
        refine ⟨_, tg_two (by simp) (by simp), ev_if (et_testB ((ev_opD (ev_var rfl) ((ix2 (ev_var rfl)).cast (lotD_ints (outs p) l)) opd_inI).cast (by rw [lot_memI hi]))) (fun hl => ?_) fun hl => ?_⟩
        · have hl' : l i = true := hl.symm
          refine (ev_law_behind (u := tms DD) (v := fun s => len p s i) (ev_var rfl) (ev_var rfl) (ev_var rfl) hT' tl fun s hs => pL s i hs hi).cast (rowD_congr rfl fun s _ => ?_)
          show _ = if l i then conv (tms (thr (outs p) l (len p))) (fun b => len p b i) s else 0
          rw [hl', if_pos rfl, hDD]
        · have hl' : l i = false := hl.symm
          refine (zeros rfl).stillD.cast (rowD_congr (f := fun _ => 0) rfl fun s _ => ?_)
          show _ = if l i then conv (tms (thr (outs p) l (len p))) (fun b => len p b i) s else 0
          rw [hl']
          rfl
  | ren p nm m =>
    obtain ⟨e, rfl, hp, n1, n8, hn⟩ := hw
    have p8 := hp.mn.n8
    refine q_par2 (ea2 (ix0 (ev_var rfl)) (ev_law_outcomes (p := .ren p nm m) (ev_var rfl) h')) (wN0 (ev_var rfl) (wN0 (ev_var rfl) (q_set (ev_law_rows (p := p) (ix1 (ev_var rfl)) (ev_var rfl) (at_of hp (by omega)) hT') (q_setMD (found (m := m) n8 rfl rfl fun d => rfl) (wY (ev_var rfl) (q_assoc (q_for (ei_zip (ea2 (ix2 (ev_var rfl)) (ev_var rfl)) rfl rfl)
      (fun j Γ => ∃ g8 g9, j ≤ outs p ∧ Γ = [.dat (enc (.ren p nm m)), .dat (.int (T : Int)), .dat (.str "map"), .dat (.int (m : Nat)), .no, .no, .dat (rowsD (outs p) (len p) T), .mut (mp m fun i => rowD (T + 1) fun s => sm j fun j => if nm j = i then len p s j else 0), g8, g9, .no, .no, .no, .no, .no, .no, .no, .no]) ⟨_, _, Nat.zero_le _, rfl⟩ (fun j x Γ1 hx => ?_) ?_)))))))
    · rintro ⟨g8, g9, hj, rfl⟩
      obtain ⟨a, b, ha, hb, rfl⟩ := zipD_get hx
      obtain ⟨hj', rfl⟩ := mp_get' ha
      obtain ⟨_, rfl⟩ := mp_get' hb
      have hnj := hn j hj'
      refine ⟨_, [8, 9], tg_two (by simp) (by simp), s_end (q_setix (m := nm j) rfl (em_add (n := T + 1) (by decide) (by simp) (by simp) (ev_ixM (i := 7) rfl (ev_var rfl) (mp_get2 (f := fun i => rowD (T + 1) fun s => sm j fun j => if nm j = i then len p s j else 0) hnj)) (ev_var rfl) (by omega) fun x y => ⟨rfl, rfl⟩) (ev_var rfl) (by rw [mp_len]; exact ixNat hnj) fun d e => s_next ?_)⟩
      subst e
      rw [mp_set]
      have e2 : (mp m fun i => if i = nm j then rowD (T + 1) (fun s => (sm j fun j' => if nm j' = nm j then len p s j' else 0) + len p s j) else rowD (T + 1) fun s => sm j fun j => if nm j = i then len p s j else 0) = mp m fun i => rowD (T + 1) fun s => sm (j + 1) fun j => if nm j = i then len p s j else 0 := mp_congr fun i _ => by
        by_cases c : i = nm j
        · subst c
          rw [if_pos rfl]
          refine rowD_congr rfl fun s _ => ?_
          show _ = _ + if nm j = nm j then len p s j else 0
          rw [if_pos rfl]
        · rw [if_neg c]
          refine rowD_congr rfl fun s _ => ?_
          show _ = _ + if nm j = i then len p s j else 0
          rw [if_neg fun z => c z.symm, Int.add_zero]
      rw [e2]
      exact ⟨_, _, hj', rfl⟩
    · rintro Γ1 ⟨g8, g9, hj, rfl⟩
      refine q_freeze (i := 7) rfl (q_ret ((ev_var rfl).cast ?_))
      rw [zipD_len, mp_len, mp_len, Nat.min_self]
      rfl
end
end K39

set_option Elab.async false
set_option linter.all false
set_option maxRecDepth 100000
set_option maxHeartbeats 1000000
set_option exponentiation.threshold 20000
/-! SE17: sizes; the deck -/
namespace K39
open PySem PySem.Spec PyProof.Rows L2
section
variable {K : PySem.W.Frag} {dk : Dk} {Γ : List K39.G} {ta tb tc te t1 t2 : TE} {x y z u : PyData} {ds : List PyData} {q r : Rat} {N : List K39.G → Prop} {R : PyData → Prop} {P : PyData → Prop}
theorem et_any {tt : TT} {b : Bool} (h : EvB K dk tt Γ b) : EvT K dk tt Γ (fun _ => True) := h.imp fun _ _ => trivial
theorem OpD.any {rr : R2} {x y d : PyData} (h : OpD K dk rr x y (fun r => r = d)) (p : P d) : OpD K dk rr x y P := fun I H v u Q o r1 r2 k => h I H v u Q o r1 r2 fun w d' I' H' e => k w d' I' H' (e ▸ p)
theorem OpD.imp {rr : R2} {x y : PyData} {P1 : PyData → Prop} (h : OpD K dk rr x y P1) (i : ∀ d, P1 d → P d) : OpD K dk rr x y P := fun I H v u Q o r1 r2 k => h I H v u Q o r1 r2 fun w d' I' H' e => k w d' I' H' (i d' e)
/-- each item by a promise -/
theorem em_each {wi : TI} {g : TG} {vs : List Nat} {items : List PyData} (S : Nat → PyData → Prop) (hi : EvI K dk wi Γ items) (hl : items.length ≤ 1000) (hb : ∀ (i : Nat) (x : PyData), items[i]? = some x → ∃ Γx, Tg K dk g vs x (wipeG Γ vs) Γx ∧ EvP K dk te Γx (S i)) :
    EvM K dk (tLc wi g tYes te vs) Γ (fun ds => ds.length = items.length ∧ ∀ (i : Nat) (d : PyData), ds[i]? = some d → S i d) := by
  refine (em_lc hi hl (fun i o => ∃ y, o = some y ∧ S i y) (fun _ b => b = true) fun i x hx => ?_).imp fun ds ⟨os, h1, h2, h3⟩ => ?_
  · obtain ⟨Γx, tg, ev⟩ := hb i x hx
    exact ⟨Γx, tg, et_yes, fun _ => ev.imp fun d s => ⟨d, rfl, s⟩, fun z => by cases z⟩
  · have key : ∀ (os : List (Option PyData)), (∀ (i : Nat) (o : Option PyData), os[i]? = some o → ∃ y, o = some y) → os = (os.filterMap id).map some := fun os => by
      induction os with
      | nil => intro _; rfl
      | cons o os ih =>
        intro h
        obtain ⟨y, rfl⟩ := h 0 o rfl
        rw [List.filterMap_cons]
        show some y :: os = some y :: (os.filterMap id).map some
        rw [← ih fun i o ho => h (i + 1) o ho]
    have e := key os fun i o ho => let ⟨y, ey, _⟩ := h2 i o ho; ⟨y, ey⟩
    rw [← h3] at e
    refine ⟨by rw [← h1, e, List.length_map], fun i d hd => ?_⟩
    have : os[i]? = some (some d) := by rw [e, List.getElem?_map, hd]; rfl
    obtain ⟨y, ey, s⟩ := h2 i _ this
    cases ey
    exact s
theorem list_of {α : Type} {k : Nat} {ds : List α} (hl : ds.length = k) {f : Nat → α} (h : ∀ i d, ds[i]? = some d → d = f i) : ds = mp k f := by
  refine List.ext_getElem? fun i => ?_
  by_cases hi : i < k
  · rw [mp_get hi, List.getElem?_eq_getElem (by omega : i < ds.length)]
    exact congrArg some (h i _ (List.getElem?_eq_getElem (by omega)))
  · rw [List.getElem?_eq_none (by omega), List.getElem?_eq_none (by rw [mp_len]; omega)]
/-- a sum of ints, whichever -/
theorem ev_sumP (h : EvM K dk te Γ (fun ds => ∃ ns : List Int, ds = ns.map PyData.int)) : EvP K dk (tCB (rSum K) (tCons te tNil)) Γ (fun d => ∃ i : Int, d = .int i) :=
  ev_CBP (PA := fun xs => ∃ ns : List Int, xs = [.list (ns.map PyData.int)]) (ea_consP h.still ea_nil fun x xs ⟨ds, e1, ns, e2⟩ e3 => ⟨ns, by rw [e1, e2, e3]⟩) fun xs ⟨ns, e⟩ => by
    subst e
    exact fun I H vs Q o r k => cd_sum I H vs Q o r fun w d I' H' e => k w d I' H' ⟨_, e⟩
theorem se_law_is_let : Se K (t_law_is_let K) 3 (fun a : Nat × (Nat → Rat) => [tabD a.1 a.2]) (fun a => Tab a.1 a.2) (fun _ d => ∃ b, d = .bool b) := fun dk ⟨n, f⟩ h => by
  refine q_for (ei_seq (ev_var rfl) rfl) (fun i Γ => ∃ g1 g2, Γ = [.dat (tabD n f), g1, g2]) ⟨_, _, rfl⟩ (fun i x Γ1 hx => ?_) ?_
  · rintro ⟨g1, g2, rfl⟩
    obtain ⟨hi, rfl⟩ := mp_get' hx
    refine ⟨_, [1, 2], tg_two (x := .int (f i).num) (y := .int (f i).den) (by simp) (by simp), s_end (q_if (B := fun _ => True) (et_and (B1 := fun _ => True) (et_any (et_testB (ev_opD (ev_var rfl) ev_int opd_gt))) (fun _ => trivial) fun _ => et_or (B1 := fun _ => True) (et_any (et_testB (ev_opD (ev_var rfl) (ev_opD ev_int ev_int (opd_shl (cshl (k := 60) (a := 2) (by decide)))) opd_gt))) (fun _ => trivial) fun _ => et_any (et_testB (ev_opD (ev_opD (ev_var rfl) (ev_opD (ev_var rfl) ev_int opd_sub) opd_and) ev_int opd_neI))) (fun _ => q_ret (ev_bl.any ⟨_, rfl⟩)) fun _ => q_next (s_next ⟨_, _, rfl⟩))⟩
  · rintro Γ1 ⟨g1, g2, rfl⟩
    exact s_ret (ev_bl.any ⟨_, rfl⟩)
theorem ev_law_size {n : Nat} {p : Prog} (h : EvD K dk te Γ (enc p)) (a : At n p) : EvP K dk (tCall (sp_law_size K n) [] E0 (tCons te tNil)) Γ (fun d => ∃ i : Int, d = .int i) := ev_callL p (ea1 h) a fun _ e => e
theorem and_one : ∀ m : Nat, m < 17 → (Builtin.bitAnd (m : Int) 1 = 0 ↔ m % 2 = 0) := by decide +kernel
/-- {3: 2, 5: 4, 7: 3}.get(odd, 12) -/
theorem ev_dget {i : Int} (h : Γ[4]? = some (.dat (.int i))) : EvP K dk (tDGet2 (tDisp [((tC (.int 3)), (tC (.int 2))), ((tC (.int 5)), (tC (.int 4))), ((tC (.int 7)), (tC (.int 3)))]) (tVar 4) (tC (.int 12))) Γ (fun d => ∃ c : Int, d = .int c ∧ 0 ≤ c ∧ c ≤ 12) := fun I0 H0 σ I H Q e k => by
  obtain ⟨v, h1, h2⟩ := e.dat 4 _ h
  cases h2
  intro p hp
  have n1 := Nx.newM (u := .dK []) e.ok hp
  refine ⟨upd_same, [(.inl 3, .int 2), (.inl 5, .int 4), (.inl 7, .int 3)], rfl, by decide, p, rfl, .inl ⟨_, .inl upd_same⟩, .int i, h1, ?_⟩
  refine ⟨_, .inl ⟨_, .inl i, .inl upd_same, rfl, rfl⟩, ?_⟩
  have n2 : Nx dk I H I (upd (upd H p (.dK [])) p (.dK (mergeK [] [(.inl 3, .int 2), (.inl 5, .int 4), (.inl 7, .int 3)]))) := n1.mutp hp (e.ok.none_of hp) (e.ok.nz hp)
  have e1 : mergeK [] [(.inl 3, .int 2), (.inl 5, .int 4), (.inl 7, .int 3)] = [((.inl 3 : Key), V.int 2), (.inl 5, .int 4), (.inl 7, .int 3)] := by rfl
  rw [e1] at n2 ⊢
  have fin : ∀ c : Int, 0 ≤ c → c ≤ 12 → Q (.int c) (upd (upd H p (.dK [])) p (.dK [((.inl 3 : Key), V.int 2), (.inl 5, .int 4), (.inl 7, .int 3)])) := fun c h0 h12 => k _ (.int c) I _ ⟨c, rfl, h0, h12⟩ n2 (.int c)
  by_cases c3 : i = 3
  · subst c3; exact fin 2 (by decide) (by decide)
  · by_cases c5 : i = 5
    · subst c5; exact fin 4 (by decide) (by decide)
    · by_cases c7 : i = 7
      · subst c7; exact fin 3 (by decide) (by decide)
      · have : valV [((.inl 3 : Key), V.int 2), (.inl 5, .int 4), (.inl 7, .int 3)] (.inl i) = none := by
          have d3 : ¬ (3 : Int) = i := fun z => c3 z.symm
          have d5 : ¬ (5 : Int) = i := fun z => c5 z.symm
          have d7 : ¬ (7 : Int) = i := fun z => c7 z.symm
          simp [valV, d3, d5, d7]
        rw [this]
        exact fin 12 (by decide) (by decide)
theorem se_law_size (n : Nat) : Se K (t_law_size K n) 8 (fun p : Prog => [enc p]) (fun p => At (n + 1) p) (fun _ d => ∃ i : Int, d = .int i) := fun dk p h => by
  obtain ⟨hw, h3⟩ := h.wf
  have T := hw.tab h3
  refine q_if (B := fun _ => True) (et_not (B1 := fun _ => True) (et_B (ev_callL (outs p, mean p) (ea1 (ev_law_meaning (ev_var rfl) h)) T fun d ⟨b, e⟩ => ⟨b, e, trivial⟩)) fun _ _ => trivial) (fun _ => q_ret (ev_int.any ⟨_, rfl⟩)) fun _ => q_next ?_
  cases p with
  | value m k => exact wY (ix0 (ev_var rfl)) (q_ret (ev_int.any ⟨_, rfl⟩))
  | draw m B a =>
    have hD : Dr m B a := hw
    refine wN0 (ix0 (ev_var rfl)) (wY (ix0 (ev_var rfl)) (q_assoc (q_set ev_int (q_assoc (q_for (ei_seq (ix1 (ev_var rfl)) rfl)
      (fun i Γ => ∃ (c : Int) (g2 g3 g4 g5 : K39.G), 0 ≤ c ∧ c ≤ 100 ∧ Γ = [.dat (enc (.draw m B a)), .dat (.int c), g2, g3, g4, g5, .no, .no]) ⟨0, _, _, _, _, by decide, by decide, rfl⟩ (fun i x Γ1 hx => ?_) ?_)))))
    · rintro ⟨c, g2, g3, g4, g5, c0, c1, rfl⟩
      obtain ⟨hi, rfl⟩ := mp_get' hx
      have hd := (hD.sml hi).1
      have hd1 := (drT B a i).den_pos
      refine ⟨_, [2, 3], tg_two (x := .int (drT B a i).num) (y := .int (drT B a i).den) (by simp) (by simp), q_par2 (ea2 (ev_var rfl) ev_int) ?_⟩
      refine q_while (fun p : Nat × Nat => [K39.G.dat (enc (.draw m B a)), .dat (.int c), .dat (.int (drT B a i).num), .dat (.int (drT B a i).den), .dat (.int p.1), .dat (.int p.2), .no, .no]) (fun p => 1 ≤ p.1 ∧ p.1 + p.2 ≤ 16) (fun p => p.1) ((drT B a i).den, 0) rfl ⟨hd1, hd⟩ fun ⟨o, pl⟩ ⟨ho, hs⟩ => ?_
      have ho' : 1 ≤ o := ho
      have hs' : o + pl ≤ 16 := hs
      have ha := and_one o (by omega)
      refine ⟨_, et_testB (ev_opD (ev_opD (ev_var rfl) ev_int opd_and) ev_int opd_eqI), fun hy => ?_, fun hy => ?_⟩
      · have he := ha.mp (of_decide_eq_true hy)
        refine s_end (q_par2 (ea2 (ev_opD (ev_var rfl) ev_int (opd_shr (by decide))) (ev_opD (ev_var rfl) ev_int opd_add)) (s_next ⟨(o / 2, pl + 1), ?_, ⟨by show 1 ≤ o / 2; omega, by show o / 2 + (pl + 1) ≤ 16; omega⟩, by show o / 2 < o; omega⟩))
        rfl
      · refine s_end (q_setP (P := fun d => ∃ c' : Int, d = .int c' ∧ 0 ≤ c' ∧ c' ≤ 100) (ev_CBP (PA := fun xs => ∃ c' : Int, xs = [.int c, .int c'] ∧ 0 ≤ c' ∧ c' ≤ 100) (ea_consP (ev_var rfl) (ea_consP (P := fun d => ∃ c' : Int, d = .int c' ∧ 0 ≤ c' ∧ c' ≤ 100) (PA := fun xs => ∃ c' : Int, xs = [.int c'] ∧ 0 ≤ c' ∧ c' ≤ 100) (ev_op (P2 := fun d => ∃ c' : Int, d = .int c' ∧ 0 ≤ c' ∧ c' ≤ 12) (ev_var (d := .int (pl : Int)) rfl) (ev_if (B1 := fun _ => True) (et_any (et_testB (ev_opD (ev_var rfl) ev_int opd_eqI))) (fun _ => ev_int.any ⟨0, rfl, by decide, by decide⟩) fun _ => ev_dget rfl) fun x y e1 ⟨c', e2, l0, l1⟩ => by subst e1 e2; exact opd_add.any ⟨_, rfl, by omega, by omega⟩) ea_nil fun x xs ⟨c', e1, l⟩ e2 => ⟨c', by rw [e1, e2], l⟩) fun x xs e1 ⟨c', e2, l⟩ => ⟨c', by rw [e1, e2], l⟩) fun xs ⟨c', e, l0, l1⟩ => by
          subst e
          exact fun I H vs Q o r k => cd_max I H vs Q o r fun w d I' H' e => k w d I' H' ⟨max c c', e, by omega, by omega⟩) fun d ⟨c', e, l0, l1⟩ => ?_)
        subst e
        exact s_next ⟨c', _, _, _, _, l0, l1, rfl⟩
    · rintro Γ1 ⟨c, g2, g3, g4, g5, c0, c1, rfl⟩
      have m8 := hD.n8
      exact q_ret ((ev_opD (ev_opD (ev_var (d := .int c) rfl) (lenT (n := m) (ix1 (ev_var rfl)) mp_len) (opd_mulX (cmulx (a := 10) (b := 10) (by omega) (by omega)))) (lenT (n := m) (ix1 (ev_var rfl)) mp_len) opd_add).imp fun d e => ⟨_, e⟩)
  | bind f k cs =>
    obtain ⟨e, rfl, hf, hk, k1, k3, hc⟩ := hw
    refine wN0 (ix0 (ev_var rfl)) (wN0 (ix0 (ev_var rfl)) (q_setP (ev_law_size (p := f) (ix1 (ev_var rfl)) (at_of hf (by omega))) fun d ⟨i, ed⟩ => ?_))
    subst ed
    refine wY (ix0 (ev_var rfl)) (q_setP (P := fun d => ∃ i : Int, d = .int i) (ev_op (ev_var (d := .int i) rfl) (ev_sumP ((em_each (fun _ d => ∃ i : Int, d = .int i) (ei_seq (ix2 (ev_var rfl)) rfl) (by rw [mp_len]; omega) fun j x hx => ?_).imp fun ds ⟨h1, h2⟩ => ?_)) fun x y e1 ⟨j, e2⟩ => by subst e1 e2; exact opd_add.any ⟨_, rfl⟩) fun d ⟨i, ed⟩ => ?_)
    · obtain ⟨hj, rfl⟩ := mp_get' hx
      exact ⟨_, tg_name (by simp), ev_law_size (p := cs j) (ev_var rfl) (at_of (hc j hj).1 (by omega))⟩
    · refine ⟨ds.map fun d => match d with | .int i => i | _ => 0, ?_⟩
      rw [List.map_map]
      refine (List.map_id ds).symm.trans (List.map_congr_left fun d hd => ?_)
      obtain ⟨i, hi⟩ := List.getElem?_of_mem hd
      obtain ⟨c, rfl⟩ := h2 i d hi
      rfl
    · subst ed
      exact s_ret ((ev_var rfl).any ⟨_, rfl⟩)
  | again p l =>
    obtain ⟨e, rfl, hp, _⟩ := hw
    refine wN0 (ix0 (ev_var rfl)) (wN0 (ix0 (ev_var rfl)) (q_setP (ev_law_size (p := p) (ix1 (ev_var rfl)) (at_of hp (by omega))) fun d ⟨i, ed⟩ => ?_))
    subst ed
    exact wN0 (ix0 (ev_var rfl)) (s_ret ((ev_var rfl).any ⟨_, rfl⟩))
  | ren p nm m =>
    obtain ⟨e, rfl, hp, _⟩ := hw
    refine wN0 (ix0 (ev_var rfl)) (wN0 (ix0 (ev_var rfl)) (q_setP (ev_law_size (p := p) (ix1 (ev_var rfl)) (at_of hp (by omega))) fun d ⟨i, ed⟩ => ?_))
    subst ed
    exact wN0 (ix0 (ev_var rfl)) (s_ret ((ev_var rfl).any ⟨_, rfl⟩))
end
end K39

set_option Elab.async false
set_option linter.all false
set_option maxRecDepth 100000
set_option maxHeartbeats 1000000
set_option exponentiation.threshold 20000
/-! SE18: the deck, draws, picks, tables -/
namespace K39
open PySem PySem.Spec PyProof.Rows L2
section
variable {K : PySem.W.Frag} {dk : Dk} {Γ : List K39.G} {ta tb tc te t1 t2 ti tj tk : TE} {x y z u : PyData} {ds : List PyData} {q r : Rat} {N : List K39.G → Prop} {R : PyData → Prop} {P : PyData → Prop}
abbrev kdk (l : Addr) (m n : Int) : List (Key × V) := [(.inr "cells", .ref l), (.inr "mixed", .int m), (.inr "draws", .int n)]
theorem get_cells {H : Hp} {d l : Addr} {m n : Int} (h : H d = some (.dK (kdk l m n))) : DGet H d (.str "cells") (some (.ref l)) := .inl ⟨_, .inr "cells", .inl h, rfl, rfl⟩
theorem get_mixed {H : Hp} {d l : Addr} {m n : Int} (h : H d = some (.dK (kdk l m n))) : DGet H d (.str "mixed") (some (.int m)) := .inl ⟨_, .inr "mixed", .inl h, rfl, rfl⟩
theorem get_draws {H : Hp} {d l : Addr} {m n : Int} (h : H d = some (.dK (kdk l m n))) : DGet H d (.str "draws") (some (.int n)) := .inl ⟨_, .inr "draws", .inl h, rfl, rfl⟩
theorem put_draws {H : Hp} {d l : Addr} {m n n' : Int} (h : H d = some (.dK (kdk l m n))) : DPut H d (.str "draws") (.int n') (upd H d (.dK (kdk l m n'))) := .inl ⟨_, .inr "draws", h, rfl, by show 3 < sizeLine; decide, rfl⟩
theorem nx_deck {I H H' : Hp} {d l : Addr} (o : Ok (some (d, l)) I H) (D : DeckAt H' d l) (k : ∀ a x, H a = some x → a ≠ d → a ≠ l → H' a = some x) : Nx (some (d, l)) I H I H' := by
  obtain ⟨_, n1, n2⟩ := o.dk _ rfl
  refine ⟨⟨fun a x q => k a x (o.sub a x q) (fun z => (by subst z; rw [n1] at q; cases q)) (fun z => (by subst z; rw [n2] at q; cases q)), fun p ep => ?_⟩, Same.refl I, fun a x q z => k a x q (fun e => z ⟨_, rfl, .inl e⟩) fun e => z ⟨_, rfl, .inr e⟩, fun a x q q0 => q0⟩
  cases ep
  exact ⟨D, n1, n2⟩
theorem cmulL {i j : Int} (h : -(2 ^ 64) < i ∧ i < 2 ^ 64) : CMul i j := .inl h
theorem cmulR {i j : Int} (h : -(2 ^ 64) < j ∧ j < 2 ^ 64) : CMul i j := .inr h
theorem se_law_draw (d l : Addr) (I H : Hp) (m : Nat) (Q : VK) (o : Ok (some (d, l)) I H) (m1 : 1 ≤ m) (m2 : m < 2 ^ 60) (k : ∀ (i : Nat) H', i < m → Nx (some (d, l)) I H I H' → Q (.int i) H') :
    t_law_draw K { nx := fun _ H' => Q .non H', rt := Q } [some (.ref d), some (.int m), none, none] H := by
  obtain ⟨⟨cs, mx, nd, hd, hl, hcs⟩, n1, n2⟩ := o.dk _ rfl
  have hdl : d ≠ l := DeckAt.ne (H := H) ⟨cs, mx, nd, hd, hl, hcs⟩
  have mp : (0 : Int) < (m : Int) := by omega
  -- the result
  have res : ∀ (c : Int) (H' : Hp) (cs' : List Int), H' d = some (.dK (kdk l mx (nd + 1))) → H' l = some (.lst (cs'.map V.int)) → cs'.length ≤ 100 → (∀ a x, H a = some x → a ≠ d → a ≠ l → H' a = some x) → Q (.int (c % (m : Int))) H' := fun c H' cs' h1 h2 h3 h4 => by
    have a1 := Int.emod_nonneg c (show (m : Int) ≠ 0 by omega)
    have a2 := Int.emod_lt_of_pos c mp
    have e : c % (m : Int) = (((c % (m : Int)).toNat : Nat) : Int) := by omega
    rw [e]
    exact k _ H' (by omega) (nx_deck o ⟨cs', mx, nd + 1, h1, h2, h3⟩ h4)
  -- draws += 1
  refine ⟨.ref d, rfl, d, .int nd, rfl, get_draws hd, nd, 1, rfl, rfl, .ref d, rfl, d, _, rfl, put_draws hd, ?_⟩
  -- number = mixed + 61473 * draws
  have hd1 : (upd H d (.dK (kdk l mx (nd + 1)))) d = some (.dK (kdk l mx (nd + 1))) := upd_same
  have hl1 : (upd H d (.dK (kdk l mx (nd + 1)))) l = some (.lst (cs.map V.int)) := by rw [upd_ne (Ne.symm hdl)]; exact hl
  have keep1 : ∀ a x, H a = some x → a ≠ d → a ≠ l → (upd H d (.dK (kdk l mx (nd + 1)))) a = some x := fun a x q e _ => by rw [upd_ne e]; exact q
  generalize upd H d (.dK (kdk l mx (nd + 1))) = H1 at hd1 hl1 keep1 ⊢
  refine ⟨.ref d, rfl, d, .int mx, rfl, get_mixed hd1, .ref d, rfl, d, .int (nd + 1), rfl, get_draws hd1, 61473, nd + 1, rfl, rfl, cmulL ⟨by decide, by decide⟩, mx, 61473 * (nd + 1), rfl, rfl, ?_⟩
  -- the end of it
  have tailD : ∀ (num : Int) (g : Option V) (H2 : Hp) (cs' : List Int), H2 d = some (.dK (kdk l mx (nd + 1))) → H2 l = some (.lst (cs'.map V.int)) → cs'.length ≤ 100 → (∀ a x, H a = some x → a ≠ d → a ≠ l → H2 a = some x) →
      (tSeq (tAsg (tOp rModP (tCB (rIntQ) (tCons (tOp rPlus (tOp rMul1 (tVar 2) (tC (.int 39373))) (tC (.int 137))) tNil)) (tC (.int 2147483647))) (gName 2)) (tSeq (tAsg (tOp rModP (tCB (rIntQ) (tCons (tOp rPlus (tOp rPlus (tOp rMul1 (tVar 2) (tVar 2)) (tOp rMul1 (tC (.int 52713)) (tDGet (tVar 0) (tC (.str "draws"))))) (tC (.int 271))) tNil)) (tC (.int 2147483587))) (gName 2)) (tSeq (tAsg (tOp rModP (tCB (rIntQ) (tCons (tOp rMul1 (tVar 2) (tC (.int 40692))) tNil)) (tC (.int 2147483563))) (gName 2)) (tRet (tOp rModP (tCB (rIntQ) (tCons (tOp rDivW (tVar 2) (tC (.int 64))) tNil)) (tVar 1))))))
        { nx := fun _ H' => Q .non H', rt := Q } [some (.ref d), some (.int m), some (.int num), g] H2 := fun num g H2 cs' h1 h2 h3 h4 => by
    refine ⟨.int num, rfl, num, 39373, rfl, rfl, cmulR ⟨by decide, by decide⟩, num * 39373, 137, rfl, rfl, .inl ⟨num * 39373 + 137, rfl, num * 39373 + 137, 2147483647, rfl, rfl, (show (0 : Int) < 2147483647 by decide), ?_⟩⟩
    dsimp only
    have a1 := Int.emod_nonneg (num * 39373 + 137) (show (2147483647 : Int) ≠ 0 by decide)
    have a2 := Int.emod_lt_of_pos (num * 39373 + 137) (show (0 : Int) < 2147483647 by decide)
    generalize (num * 39373 + 137) % 2147483647 = n1 at a1 a2 ⊢
    refine ⟨.int n1, rfl, .int n1, rfl, n1, n1, rfl, rfl, cmulL ⟨by omega, by omega⟩, .ref d, rfl, d, .int (nd + 1), rfl, get_draws h1, 52713, nd + 1, rfl, rfl, cmulL ⟨by decide, by decide⟩, n1 * n1, 52713 * (nd + 1), rfl, rfl, n1 * n1 + 52713 * (nd + 1), 271, rfl, rfl, .inl ⟨_, rfl, n1 * n1 + 52713 * (nd + 1) + 271, 2147483587, rfl, rfl, (show (0 : Int) < 2147483587 by decide), ?_⟩⟩
    dsimp only
    generalize (n1 * n1 + 52713 * (nd + 1) + 271) % 2147483587 = n2
    refine ⟨.int n2, rfl, n2, 40692, rfl, rfl, cmulR ⟨by decide, by decide⟩, .inl ⟨n2 * 40692, rfl, n2 * 40692, 2147483563, rfl, rfl, (show (0 : Int) < 2147483563 by decide), ?_⟩⟩
    dsimp only
    generalize (n2 * 40692) % 2147483563 = n3
    refine ⟨.int n3, rfl, n3, 64, rfl, rfl, cdivw (by decide) (by decide), .inl ⟨n3 / 64, rfl, .int m, rfl, n3 / 64, (m : Int), rfl, rfl, mp, ?_⟩⟩
    exact res (n3 / 64) H2 cs' h1 h2 h3 h4
  -- if cells != []
  refine ⟨.ref d, rfl, d, .ref l, rfl, get_cells hd1, by decide, fun p hp => ?_⟩
  have hpd : d ≠ p := fun z => by subst z; rw [hd1] at hp; cases hp
  have hpl : l ≠ p := fun z => by subst z; rw [hl1] at hp; cases hp
  have hd2 : (upd H1 p (.lst [])) d = some (.dK (kdk l mx (nd + 1))) := by rw [upd_ne hpd]; exact hd1
  have hl2 : (upd H1 p (.lst [])) l = some (.lst (cs.map V.int)) := by rw [upd_ne hpl]; exact hl1
  have hp2 : (upd H1 p (.lst [])) p = some (.lst []) := upd_same
  have keep2 : ∀ a x, H a = some x → a ≠ d → a ≠ l → (upd H1 p (.lst [])) a = some x := fun a x q e1 e2 => by
    have := keep1 a x q e1 e2
    rw [upd_ne (fun z => by subst z; rw [this] at hp; cases hp)]
    exact this
  generalize upd H1 p (.lst []) = H2 at hd2 hl2 hp2 keep2 ⊢
  refine ⟨.list (cs.map PyData.int), .list [], .lst (.inl (.inl hl2)) (RpL.dp (RpL.of_ints (K := K) (I := H2) cs)), .lst (.inl (.inl hp2)) .nil, shaped_ints cs, by decide, ?_⟩
  rw [eqv_nil, List.length_map]
  refine ⟨_, rfl, ?_⟩
  by_cases hz : cs.length = 0
  · have e1 : (!decide (cs.length = 0)) = false := by simp [hz]
    rw [e1]
    dsimp only
    rw [if_neg Bool.false_ne_true]
    exact tailD (mx + 61473 * (nd + 1)) none H2 cs hd2 hl2 hcs keep2
  · have e1 : (!decide (cs.length = 0)) = true := by simp [hz]
    rw [e1]
    dsimp only
    rw [if_pos rfl]
    obtain ⟨c, hc⟩ : ∃ c, cs[cs.length - 1]? = some c := ⟨_, List.getElem?_eq_getElem (by omega)⟩
    -- cell = cells.pop()
    refine ⟨.ref d, rfl, d, .ref l, rfl, get_cells hd2, .inl ⟨rfl, _, .inl (.inl hl2)⟩, l, _, .int c, rfl, rfl, hl2, by rw [List.length_map, List.getElem?_map, hc]; rfl, ?_⟩
    have hd3 : (upd H2 l (.lst (cs.map V.int).dropLast)) d = some (.dK (kdk l mx (nd + 1))) := by rw [upd_ne hdl]; exact hd2
    have hl3 : (upd H2 l (.lst (cs.map V.int).dropLast)) l = some (.lst (cs.dropLast.map V.int)) := by rw [upd_same, List.map_dropLast]
    have keep3 : ∀ a x, H a = some x → a ≠ d → a ≠ l → (upd H2 l (.lst (cs.map V.int).dropLast)) a = some x := fun a x q e1 e2 => by rw [upd_ne e2]; exact keep2 a x q e1 e2
    have hlen3 : cs.dropLast.length ≤ 99 := by rw [List.length_dropLast]; omega
    generalize upd H2 l (.lst (cs.map V.int).dropLast) = H3 at hd3 hl3 keep3 ⊢
    -- if cell >= 10 ** 18
    refine ⟨.int c, rfl, 10, 18, rfl, rfl, ⟨by decide, by decide, by decide⟩, c, 10 ^ (18 : Int).toNat, rfl, rfl, _, rfl, ?_⟩
    by_cases hb : (10 : Int) ^ (18 : Int).toNat ≤ c
    · have e2 : decide ((10 : Int) ^ (18 : Int).toNat ≤ c) = true := decide_eq_true hb
      rw [e2]
      dsimp only
      rw [if_pos rfl]
      refine ⟨.ref d, rfl, d, .ref l, rfl, get_cells hd3, .inl ⟨rfl, _, .inl (.inl hl3)⟩, .int c, rfl, .int m, rfl, 2, (m : Int), rfl, c, _, rfl, rfl, cdivw (by split <;> omega) (by split <;> omega), ?_⟩
      refine ⟨l, _, .int (c / (if (m : Int) > 2 then (m : Int) else 2)), rfl, rfl, hl3, by rw [List.length_map]; exact small1000 (by omega), ?_⟩
      have hl4 : (upd H3 l (.lst (cs.dropLast.map V.int ++ [V.int (c / (if (m : Int) > 2 then (m : Int) else 2))]))) l = some (.lst ((cs.dropLast ++ [(c / (if (m : Int) > 2 then (m : Int) else 2))]).map V.int)) := by rw [upd_same, List.map_append]; rfl
      have hd4 : (upd H3 l (.lst (cs.dropLast.map V.int ++ [V.int (c / (if (m : Int) > 2 then (m : Int) else 2))]))) d = some (.dK (kdk l mx (nd + 1))) := by rw [upd_ne hdl]; exact hd3
      have keep4 : ∀ a x, H a = some x → a ≠ d → a ≠ l → (upd H3 l (.lst (cs.dropLast.map V.int ++ [V.int (c / (if (m : Int) > 2 then (m : Int) else 2))]))) a = some x := fun a x q e1 e2 => by rw [upd_ne e2]; exact keep3 a x q e1 e2
      refine ⟨.int c, rfl, .inl ⟨c, rfl, .int m, rfl, c, (m : Int), rfl, rfl, mp, ?_⟩⟩
      exact res c _ _ hd4 hl4 (by rw [List.length_append]; show cs.dropLast.length + 1 ≤ 100; omega) keep4
    · have e2 : decide ((10 : Int) ^ (18 : Int).toNat ≤ c) = false := decide_eq_false hb
      rw [e2]
      dsimp only
      rw [if_neg Bool.false_ne_true]
      refine ⟨.int (mx + 61473 * (nd + 1)), rfl, .int c, rfl, .inl ⟨c, rfl, c, 2147483629, rfl, rfl, (show (0 : Int) < 2147483629 by decide), mx + 61473 * (nd + 1), c % 2147483629, rfl, rfl, ?_⟩⟩
      exact tailD (mx + 61473 * (nd + 1) + c % 2147483629) (some (.int c)) H3 cs.dropLast hd3 hl3 (by omega) keep3
end
end K39

set_option Elab.async false
set_option linter.all false
set_option maxRecDepth 100000
set_option maxHeartbeats 1000000
set_option exponentiation.threshold 20000
/-! SE19: a deck is made; picks, tables -/
namespace K39
open PySem PySem.Spec PyProof.Rows L2
section
variable {K : PySem.W.Frag} {dk : Dk} {Γ : List K39.G} {ta tb tc te t1 t2 ti tj tk : TE} {x y z u : PyData} {ds : List PyData} {q r : Rat} {N : List K39.G → Prop} {R : PyData → Prop} {P : PyData → Prop}
theorem sem_law_draw (vs : List V) (H : Hp) (Q : VK) (E : XK) (h : sp_law_draw K vs H Q E) : t_law_draw K { nx := fun _ H' => Q .non H', rt := Q } (L2.start nm_law_draw vs) H := by
  obtain ⟨⟨d, l⟩, I, ws, m, rfl, o, r, hm, k⟩ := h
  obtain ⟨v, rfl, rv⟩ := rpl1 r
  have hv := rp_int rv
  subst hv
  exact se_law_draw d l I H m Q o hm.1 hm.2 fun i H' hi n => k (.int i) (.int i) I H' ⟨i, hi, rfl⟩ n (.int _)
theorem walks_list {I : Hp} {p : Addr} {vs : List V} {ds : List PyData} (hl : I p = some (.lst vs)) (hr : RpL K I vs ds) : Walks K dk (ItqS true K p) I ds := fun i I2 H2 o2 s2 => by
  have sL : SqL K H2 p vs := .inl (.inl (o2.sub _ _ (s2 _ _ hl)))
  refine ⟨fun q => ⟨vs, sL, by rw [hr.len, q]; exact Nat.le_refl _⟩, fun d q => ?_⟩
  obtain ⟨w, hw, rw_⟩ := hr.get q
  refine ⟨⟨vs, w, sL, hw⟩, fun x H3 y => ?_⟩
  obtain ⟨e3, f⟩ := y
  subst e3
  have e4 := f vs sL
  rw [hw] at e4
  cases e4
  exact ⟨I2, Nx.refl o2, rw_.mono s2⟩
theorem SqL.mono {H H' : Hp} {a : Addr} {xs : List V} (s : Same H H') (h : SqL K H a xs) : SqL K H' a xs := by
  rcases h with (h | ⟨o, h⟩) | h
  · exact .inl (.inl (s _ _ h))
  · exact .inl (.inr ⟨o, s _ _ h⟩)
  · exact .inr h
theorem cut63 (ns : List Int) : cutV (ns.map V.int) none (some (63 : Int)) = (ns.take 63).map V.int := by
  unfold cutV
  have e := HT.sIx_nat (ns.map V.int).length (ns.map V.int).length 63
  rw [HT.sIx_none, Nat.sub_zero, List.drop_zero, show ((63 : Int)) = ((63 : Nat) : Int) from rfl, e, List.length_map, List.map_take]
  by_cases h : 63 ≤ ns.length
  · rw [Nat.min_eq_left h]
  · rw [Nat.min_eq_right (by omega), List.take_of_length_le (by rw [List.length_map]; exact Nat.le_refl _), List.take_of_length_le (by rw [List.length_map]; omega)]
theorem sem_law_deck (vs : List V) (H : Hp) (Q : VK) (E : XK) (h : sp_law_deck K vs H Q E) : t_law_deck K { nx := fun _ H' => Q .non H', rt := Q } (L2.start nm_law_deck vs) H := by
  obtain ⟨a, ns, rfl, hs, hA, hn, k⟩ := h
  show (tSeq (tFor (iSeq K (tSl (rSlL K) (tVar 0) tNoPart (tPart (tC (.int 63))))) (gName 2) (tAsg (tOp rModP (tCB (rIntQ) (tCons (tOp rPlus (tOp rPlus (tOp rMul1 (tVar 1) (tC (.int 69621))) (tOp rModP (tCB (rIntQ) (tCons (tVar 2) tNil)) (tC (.int 2147483629)))) (tC (.int 137))) tNil)) (tC (.int 2147483587))) (gName 1)))
    (tRet (tDisp [((tC (.str "cells")), (tRevL K (tCB (rListQ K) (tCons (tSl (rSlL K) (tVar 0) tNoPart (tPart (tC (.int 63)))) tNil)))), ((tC (.str "mixed")), (tVar 1)), ((tC (.str "draws")), (tC (.int 0)))]))) _ [some (.ref a), some (.int 13736028), none] H
  refine tFor_by ⟨.ref a, rfl, 63, rfl, a, _, rfl, hs, fun p1 hp1 => ?_⟩
  rw [cut63]
  have o0 : Ok none (fun _ => none) H := ⟨fun _ _ q => (by cases q), fun _ q => (by cases q)⟩
  have n1 := Nx.new (u := .lst ((ns.take 63).map V.int)) o0 hp1
  have h1 : (upd (fun _ => none) p1 (.lst ((ns.take 63).map V.int)) : Hp) p1 = some (.lst ((ns.take 63).map V.int)) := upd_same
  have sH : Same H (upd H p1 (.lst ((ns.take 63).map V.int))) := fun b x q => by rw [upd_ne (ne_of_none q hp1)]; exact q
  refine ⟨true, p1, _, rfl, .inl (.inl upd_same), ?_⟩
  generalize upd H p1 (.lst ((ns.take 63).map V.int)) = H1 at n1 sH ⊢
  generalize (upd (fun _ => none) p1 (.lst ((ns.take 63).map V.int)) : Hp) = I1 at n1 h1 ⊢
  refine for_raw (K := K) (dk := none) (I := I1) (walks_list h1 (RpL.of_ints (ns.take 63))) (fun i σ I' H' => Ok none I' H' ∧ Same I1 I' ∧ Same H H' ∧ ∃ (mx : Int) (g : Option V), σ = [some (.ref a), some (.int mx), g]) (fun i σ' I' H' h => ⟨h.1, h.2.1⟩) ⟨n1.ok, Same.refl _, sH, _, _, rfl⟩ (fun i x σ1 I2 H2 hx => ?_) fun σ1 I2 H2 => ?_
  · rintro ⟨o2, s2, sH2, mx, g, rfl⟩ v I3 H3 n3 rv
    rw [List.getElem?_map] at hx
    obtain ⟨c, hc, rfl⟩ := Option.map_eq_some_iff.mp hx
    have := rp_int rv
    subst this
    refine ⟨.int mx, rfl, mx, 69621, rfl, rfl, cmulR ⟨by decide, by decide⟩, .int c, rfl, .inl ⟨c, rfl, c, 2147483629, rfl, rfl, (show (0 : Int) < 2147483629 by decide), mx * 69621, c % 2147483629, rfl, rfl, mx * 69621 + c % 2147483629, 137, rfl, rfl, .inl ⟨_, rfl, mx * 69621 + c % 2147483629 + 137, 2147483587, rfl, rfl, (show (0 : Int) < 2147483587 by decide), ?_⟩⟩⟩
    exact ⟨I3, n3.ok, s2.trans n3.ii, fun b x q => n3.hh b x (sH2 b x q) no_zone, _, _, rfl⟩
  · rintro ⟨o2, s2, sH2, mx, g, rfl⟩
    show tDisp _ _ H2 _
    intro p hp
    have hs2 := SqL.mono sH2 hs
    have hp0 : H p = none := by
      cases q : H p with
      | none => rfl
      | some u => rw [sH2 p u q] at hp; cases hp
    have e3 : Same H2 (upd H2 p (.dK [])) := fun b x q => by rw [upd_ne (ne_of_none q hp)]; exact q
    have d3 : (upd H2 p (.dK [])) p = some (.dK []) := upd_same
    generalize upd H2 p (.dK []) = H3 at e3 d3 ⊢
    refine ⟨.ref a, rfl, 63, rfl, a, _, rfl, SqL.mono e3 hs2, fun p4 hp4 => ?_⟩
    rw [cut63]
    have l4 : (upd H3 p4 (.lst ((ns.take 63).map V.int))) p4 = some (.lst ((ns.take 63).map V.int)) := upd_same
    have e4 : Same H3 (upd H3 p4 (.lst ((ns.take 63).map V.int))) := fun b x q => by rw [upd_ne (ne_of_none q hp4)]; exact q
    generalize upd H3 p4 (.lst ((ns.take 63).map V.int)) = H4 at l4 e4 ⊢
    refine ⟨p4, _, rfl, .inl (.inl (.inl l4)), fun p5 hp5 => ?_⟩
    have l5 : (upd H4 p5 (.lst ((ns.take 63).map V.int))) p5 = some (.lst ((ns.take 63).map V.int)) := upd_same
    have e5 : Same H4 (upd H4 p5 (.lst ((ns.take 63).map V.int))) := fun b x q => by rw [upd_ne (ne_of_none q hp5)]; exact q
    generalize upd H4 p5 (.lst ((ns.take 63).map V.int)) = H5 at l5 e5 ⊢
    refine ⟨p5, _, rfl, .inl (.inl l5), fun p6 hp6 => ?_⟩
    have l6 : (upd H5 p6 (.lst ((ns.take 63).map V.int).reverse)) p6 = some (.lst ((ns.take 63).reverse.map V.int)) := by rw [upd_same, List.map_reverse]
    have e6 : Same H5 (upd H5 p6 (.lst ((ns.take 63).map V.int).reverse)) := fun b x q => by rw [upd_ne (ne_of_none q hp6)]; exact q
    have hp60 : H p6 = none := by
      cases q : H p6 with
      | none => rfl
      | some u => rw [e5 _ _ (e4 _ _ (e3 _ _ (sH2 _ _ q)))] at hp6; cases hp6
    have hne : p ≠ p6 := fun z => by
      subst z
      rw [e5 _ _ (e4 _ _ d3)] at hp6; cases hp6
    generalize upd H5 p6 (.lst ((ns.take 63).map V.int).reverse) = H6 at l6 e6 ⊢
    refine ⟨.int mx, rfl, e6 _ _ (e5 _ _ (e4 _ _ d3)), [(.inr "cells", .ref p6), (.inr "mixed", .int mx), (.inr "draws", .int 0)], rfl, by show 3 ≤ 15; decide, ?_⟩
    refine k p p6 _ hp0 hp60 ⟨⟨(ns.take 63).reverse, mx, 0, ?_, ?_, ?_⟩⟩
    · rw [upd_same]; rfl
    · rw [upd_ne (Ne.symm hne)]; exact l6
    · rw [List.length_reverse, List.length_take]; omega
/-! draws by their terms -/
theorem ev_draw1 {i m : Nat} (hi : Γ[i]? = some .deck) (h : EvD K dk te Γ (.int m)) (m1 : 1 ≤ m) (m2 : m < 2 ^ 60) : EvP K dk (tCall (sp_law_draw K) [] E0 (tCons (tVar i) (tCons te tNil))) Γ (fun d => ∃ k : Nat, k < m ∧ d = .int k) := ev_drawL m hi (ea1 h) ⟨m1, m2⟩ fun _ e => e
theorem se_law_pick (p : Addr × Addr) (ns : List Int) (h : 1 ≤ ns.length ∧ ns.length ≤ 100) : SOk K (some p) (t_law_pick K) (startGD 2 [.list (ns.map PyData.int)]) (fun _ => ∃ i, i ∈ ns ∧ PyData.none = .int i) (fun d => ∃ i, i ∈ ns ∧ d = .int i) := by
  refine s_ret (ev_op (ev_var (d := .list (ns.map PyData.int)) rfl) (ev_draw1 (m := ns.length) rfl ((ev_lenL (ev_var rfl)).cast (by rw [List.length_map])) h.1 (by have := h.2; omega)) fun x y e ⟨k, hk, e2⟩ => ?_)
  subst e e2
  refine OpD.any (d := .int ns[k]) (opd_ixL (atN ?_)) ⟨ns[k], List.getElem_mem hk, rfl⟩
  rw [List.getElem?_map, List.getElem?_eq_getElem hk]
  rfl
theorem ev_law_pick {i : Nat} {ns : List Int} (hi : Γ[i]? = some .deck) (h : EvD K dk te Γ (.list (ns.map PyData.int))) (h1 : 1 ≤ ns.length) (h2 : ns.length ≤ 100) : EvP K dk (tCall (sp_law_pick K) [] E0 (tCons (tVar i) (tCons te tNil))) Γ (fun d => ∃ i, i ∈ ns ∧ d = .int i) := ev_drawL ns hi (ea1 h) ⟨h1, h2⟩ fun _ e => e
end
end K39

set_option Elab.async false
set_option linter.all false
set_option maxRecDepth 100000
set_option maxHeartbeats 1000000
set_option exponentiation.threshold 20000
/-! SE20: tables and programs that are drawn -/
namespace K39
open PySem PySem.Spec PyProof.Rows L2
section
variable {K : PySem.W.Frag} {dk : Dk} {Γ : List K39.G} {ta tb tc te t1 t2 ti tj tk : TE} {x y z u : PyData} {ds : List PyData} {q r : Rat} {N : List K39.G → Prop} {R : PyData → Prop} {P : PyData → Prop}
/-- xs[j], xs[k] = v, w -/
theorem q_swap {i : Nat} {ds : List PyData} {j k : Int} {m m' : Nat} {t : TS} (hi : Γ[i]? = some (.mut ds)) (h1 : EvD K dk t1 Γ x) (h2 : EvD K dk t2 Γ y) (hj : EvD K dk tj Γ (.int j)) (hm : ixN ds.length j = some m) (hk : EvD K dk tk (Γ.set i (.mut (ds.set m x))) (.int k)) (hm' : ixN ds.length k = some m')
    (hr : SOk K dk t (Γ.set i (.mut ((ds.set m x).set m' y))) N R) : SOk K dk (tSeq (tAsg (tTup (tCons t1 (tCons t2 tNil))) (gTup K 2 (gCons (gSub (tVar i) tj rSetL) (gCons (gSub (tVar i) tk rSetL) gNil)))) t) Γ N R := fun I0 H0 σ I H D e k1 k2 => by
  refine h1 I0 H0 σ I H _ e fun v d I1 H1 p1 n1 r1 => ?_
  have p1' := p1.symm
  subst p1'
  refine h2 I0 H0 σ I1 H1 _ (e.step n1) fun w d I2 H2 p2 n2 r2 => ?_
  have p2' := p2.symm
  subst p2'
  refine ⟨by show 2 ≤ sizeLine; decide, fun T hT => ?_⟩
  have n3 := Nx.newM (u := .tup [v, w]) n2.ok hT
  have e3 := e.step ((n1.trans n2).trans n3)
  refine ⟨T, _, rfl, .inl (.inl upd_same), rfl, v, [w], rfl, ?_⟩
  obtain ⟨p, vs, g1, g2, g3, g4, g5, g6⟩ := e3.mu i ds hi
  refine ⟨_, g1, hj I0 H0 σ I2 _ _ e3 fun jv dj I4 H4 p4 n4 r4 => ?_⟩
  subst p4
  have := rp_int r4
  subst this
  refine ⟨p, vs, j, m, rfl, rfl, n4.hh _ _ g2 g5, by rw [g6.len]; exact hm, w, [], rfl, ?_⟩
  have e5 := (e3.step n4).mutate hi g1 ((g6.mono n4.ii).set (j := m) ((r1.mono n2.ii).mono n4.ii))
  have hi5 : (Γ.set i (.mut (ds.set m x)))[i]? = some (.mut (ds.set m x)) := by rw [List.getElem?_set_self (len_lt hi)]
  obtain ⟨p', vs', f1, f2, f3, f4, f5, f6⟩ := e5.mu i _ hi5
  refine ⟨_, f1, hk I0 H0 σ I4 _ _ e5 fun kv dk' I6 H6 p6 n6 r6 => ?_⟩
  subst p6
  have := rp_int r6
  subst this
  refine ⟨p', vs', k, m', rfl, rfl, n6.hh _ _ f2 f5, by rw [f6.len, List.length_set]; exact hm', rfl, ?_⟩
  have e7 := (e5.step n6).mutate hi5 f1 ((f6.mono n6.ii).set (j := m') ((r2.mono n4.ii).mono n6.ii))
  rw [List.set_set] at e7
  exact hr I0 H0 σ I6 _ D e7 (fun Γ' σ' I' H' n e2 s => k1 Γ' σ' I' H' n e2 ((((n1.trans n2).ii.trans n4.ii).trans n6.ii).trans s)) k2
theorem ev_neg1 : EvD K dk (tUn uNeg (tC (.int 1))) Γ (.int (-1)) := ev_un ev_int und_neg
theorem ixN_neg {n : Nat} (h : 1 ≤ n) : ixN n (-1) = some (n - 1) := by
  unfold ixN
  simp
  omega
theorem at_neg {n : Nat} {f : Nat → PyData} : atI (mp (n + 1) f) (-1) = some (f n) := by
  unfold atI
  rw [mp_len, ixN_neg (by omega)]
  exact mp_get (by omega)
theorem sm_set {n i v : Nat} (f : Nat → Nat) (h : i < n) : sm n (fun j => if j = i then v else f j) + f i = sm n f + v := by
  induction n with
  | zero => omega
  | succ n ih =>
    rw [sm_natS, sm_natS]
    by_cases e : n = i
    · subst e
      have : sm n (fun j => if j = n then v else f j) = sm n f := sm_congr fun j hj => by rw [if_neg (by omega)]
      rw [this, if_pos rfl]
      omega
    · have := ih (by omega)
      rw [if_neg e]
      omega
/-- what stands behind the swap of two -/
def swp (a : Nat → Nat) (i j : Nat) : Nat → Nat := fun k => if k = j then a i else if k = i then a j else a k
theorem swp_sum {n i j : Nat} {a : Nat → Nat} (hi : i < n) (hj : j < n) : sm n (swp a i j) = sm n a := by
  have h1 := sm_set (n := n) (i := i) (v := a j) a hi
  have h2 := sm_set (n := n) (i := j) (v := a i) (fun k => if k = i then a j else a k) hj
  have e : (if j = i then a j else a j) = a j := by split <;> rfl
  have h2' : sm n (swp a i j) + (if j = i then a j else a j) = sm n (fun k => if k = i then a j else a k) + a i := h2
  rw [e] at h2'
  omega
theorem mp_app {n : Nat} {f : Nat → Nat} {v : Nat} : (mp n fun j => PyData.int ((f j : Nat) : Int)) ++ [PyData.int (v : Int)] = mp (n + 1) fun j => PyData.int (((if j = n then v else f j) : Nat) : Int) := by
  rw [mp_succ, if_pos rfl]
  congr 1
  exact mp_congr fun j hj => by rw [if_neg (by omega)]
theorem sm_app {n v : Nat} (f : Nat → Nat) : sm (n + 1) (fun j => if j = n then v else f j) = sm n f + v := by
  rw [sm_natS, if_pos rfl]
  congr 1
  exact sm_congr fun j hj => by rw [if_neg (by omega)]
theorem se_law_table (p : Addr × Addr) (n : Nat) (bs : List Int) (h : 1 ≤ n ∧ n ≤ 5 ∧ 1 ≤ bs.length ∧ bs.length ≤ 100 ∧ ∀ i, i ∈ bs → 2 ≤ i ∧ i ≤ 16) : SOk K (some p) (t_law_table K) (startGD 8 [.int n, .list (bs.map PyData.int)]) (fun _ => DrLaw n .none) (DrLaw n) := by
  obtain ⟨n1, n5, b1, b2, hb⟩ := h
  refine q_tupM (by decide) (ev_law_pick (i := 0) (ns := bs) rfl (ev_var rfl) b1 b2) (em_lst ea_nil fun ds e => by rw [e]; simp) fun d ⟨Bi, hB, ed⟩ => ?_
  subst ed
  obtain ⟨B2, B16⟩ := hb Bi hB
  obtain ⟨B, rfl⟩ : ∃ B : Nat, Bi = (B : Int) := ⟨Bi.toNat, by omega⟩
  have B2' : 2 ≤ B := by omega
  have B16' : B ≤ 16 := by omega
  refine q_set (ev_var rfl) (q_for (ei_range1 (n := ((n - 1 : Nat) : Int)) (ea1 ((ev_opD (ev_var rfl) ev_int opd_sub).cast (congrArg PyData.int (by omega)))) (by omega) (by omega))
    (fun i Γ => ∃ (a : Nat → Nat) (g6 : K39.G), sm i a ≤ B ∧ i ≤ n - 1 ∧ Γ = [.deck, .dat (.int (n : Int)), .dat (.list (bs.map PyData.int)), .dat (.int (B : Int)), .mut (mp i fun j => .int ((a j : Nat) : Int)), .dat (.int ((B - sm i a : Nat) : Int)), g6, .no]) ⟨fun _ => 0, _, Nat.zero_le _, Nat.zero_le _, rfl⟩ (fun i x Γ1 hx => ?_) ?_)
  · rintro ⟨a, g6, hs, hin, rfl⟩
    obtain ⟨hi, rfl⟩ := rangeD_get hx
    have hi' : i < n - 1 := by omega
    generalize hL : B - sm i a = L
    have hL16 : L ≤ 16 := by omega
    refine ⟨_, [6], tg_name (by simp), q_app (P := fun d => ∃ v : Nat, v ≤ L ∧ d = .int v) rfl (by rw [mp_len]; omega) (ev_if (B1 := fun _ => True) (et_test ((ev_op (P1 := fun d => ∃ k : Nat, k < 3 ∧ d = .int k) (P2 := fun d => d = .int 0) (ev_draw1 (m := 3) rfl ev_int (by omega) (by omega)) ev_int fun x y ⟨k, _, e1⟩ e2 => by subst e1 e2; exact OpD.any opd_eqI ⟨_, rfl, trivial⟩)))
      (fun _ => (ev_draw1 (m := L + 1) rfl (ev_opD (ev_var rfl) ev_int opd_add) (by omega) (by omega)).imp fun d ⟨k, hk, e⟩ => ⟨k, by omega, e⟩)
      fun _ => ev_CBP (PA := fun xs => ∃ k : Nat, xs = [.int (L : Int), .int (k : Int)]) (ea_consP (ev_var (d := .int (L : Int)) rfl) (ea_consP (P := fun d => ∃ k : Nat, d = .int k) (PA := fun xs => ∃ k : Nat, xs = [.int (k : Int)]) ((ev_draw1 (m := 2 * B / n + 1) rfl ((ev_opD (ev_opD (ev_opD ev_int (ev_var rfl) (opd_mulX (cmulx (a := 10) (b := 10) (by decide) (by omega)))) (ev_var rfl) (opd_div (cdivw (by omega) (by rw [Int.natAbs_natCast]; exact Nat.lt_of_le_of_lt n5 (Nat.lt_of_lt_of_le (by decide : 5 < 2 ^ 3) (Nat.pow_le_pow_right (by omega) (by omega))))))) ev_int opd_add).cast (congrArg PyData.int (by rw [Int.natCast_add, Int.natCast_ediv, Int.natCast_mul]; rfl))) (Nat.le_add_left 1 _) (by have h1 := Nat.div_le_self (2 * B) n; generalize 2 * B / n = z at *; omega)).imp fun d ⟨k, _, e⟩ => ⟨k, e⟩) ea_nil fun x xs ⟨k, e1⟩ e2 => ⟨k, by rw [e1, e2]⟩) fun x xs e1 ⟨k, e2⟩ => ⟨k, by rw [e1, e2]⟩) fun xs ⟨k, e⟩ => by
        subst e
        exact fun I H vs Q o r kk => cd_min I H vs Q o r fun w d I' H' e => kk w d I' H' ⟨min L k, Nat.min_le_left _ _, by rw [e]; congr 1; omega⟩) fun d ⟨v, hv, e⟩ => ?_⟩
    subst e
    rw [mp_app]
    refine s_end (q_set ((ev_opD (ev_var rfl) (ev_ixM (i := 4) rfl ev_neg1 at_neg) opd_sub).cast (y := .int ((B - sm (i + 1) (fun j => if j = i then v else a j) : Nat) : Int)) ?_) (s_next ⟨fun j => if j = i then v else a j, _, ?_, by omega, rfl⟩))
    · rw [if_pos rfl, sm_app]
      congr 1
      omega
    · rw [sm_app]
      omega
  · rintro Γ1 ⟨a, g6, hs, hin, rfl⟩
    rw [rangeD_len, Int.toNat_natCast] at hs ⊢
    refine q_app (P := fun d => d = .int ((B - sm (n - 1) a : Nat) : Int)) rfl (by rw [mp_len]; omega) (ev_var rfl) fun d e => ?_
    subst e
    rw [mp_app]
    obtain ⟨m, rfl⟩ : ∃ m, n = m + 1 := ⟨n - 1, by omega⟩
    rw [show m + 1 - 1 = m from rfl] at *
    generalize hA : (fun j => if j = m then B - sm m a else a j) = A
    have hA' : ∀ j, (if j = m then B - sm m a else a j) = A j := fun j => by rw [← hA]
    have hsum : sm (m + 1) A = B := by rw [← hA, sm_app]; omega
    have eA : (mp (m + 1) fun j => PyData.int (((if j = m then B - sm m a else a j) : Nat) : Int)) = mp (m + 1) fun j => PyData.int ((A j : Nat) : Int) := mp_congr fun j _ => by rw [hA' j]
    rw [eA]
    refine q_setP (ev_draw1 (m := m + 1) rfl (ev_var rfl) (by omega) (by omega)) fun d ⟨k, hk, e⟩ => ?_
    subst e
    refine q_swap (i := 4) (m := k) (m' := m) rfl (ev_ixM (i := 4) rfl ev_neg1 at_neg) (ev_ixM (i := 4) rfl (ev_var rfl) (mp_get2 (f := fun j => PyData.int ((A j : Nat) : Int)) hk)) (ev_var rfl) (by rw [mp_len]; exact ixNat hk) ev_neg1 (by rw [mp_len, ixN_neg (by omega)]; rfl) ?_
    rw [mp_set, mp_set]
    have eS : (mp (m + 1) fun i => if i = m then PyData.int ((A k : Nat) : Int) else if i = k then PyData.int ((A m : Nat) : Int) else PyData.int ((A i : Nat) : Int)) = mp (m + 1) fun i => PyData.int ((swp A k m i : Nat) : Int) := mp_congr fun i _ => by
      unfold swp
      by_cases c : i = m
      · rw [if_pos c, if_pos c]
      · rw [if_neg c, if_neg c]
        by_cases c2 : i = k
        · rw [if_pos c2, if_pos c2]
        · rw [if_neg c2, if_neg c2]
    rw [eS]
    refine q_freeze (i := 4) rfl (s_ret ((ev_tupL (ds := mp (m + 1) fun i => fr (drT B (swp A k m) i)) (em_map _ (ei_seq (ev_var rfl) rfl) (by rw [mp_len]; omega) (by rw [mp_len, mp_len]) fun i x y hx hy => ?_)).imp fun d e => ?_))
    · obtain ⟨hi, rfl⟩ := mp_get' hx
      obtain ⟨_, rfl⟩ := mp_get' hy
      refine ⟨_, tg_name (by simp), ev_law_fraction (ev_var rfl) (ev_var rfl) (by omega) ?_ ?_⟩
      · have : B < 2 ^ 9000 := Nat.lt_of_le_of_lt B16' (Nat.lt_of_lt_of_le (by decide : 16 < 2 ^ 5) (Nat.pow_le_pow_right (by omega) (by omega)))
        exact_mod_cast this
      · rw [Rat.intCast_natCast, Rat.intCast_natCast]
        rfl
    · exact ⟨B, swp A k m, ⟨n1, by omega, by omega, B16', by rw [swp_sum hk (by omega), hsum]⟩, e⟩
theorem ev_law_table {i n : Nat} {bs : List Int} (hi : Γ[i]? = some .deck) (h1 : EvD K dk ta Γ (.int n)) (h2 : EvD K dk tb Γ (.list (bs.map PyData.int))) (n1 : 1 ≤ n) (n5 : n ≤ 5) (b1 : 1 ≤ bs.length) (b2 : bs.length ≤ 100) (hb : ∀ i, i ∈ bs → 2 ≤ i ∧ i ≤ 16) :
    EvP K dk (tCall (sp_law_table K) [] E0 (tCons (tVar i) (tCons ta (tCons tb tNil)))) Γ (DrLaw n) := ev_drawL (n, bs) hi (ea2 h1 h2) ⟨n1, n5, b1, b2, hb⟩ fun _ e => e
end
end K39

set_option Elab.async false
set_option linter.all false
set_option maxRecDepth 100000
set_option maxHeartbeats 1000000
set_option exponentiation.threshold 20000
/-! SE21: programs that are drawn -/
namespace K39
open PySem PySem.Spec PyProof.Rows L2
section
variable {K : PySem.W.Frag} {dk : Dk} {Γ : List K39.G} {ta tb tc te t1 t2 ti tj tk : TE} {x y z u : PyData} {ds : List PyData} {q r : Rat} {N : List K39.G → Prop} {R : PyData → Prop} {P : PyData → Prop}
theorem ev_law_bottoms : EvD K dk (tCall (sp_law_bottoms K) [] E0 tNil) Γ (.list (([2, 3, 4, 5, 2, 6, 8, 7, 3, 4, 10, 12, 16] : List Int).map PyData.int)) := ev_callF () ea_nil trivial
theorem ev_tupP1 {PA : List PyData → Prop} (h : EvM K dk te Γ PA) : EvP K dk (tCB (rTupQ K) (tCons te tNil)) Γ (fun d => ∃ ds, d = .tuple ds ∧ PA ds) :=
  ev_CBP (PA := fun xs => ∃ ds, xs = [.list ds] ∧ PA ds) (ea_consP h.still ea_nil fun x xs ⟨ds, e1, p⟩ e2 => ⟨ds, by rw [e1, e2], p⟩) fun xs ⟨ds, e, p⟩ => by
    subst e
    exact fun I H vs Q o r k => cd_tupL I H vs Q o r fun w d I' H' e => k w d I' H' ⟨ds, e, p⟩
theorem drawProg0 {m : Nat} (h : EvP K dk te Γ (DrLaw m)) : EvP K dk (tTup (tCons (tC (.str "draw")) (tCons te tNil))) Γ (fun d => ∃ B a, Dr m B a ∧ d = enc (.draw m B a)) :=
  (ev_tupP (PA := fun ds => ∃ t, DrLaw m t ∧ ds = [.str "draw", t]) (ea_consP (ev_str (s := "draw")) (ea_consP (PA := fun ds => ∃ t, DrLaw m t ∧ ds = [t]) h ea_nil fun x xs a b => ⟨x, a, by rw [b]⟩) fun x xs a ⟨t, h1, h2⟩ => ⟨t, h1, by rw [a, h2]⟩) fun ds ⟨t, _, e⟩ => by rw [e]; show 2 ≤ 1000; omega).imp fun d ⟨ds, e1, t, ⟨B, a, hD, et⟩, e2⟩ => ⟨B, a, hD, by rw [e1, e2, et]; rfl⟩
theorem drawProg {m e : Nat} (h : EvP K dk te Γ (DrLaw m)) : EvP K dk (tTup (tCons (tC (.str "draw")) (tCons te tNil))) Γ (ProgD m e) := (drawProg0 h).imp fun d ⟨B, a, hD, e⟩ => ⟨.draw m B a, e, hD, rfl⟩
theorem ev_law_closed {i n m d : Nat} (hi : Γ[i]? = some .deck) (h1 : EvD K dk ta Γ (.int m)) (h2 : EvD K dk tb Γ (.int d)) (m1 : 1 ≤ m) (m5 : m ≤ 5) (hd : d < n) (d3 : d ≤ 3) : EvP K dk (tCall (sp_law_closed K n) [] E0 (tCons (tVar i) (tCons ta (tCons tb tNil)))) Γ (ProgD m d) := ev_drawL (m, d) hi (ea2 h1 h2) ⟨m1, m5, hd, d3⟩ fun _ e => e
theorem skolem {α : Type} (a0 : α) {k : Nat} {S : Nat → α → Prop} (h : ∀ i, i < k → ∃ a, S i a) : ∃ f : Nat → α, ∀ i, i < k → S i (f i) := by
  have h' : ∀ i, ∃ a, i < k → S i a := fun i => by
    by_cases hi : i < k
    · obtain ⟨a, ha⟩ := h i hi
      exact ⟨a, fun _ => ha⟩
    · exact ⟨a0, fun z => absurd z hi⟩
  exact ⟨fun i => Classical.choose (h' i), fun i => Classical.choose_spec (h' i)⟩
theorem lot_of {n : Nat} {os : List (Option PyData)} (hl : os.length = n) (h : ∀ (i : Nat) (o : Option PyData), os[i]? = some o → o = none ∨ o = some (.int (i : Int))) : ∃ l, os.filterMap id = (lotL n l).map fun (i : Nat) => PyData.int (i : Int) := by
  let l : Nat → Bool := fun i => (os.getD i none).isSome
  refine ⟨l, ?_⟩
  have e : os = mp n fun j => if l j then some (PyData.int ((j : Nat) : Int)) else none := list_of hl fun i o ho => by
    have : os.getD i none = o := by rw [List.getD_eq_getElem?_getD, ho]; rfl
    show o = if (os.getD i none).isSome then some (PyData.int (i : Int)) else none
    rw [this]
    rcases h i o ho with rfl | rfl <;> rfl
  rw [e, filt_int n l fun j => (j : Int), List.map_map]
  rfl
theorem lot_all (n : Nat) : lotD n (fun _ => true) = .tuple (mp n fun i => PyData.int (i : Int)) := by
  unfold lotD lotL mp
  rw [List.filter_eq_self.mpr fun _ _ => rfl]
theorem lotS_all (n : Nat) (f : Nat → Rat) : lotS n f (fun _ => true) = sm n f := sm_congr fun i _ => by simp
theorem se_law_closed (p : Addr × Addr) (n m deep : Nat) (h : 1 ≤ m ∧ m ≤ 5 ∧ deep < n + 1 ∧ deep ≤ 3) : SOk K (some p) (t_law_closed K n) (startGD 10 [.int m, .int deep]) (fun _ => ProgD m deep .none) (ProgD m deep) := by
  obtain ⟨m1, m5, hn, d3⟩ := h
  refine q_setP (P := fun d => ∃ w : Nat, w < 8 ∧ (deep = 0 → w < 2) ∧ d = .int w) (ev_if (B1 := fun b => b = decide ((0 : Int) < deep)) (et_testB (ev_opD (ev_var rfl) ev_int opd_gt)) (fun hb => (ev_draw1 (m := 8) rfl ev_int (by omega) (by omega)).imp fun d ⟨k, hk, e⟩ => ⟨k, hk, fun z => ?_, e⟩) fun hb => (ev_draw1 (m := 2) rfl ev_int (by omega) (by omega)).imp fun d ⟨k, hk, e⟩ => ⟨k, by omega, fun _ => hk, e⟩) fun d ⟨w, hw, hw0, e⟩ => ?_
  · have := of_decide_eq_true hb.symm
    omega
  subst e
  -- a value or a draw of small bottoms
  refine q_if (B := fun _ => True) (et_and (B1 := fun _ => True) (et_any (et_testB (ev_opD (ev_var rfl) ev_int opd_eqI))) (fun _ => trivial) fun _ => et_or (B1 := fun _ => True) (et_any (et_testB (ev_opD (ev_var rfl) ev_int opd_gt))) (fun _ => trivial) fun _ => et_any (et_testB (ev_opD (ev_var rfl) ev_int opd_gt))) (fun _ => q_ret ?_) fun _ => q_next ?_
  · refine ev_if (B1 := fun _ => True) (et_test (ev_op (P1 := fun d => ∃ k : Nat, k < 3 ∧ d = .int k) (P2 := fun d => d = .int 0) (ev_draw1 (m := 3) rfl ev_int (by omega) (by omega)) ev_int fun x y ⟨k, _, e1⟩ e2 => by subst e1 e2; exact OpD.any opd_eqI ⟨_, rfl, trivial⟩)) (fun _ => ?_) fun _ => drawProg (ev_law_table (n := m) (bs := [2, 4, 3]) rfl (ev_var rfl) (em_lst (ea3 ev_int ev_int ev_int) fun ds e => by rw [e]; show 3 ≤ 1000; omega).stillD m1 m5 (by decide) (by decide) (by decide))
    exact (ev_tupP (PA := fun ds => ∃ k : Nat, k < m ∧ ds = [.str "value", .int m, .int k]) (ea_consP (ev_str (s := "value")) (ea_consP (PA := fun ds => ∃ k : Nat, k < m ∧ ds = [.int m, .int k]) (ev_var (d := .int (m : Int)) rfl) (ea_consP (PA := fun ds => ∃ k : Nat, k < m ∧ ds = [.int k]) (ev_draw1 (m := m) rfl (ev_var rfl) (by omega) (by omega)) ea_nil fun x xs ⟨k, hk, a⟩ b => ⟨k, hk, by rw [a, b]⟩) fun x xs a ⟨k, hk, b⟩ => ⟨k, hk, by rw [a, b]⟩) fun x xs a ⟨k, hk, b⟩ => ⟨k, hk, by rw [a, b]⟩) fun ds ⟨k, _, e⟩ => by rw [e]; show 3 ≤ 1000; omega).imp fun d ⟨ds, e1, k, hk, e2⟩ => ⟨.value m k, by rw [e1, e2]; rfl, ⟨hk, by omega⟩, rfl⟩
  -- a draw
  refine q_ifB (et_testB (ev_opD (ev_var rfl) ev_int opd_lt)) (fun _ => q_ret (drawProg (ev_law_table (n := m) (bs := [2, 3, 4, 5, 2, 6, 8, 7, 3, 4, 10, 12, 16]) rfl (ev_var rfl) ev_law_bottoms m1 m5 (by decide) (by decide) (by decide)))) fun h3 => q_next ?_
  have w3 : 3 ≤ w := by
    have := of_decide_eq_false h3
    omega
  obtain ⟨e, rfl⟩ : ∃ e, deep = e + 1 := ⟨deep - 1, by omega⟩
  have less : ∀ {Γ : List K39.G}, Γ[2]? = some (.dat (.int ((e + 1 : Nat) : Int))) → EvD K (some p) (tOp rMinus (tVar 2) (tC (.int 1))) Γ (.int (e : Int)) := fun g => (ev_opD (ev_var g) ev_int opd_sub).cast (congrArg PyData.int (by omega))
  refine q_ifB (et_testB (ev_opD (ev_var rfl) ev_int opd_lt)) (fun _ => q_assoc ?_) fun _ => q_next ?_
  · -- one behind another
    refine q_setP (P := fun d => ∃ k : Nat, 2 ≤ k ∧ k ≤ 3 ∧ d = .int k) (ev_op (P2 := fun d => ∃ k : Nat, k < 2 ∧ d = .int k) ev_int (ev_draw1 (m := 2) rfl ev_int (by omega) (by omega)) fun x y e1 ⟨k, hk, e2⟩ => by subst e1 e2; exact OpD.any opd_add ⟨2 + k, by omega, by omega, rfl⟩) fun d ⟨k, k2, k3, ed⟩ => q_assoc ?_
    subst ed
    refine q_setP (ev_law_closed (m := k) (d := e) rfl (ev_var rfl) (less rfl) (by omega) (by omega) (by omega) (by omega)) fun d ⟨f, ef, hf, of⟩ => q_assoc ?_
    subst ef
    refine q_setM (em_each (fun _ d => ProgD m e d) (ei_range1 (n := (k : Int)) (ea1 (ev_var rfl)) (by omega) (by omega)) (by rw [rangeD_len]; omega) fun i x hx => ⟨_, tg_name (by simp), ev_law_closed (m := m) (d := e) rfl (ev_var rfl) (less rfl) m1 m5 (by omega) (by omega)⟩) fun ds ⟨hl, hS⟩ => q_assoc ?_
    rw [rangeD_len, Int.toNat_natCast] at hl
    obtain ⟨cs, hcs⟩ := skolem (Prog.value 1 0) (k := k) (S := fun i q => ds[i]? = some (enc q) ∧ Wf q e ∧ outs q = m) fun i hi => by
      have hg : ds[i]? = some ds[i] := List.getElem?_eq_getElem (by omega)
      obtain ⟨q, e1, e2, e3⟩ := hS i _ hg
      exact ⟨q, by rw [hg, e1], e2, e3⟩
    have eds : ds = mp k fun i => enc (cs i) := list_of hl fun i d hd => by
      have := (hcs i (by have := len_lt hd; omega)).1
      rw [hd] at this
      exact Option.some.inj this
    subst eds
    have fin : ∀ (cs' : Nat → Prog) (g : K39.G), (∀ i, i < k → Wf (cs' i) e ∧ outs (cs' i) = m) → SOk K (some p) (tSeq (tRet (tTup (tCons (tC (.str "bind")) (tCons (tVar 5) (tCons (tCB (rTupQ K) (tCons (tVar 6) tNil)) tNil))))) (tSeq (tIfS (tTest (tOp rEq (tVar 3) (tC (.int 6)))) (tSeq (tAsg (tCall (sp_law_closed K n) [] E0 (tCons (tVar 0) (tCons (tVar 1) (tCons (tOp rMinus (tVar 2) (tC (.int 1))) tNil)))) (gName 8)) (tSeq (tAsg (tCB (rTupQ K) (tCons (tLc (iRng1 (tCons (tVar 1) tNil)) (gName 7) (tTest (tOp rEq (tCall (sp_law_draw K) [] E0 (tCons (tVar 0) (tCons (tC (.int 2)) tNil))) (tC (.int 0)))) (tVar 7) [7]) tNil)) (gName 9)) (tSeq (tIfS (tTest (tOp (rEqD K) (tCall (sp_law_lot_chance K) [] E0 (tCons (tCall (sp_law_meaning K 4) [] E0 (tCons (tVar 8) tNil)) (tCons (tVar 9) tNil))) (tTup (tCons (tC (.int 0)) (tCons (tC (.int 1)) tNil))))) (tAsg (tTupRg (tRg1 (tVar 1))) (gName 9)) tNext) (tRet (tTup (tCons (tC (.str "again")) (tCons (tVar 8) (tCons (tVar 9) tNil)))))))) tNext) (tSeq (tAsg (tOp rPlus (tC (.int 1)) (tCall (sp_law_draw K) [] E0 (tCons (tVar 0) (tCons (tC (.int 5)) tNil)))) (gName 4)) (tRet (tTup (tCons (tC (.str "map")) (tCons (tCall (sp_law_closed K n) [] E0 (tCons (tVar 0) (tCons (tVar 4) (tCons (tOp rMinus (tVar 2) (tC (.int 1))) tNil)))) (tCons (tCB (rTupQ K) (tCons (tLc (iRng1 (tCons (tVar 4) tNil)) (gName 7) tYes (tCall (sp_law_draw K) [] E0 (tCons (tVar 0) (tCons (tVar 1) tNil))) [7]) tNil)) (tCons (tVar 1) tNil)))))))))
        [.deck, .dat (.int (m : Int)), .dat (.int ((e + 1 : Nat) : Int)), .dat (.int (w : Int)), .dat (.int (k : Int)), .dat (enc f), .mut (mp k fun i => enc (cs' i)), .no, .no, g] (fun _ => ProgD m (e + 1) .none) (ProgD m (e + 1)) := fun cs' g hc' => by
      refine q_freeze (i := 6) rfl (q_ret ((ev_tup (ea3 ev_str (ev_var (d := enc f) rfl) (ev_CB (ea1 (ev_var rfl)) cd_tupL)) (by show 3 ≤ 1000; omega)).imp fun d ed => ?_))
      exact ⟨.bind f k cs', ed, ⟨e, rfl, hf, of, by omega, k3, fun j hj => ⟨(hc' j hj).1, by rw [(hc' j hj).2, (hc' 0 (by omega)).2]⟩⟩, (hc' 0 (by omega)).2⟩
    refine q_if (B := fun _ => True) (et_test (ev_op (P1 := fun d => ∃ k : Nat, k < 3 ∧ d = .int k) (P2 := fun d => d = .int 0) (ev_draw1 (m := 3) rfl ev_int (by omega) (by omega)) ev_int fun x y ⟨k, _, e1⟩ e2 => by subst e1 e2; exact OpD.any opd_eqI ⟨_, rfl, trivial⟩)) (fun _ => ?_) fun _ => q_next (fin cs .no fun i hi => (hcs i hi).2)
    obtain ⟨k', rfl⟩ : ∃ k', k = k' + 1 := ⟨k - 1, by omega⟩
    refine q_setix (i := 6) (m := 0) (P := fun d => d = enc (cs k')) rfl (ev_ixM (i := 6) rfl ev_neg1 at_neg) ev_int (by rw [mp_len]; exact ixNat (n := k' + 1) (j := 0) (by omega)) fun d ed => ?_
    subst ed
    have e2 : (mp (k' + 1) fun i => enc (cs i)).set 0 (enc (cs k')) = mp (k' + 1) fun i => enc ((fun i => if i = 0 then cs k' else cs i) i) := by
      rw [mp_set]
      exact mp_congr fun i _ => by
        show (if i = 0 then enc (cs k') else enc (cs i)) = enc (if i = 0 then cs k' else cs i)
        split <;> rfl
    rw [e2]
    refine fin (fun i => if i = 0 then cs k' else cs i) .no fun i hi => ?_
    show Wf (if i = 0 then cs k' else cs i) e ∧ outs (if i = 0 then cs k' else cs i) = m
    split
    · exact (hcs k' (by omega)).2
    · exact (hcs i hi).2
  refine q_ifB (et_testB (ev_opD (ev_var rfl) ev_int opd_eqI)) (fun _ => q_assoc ?_) fun _ => q_next ?_
  · -- drawn anew
    refine q_setP (ev_law_closed (m := m) (d := e) rfl (ev_var rfl) (less rfl) m1 m5 (by omega) (by omega)) fun d ⟨f, ef, hf, of⟩ => q_assoc ?_
    subst ef
    have hf3 := hf.up (show e ≤ 3 by omega)
    have T := hf3.tab (by omega)
    refine q_setP (P := fun d => ∃ l, d = lotD (outs f) l) ((ev_tupP1 (em_lc (ei_range1 (n := (m : Int)) (ea1 (ev_var rfl)) (by omega) (by omega)) (by rw [rangeD_len]; omega) (fun i o => o = none ∨ o = some (.int (i : Int))) (fun _ _ => True) fun i x hx => ?_)).imp fun d ⟨ds, e1, os, h1, h2, h3⟩ => ?_) fun d ⟨l, ed⟩ => q_assoc ?_
    · obtain ⟨hi, rfl⟩ := rangeD_get hx
      refine ⟨_, tg_name (by simp), et_test (ev_op (P1 := fun d => ∃ k : Nat, k < 2 ∧ d = .int k) (P2 := fun d => d = .int 0) (ev_draw1 (m := 2) rfl ev_int (by omega) (by omega)) ev_int fun x y ⟨k, _, e1⟩ e2 => by subst e1 e2; exact OpD.any opd_eqI ⟨_, rfl, trivial⟩), fun _ => (ev_var rfl).imp fun d ed => .inr ?_, fun _ => .inl rfl⟩
      rw [ed, Int.zero_add]
    · rw [rangeD_len, Int.toNat_natCast] at h1
      obtain ⟨l, hl⟩ := lot_of h1 h2
      refine ⟨l, ?_⟩
      rw [e1, h3, hl, of]
      rfl
    subst ed
    have fin : ∀ (l : Nat → Bool), lotS (outs f) (mean f) l ≠ 0 → ∀ (d : PyData), d = .tuple [.str "again", enc f, lotD (outs f) l] → ProgD m (e + 1) d := fun l hl d ed => ⟨.again f l, ed, ⟨e, rfl, hf, hl⟩, of⟩
    refine q_ifB (et_testB (ev_eqfr (ev_law_lot_chance (ev_law_meaning (n := 4) (p := f) (ev_var rfl) (at4 hf3)) (ev_var rfl) T) ev_zeroT)) (fun hz => ?_) fun hz => q_next (q_ret ((ev_tup (ea3 ev_str (ev_var (d := enc f) rfl) (ev_var (d := lotD (outs f) l) rfl)) (by show 3 ≤ 1000; omega)).imp (fin l (of_decide_eq_false hz))))
    refine q_set ((ev_tupRg (n := m) (ev_var rfl) (by omega)).cast (y := lotD (outs f) fun _ => true) (by rw [lot_all, of])) (q_ret ((ev_tup (ea3 ev_str (ev_var (d := enc f) rfl) (ev_var (d := lotD (outs f) fun _ => true) rfl)) (by show 3 ≤ 1000; omega)).imp (fin _ (by rw [lotS_all, T.one]; decide))))
  -- renamed
  refine q_setP (P := fun d => ∃ k : Nat, 1 ≤ k ∧ k ≤ 5 ∧ d = .int k) (ev_op (P2 := fun d => ∃ k : Nat, k < 5 ∧ d = .int k) ev_int (ev_draw1 (m := 5) rfl ev_int (by omega) (by omega)) fun x y e1 ⟨k, hk, e2⟩ => by subst e1 e2; exact OpD.any opd_add ⟨1 + k, by omega, by omega, rfl⟩) fun d ⟨k, k1, k5, ed⟩ => ?_
  subst ed
  refine s_ret ((ev_tupP (PA := fun ds => ∃ (f : Prog) (nm : Nat → Nat), Wf f e ∧ outs f = k ∧ (∀ j, j < k → nm j < m) ∧ ds = [.str "map", enc f, .tuple (mp k fun j => .int ((nm j : Nat) : Int)), .int m]) (ea_consP (ev_str (s := "map")) (ea_consP (PA := fun ds => ∃ (f : Prog) (nm : Nat → Nat), Wf f e ∧ outs f = k ∧ (∀ j, j < k → nm j < m) ∧ ds = [enc f, .tuple (mp k fun j => .int ((nm j : Nat) : Int)), .int m]) (ev_law_closed (m := k) (d := e) rfl (ev_var rfl) (less rfl) k1 k5 (by omega) (by omega))
    (ea_consP (PA := fun ds => ∃ (nm : Nat → Nat), (∀ j, j < k → nm j < m) ∧ ds = [.tuple (mp k fun j => .int ((nm j : Nat) : Int)), .int m]) (P := fun d => ∃ (nm : Nat → Nat), (∀ j, j < k → nm j < m) ∧ d = .tuple (mp k fun j => .int ((nm j : Nat) : Int))) ((ev_tupP1 (em_each (fun _ d => ∃ v : Nat, v < m ∧ d = .int v) (ei_range1 (n := (k : Int)) (ea1 (ev_var rfl)) (by omega) (by omega)) (by rw [rangeD_len]; omega) fun i x hx => ⟨_, tg_name (by simp), ev_draw1 (m := m) rfl (ev_var rfl) (by omega) (by omega)⟩)).imp fun d ⟨ds, e1, hl, hS⟩ => ?_) (ea1 (ev_var (d := .int (m : Int)) rfl)) fun x xs ⟨nm, h1, h2⟩ h3 => ⟨nm, h1, by rw [h2, h3]⟩) fun x xs ⟨f, h1, h2, h3⟩ ⟨nm, h4, h5⟩ => ⟨f, nm, h2, h3, h4, by rw [h1, h5]⟩) fun x xs h1 ⟨f, nm, h2, h3, h4, h5⟩ => ⟨f, nm, h2, h3, h4, by rw [h1, h5]⟩) fun ds ⟨f, nm, _, _, _, ed⟩ => by rw [ed]; show 4 ≤ 1000; omega).imp fun d ⟨ds, e1, f, nm, h2, h3, h4, h5⟩ => ?_)
  · rw [rangeD_len, Int.toNat_natCast] at hl
    obtain ⟨nm, hnm⟩ := skolem (0 : Nat) (k := k) (S := fun i v => ds[i]? = some (.int (v : Int)) ∧ v < m) fun i hi => by
      have hg : ds[i]? = some ds[i] := List.getElem?_eq_getElem (by omega)
      obtain ⟨v, e2, e3⟩ := hS i _ hg
      exact ⟨v, by rw [hg, e3], e2⟩
    refine ⟨nm, fun j hj => (hnm j hj).2, ?_⟩
    rw [e1]
    congr 1
    exact list_of hl fun i d hd => by
      have := (hnm i (by have := len_lt hd; omega)).1
      rw [hd] at this
      exact Option.some.inj this
  · subst h3
    exact ⟨.ren f nm m, by rw [e1, h5]; rfl, ⟨e, rfl, h2, m1, by omega, h4⟩, rfl⟩
theorem se_law_program (p : Addr × Addr) (m : Nat) (h : 1 ≤ m ∧ m ≤ 5) : SOk K (some p) (t_law_program K) (startGD 4 [.int m]) (fun _ => ∃ q, PyData.none = enc q ∧ Fit q ∧ 1 ≤ outs q ∧ outs q ≤ m) (fun d => ∃ q, d = enc q ∧ Fit q ∧ 1 ≤ outs q ∧ outs q ≤ m) := by
  obtain ⟨m1, m5⟩ := h
  refine q_setP (P := fun d => ∃ n : Nat, 1 ≤ n ∧ n ≤ m ∧ d = .int n) (ev_op (P2 := fun d => ∃ k : Nat, k < m ∧ d = .int k) ev_int (ev_draw1 (m := m) rfl (ev_var rfl) (by omega) (by omega)) fun x y e1 ⟨k, hk, e2⟩ => by subst e1 e2; exact OpD.any opd_add ⟨1 + k, by omega, by omega, rfl⟩) fun d ⟨n, n1, nm, ed⟩ => ?_
  subst ed
  refine q_setP (P := fun d => ∃ q, d = enc q ∧ Wf q 3 ∧ outs q = n) (ev_drawLP (PA := fun ds => ∃ dp : Nat, dp ≤ 3 ∧ ds = [.int (n : Int), .int (dp : Int)]) rfl (ea_consP (ev_var (d := .int (n : Int)) rfl) (ea_consP (PA := fun ds => ∃ dp : Nat, dp ≤ 3 ∧ ds = [.int (dp : Int)]) (P := fun d => ∃ dp : Nat, dp ≤ 3 ∧ d = .int (dp : Int)) ((ev_law_pick (ns := [2, 1, 2, 3, 2]) rfl (em_lst (ea_cons ev_int (ea_cons ev_int (ea3 ev_int ev_int ev_int))) fun ds e => by rw [e]; show 5 ≤ 1000; omega).stillD (by decide) (by decide)).imp fun d ⟨i, hi, e⟩ => ?_) ea_nil fun x xs ⟨k, h1, h2⟩ h3 => ⟨k, h1, by rw [h2, h3]⟩) fun x xs h1 ⟨k, h2, h3⟩ => ⟨k, h2, by rw [h1, h3]⟩) fun ds ⟨dp, hdp, e⟩ => ⟨(n, dp), e, ⟨n1, by show n ≤ 5; omega, by show dp < 4; omega, hdp⟩, fun d ⟨q, e1, e2, e3⟩ => ⟨q, e1, e2.up hdp, e3⟩⟩) fun d ⟨q, ed, hq, oq⟩ => ?_
  · have key : ∀ j ∈ ([2, 1, 2, 3, 2] : List Int), 0 ≤ j ∧ j ≤ 3 := by decide
    obtain ⟨i0, i3⟩ := key i hi
    exact ⟨i.toNat, by omega, by rw [e]; congr 1; omega⟩
  subst ed
  refine q_if (B := fun b => b = true → parts q ≤ 40) (et_and (B1 := fun b => b = decide ((parts q : Int) ≤ 40)) (et_testB (ev_opD (ev_law_parts (ev_var rfl) (at4 hq)) ev_int opd_le)) (fun _ z => by cases z) fun hb => (et_test (B := fun _ => True) (ev_op (P1 := fun d => ∃ i : Int, d = .int i) (P2 := fun d => d = .int 190) (ev_law_size (ev_var rfl) (at4 hq)) ev_int fun x y ⟨k, e1⟩ e2 => by subst e1 e2; exact OpD.any opd_lt ⟨_, rfl, trivial⟩)).imp fun b _ _ => ?_) (fun hb => q_ret ((ev_var rfl).imp fun d ed => ⟨q, ed, ⟨hq, hb rfl⟩, by omega, by omega⟩)) fun _ => q_next (s_ret ((drawProg0 (ev_law_table (n := n) (bs := [2, 3, 4, 5, 2, 6, 8, 7, 3, 4, 10, 12, 16]) rfl (ev_var rfl) ev_law_bottoms n1 (by omega) (by decide) (by decide) (by decide))).imp fun d ⟨B, a, hD, ed⟩ => ⟨.draw n B a, ed, ⟨hD, by show 1 ≤ 40; omega⟩, n1, nm⟩))
  · have := of_decide_eq_true hb.symm
    omega
end
end K39

set_option Elab.async false
set_option linter.all false
set_option maxRecDepth 100000
set_option maxHeartbeats 1000000
set_option exponentiation.threshold 20000
/-! SE22: what the law looks at -/
namespace K39
open PySem PySem.Spec PyProof.Rows L2
section
variable {K : PySem.W.Frag} {dk : Dk} {Γ : List K39.G} {ta tb tc te t1 t2 ti tj tk : TE} {x y z u d : PyData} {ds : List PyData} {q r : Rat} {N : List K39.G → Prop} {R : PyData → Prop} {P : PyData → Prop}
/-! repr -/
theorem tupleText_le (ts : List Str) (h : ts ≠ []) : (tupleText ts).length ≤ piled ts + 1 := by
  unfold tupleText
  rw [strLen_append, strLen_append]
  have e1 : ((("(" : String) : Str)).length = 1 := rfl
  have e3 : (((if ts.length == 1 then ",)" else ")" : String) : Str)).length ≤ 2 := by split <;> decide
  rw [e1]
  have := join_length_add ts h
  omega
theorem log_lt {n k : Nat} (hk : 0 < k) (h : n < 2 ^ k) : n.log2 < k := by
  by_cases e : n = 0
  · subst e; exact hk
  · exact (Nat.log2_lt e).mpr h
def Rs (q : Rat) : Prop := q.den < 2 ^ 1000 ∧ q.num.natAbs < 2 ^ 1000
theorem Rs.of {N : Nat} {q : Rat} (h : In N q) (hN : N ≤ 2 ^ 300) (h0 : 0 ≤ q) (h1 : q ≤ 8) : Rs q := by
  have hd := h.den
  have p1 : (2 : Nat) ^ 300 < 2 ^ 1000 := Nat.pow_lt_pow_right (by omega) (by omega)
  refine ⟨by omega, ?_⟩
  have hn : 0 ≤ q.num := Rat.num_nonneg.mpr h0
  have hle : (q.num : Rat) ≤ (((8 * q.den : Nat) : Int) : Rat) := by
    rw [num_eq, Rat.intCast_natCast, Rat.natCast_mul]
    have := Rat.mul_le_mul_of_nonneg_right h1 (Rat.le_of_lt (den_pos q))
    have e : ((8 : Nat) : Rat) = 8 := rfl
    rw [e]
    exact this
  have hle2 := Rat.intCast_le_intCast.mp hle
  have h3 : q.num.natAbs ≤ 8 * q.den := by omega
  have p2 : 8 * 2 ^ 300 < 2 ^ 1000 := by decide +kernel
  omega
theorem Rs.log {q : Rat} (h : Rs q) : q.num.natAbs.log2 < 1920 ∧ ((q.den : Nat) : Int).natAbs.log2 < 1920 := by
  have p1 : (2 : Nat) ^ 1000 ≤ 2 ^ 1920 := Nat.pow_le_pow_right (by omega) (by omega)
  refine ⟨log_lt (by omega) ?_, log_lt (by omega) ?_⟩
  · exact Nat.lt_of_lt_of_le h.2 p1
  · rw [Int.natAbs_natCast]; exact Nat.lt_of_lt_of_le h.1 p1
theorem shown_int {i : Int} (h : i.natAbs < 2 ^ 1000) : (PyData.shown (.int i)).length ≤ 1001 := by
  show (Str.ofString (toString i)).length ≤ 1001
  rw [PySem.ofString_length]
  exact int_text_length_le (k := 1000) (by decide) (log_lt (by omega) h)
theorem shown_fr {q : Rat} (h : Rs q) : (fr q).shown.length ≤ 2100 := by
  have a := shown_int h.2
  have b := shown_int (i := (q.den : Int)) (by rw [Int.natAbs_natCast]; exact h.1)
  have := tupleText_le [PyData.shown (.int q.num), PyData.shown (.int q.den)] (by simp)
  show (tupleText [PyData.shown (.int q.num), PyData.shown (.int q.den)]).length ≤ 2100
  have e : piled [PyData.shown (.int q.num), PyData.shown (.int q.den)] = (PyData.shown (.int q.num)).length + 2 + ((PyData.shown (.int q.den)).length + 2) := by simp [piled]
  omega
theorem shown_two {q r : Rat} (h : Rs q) (h' : Rs r) : (PyData.tuple [fr q, fr r]).shown.length ≤ 5000 := by
  have a := shown_fr h
  have b := shown_fr h'
  have := tupleText_le [PyData.shown (fr q), PyData.shown (fr r)] (by simp)
  show (tupleText [PyData.shown (fr q), PyData.shown (fr r)]).length ≤ 5000
  have e : piled [PyData.shown (fr q), PyData.shown (fr r)] = (PyData.shown (fr q)).length + 2 + ((PyData.shown (fr r)).length + 2) := by simp [piled]
  omega
theorem ev_repr {ds : List PyData} (h : EvD K dk te Γ (.tuple ds)) (s : (PyData.tuple ds).showable = true) (nd : (PyData.tuple ds).hasDict = false) (dp : (PyData.tuple ds).depth ≤ 8) (hz : (PyData.tuple ds).shown.length ≤ sizeLine) : EvD K dk (tCB (rRepr K) (tCons te tNil)) Γ (.str (PyData.tuple ds).shown) :=
  ev_CB (ea1 h) fun I H vs Q o rr k => by
    obtain ⟨v, rfl, rv⟩ := rpl1 rr
    have rd := (rv.mono o.sub).dp
    cases rv with
    | tup hs hr => exact ⟨_, _, rfl, rd, s, nd, dp, hz, k _ _ I H rfl (Nx.refl o) (.str _)⟩
theorem showable_fr {q : Rat} (h : Rs q) : (fr q).showable = true := by
  obtain ⟨a, b⟩ := h.log
  unfold fr
  simp only [PyData.showable, PyData.showableAll, decide_eq_true a, decide_eq_true b, Bool.and_self]
theorem ev_reprF (h : EvD K dk te Γ (fr q)) (s : Rs q) : EvD K dk (tCB (rRepr K) (tCons te tNil)) Γ (.str (fr q).shown) :=
  ev_repr (ds := [.int q.num, .int q.den]) h (showable_fr s) (by simp [PyData.hasDict, PyData.hasDictAll]) (by simp [PyData.depth, PyData.depthAll]) (Nat.le_trans (shown_fr s) (by decide))
theorem ev_reprT (h : EvD K dk ta Γ (fr q)) (h' : EvD K dk tb Γ (fr r)) (s : Rs q) (s' : Rs r) : EvD K dk (tCB (rRepr K) (tCons (tTup (tCons ta (tCons tb tNil))) tNil)) Γ (.str (PyData.tuple [fr q, fr r]).shown) :=
  ev_repr (ds := [fr q, fr r]) (ev_tup (ea2 h h') (by simp)) (by simp only [PyData.showable, PyData.showableAll, showable_fr s, showable_fr s', Bool.and_self]) (by simp [fr, PyData.hasDict, PyData.hasDictAll]) (by simp [fr, PyData.depth, PyData.depthAll]) (Nat.le_trans (shown_two s s') (by decide))
/-! what is shown -/
theorem lenQ_In (p : Prog) (i t : Nat) : In (2 ^ t) (lenQ p i t) := sc_In (fun s => len p s i) (Nat.le_refl t)
theorem pow300 {t : Nat} (h : t ≤ 300) : 2 ^ t ≤ 2 ^ 300 := Nat.pow_le_pow_right (by omega) h
theorem lenQ_rs {p : Prog} {d i t : Nat} (h : Wf p d) (hi : i < outs p) (ht : t ≤ 300) : Rs (lenQ p i t) := Rs.of (lenQ_In p i t) (pow300 ht) (lenQ_nn h i t) (Rat.le_trans (lenQ_le h hi t) (by decide))
theorem tail_rs {p : Prog} {d t : Nat} (h : Wf p d) (ht : t ≤ 300) : Rs (tail p t) := Rs.of (tail_In p t) (pow300 ht) (tail_nn h t) (Rat.le_trans (tail_le h t) (by decide))
theorem flo_rs {n t : Nat} {f : Nat → Rat} (h : Tab n f) (ht : t ≤ 300) : Rs (floQ n f t) := by
  have n8 := h.n8
  refine Rs.of (N := 2 ^ t) ?_ (pow300 ht) (div_nn (sm_nonneg fun i _ => frac_nonneg _) (p2_pos t)) ?_
  · rw [flo_eq h.one]
    refine (In.int (Nat.two_pow_pos t) 1).sub ⟨Nat.two_pow_pos t, sm n fun i => (f i * p2 t).floor, ?_⟩
    rw [sm_cast]
    rfl
  · refine div_le (p2_pos t) ?_
    have e : sm n (fun i => fracQ (f i * p2 t)) ≤ (n : Rat) := by
      have : ∀ m, sm m (fun i => fracQ (f i * p2 t)) ≤ (m : Rat) := fun m => by
        induction m with
        | zero => exact Rat.le_refl
        | succ m ih =>
          simp only [sm, Rat.natCast_add]
          have := frac_lt (f m * p2 t)
          have : ((1 : Nat) : Rat) = 1 := rfl
          grind
      exact this n
    have h8 : (n : Rat) ≤ ((8 : Nat) : Rat) := Rat.natCast_le_natCast.mpr n8
    have h8' : ((8 : Nat) : Rat) = 8 := rfl
    have := p2_one t
    grind
theorem neS {s t : Str} (h : EvD K dk ta Γ (.str s)) (h' : EvD K dk tb Γ (.str t)) (e : s = t) : EvB K dk (tTest (tOp rNe ta tb)) Γ false := (et_testB (ev_opD h h' opd_neS)).cast (by rw [decide_eq_true e]; rfl)
theorem eqS {s t : Str} (h : EvD K dk ta Γ (.str s)) (h' : EvD K dk tb Γ (.str t)) (e : s = t) : EvD K dk (tOp rEq ta tb) Γ (.bool true) := (ev_opD h h' opd_eqS).cast (by rw [decide_eq_true e])
theorem ev_law_totalV {qs : List Rat} (h : EvD K dk te Γ (.list (qs.map fr))) (t : Tot qs) : EvD K dk (tCall (sp_law_total K) [] E0 (tCons te tNil)) Γ (fr qs.sum) := ev_callF (true, qs) (ea1 h) t
theorem two_tot {n : Nat} {f : Nat → Rat} (hn : n ≤ 64) (hI : ∀ i, i < n → In (2 ^ 300) (f i) ∧ 0 ≤ f i ∧ f i ≤ 1) : Tot (mp n f) := by
  refine ⟨by rw [mp_len]; exact hn, 2 ^ 300, Nat.pow_lt_pow_right (by omega) (by omega), fun q hq => ?_⟩
  obtain ⟨i, hi, rfl⟩ := mp_mem.mp hq
  obtain ⟨a, b, c⟩ := hI i hi
  exact ⟨a, b, Rat.le_trans c one_le_p2⟩
theorem se_law_falls (dk : Dk) (p : Prog) (t : Nat) (h : Fit p ∧ t ≤ 9) : SOk K dk (t_law_falls K) (startG 5 [enc p, .int (outs p), .int t]) (fun _ => PyData.none = .bool true) (fun d => d = .bool true) := by
  obtain ⟨hf, ht⟩ := h
  have n8 := hf.1.mn.n8
  have T : Tot (mp (outs p) fun i => lenQ p i (t + 1)) := two_tot (by omega) fun i hi => ⟨(lenQ_In p i (t + 1)).dvd (Nat.pow_dvd_pow 2 (by omega)) (Nat.two_pow_pos _), lenQ_nn hf.1 i _, lenQ_le hf.1 hi _⟩
  have up : ∀ {Γ : List K39.G}, Γ[2]? = some (.dat (.int (t : Int))) → EvD K dk (tOp rPlus (tVar 2) (tC (.int 1))) Γ (.int ((t + 1 : Nat) : Int)) := fun g => ev_opD (ev_var g) ev_int opd_add
  refine q_set (d := .list ((mp (outs p) fun i => lenQ p i (t + 1)).map fr)) (by
    rw [mp_map]
    exact EvM.stillD (em_map _ (ei_range1 (n := (outs p : Int)) (ea1 (ev_var rfl)) (by omega) (by omega)) (by rw [rangeD_len]; omega) (by rw [mp_len, rangeD_len]; omega) fun i x y hx hy => by
      obtain ⟨hi, rfl⟩ := rangeD_get hx
      obtain ⟨hi', rfl⟩ := mp_get' hy
      have e : (0 : Int) + (i : Int) = (i : Int) := by omega
      rw [e]
      exact ⟨_, tg_name (by simp), ev_length_chance (ev_var rfl) (ev_var rfl) (up rfl) hf hi' (by omega)⟩)) (s_ret ?_)
  have e1 : tail p t - tail p (t + 1) = (mp (outs p) fun i => lenQ p i (t + 1)).sum := by rw [sum_mp]; exact fall t
  have rs : Rs (tail p t - tail p (t + 1)) := by
    have h1 := tail_le hf.1 t
    have h2 := tail_nn hf.1 (t + 1)
    refine Rs.of (N := 2 ^ (t + 1)) (((tail_In p t).dvd (Nat.pow_dvd_pow 2 (by omega)) (Nat.two_pow_pos _)).sub (tail_In p (t + 1))) (pow300 (by omega)) ?_ ?_
    · rw [fall t]
      exact sm_nonneg fun i _ => lenQ_nn hf.1 i _
    · have : (1 : Rat) ≤ 8 := by decide
      grind
  exact eqS (ev_reprF (ev_law_minus (ev_made_tail (ev_var rfl) (ev_var rfl) hf (by omega)) (ev_made_tail (ev_var rfl) (up rfl) hf (by omega)) (tail_sm hf.1 (by omega)) (tail_sm hf.1 (by omega))) rs) (ev_reprF (ev_law_totalV (ev_var rfl) T) (by rw [← e1]; exact rs)) (by rw [e1])
theorem lenq_frac {p : Prog} {i t : Nat} : ((len p t i : Int) : Rat) / (((2 : Int) ^ t : Int) : Rat) = lenQ p i t := by rw [p2_int]; rfl
theorem se_law_are_lengths_right (k : Addr × Addr) (p : Prog) (T : Nat) (h : Fit p ∧ 1 ≤ outs p ∧ T ≤ 9) : SOk K (some k) (t_law_are_lengths_right K) (startGD 12 [enc p, rowsD (outs p) (len p) T, .int T]) (fun _ => PyData.none = .bool true) (fun d => d = .bool true) := by
  obtain ⟨hf, o1, hT⟩ := h
  have hw := hf.1
  have M := hw.mn
  have n8 := M.n8
  have TT := hw.tab (by omega)
  have T1 : ∀ {Γ : List K39.G}, Γ[3]? = some (.dat (.int (T : Int))) → EvD K (some k) (tOp rPlus (tVar 3) (tC (.int 1))) Γ (.int ((T + 1 : Nat) : Int)) := fun g => ev_opD (ev_var g) ev_int opd_add
  refine q_par2 (ea2 (ev_law_meaning (ev_var rfl) (at4 hw)) (EvM.stillD (em_map (mp (T + 1) fun t => fr (tail p t)) (ei_range1 (n := ((T + 1 : Nat) : Int)) (ea1 (T1 rfl)) (by omega) (by omega)) (by rw [rangeD_len]; omega) (by rw [mp_len, rangeD_len]; omega) fun t x y hx hy => ?_))) ?_
  · obtain ⟨ht, rfl⟩ := rangeD_get hx
    obtain ⟨ht', rfl⟩ := mp_get' hy
    have e : (0 : Int) + (t : Int) = (t : Int) := by omega
    rw [e]
    exact ⟨_, tg_name (by simp), ev_law_made_tail (ev_var rfl) (ev_var rfl) hw (by omega) (by omega)⟩
  refine q_for (ei_range1 (n := 6) (ea1 ev_int) (by decide) (by decide)) (fun i Γ => ∃ g6 g7 g8 g9 g10, Γ = [.deck, .dat (enc p), .dat (rowsD (outs p) (len p) T), .dat (.int (T : Int)), .dat (tabD (outs p) (mean p)), .dat (.list (mp (T + 1) fun t => fr (tail p t))), g6, g7, g8, g9, g10, .no]) ⟨_, _, _, _, _, rfl⟩ (fun i x Γ1 hx => ?_) ?_
  · rintro ⟨g6, g7, g8, g9, g10, rfl⟩
    obtain ⟨_, rfl⟩ := rangeD_get hx
    refine ⟨_, [7], tg_name (by simp), q_par2P (PA := fun xs => ∃ a b : Nat, a < outs p ∧ b < T + 1 ∧ xs = [.int (a : Int), .int (b : Int)]) (ea_consP (P := fun d => ∃ a : Nat, a < outs p ∧ d = .int a) (ev_draw1 (m := outs p) rfl (lenT (ev_var rfl) mp_len) (by omega) (by omega)) (ea_consP (PA := fun xs => ∃ b : Nat, b < T + 1 ∧ xs = [.int (b : Int)]) (ev_draw1 (m := T + 1) rfl (T1 rfl) (by omega) (by omega)) ea_nil fun x xs ⟨b, h1, h2⟩ h3 => ⟨b, h1, by rw [h2, h3]⟩) fun x xs ⟨a, h1, h2⟩ ⟨b, h3, h4⟩ => ⟨a, b, h1, h3, by rw [h2, h4]⟩) (fun xs ⟨a, b, _, _, e⟩ => ⟨_, _, e⟩) fun x y ⟨a, b, ha, hb, e⟩ => ?_⟩
    cases e
    refine q_set (ev_law_fraction (q := lenQ p a b) (ev_opD (ev_opD (ev_var rfl) (ev_var rfl) (opd_ixL (mp_get2 (f := fun i => rowD (T + 1) fun s => len p s i) ha))) (ev_var rfl) (opd_ixL (mp_get2 (f := fun s => PyData.int (len p s a)) hb))) (ev_shl1 (ev_var rfl) (by omega)) (shl_pos b) (shl_lt (by omega)) lenq_frac) ?_
    refine q_set (d := fr (lenQ p a b)) (ev_if (B1 := fun _ => True) (et_any (et_testB (ev_opD (ev_var rfl) ev_int opd_lt))) (fun _ => ev_length_chance (ev_var rfl) (ev_var rfl) (ev_var rfl) hf ha (by omega)) fun _ => ev_length_chanceK (ev_var rfl) (ev_var rfl) (ev_var rfl) hf ha (by omega)) ?_
    exact s_end (q_no (neS (ev_reprF (ev_var rfl) (lenQ_rs hw ha (by omega))) (ev_reprF (ev_var rfl) (lenQ_rs hw ha (by omega))) rfl) (s_next ⟨_, _, _, _, _, rfl⟩))
  rintro Γ1 ⟨g6, g7, g8, g9, g10, rfl⟩
  refine q_for (ei_range1 (n := 4) (ea1 ev_int) (by decide) (by decide)) (fun i Γ => ∃ g6 g7 g9 g11, Γ = [.deck, .dat (enc p), .dat (rowsD (outs p) (len p) T), .dat (.int (T : Int)), .dat (tabD (outs p) (mean p)), .dat (.list (mp (T + 1) fun t => fr (tail p t))), g6, g7, g8, g9, g10, g11]) ⟨_, _, _, _, rfl⟩ (fun i x Γ1 hx => ?_) ?_
  · rintro ⟨g6, g7, g9, g11, rfl⟩
    obtain ⟨_, rfl⟩ := rangeD_get hx
    refine ⟨_, [7], tg_name (by simp), q_setP (ev_draw1 (m := T + 1) rfl (T1 rfl) (by omega) (by omega)) fun d ⟨b, hb, e⟩ => ?_⟩
    subst e
    refine q_set (d := fr (tail p b)) (ev_if (B1 := fun _ => True) (et_any (et_testB (ev_opD (ev_var rfl) ev_int opd_lt))) (fun _ => ev_made_tail (ev_var rfl) (ev_var rfl) hf (by omega)) fun _ => ev_made_tailK (ev_var rfl) (ev_var rfl) hf (by omega)) ?_
    refine q_set (ev_floor_at (ev_var rfl) (ev_var rfl) TT (by omega)) ?_
    have el : lawFl (outs p) (mean p) b = floQ (outs p) (mean p) b := (flo_eq TT.one b).symm
    refine s_end (q_no (et_orB (a := false) (b := false) (neS (ev_reprT (ev_var rfl) (ev_var rfl) (tail_rs hw (by omega)) (flo_rs TT (by omega))) (ev_reprT (ev_opD (ev_var rfl) (ev_var rfl) (opd_ixL (mp_get2 (f := fun t => fr (tail p t)) hb))) (ev_law_floor (ev_var rfl) (ev_var rfl) TT (by omega)) (tail_rs hw (by omega)) (by rw [el]; exact flo_rs TT (by omega))) (by rw [el])) fun _ => (et_BB (ev_law_is_less (ev_var rfl) (ev_var rfl) (tail_sm hw (by omega)) (flo_sm TT (by omega)))).cast (decide_eq_false (Rat.not_lt.mpr (tail_ge hw b)))) (s_next ⟨_, _, _, _, rfl⟩))
  rintro Γ1 ⟨g6, g7, g9, g11, rfl⟩
  have Tt : Tot (mp (T + 1) (tail p)) := two_tot (by omega) fun i hi => ⟨(tail_In p i).dvd (Nat.pow_dvd_pow 2 (by omega)) (Nat.two_pow_pos _), tail_nn hw i, tail_le hw i⟩
  have ssm : Sm (mp (T + 1) (tail p)).sum := by rw [sum_mp]; exact tot_part Tt (Nat.le_refl _)
  refine s_ret ((ev_notV (ev_law_is_less (ev_plain_cost (ev_var rfl) hf) (ev_law_totalV (qs := mp (T + 1) (tail p)) ((ev_var rfl).cast (by rw [mp_map])) Tt) (cost_sm hw (by omega)) ssm)).imp fun d e => ?_)
  rw [e, sum_mp, decide_eq_false (Rat.not_lt.mpr (hw.cs.tl T hT))]
  rfl
theorem draw_fl {n B : Nat} {a : Nat → Nat} (h : Dr n B a) (t : Nat) : tail (.draw n B a) t = lawFl n (drT B a) t := by
  rw [← flo_eq h.tab.one, draw_tail h]
  unfold floQ
  rw [Rat.div_def, ← sm_mulr]
  exact sm_congr fun i _ => by rw [Rat.div_def]
theorem se_law_is_far_right (k : Addr × Addr) : SOk K (some k) (t_law_is_far_right K) (startGD 6 []) (fun _ => PyData.none = .bool true) (fun d => d = .bool true) := by
  refine q_setP (P := fun d => ∃ n B a, Dr n B a ∧ d = tabD n (drT B a)) (ev_drawLP (PA := fun ds => ∃ n : Nat, 1 ≤ n ∧ n ≤ 5 ∧ ds = [.int (n : Int), .list (([2, 3, 4, 5, 2, 6, 8, 7, 3, 4, 10, 12, 16] : List Int).map PyData.int)]) rfl (ea_consP (P := fun d => ∃ n : Nat, 1 ≤ n ∧ n ≤ 5 ∧ d = .int n) (ev_op (P2 := fun d => ∃ k : Nat, k < 5 ∧ d = .int k) ev_int (ev_draw1 (m := 5) rfl ev_int (by omega) (by omega)) fun x y e1 ⟨k, hk, e2⟩ => by subst e1 e2; exact OpD.any opd_add ⟨1 + k, by omega, by omega, rfl⟩) (ea1 ev_law_bottoms) fun x xs ⟨n, h1, h2, h3⟩ h4 => ⟨n, h1, h2, by rw [h3, h4]⟩) fun ds ⟨n, h1, h2, e⟩ => ⟨(n, [2, 3, 4, 5, 2, 6, 8, 7, 3, 4, 10, 12, 16]), e, ⟨h1, h2, by show 1 ≤ 13; omega, by show 13 ≤ 100; omega, (by decide : ∀ i, i ∈ ([2, 3, 4, 5, 2, 6, 8, 7, 3, 4, 10, 12, 16] : List Int) → 2 ≤ i ∧ i ≤ 16)⟩, fun d ⟨B, a, hD, e⟩ => ⟨n, B, a, hD, e⟩⟩) fun d ⟨n, B, a, hD, ed⟩ => ?_
  subst ed
  have n1 := hD.n1
  have n8 := hD.n8
  have hw : Wf (.draw n B a) 3 := hD
  have hf : Fit (.draw n B a) := ⟨hD, by show 1 ≤ 40; omega⟩
  refine q_par3P (PA := fun xs => ∃ t i : Nat, t ≤ 200 ∧ i < n ∧ xs = [enc (.draw n B a), .int (t : Int), .int (i : Int)]) (ea_consP (P := fun d => d = enc (.draw n B a)) (ev_tup (ea2 ev_str (ev_var rfl)) (by show 2 ≤ 1000; omega)) (ea_consP (P := fun d => ∃ t : Nat, t < 201 ∧ d = .int t) (PA := fun xs => ∃ t i : Nat, t ≤ 200 ∧ i < n ∧ xs = [.int (t : Int), .int (i : Int)]) (ev_draw1 (m := 201) rfl ev_int (by omega) (by omega)) (ea_consP (P := fun d => ∃ i : Nat, i < n ∧ d = .int i) (PA := fun xs => ∃ i : Nat, i < n ∧ xs = [.int (i : Int)]) (ev_draw1 (m := n) rfl (lenT (ev_var rfl) mp_len) (by omega) (by omega)) ea_nil fun x xs ⟨i, h1, h2⟩ h3 => ⟨i, h1, by rw [h2, h3]⟩) fun x xs ⟨t, h1, h2⟩ ⟨i, h3, h4⟩ => ⟨t, i, by omega, h3, by rw [h2, h4]⟩) fun x xs h1 ⟨t, i, h2, h3, h4⟩ => ⟨t, i, h2, h3, by rw [h1, h4]⟩) (fun xs ⟨t, i, _, _, e⟩ => ⟨_, _, _, e⟩) fun x y z ⟨t, i, ht, hi, e⟩ => ?_
  cases e
  refine q_set (ev_law_fraction (q := lenQ (.draw n B a) i t) (ev_opD (ev_law_digits (ev_opD (ev_var rfl) (ev_var rfl) (opd_ixT (mp_get2 (f := fun i => fr (drT B a i)) hi))) (ev_var rfl) (hD.tab.sm hi) (drT_nn B a i) (by omega)) (ev_var rfl) (opd_ixL (mp_get2 (f := fun s => PyData.int (dig (drT B a i) s)) (i := t) (by omega)))) (ev_shl1 (ev_var rfl) (by omega)) (shl_pos t) (shl_lt (by omega)) (lenq_frac (p := .draw n B a))) ?_
  exact s_ret (eqS (ev_reprT (ev_length_chance (ev_var rfl) (ev_var rfl) (ev_var rfl) hf hi (by omega)) (ev_made_tail (ev_var rfl) (ev_var rfl) hf (by omega)) (lenQ_rs hw hi (by omega)) (tail_rs hw (by omega))) (ev_reprT (ev_var rfl) (ev_law_floor (ev_var rfl) (ev_var rfl) hD.tab (by omega)) (lenQ_rs hw hi (by omega)) (by rw [← draw_fl hD]; exact tail_rs hw (by omega))) (by rw [draw_fl hD]))
/-! the law -/
theorem sem_law (vs : List V) (H : Hp) (Q : VK) (E : XK) (h : sp_law K vs H Q E) : t_law K { nx := fun _ H' => Q .non H', rt := Q } (L2.start nm_law vs) H := by
  obtain ⟨a, ns, rfl, hs, hA, hn, k⟩ := h
  refine ⟨.ref a, rfl, a, ns, rfl, hs, hA, hn, fun d l H1 _ _ D => ?_⟩
  have o : Ok (some (d, l)) (fun _ => none) H1 := ⟨fun _ _ q => (by cases q), fun p ep => (by cases ep; exact ⟨D, rfl, rfl⟩)⟩
  have kn : Know K (some (d, l)) (fun _ => none) H1 [.no, .deck, .no, .no, .no, .no] [some (.ref a), some (.ref d), none, none, none, none] (fun _ => none) H1 := by
    refine ⟨Nx.refl o, rfl, fun i e h => ?_, fun i es h => ?_, fun i j es es' p h => ?_, fun i h => ?_⟩
    · rcases i with _ | _ | _ | _ | _ | _ | i <;> cases h
    · rcases i with _ | _ | _ | _ | _ | _ | i <;> cases h
    · rcases i with _ | _ | _ | _ | _ | _ | i <;> cases h
    · rcases i with _ | _ | _ | _ | _ | _ | i
      · cases h
      · exact ⟨_, rfl, rfl⟩
      all_goals cases h
  have body : SOk K (some (d, l)) (tSeq (tFor (iRng1 (tCons (tC (.int 2)) tNil)) (gName 2) (tSeq (tPar 4 5 (tCons (tCall (sp_law_program K) [] E0 (tCons (tVar 1) (tCons (tC (.int 5)) tNil))) (tCons (tOp rPlus (tC (.int 3)) (tCall (sp_law_draw K) [] E0 (tCons (tVar 1) (tCons (tC (.int 7)) tNil)))) tNil))) (tSeq (tAsg (tCall (sp_law_rows K 4) [] E0 (tCons (tVar 4) (tCons (tVar 5) tNil))) (gName 3)) (tIfS (tOr (tNot (tB (tCall (sp_law_are_lengths_right K) [] E0 (tCons (tVar 1) (tCons (tVar 4) (tCons (tVar 3) (tCons (tVar 5) tNil))))))) (tNot (tB (tCall (sp_law_falls K) [] E0 (tCons (tVar 4) (tCons (tCB (rLenQ K) (tCons (tVar 3) tNil)) (tCons (tCall (sp_law_draw K) [] E0 (tCons (tVar 1) (tCons (tVar 5) tNil))) tNil))))))) (tRet (tC (.bl false))) tNext)))) (tRet (tCall (sp_law_is_far_right K) [] E0 (tCons (tVar 1) tNil))))
      [.no, .deck, .no, .no, .no, .no] (fun _ => False) (fun d => d = .bool true) := by
    refine q_for (ei_range1 (n := 2) (ea1 ev_int) (by decide) (by decide)) (fun i Γ => ∃ g2 g3 g4 g5, Γ = [.no, .deck, g2, g3, g4, g5]) ⟨_, _, _, _, rfl⟩ (fun i x Γ1 hx => ?_) ?_
    · rintro ⟨g2, g3, g4, g5, rfl⟩
      refine ⟨_, [2], tg_name (by simp), q_par2P (PA := fun xs => ∃ (q : Prog) (b : Nat), Fit q ∧ 1 ≤ outs q ∧ outs q ≤ 5 ∧ 3 ≤ b ∧ b ≤ 9 ∧ xs = [enc q, .int (b : Int)]) (ea_consP (P := fun d => ∃ q, d = enc q ∧ Fit q ∧ 1 ≤ outs q ∧ outs q ≤ 5) (ev_drawL 5 rfl (ea1 ev_int) ⟨by omega, by omega⟩ fun _ e => e) (ea_consP (P := fun d => ∃ b : Nat, 3 ≤ b ∧ b ≤ 9 ∧ d = .int b) (PA := fun xs => ∃ b : Nat, 3 ≤ b ∧ b ≤ 9 ∧ xs = [.int (b : Int)]) (ev_op (P2 := fun d => ∃ k : Nat, k < 7 ∧ d = .int k) ev_int (ev_draw1 (m := 7) rfl ev_int (by omega) (by omega)) fun x y e1 ⟨k, hk, e2⟩ => by subst e1 e2; exact OpD.any opd_add ⟨3 + k, by omega, by omega, rfl⟩) ea_nil fun x xs ⟨b, h1, h2, h3⟩ h4 => ⟨b, h1, h2, by rw [h3, h4]⟩) fun x xs ⟨q, h1, h2, h3, h4⟩ ⟨b, h5, h6, h7⟩ => ⟨q, b, h2, h3, h4, h5, h6, by rw [h1, h7]⟩) (fun xs ⟨q, b, _, _, _, _, _, e⟩ => ⟨_, _, e⟩) fun x y ⟨q, b, hf, o1, o5, b3, b9, e⟩ => ?_⟩
      cases e
      refine q_set (ev_law_rows (T := b) (ev_var rfl) (ev_var rfl) (at4 hf.1) (by omega)) (s_end (q_no (et_orB (a := false) (b := false) (et_notB (a := true) (et_BB (ev_drawL (q, b) rfl (ea3 (ev_var rfl) (ev_var rfl) (ev_var rfl)) ⟨hf, o1, b9⟩ fun _ e => e))) fun _ => et_notB (a := true) (et_BB (ev_callLP (PA := fun xs => ∃ t : Nat, t ≤ 9 ∧ xs = [enc q, .int (outs q : Nat), .int (t : Int)]) (ea_consP (ev_var (d := enc q) rfl) (ea_consP (P := fun d => d = .int (outs q : Nat)) (PA := fun xs => ∃ t : Nat, t ≤ 9 ∧ xs = [.int (outs q : Nat), .int (t : Int)]) ((ev_lenL (ev_var rfl)).cast (by rw [mp_len])) (ea_consP (P := fun d => ∃ k : Nat, k < b ∧ d = .int k) (PA := fun xs => ∃ t : Nat, t ≤ 9 ∧ xs = [.int (t : Int)]) (ev_draw1 (m := b) rfl (ev_var rfl) (by omega) (by omega)) ea_nil fun x xs ⟨t, h1, h2⟩ h3 => ⟨t, by omega, by rw [h2, h3]⟩) fun x xs h1 ⟨t, h2, h3⟩ => ⟨t, h2, by rw [h1, h3]⟩) fun x xs h1 ⟨t, h2, h3⟩ => ⟨t, h2, by rw [h1, h3]⟩) fun ds ⟨t, ht, e⟩ => ⟨(q, t), e, ⟨hf, ht⟩, fun _ e => e⟩))) (s_next ⟨_, _, _, _, rfl⟩)))
    · rintro Γ1 ⟨g2, g3, g4, g5, rfl⟩
      exact s_ret (ev_drawL () rfl ea_nil trivial fun _ e => e)
  refine body (fun _ => none) H1 _ (fun _ => none) H1 _ kn (fun _ _ _ _ h => h.elim) fun v d' I' H' ed n rv => ?_
  subst ed
  cases rv
  exact k H'
end
end K39

set_option Elab.async false
set_option linter.all false
set_option maxRecDepth 100000
set_option maxHeartbeats 1000000
set_option exponentiation.threshold 20000
/-! Fin: each def as callers know it (printed by gen_fin.py) -/
namespace K39
open PySem PySem.Spec PyProof.Rows L2
section
variable {P : Program} {w : World} {K : PySem.W.Frag} {mg : Str → Option Value} {base : Heap}
theorem ok_pureG {α : Type} {args : α → List PyData} {pre : α → Prop} {post : α → PyData → Prop} {x : Str} {st : Stmt} {f : Addr} {fd : FuncData} {N ps : List Str} {k : Nat} (F : FnD K x st f fd) (S : FnScope N ps (defScope st)) (t : TS) (hN : ps.length ≤ N.length) (len : ∀ a, pre a → (args a).length = ps.length)
    (term : ∀ (cdv : Value) (A : Around) (outer : List PySem.Env) (s : Shared) (H : Hp) (E : XK), A.guards = some [] → Room k (A.deeper (envOfC x (defScope st) s.heap.objs.size f cdv)) → PSs (cxOf CX0 P w K mg base N x (defScope st) f cdv A outer s H E).nox (defBody st) t)
    (sem : ∀ (dk : Dk) (a : α), pre a → SOk K dk t (startG N.length (args a)) (fun _ => post a .none) (post a)) : FnG P w K mg base (k + 1) f fd ps (PuL K args pre post) := by
  refine fnG_of F S (fun vs H Q E h => ?_) t term fun vs H Q E h => ?_
  · obtain ⟨dk, I, a, _, r, hp, _⟩ := h
    rw [r.len]; exact len a hp
  · obtain ⟨dk, I, a, o, r, hp, q⟩ := h
    exact sem dk a hp I H _ I H _ (know_start o r (by rw [r.len, len a hp]; exact hN)) (fun Γ' σ' I' H' n e _ => q _ _ I' H' n e.nx .non) fun v d I' H' pd n rv => q v d I' H' pd n rv
theorem ok_deckG {α : Type} {args : α → List PyData} {pre : α → Prop} {post : α → PyData → Prop} {x : Str} {st : Stmt} {f : Addr} {fd : FuncData} {N ps : List Str} {k : Nat} (F : FnD K x st f fd) (S : FnScope N ps (defScope st)) (t : TS) (hN : ps.length ≤ N.length) (len : ∀ a, pre a → (args a).length + 1 = ps.length)
    (term : ∀ (cdv : Value) (A : Around) (outer : List PySem.Env) (s : Shared) (H : Hp) (E : XK), A.guards = some [] → Room k (A.deeper (envOfC x (defScope st) s.heap.objs.size f cdv)) → PSs (cxOf CX0 P w K mg base N x (defScope st) f cdv A outer s H E).nox (defBody st) t)
    (sem : ∀ (p : Addr × Addr) (a : α), pre a → SOk K (some p) t (startGD N.length (args a)) (fun _ => post a .none) (post a)) : FnG P w K mg base (k + 1) f fd ps (PuDL K args pre post) := by
  refine fnG_of F S (fun vs H Q E h => ?_) t term fun vs H Q E h => ?_
  · obtain ⟨p, I, ws, a, rfl, _, r, hp, _⟩ := h
    rw [List.length_cons, r.len]; exact len a hp
  · obtain ⟨p, I, ws, a, rfl, o, r, hp, q⟩ := h
    exact sem p a hp I H _ I H _ (know_startD o r (by rw [r.len, len a hp]; exact hN)) (fun Γ' σ' I' H' n e _ => q _ _ I' H' n e.nx .non) fun v d I' H' pd n rv => q v d I' H' pd n rv
/-- the places, by hand -/
abbrev nm_raw_places : List Str := ["program", "place"]
theorem sc_raw_places : FnScope nm_raw_places ps_raw_places (defScope (top 64)) := ⟨rfl, rfl, rfl, by decide +kernel, rfl, by decide +kernel, by decide +kernel⟩
theorem tm_raw_places {f : Addr} (T : Top K mg) (c_places_in : Cal P w K mg base "places_in" 5 ps_places_in (sp_places_in K 4)) (cdv : Value) (A : Around) (outer : List PySem.Env) (s : Shared) (H : Hp) (E : XK) : Room 5 (A.deeper (envOfC "raw_places" (defScope (top 64)) s.heap.objs.size f cdv)) → PSs (cxOf CX0 P w K mg base nm_raw_places "raw_places" (defScope (top 64)) f cdv A outer s H E).nox (defBody (top 64)) (t_raw_places K) := fun hr => by
  have nd := sc_raw_places.nd
  exact (pss_one (ps_ret (pe_callTy call_tuple_of (by rfl) T.n_tuple bt_tuple (pa_cons (pe_callB cr_sorted (by rfl) T.n_sorted bt_sorted (pa_cons (pe_callTy (call_list_dK rfl) (by rfl) T.n_list bt_list (pa_cons (pe_dc (own := [("place", 1)]) (by rfl) nd (pi_seq (pe_cal c_places_in (hr.mono (by omega)) (by rfl) (pa_cons (pv 0) pa_nil))) (blkOk_by (N := nm_raw_places) (sc := defScope (top 64)) (by decide +kernel)) (fun _ _ _ _ _ => (pg_name (i := 1) nd rfl (by first | exact Or.inl rfl | exact Or.inr rfl))) (fun _ _ _ _ _ => pts_nil) (fun _ _ _ _ _ => (pv 1)) (fun _ _ _ _ _ => pe_bl)) pa_nil)) pa_nil)) pa_nil))))

theorem cal_is_integer {f : Addr} {fd : FuncData} (T : Top K mg) (hm : mg "is_integer" = some (.ref f)) (kp : PySem.W.keepIn K (.ref f) = true) (F : FnD K "is_integer" (top 1) f fd) : Cal P w K mg base "is_integer" 1 ps_is_integer (sp_is_integer K) :=
  ⟨f, fd, hm, kp, (F.bindsN fun _ _ _ _ _ _ us hl => match us, hl with | [_], _ => rfl), ok_pureL F sc_is_integer (t_is_integer K) (by decide) (fun _ _ => rfl) (fun cdv A outer s H E hr => tm_is_integer T cdv A outer s H E hr) (fun dk a h => se_is_integer dk a h)⟩
theorem cal_is_between {f : Addr} {fd : FuncData} (T : Top K mg) (c_is_integer : Cal P w K mg base "is_integer" 1 ps_is_integer (sp_is_integer K)) (hm : mg "is_between" = some (.ref f)) (kp : PySem.W.keepIn K (.ref f) = true) (F : FnD K "is_between" (top 2) f fd) : Cal P w K mg base "is_between" 2 ps_is_between (sp_is_between K) :=
  ⟨f, fd, hm, kp, (F.bindsN fun _ _ _ _ _ _ us hl => match us, hl with | [_, _, _], _ => rfl), ok_pureL F sc_is_between (t_is_between K) (by decide) (fun _ _ => rfl) (fun cdv A outer s H E hr => tm_is_between T c_is_integer cdv A outer s H E hr) (fun dk a h => se_is_between dk a h)⟩
theorem cal_are_between {f : Addr} {fd : FuncData} (T : Top K mg) (c_is_between : Cal P w K mg base "is_between" 2 ps_is_between (sp_is_between K)) (hm : mg "are_between" = some (.ref f)) (kp : PySem.W.keepIn K (.ref f) = true) (F : FnD K "are_between" (top 3) f fd) : Cal P w K mg base "are_between" 3 ps_are_between (sp_are_between K) :=
  ⟨f, fd, hm, kp, (F.bindsN fun _ _ _ _ _ _ us hl => match us, hl with | [_, _, _], _ => rfl), ok_pureL F sc_are_between (t_are_between K) (by decide) (fun _ _ => rfl) (fun cdv A outer s H E hr => tm_are_between T c_is_between cdv A outer s H E hr) (fun dk a h => se_are_between dk a h)⟩
theorem cal_is_count {f : Addr} {fd : FuncData} (T : Top K mg) (c_is_integer : Cal P w K mg base "is_integer" 1 ps_is_integer (sp_is_integer K)) (hm : mg "is_count" = some (.ref f)) (kp : PySem.W.keepIn K (.ref f) = true) (F : FnD K "is_count" (top 4) f fd) : Cal P w K mg base "is_count" 2 ps_is_count (sp_is_count K) :=
  ⟨f, fd, hm, kp, (F.bindsN fun _ _ _ _ _ _ us hl => match us, hl with | [_], _ => rfl), ok_pureL F sc_is_count (t_is_count K) (by decide) (fun _ _ => rfl) (fun cdv A outer s H E hr => tm_is_count T c_is_integer cdv A outer s H E hr) (fun dk a h => se_is_count dk a h)⟩
theorem cal_is_word {f : Addr} {fd : FuncData} (T : Top K mg) (hm : mg "is_word" = some (.ref f)) (kp : PySem.W.keepIn K (.ref f) = true) (F : FnD K "is_word" (top 5) f fd) : Cal P w K mg base "is_word" 1 ps_is_word (sp_is_word K) :=
  ⟨f, fd, hm, kp, (F.bindsN fun _ _ _ _ _ _ us hl => match us, hl with | [_, _], _ => rfl), ok_pureL F sc_is_word (t_is_word K) (by decide) (fun _ _ => rfl) (fun cdv A outer s H E hr => tm_is_word T cdv A outer s H E hr) (fun dk a h => se_is_word dk a h)⟩
theorem cal_is_ascending {f : Addr} {fd : FuncData} (T : Top K mg) (hm : mg "is_ascending" = some (.ref f)) (kp : PySem.W.keepIn K (.ref f) = true) (F : FnD K "is_ascending" (top 6) f fd) : Cal P w K mg base "is_ascending" 1 ps_is_ascending (sp_is_ascending K) :=
  ⟨f, fd, hm, kp, (F.bindsN fun _ _ _ _ _ _ us hl => match us, hl with | [_], _ => rfl), ok_pureL F sc_is_ascending (t_is_ascending K) (by decide) (fun _ _ => rfl) (fun cdv A outer s H E hr => tm_is_ascending T cdv A outer s H E hr) (fun dk a h => se_is_ascending dk a h)⟩
theorem cal_is_lot_value {f : Addr} {fd : FuncData} (T : Top K mg) (c_is_ascending : Cal P w K mg base "is_ascending" 1 ps_is_ascending (sp_is_ascending K)) (c_are_between : Cal P w K mg base "are_between" 3 ps_are_between (sp_are_between K)) (hm : mg "is_lot_value" = some (.ref f)) (kp : PySem.W.keepIn K (.ref f) = true) (F : FnD K "is_lot_value" (top 7) f fd) : Cal P w K mg base "is_lot_value" 4 ps_is_lot_value (sp_is_lot_value K) :=
  ⟨f, fd, hm, kp, (F.bindsN fun _ _ _ _ _ _ us hl => match us, hl with | [_, _], _ => rfl), ok_pureL F sc_is_lot_value (t_is_lot_value K) (by decide) (fun _ _ => rfl) (fun cdv A outer s H E hr => tm_is_lot_value T c_is_ascending c_are_between cdv A outer s H E hr) (fun dk a h => se_is_lot_value dk a h)⟩
theorem cal_divisor_of {f : Addr} {fd : FuncData} (T : Top K mg) (hm : mg "divisor_of" = some (.ref f)) (kp : PySem.W.keepIn K (.ref f) = true) (F : FnD K "divisor_of" (top 11) f fd) : Cal P w K mg base "divisor_of" 1 ps_divisor_of (sp_divisor_of K) :=
  ⟨f, fd, hm, kp, (F.bindsN fun _ _ _ _ _ _ us hl => match us, hl with | [_, _], _ => rfl), ok_pureL F sc_divisor_of (t_divisor_of K) (by decide) (fun _ _ => rfl) (fun cdv A outer s H E hr => tm_divisor_of T cdv A outer s H E hr) (fun dk a h => se_divisor_of dk a h)⟩
theorem cal_is_fraction_value {f : Addr} {fd : FuncData} (T : Top K mg) (c_is_integer : Cal P w K mg base "is_integer" 1 ps_is_integer (sp_is_integer K)) (c_divisor_of : Cal P w K mg base "divisor_of" 1 ps_divisor_of (sp_divisor_of K)) (hm : mg "is_fraction_value" = some (.ref f)) (kp : PySem.W.keepIn K (.ref f) = true) (F : FnD K "is_fraction_value" (top 12) f fd) : Cal P w K mg base "is_fraction_value" 2 ps_is_fraction_value (sp_is_fraction_value K) :=
  ⟨f, fd, hm, kp, (F.bindsN fun _ _ _ _ _ _ us hl => match us, hl with | [_], _ => rfl), ok_pureL F sc_is_fraction_value (t_is_fraction_value K) (by decide) (fun _ _ => rfl) (fun cdv A outer s H E hr => tm_is_fraction_value T c_is_integer c_divisor_of cdv A outer s H E hr) (fun dk a h => se_is_fraction_value dk a h)⟩
theorem cal_is_share_value {f : Addr} {fd : FuncData} (T : Top K mg) (c_is_fraction_value : Cal P w K mg base "is_fraction_value" 2 ps_is_fraction_value (sp_is_fraction_value K)) (hm : mg "is_share_value" = some (.ref f)) (kp : PySem.W.keepIn K (.ref f) = true) (F : FnD K "is_share_value" (top 13) f fd) : Cal P w K mg base "is_share_value" 3 ps_is_share_value (sp_is_share_value K) :=
  ⟨f, fd, hm, kp, (F.bindsN fun _ _ _ _ _ _ us hl => match us, hl with | [_], _ => rfl), ok_pureL F sc_is_share_value (t_is_share_value K) (by decide) (fun _ _ => rfl) (fun cdv A outer s H E hr => tm_is_share_value T c_is_fraction_value cdv A outer s H E hr) (fun dk a h => se_is_share_value dk a h)⟩
theorem cal_lowest {f : Addr} {fd : FuncData} (T : Top K mg) (c_divisor_of : Cal P w K mg base "divisor_of" 1 ps_divisor_of (sp_divisor_of K)) (hm : mg "lowest" = some (.ref f)) (kp : PySem.W.keepIn K (.ref f) = true) (F : FnD K "lowest" (top 14) f fd) : Cal P w K mg base "lowest" 2 ps_lowest (sp_lowest K) :=
  ⟨f, fd, hm, kp, (F.bindsN fun _ _ _ _ _ _ us hl => match us, hl with | [_, _], _ => rfl), ok_pureL F sc_lowest (t_lowest K) (by decide) (fun _ _ => rfl) (fun cdv A outer s H E hr => tm_lowest T c_divisor_of cdv A outer s H E hr) (fun dk a h => se_lowest dk a h)⟩
theorem cal_plus {f : Addr} {fd : FuncData} (T : Top K mg) (c_lowest : Cal P w K mg base "lowest" 2 ps_lowest (sp_lowest K)) (hm : mg "plus" = some (.ref f)) (kp : PySem.W.keepIn K (.ref f) = true) (F : FnD K "plus" (top 15) f fd) : Cal P w K mg base "plus" 3 ps_plus (sp_plus K) :=
  ⟨f, fd, hm, kp, (F.bindsN fun _ _ _ _ _ _ us hl => match us, hl with | [_, _], _ => rfl), ok_pureL F sc_plus (t_plus K) (by decide) (fun _ _ => rfl) (fun cdv A outer s H E hr => tm_plus T c_lowest cdv A outer s H E hr) (fun dk a h => se_plus dk a h)⟩
theorem cal_minus {f : Addr} {fd : FuncData} (T : Top K mg) (c_lowest : Cal P w K mg base "lowest" 2 ps_lowest (sp_lowest K)) (hm : mg "minus" = some (.ref f)) (kp : PySem.W.keepIn K (.ref f) = true) (F : FnD K "minus" (top 16) f fd) : Cal P w K mg base "minus" 3 ps_minus (sp_minus K) :=
  ⟨f, fd, hm, kp, (F.bindsN fun _ _ _ _ _ _ us hl => match us, hl with | [_, _], _ => rfl), ok_pureL F sc_minus (t_minus K) (by decide) (fun _ _ => rfl) (fun cdv A outer s H E hr => tm_minus T c_lowest cdv A outer s H E hr) (fun dk a h => se_minus dk a h)⟩
theorem cal_times {f : Addr} {fd : FuncData} (T : Top K mg) (c_lowest : Cal P w K mg base "lowest" 2 ps_lowest (sp_lowest K)) (hm : mg "times" = some (.ref f)) (kp : PySem.W.keepIn K (.ref f) = true) (F : FnD K "times" (top 17) f fd) : Cal P w K mg base "times" 3 ps_times (sp_times K) :=
  ⟨f, fd, hm, kp, (F.bindsN fun _ _ _ _ _ _ us hl => match us, hl with | [_, _], _ => rfl), ok_pureL F sc_times (t_times K) (by decide) (fun _ _ => rfl) (fun cdv A outer s H E hr => tm_times T c_lowest cdv A outer s H E hr) (fun dk a h => se_times dk a h)⟩
theorem cal_over {f : Addr} {fd : FuncData} (T : Top K mg) (c_lowest : Cal P w K mg base "lowest" 2 ps_lowest (sp_lowest K)) (hm : mg "over" = some (.ref f)) (kp : PySem.W.keepIn K (.ref f) = true) (F : FnD K "over" (top 18) f fd) : Cal P w K mg base "over" 3 ps_over (sp_over K) :=
  ⟨f, fd, hm, kp, (F.bindsN fun _ _ _ _ _ _ us hl => match us, hl with | [_, _], _ => rfl), ok_pureL F sc_over (t_over K) (by decide) (fun _ _ => rfl) (fun cdv A outer s H E hr => tm_over T c_lowest cdv A outer s H E hr) (fun dk a h => se_over dk a h)⟩
theorem cal_total {f : Addr} {fd : FuncData} (T : Top K mg) (Z : Zo K) (c_plus : Cal P w K mg base "plus" 3 ps_plus (sp_plus K)) (hm : mg "total" = some (.ref f)) (kp : PySem.W.keepIn K (.ref f) = true) (F : FnD K "total" (top 19) f fd) : Cal P w K mg base "total" 4 ps_total (sp_total K) :=
  ⟨f, fd, hm, kp, (F.bindsN fun _ _ _ _ _ _ us hl => match us, hl with | [_], _ => rfl), ok_pureL F sc_total (t_total K) (by decide) (fun _ _ => rfl) (fun cdv A outer s H E hr => tm_total T c_plus cdv A outer s H E hr) (fun dk a h => se_total Z dk a h)⟩
theorem cal_whole_of {f : Addr} {fd : FuncData} (T : Top K mg) (hm : mg "whole_of" = some (.ref f)) (kp : PySem.W.keepIn K (.ref f) = true) (F : FnD K "whole_of" (top 20) f fd) : Cal P w K mg base "whole_of" 1 ps_whole_of (sp_whole_of K) :=
  ⟨f, fd, hm, kp, (F.bindsN fun _ _ _ _ _ _ us hl => match us, hl with | [_], _ => rfl), ok_pureL F sc_whole_of (t_whole_of K) (by decide) (fun _ _ => rfl) (fun cdv A outer s H E hr => tm_whole_of T cdv A outer s H E hr) (fun dk a h => se_whole_of dk a h)⟩
theorem cal_shifted {f : Addr} {fd : FuncData} (T : Top K mg) (c_lowest : Cal P w K mg base "lowest" 2 ps_lowest (sp_lowest K)) (hm : mg "shifted" = some (.ref f)) (kp : PySem.W.keepIn K (.ref f) = true) (F : FnD K "shifted" (top 21) f fd) : Cal P w K mg base "shifted" 3 ps_shifted (sp_shifted K) :=
  ⟨f, fd, hm, kp, (F.bindsN fun _ _ _ _ _ _ us hl => match us, hl with | [_, _], _ => rfl), ok_pureL F sc_shifted (t_shifted K) (by decide) (fun _ _ => rfl) (fun cdv A outer s H E hr => tm_shifted T c_lowest cdv A outer s H E hr) (fun dk a h => se_shifted dk a h)⟩
theorem cal_is_table_value {f : Addr} {fd : FuncData} (T : Top K mg) (Z : Zo K) (c_is_share_value : Cal P w K mg base "is_share_value" 3 ps_is_share_value (sp_is_share_value K)) (c_total : Cal P w K mg base "total" 4 ps_total (sp_total K)) (hm : mg "is_table_value" = some (.ref f)) (kp : PySem.W.keepIn K (.ref f) = true) (F : FnD K "is_table_value" (top 22) f fd) : Cal P w K mg base "is_table_value" 5 ps_is_table_value (sp_is_table_value K) :=
  ⟨f, fd, hm, kp, (F.bindsN fun _ _ _ _ _ _ us hl => match us, hl with | [_], _ => rfl), ok_pureL F sc_is_table_value (t_is_table_value K) (by decide) (fun _ _ => rfl) (fun cdv A outer s H E hr => tm_is_table_value T c_is_share_value c_total cdv A outer s H E hr) (fun dk a h => se_is_table_value Z dk a h)⟩
theorem cal_power_by {f : Addr} {fd : FuncData} (T : Top K mg) (hm : mg "power_by" = some (.ref f)) (kp : PySem.W.keepIn K (.ref f) = true) (F : FnD K "power_by" (top 24) f fd) : Cal P w K mg base "power_by" 1 ps_power_by (sp_power_by K) :=
  ⟨f, fd, hm, kp, (F.bindsN fun _ _ _ _ _ _ us hl => match us, hl with | [_, _], _ => rfl), ok_pureL F sc_power_by (t_power_by K) (by decide) (fun _ _ => rfl) (fun cdv A outer s H E hr => tm_power_by T cdv A outer s H E hr) (fun dk a h => se_power_by dk a h)⟩
theorem cal_raw_rest {f : Addr} {fd : FuncData} (T : Top K mg) (c_lowest : Cal P w K mg base "lowest" 2 ps_lowest (sp_lowest K)) (c_power_by : Cal P w K mg base "power_by" 1 ps_power_by (sp_power_by K)) (hm : mg "raw_rest" = some (.ref f)) (kp : PySem.W.keepIn K (.ref f) = true) (F : FnD K "raw_rest" (top 25) f fd) : Cal P w K mg base "raw_rest" 3 ps_raw_rest (sp_raw_rest K) :=
  ⟨f, fd, hm, kp, (F.bindsN fun _ _ _ _ _ _ us hl => match us, hl with | [_, _], _ => rfl), ok_pureL F sc_raw_rest (t_raw_rest K) (by decide) (fun _ _ => rfl) (fun cdv A outer s H E hr => tm_raw_rest T c_lowest c_power_by cdv A outer s H E hr) (fun dk a h => se_raw_rest dk a h)⟩
theorem cal_raw_digit {f : Addr} {fd : FuncData} (T : Top K mg) (c_power_by : Cal P w K mg base "power_by" 1 ps_power_by (sp_power_by K)) (hm : mg "raw_digit" = some (.ref f)) (kp : PySem.W.keepIn K (.ref f) = true) (F : FnD K "raw_digit" (top 26) f fd) : Cal P w K mg base "raw_digit" 2 ps_raw_digit (sp_raw_digit K) :=
  ⟨f, fd, hm, kp, (F.bindsN fun _ _ _ _ _ _ us hl => match us, hl with | [_, _], _ => rfl), ok_pureL F sc_raw_digit (t_raw_digit K) (by decide) (fun _ _ => rfl) (fun cdv A outer s H E hr => tm_raw_digit T c_power_by cdv A outer s H E hr) (fun dk a h => se_raw_digit dk a h)⟩
theorem cal_twos_of {f : Addr} {fd : FuncData} (T : Top K mg) (hm : mg "twos_of" = some (.ref f)) (kp : PySem.W.keepIn K (.ref f) = true) (F : FnD K "twos_of" (top 27) f fd) : Cal P w K mg base "twos_of" 1 ps_twos_of (sp_twos_of K) :=
  ⟨f, fd, hm, kp, (F.bindsN fun _ _ _ _ _ _ us hl => match us, hl with | [_], _ => rfl), ok_pureL F sc_twos_of (t_twos_of K) (by decide) (fun _ _ => rfl) (fun cdv A outer s H E hr => tm_twos_of T cdv A outer s H E hr) (fun dk a h => se_twos_of dk a h)⟩
theorem cal_raw_figures {f : Addr} {fd : FuncData} (T : Top K mg) (c_twos_of : Cal P w K mg base "twos_of" 1 ps_twos_of (sp_twos_of K)) (hm : mg "raw_figures" = some (.ref f)) (kp : PySem.W.keepIn K (.ref f) = true) (F : FnD K "raw_figures" (top 28) f fd) : Cal P w K mg base "raw_figures" 2 ps_raw_figures (sp_raw_figures K) :=
  ⟨f, fd, hm, kp, (F.bindsN fun _ _ _ _ _ _ us hl => match us, hl with | [_], _ => rfl), ok_pureL F sc_raw_figures (t_raw_figures K) (by decide) (fun _ _ => rfl) (fun cdv A outer s H E hr => tm_raw_figures T c_twos_of cdv A outer s H E hr) (fun dk a h => se_raw_figures dk a h)⟩
theorem cal_sums_of {f : Addr} {fd : FuncData} (T : Top K mg) (c_lowest : Cal P w K mg base "lowest" 2 ps_lowest (sp_lowest K)) (hm : mg "sums_of" = some (.ref f)) (kp : PySem.W.keepIn K (.ref f) = true) (F : FnD K "sums_of" (top 29) f fd) : Cal P w K mg base "sums_of" 3 ps_sums_of (sp_sums_of K) :=
  ⟨f, fd, hm, kp, (F.bindsN fun _ _ _ _ _ _ us hl => match us, hl with | [_], _ => rfl), ok_pureL F sc_sums_of (t_sums_of K) (by decide) (fun _ _ => rfl) (fun cdv A outer s H E hr => tm_sums_of T c_lowest cdv A outer s H E hr) (fun dk a h => se_sums_of dk a h)⟩
theorem cal_raw_weight {f : Addr} {fd : FuncData} (T : Top K mg) (c_raw_figures : Cal P w K mg base "raw_figures" 2 ps_raw_figures (sp_raw_figures K)) (c_sums_of : Cal P w K mg base "sums_of" 3 ps_sums_of (sp_sums_of K)) (c_times : Cal P w K mg base "times" 3 ps_times (sp_times K)) (c_plus : Cal P w K mg base "plus" 3 ps_plus (sp_plus K)) (c_lowest : Cal P w K mg base "lowest" 2 ps_lowest (sp_lowest K)) (c_shifted : Cal P w K mg base "shifted" 3 ps_shifted (sp_shifted K)) (hm : mg "raw_weight" = some (.ref f)) (kp : PySem.W.keepIn K (.ref f) = true) (F : FnD K "raw_weight" (top 30) f fd) : Cal P w K mg base "raw_weight" 4 ps_raw_weight (sp_raw_weight K) :=
  ⟨f, fd, hm, kp, (F.bindsN fun _ _ _ _ _ _ us hl => match us, hl with | [_], _ => rfl), ok_pureL F sc_raw_weight (t_raw_weight K) (by decide) (fun _ _ => rfl) (fun cdv A outer s H E hr => tm_raw_weight T c_raw_figures c_sums_of c_times c_plus c_lowest c_shifted cdv A outer s H E hr) (fun dk a h => se_raw_weight dk a h)⟩
theorem cal_need_table {f : Addr} {fd : FuncData} (T : Top K mg) (c_is_table_value : Cal P w K mg base "is_table_value" 5 ps_is_table_value (sp_is_table_value K)) (hm : mg "need_table" = some (.ref f)) (kp : PySem.W.keepIn K (.ref f) = true) (F : FnD K "need_table" (top 38) f fd) : Cal P w K mg base "need_table" 6 ps_need_table (sp_need_table K) :=
  ⟨f, fd, hm, kp, (F.bindsN fun _ _ _ _ _ _ us hl => match us, hl with | [_], _ => rfl), ok_pureL F sc_need_table (t_need_table K) (by decide) (fun _ _ => rfl) (fun cdv A outer s H E hr => tm_need_table T c_is_table_value cdv A outer s H E hr) (fun dk a h => se_need_table dk a h)⟩
theorem cal_need_count {f : Addr} {fd : FuncData} (T : Top K mg) (c_is_count : Cal P w K mg base "is_count" 2 ps_is_count (sp_is_count K)) (hm : mg "need_count" = some (.ref f)) (kp : PySem.W.keepIn K (.ref f) = true) (F : FnD K "need_count" (top 39) f fd) : Cal P w K mg base "need_count" 3 ps_need_count (sp_need_count K) :=
  ⟨f, fd, hm, kp, (F.bindsN fun _ _ _ _ _ _ us hl => match us, hl with | [_], _ => rfl), ok_pureL F sc_need_count (t_need_count K) (by decide) (fun _ _ => rfl) (fun cdv A outer s H E hr => tm_need_count T c_is_count cdv A outer s H E hr) (fun dk a h => se_need_count dk a h)⟩
theorem cal_raw_floor {f : Addr} {fd : FuncData} (T : Top K mg) (c_shifted : Cal P w K mg base "shifted" 3 ps_shifted (sp_shifted K)) (c_total : Cal P w K mg base "total" 4 ps_total (sp_total K)) (c_raw_rest : Cal P w K mg base "raw_rest" 3 ps_raw_rest (sp_raw_rest K)) (hm : mg "raw_floor" = some (.ref f)) (kp : PySem.W.keepIn K (.ref f) = true) (F : FnD K "raw_floor" (top 41) f fd) : Cal P w K mg base "raw_floor" 5 ps_raw_floor (sp_raw_floor K) :=
  ⟨f, fd, hm, kp, (F.bindsN fun _ _ _ _ _ _ us hl => match us, hl with | [_, _], _ => rfl), ok_pureL F sc_raw_floor (t_raw_floor K) (by decide) (fun _ _ => rfl) (fun cdv A outer s H E hr => tm_raw_floor T c_shifted c_total c_raw_rest cdv A outer s H E hr) (fun dk a h => se_raw_floor dk a h)⟩
theorem cal_raw_least_mean {f : Addr} {fd : FuncData} (T : Top K mg) (c_total : Cal P w K mg base "total" 4 ps_total (sp_total K)) (c_raw_weight : Cal P w K mg base "raw_weight" 4 ps_raw_weight (sp_raw_weight K)) (hm : mg "raw_least_mean" = some (.ref f)) (kp : PySem.W.keepIn K (.ref f) = true) (F : FnD K "raw_least_mean" (top 42) f fd) : Cal P w K mg base "raw_least_mean" 5 ps_raw_least_mean (sp_raw_least_mean K) :=
  ⟨f, fd, hm, kp, (F.bindsN fun _ _ _ _ _ _ us hl => match us, hl with | [_], _ => rfl), ok_pureL F sc_raw_least_mean (t_raw_least_mean K) (by decide) (fun _ _ => rfl) (fun cdv A outer s H E hr => tm_raw_least_mean T c_total c_raw_weight cdv A outer s H E hr) (fun dk a h => se_raw_least_mean dk a h)⟩
theorem cal_floor_at {f : Addr} {fd : FuncData} (T : Top K mg) (c_need_table : Cal P w K mg base "need_table" 6 ps_need_table (sp_need_table K)) (c_need_count : Cal P w K mg base "need_count" 3 ps_need_count (sp_need_count K)) (c_raw_floor : Cal P w K mg base "raw_floor" 5 ps_raw_floor (sp_raw_floor K)) (hm : mg "floor_at" = some (.ref f)) (kp : PySem.W.keepIn K (.ref f) = true) (F : FnD K "floor_at" (top 43) f fd) : Cal P w K mg base "floor_at" 7 ps_floor_at (sp_floor_at K) :=
  ⟨f, fd, hm, kp, (F.bindsN fun _ _ _ _ _ _ us hl => match us, hl with | [_, _], _ => rfl), ok_pureL F sc_floor_at (t_floor_at K) (by decide) (fun _ _ => rfl) (fun cdv A outer s H E hr => tm_floor_at T c_need_table c_need_count c_raw_floor cdv A outer s H E hr) (fun dk a h => se_floor_at dk a h)⟩
theorem cal_raw_lot_chance {f : Addr} {fd : FuncData} (T : Top K mg) (c_total : Cal P w K mg base "total" 4 ps_total (sp_total K)) (hm : mg "raw_lot_chance" = some (.ref f)) (kp : PySem.W.keepIn K (.ref f) = true) (F : FnD K "raw_lot_chance" (top 45) f fd) : Cal P w K mg base "raw_lot_chance" 5 ps_raw_lot_chance (sp_raw_lot_chance K) :=
  ⟨f, fd, hm, kp, (F.bindsN fun _ _ _ _ _ _ us hl => match us, hl with | [_, _], _ => rfl), ok_pureL F sc_raw_lot_chance (t_raw_lot_chance K) (by decide) (fun _ _ => rfl) (fun cdv A outer s H E hr => tm_raw_lot_chance T c_total cdv A outer s H E hr) (fun dk a h => se_raw_lot_chance dk a h)⟩
theorem cal_raw_given {f : Addr} {fd : FuncData} (T : Top K mg) (Z : Zo K) (c_raw_lot_chance : Cal P w K mg base "raw_lot_chance" 5 ps_raw_lot_chance (sp_raw_lot_chance K)) (c_over : Cal P w K mg base "over" 3 ps_over (sp_over K)) (hm : mg "raw_given" = some (.ref f)) (kp : PySem.W.keepIn K (.ref f) = true) (F : FnD K "raw_given" (top 46) f fd) : Cal P w K mg base "raw_given" 6 ps_raw_given (sp_raw_given K) :=
  ⟨f, fd, hm, kp, (F.bindsN fun _ _ _ _ _ _ us hl => match us, hl with | [_, _], _ => rfl), ok_pureL F sc_raw_given (t_raw_given K) (by decide) (fun _ _ => rfl) (fun cdv A outer s H E hr => tm_raw_given T c_raw_lot_chance c_over cdv A outer s H E hr) (fun dk a h => se_raw_given Z dk a h)⟩
theorem cal_raw_renamed {f : Addr} {fd : FuncData} (T : Top K mg) (c_total : Cal P w K mg base "total" 4 ps_total (sp_total K)) (hm : mg "raw_renamed" = some (.ref f)) (kp : PySem.W.keepIn K (.ref f) = true) (F : FnD K "raw_renamed" (top 47) f fd) : Cal P w K mg base "raw_renamed" 5 ps_raw_renamed (sp_raw_renamed K) :=
  ⟨f, fd, hm, kp, (F.bindsN fun _ _ _ _ _ _ us hl => match us, hl with | [_, _, _], _ => rfl), ok_pureL F sc_raw_renamed (t_raw_renamed K) (by decide) (fun _ _ => rfl) (fun cdv A outer s H E hr => tm_raw_renamed T c_total cdv A outer s H E hr) (fun dk a h => se_raw_renamed dk a h)⟩
theorem cal_raw_mixed {f : Addr} {fd : FuncData} (T : Top K mg) (c_total : Cal P w K mg base "total" 4 ps_total (sp_total K)) (c_times : Cal P w K mg base "times" 3 ps_times (sp_times K)) (hm : mg "raw_mixed" = some (.ref f)) (kp : PySem.W.keepIn K (.ref f) = true) (F : FnD K "raw_mixed" (top 48) f fd) : Cal P w K mg base "raw_mixed" 5 ps_raw_mixed (sp_raw_mixed K) :=
  ⟨f, fd, hm, kp, (F.bindsN fun _ _ _ _ _ _ us hl => match us, hl with | [_, _], _ => rfl), ok_pureL F sc_raw_mixed (t_raw_mixed K) (by decide) (fun _ _ => rfl) (fun cdv A outer s H E hr => tm_raw_mixed T c_total c_times cdv A outer s H E hr) (fun dk a h => se_raw_mixed dk a h)⟩
theorem cal_raw_meaning {f : Addr} {fd : FuncData} (T : Top K mg) (Z : Zo K) (c_raw_mixed : Cal P w K mg base "raw_mixed" 5 ps_raw_mixed (sp_raw_mixed K)) (c_raw_given : Cal P w K mg base "raw_given" 6 ps_raw_given (sp_raw_given K)) (c_raw_renamed : Cal P w K mg base "raw_renamed" 5 ps_raw_renamed (sp_raw_renamed K)) (hm : mg "raw_meaning" = some (.ref f)) (kp : PySem.W.keepIn K (.ref f) = true) (F : FnD K "raw_meaning" (top 65) f fd) : ∀ n, Cal P w K mg base "raw_meaning" (6 + 1 * n) ps_raw_meaning (sp_raw_meaning K n)
  | 0 => ⟨f, fd, hm, kp, (F.bindsN fun _ _ _ _ _ _ us hl => match us, hl with | [_], _ => rfl), ok_false (fun vs H Q E h => by obtain ⟨dk, I, a, _, _, hp, _⟩ := h; exact at_false hp)⟩
  | n + 1 => ⟨f, fd, hm, kp, (F.bindsN fun _ _ _ _ _ _ us hl => match us, hl with | [_], _ => rfl), by
    have ih := cal_raw_meaning T Z c_raw_mixed c_raw_given c_raw_renamed hm kp F n
    exact ok_pureL F sc_raw_meaning (t_raw_meaning K n) (by decide) (fun _ _ => rfl) (fun cdv A outer s H E hr => tm_raw_meaning n T c_raw_mixed ih c_raw_given c_raw_renamed cdv A outer s H E hr) (fun dk a h => se_raw_meaning Z n dk a h)⟩
theorem cal_are_of_one_size {f : Addr} {fd : FuncData} (T : Top K mg) (hm : mg "are_of_one_size" = some (.ref f)) (kp : PySem.W.keepIn K (.ref f) = true) (F : FnD K "are_of_one_size" (top 58) f fd) : Cal P w K mg base "are_of_one_size" 1 ps_are_of_one_size (sp_are_of_one_size K) :=
  ⟨f, fd, hm, kp, (F.bindsN fun _ _ _ _ _ _ us hl => match us, hl with | [_], _ => rfl), ok_pureL F sc_are_of_one_size (t_are_of_one_size K) (by decide) (fun _ _ => rfl) (fun cdv A outer s H E hr => tm_are_of_one_size T cdv A outer s H E hr) (fun dk a h => se_are_of_one_size dk a h)⟩
theorem cal_looked_at (T : Top K mg) (Z : Zo K) (c_is_word : Cal P w K mg base "is_word" 1 ps_is_word (sp_is_word K)) (c_is_between : Cal P w K mg base "is_between" 2 ps_is_between (sp_is_between K)) (c_is_table_value : Cal P w K mg base "is_table_value" 5 ps_is_table_value (sp_is_table_value K)) (c_is_lot_value : Cal P w K mg base "is_lot_value" 4 ps_is_lot_value (sp_is_lot_value K)) (c_raw_lot_chance : Cal P w K mg base "raw_lot_chance" 5 ps_raw_lot_chance (sp_raw_lot_chance K)) (c_raw_meaning : ∀ n, Cal P w K mg base "raw_meaning" (6 + 1 * n) ps_raw_meaning (sp_raw_meaning K n)) (c_are_between : Cal P w K mg base "are_between" 3 ps_are_between (sp_are_between K)) {f_looked_at : Addr} {fd_looked_at : FuncData} (hm_looked_at : mg "looked_at" = some (.ref f_looked_at)) (kp_looked_at : PySem.W.keepIn K (.ref f_looked_at) = true) (F_looked_at : FnD K "looked_at" (top 54) f_looked_at fd_looked_at) {f_bind_looked_at : Addr} {fd_bind_looked_at : FuncData} (hm_bind_looked_at : mg "bind_looked_at" = some (.ref f_bind_looked_at)) (kp_bind_looked_at : PySem.W.keepIn K (.ref f_bind_looked_at) = true) (F_bind_looked_at : FnD K "bind_looked_at" (top 55) f_bind_looked_at fd_bind_looked_at) {f_again_looked_at : Addr} {fd_again_looked_at : FuncData} (hm_again_looked_at : mg "again_looked_at" = some (.ref f_again_looked_at)) (kp_again_looked_at : PySem.W.keepIn K (.ref f_again_looked_at) = true) (F_again_looked_at : FnD K "again_looked_at" (top 56) f_again_looked_at fd_again_looked_at) {f_map_looked_at : Addr} {fd_map_looked_at : FuncData} (hm_map_looked_at : mg "map_looked_at" = some (.ref f_map_looked_at)) (kp_map_looked_at : PySem.W.keepIn K (.ref f_map_looked_at) = true) (F_map_looked_at : FnD K "map_looked_at" (top 57) f_map_looked_at fd_map_looked_at) : ∀ n, Cal P w K mg base "looked_at" (7 + 2 * n) ps_looked_at (sp_looked_at K n)
  | 0 => ⟨f_looked_at, fd_looked_at, hm_looked_at, kp_looked_at, (F_looked_at.bindsN fun _ _ _ _ _ _ us hl => match us, hl with | [_, _], _ => rfl), ok_false (fun vs H Q E h => by obtain ⟨dk, I, a, _, _, ⟨d, e, _⟩, _⟩ := h; omega)⟩
  | n + 1 => by
    have cl := cal_looked_at T Z c_is_word c_is_between c_is_table_value c_is_lot_value c_raw_lot_chance c_raw_meaning c_are_between hm_looked_at kp_looked_at F_looked_at hm_bind_looked_at kp_bind_looked_at F_bind_looked_at hm_again_looked_at kp_again_looked_at F_again_looked_at hm_map_looked_at kp_map_looked_at F_map_looked_at n
    have cb : Cal P w K mg base "bind_looked_at" (8 + 2 * n) ps_bind_looked_at (sp_bind_looked_at K n) := ⟨f_bind_looked_at, fd_bind_looked_at, hm_bind_looked_at, kp_bind_looked_at, (F_bind_looked_at.bindsN fun _ _ _ _ _ _ us hl => match us, hl with | [_, _], _ => rfl), by
      rw [show 8 + 2 * n = 7 + 2 * n + 1 by omega]
      exact ok_pureL F_bind_looked_at sc_bind_looked_at (t_bind_looked_at K n) (by decide) (fun _ _ => rfl) (fun cdv A outer s H E hr => tm_bind_looked_at n T cl cdv A outer s H E hr) (fun dk a h => se_bind_looked_at n dk a h)⟩
    have ca : Cal P w K mg base "again_looked_at" (8 + 2 * n) ps_again_looked_at (sp_again_looked_at K n) := ⟨f_again_looked_at, fd_again_looked_at, hm_again_looked_at, kp_again_looked_at, (F_again_looked_at.bindsN fun _ _ _ _ _ _ us hl => match us, hl with | [_, _], _ => rfl), by
      rw [show 8 + 2 * n = 7 + 2 * n + 1 by omega]
      exact ok_pureL F_again_looked_at sc_again_looked_at (t_again_looked_at K n) (by decide) (fun _ _ => rfl) (fun cdv A outer s H E hr => tm_again_looked_at n T cl c_is_lot_value c_raw_lot_chance (c_raw_meaning n) cdv A outer s H E hr) (fun dk a h => se_again_looked_at Z n dk a h)⟩
    have cm : Cal P w K mg base "map_looked_at" (8 + 2 * n) ps_map_looked_at (sp_map_looked_at K n) := ⟨f_map_looked_at, fd_map_looked_at, hm_map_looked_at, kp_map_looked_at, (F_map_looked_at.bindsN fun _ _ _ _ _ _ us hl => match us, hl with | [_, _], _ => rfl), by
      rw [show 8 + 2 * n = 7 + 2 * n + 1 by omega]
      exact ok_pureL F_map_looked_at sc_map_looked_at (t_map_looked_at K n) (by decide) (fun _ _ => rfl) (fun cdv A outer s H E hr => tm_map_looked_at n T cl c_are_between c_is_between cdv A outer s H E hr) (fun dk a h => se_map_looked_at n dk a h)⟩
    exact ⟨f_looked_at, fd_looked_at, hm_looked_at, kp_looked_at, (F_looked_at.bindsN fun _ _ _ _ _ _ us hl => match us, hl with | [_, _], _ => rfl), ok_pureL F_looked_at sc_looked_at (t_looked_at K n) (by decide) (fun _ _ => rfl) (fun cdv A outer s H E hr => tm_looked_at n T c_is_word c_is_between c_is_table_value cb ca cm cdv A outer s H E hr) (fun dk a h => se_looked_at n dk a h)⟩
theorem cal_is_program_value {f : Addr} {fd : FuncData} (T : Top K mg) (c_looked_at : ∀ n, Cal P w K mg base "looked_at" (7 + 2 * n) ps_looked_at (sp_looked_at K n)) (c_are_of_one_size : Cal P w K mg base "are_of_one_size" 1 ps_are_of_one_size (sp_are_of_one_size K)) (hm : mg "is_program_value" = some (.ref f)) (kp : PySem.W.keepIn K (.ref f) = true) (F : FnD K "is_program_value" (top 59) f fd) : Cal P w K mg base "is_program_value" 16 ps_is_program_value (sp_is_program_value K) :=
  ⟨f, fd, hm, kp, (F.bindsN fun _ _ _ _ _ _ us hl => match us, hl with | [_], _ => rfl), ok_pureL F sc_is_program_value (t_is_program_value K) (by decide) (fun _ _ => rfl) (fun cdv A outer s H E hr => tm_is_program_value T (c_looked_at 4) c_are_of_one_size cdv A outer s H E hr) (fun dk a h => se_is_program_value dk a h)⟩
theorem cal_inner_of {f : Addr} {fd : FuncData} (T : Top K mg) (hm : mg "inner_of" = some (.ref f)) (kp : PySem.W.keepIn K (.ref f) = true) (F : FnD K "inner_of" (top 62) f fd) : Cal P w K mg base "inner_of" 1 ps_inner_of (sp_inner_of K) :=
  ⟨f, fd, hm, kp, (F.bindsN fun _ _ _ _ _ _ us hl => match us, hl with | [_], _ => rfl), ok_pureL F sc_inner_of (t_inner_of K) (by decide) (fun _ _ => rfl) (fun cdv A outer s H E hr => tm_inner_of T cdv A outer s H E hr) (fun dk a h => se_inner_of dk a h)⟩
theorem cal_places_in {f : Addr} {fd : FuncData} (T : Top K mg) (c_inner_of : Cal P w K mg base "inner_of" 1 ps_inner_of (sp_inner_of K)) (hm : mg "places_in" = some (.ref f)) (kp : PySem.W.keepIn K (.ref f) = true) (F : FnD K "places_in" (top 63) f fd) : ∀ n, Cal P w K mg base "places_in" (1 + 1 * n) ps_places_in (sp_places_in K n)
  | 0 => ⟨f, fd, hm, kp, (F.bindsN fun _ _ _ _ _ _ us hl => match us, hl with | [_], _ => rfl), ok_false (fun vs H Q E h => by obtain ⟨dk, I, a, _, _, hp, _⟩ := h; exact at_false hp)⟩
  | n + 1 => ⟨f, fd, hm, kp, (F.bindsN fun _ _ _ _ _ _ us hl => match us, hl with | [_], _ => rfl), by
    have ih := cal_places_in T c_inner_of hm kp F n
    exact ok_pureL F sc_places_in (t_places_in K n) (by decide) (fun _ _ => rfl) (fun cdv A outer s H E hr => tm_places_in n T c_inner_of ih cdv A outer s H E hr) (fun dk a h => se_places_in n dk a h)⟩
theorem cal_raw_places {f : Addr} {fd : FuncData} (T : Top K mg) (c_places_in : ∀ n, Cal P w K mg base "places_in" (1 + 1 * n) ps_places_in (sp_places_in K n)) (hm : mg "raw_places" = some (.ref f)) (kp : PySem.W.keepIn K (.ref f) = true) (F : FnD K "raw_places" (top 64) f fd) : Cal P w K mg base "raw_places" 6 ps_raw_places (sp_raw_places K) :=
  ⟨f, fd, hm, kp, (F.bindsN fun _ _ _ _ _ _ us hl => match us, hl with | [_], _ => rfl), ok_pureL F sc_raw_places (t_raw_places K) (by decide) (fun _ _ => rfl) (fun cdv A outer s H E hr => tm_raw_places T (c_places_in 4) cdv A outer s H E hr) (fun dk a h => se_raw_places dk a h)⟩
theorem cal_need_closed {f : Addr} {fd : FuncData} (T : Top K mg) (c_raw_places : Cal P w K mg base "raw_places" 6 ps_raw_places (sp_raw_places K)) (c_is_program_value : Cal P w K mg base "is_program_value" 16 ps_is_program_value (sp_is_program_value K)) (hm : mg "need_closed" = some (.ref f)) (kp : PySem.W.keepIn K (.ref f) = true) (F : FnD K "need_closed" (top 60) f fd) : Cal P w K mg base "need_closed" 17 ps_need_closed (sp_need_closed K) :=
  ⟨f, fd, hm, kp, (F.bindsN fun _ _ _ _ _ _ us hl => match us, hl with | [_], _ => rfl), ok_pureL F sc_need_closed (t_need_closed K) (by decide) (fun _ _ => rfl) (fun cdv A outer s H E hr => tm_need_closed T c_raw_places c_is_program_value cdv A outer s H E hr) (fun dk a h => se_need_closed dk a h)⟩
theorem cal_raw_outcomes {f : Addr} {fd : FuncData} (T : Top K mg) (hm : mg "raw_outcomes" = some (.ref f)) (kp : PySem.W.keepIn K (.ref f) = true) (F : FnD K "raw_outcomes" (top 61) f fd) : ∀ n, Cal P w K mg base "raw_outcomes" (0 + 1 * n) ps_raw_outcomes (sp_raw_outcomes K n)
  | 0 => ⟨f, fd, hm, kp, (F.bindsN fun _ _ _ _ _ _ us hl => match us, hl with | [_], _ => rfl), ok_false (fun vs H Q E h => by obtain ⟨dk, I, a, _, _, hp, _⟩ := h; exact at_false hp)⟩
  | n + 1 => ⟨f, fd, hm, kp, (F.bindsN fun _ _ _ _ _ _ us hl => match us, hl with | [_], _ => rfl), by
    have ih := cal_raw_outcomes T hm kp F n
    exact ok_pureL F sc_raw_outcomes (t_raw_outcomes K n) (by decide) (fun _ _ => rfl) (fun cdv A outer s H E hr => tm_raw_outcomes n T ih cdv A outer s H E hr) (fun dk a h => se_raw_outcomes n dk a h)⟩
theorem cal_raw_cost {f : Addr} {fd : FuncData} (T : Top K mg) (Z : Zo K) (c_raw_least_mean : Cal P w K mg base "raw_least_mean" 5 ps_raw_least_mean (sp_raw_least_mean K)) (c_raw_meaning : ∀ n, Cal P w K mg base "raw_meaning" (6 + 1 * n) ps_raw_meaning (sp_raw_meaning K n)) (c_plus : Cal P w K mg base "plus" 3 ps_plus (sp_plus K)) (c_total : Cal P w K mg base "total" 4 ps_total (sp_total K)) (c_times : Cal P w K mg base "times" 3 ps_times (sp_times K)) (c_over : Cal P w K mg base "over" 3 ps_over (sp_over K)) (c_raw_lot_chance : Cal P w K mg base "raw_lot_chance" 5 ps_raw_lot_chance (sp_raw_lot_chance K)) (hm : mg "raw_cost" = some (.ref f)) (kp : PySem.W.keepIn K (.ref f) = true) (F : FnD K "raw_cost" (top 67) f fd) : ∀ n, Cal P w K mg base "raw_cost" (6 + 1 * n) ps_raw_cost (sp_raw_cost K n)
  | 0 => ⟨f, fd, hm, kp, (F.bindsN fun _ _ _ _ _ _ us hl => match us, hl with | [_], _ => rfl), ok_false (fun vs H Q E h => by obtain ⟨dk, I, a, _, _, hp, _⟩ := h; exact at_false hp)⟩
  | n + 1 => ⟨f, fd, hm, kp, (F.bindsN fun _ _ _ _ _ _ us hl => match us, hl with | [_], _ => rfl), by
    have ih := cal_raw_cost T Z c_raw_least_mean c_raw_meaning c_plus c_total c_times c_over c_raw_lot_chance hm kp F n
    exact ok_pureL F sc_raw_cost (t_raw_cost K n) (by decide) (fun _ _ => rfl) (fun cdv A outer s H E hr => tm_raw_cost n T c_raw_least_mean ih (c_raw_meaning n) c_plus c_total c_times c_over c_raw_lot_chance cdv A outer s H E hr) (fun dk a h => se_raw_cost Z n dk a h)⟩
theorem cal_draw_lengths {f : Addr} {fd : FuncData} (T : Top K mg) (c_whole_of : Cal P w K mg base "whole_of" 1 ps_whole_of (sp_whole_of K)) (c_raw_digit : Cal P w K mg base "raw_digit" 2 ps_raw_digit (sp_raw_digit K)) (hm : mg "draw_lengths" = some (.ref f)) (kp : PySem.W.keepIn K (.ref f) = true) (F : FnD K "draw_lengths" (top 68) f fd) : Cal P w K mg base "draw_lengths" 3 ps_draw_lengths (sp_draw_lengths K) :=
  ⟨f, fd, hm, kp, (F.bindsN fun _ _ _ _ _ _ us hl => match us, hl with | [_, _], _ => rfl), ok_pureL F sc_draw_lengths (t_draw_lengths K) (by decide) (fun _ _ => rfl) (fun cdv A outer s H E hr => tm_draw_lengths T c_whole_of c_raw_digit cdv A outer s H E hr) (fun dk a h => se_draw_lengths dk a h)⟩
theorem cal_put_behind {f : Addr} {fd : FuncData} (T : Top K mg) (hm : mg "put_behind" = some (.ref f)) (kp : PySem.W.keepIn K (.ref f) = true) (F : FnD K "put_behind" (top 69) f fd) : Cal P w K mg base "put_behind" 1 ps_put_behind (sp_put_behind K) :=
  ⟨f, fd, hm, kp, (F.bindsN fun _ _ _ _ _ _ us hl => match us, hl with | [_, _, _, _], _ => rfl), FunD.okT F sc_put_behind (fun vs H Q E h => by obtain ⟨dk, I, f, rs, n, T, s, X, ways, C, cv, rfl, _⟩ := h; rfl) (t_put_behind K) (fun cdv A outer s H E hr => tm_put_behind T cdv A outer s H E hr) (fun vs H Q E h => se_put_behind vs H Q E h)⟩
theorem cal_bind_lengths {f : Addr} {fd : FuncData} (T : Top K mg) (c_put_behind : Cal P w K mg base "put_behind" 1 ps_put_behind (sp_put_behind K)) (hm : mg "bind_lengths" = some (.ref f)) (kp : PySem.W.keepIn K (.ref f) = true) (F : FnD K "bind_lengths" (top 70) f fd) : Cal P w K mg base "bind_lengths" 2 ps_bind_lengths (sp_bind_lengths K) :=
  ⟨f, fd, hm, kp, (F.bindsN fun _ _ _ _ _ _ us hl => match us, hl with | [_, _], _ => rfl), ok_pureL F sc_bind_lengths (t_bind_lengths K) (by decide) (fun _ _ => rfl) (fun cdv A outer s H E hr => tm_bind_lengths T c_put_behind cdv A outer s H E hr) (fun dk a h => se_bind_lengths dk a h)⟩
theorem cal_again_lengths {f : Addr} {fd : FuncData} (T : Top K mg) (hm : mg "again_lengths" = some (.ref f)) (kp : PySem.W.keepIn K (.ref f) = true) (F : FnD K "again_lengths" (top 71) f fd) : Cal P w K mg base "again_lengths" 1 ps_again_lengths (sp_again_lengths K) :=
  ⟨f, fd, hm, kp, (F.bindsN fun _ _ _ _ _ _ us hl => match us, hl with | [_, _], _ => rfl), ok_pureL F sc_again_lengths (t_again_lengths K) (by decide) (fun _ _ => rfl) (fun cdv A outer s H E hr => tm_again_lengths T cdv A outer s H E hr) (fun dk a h => se_again_lengths dk a h)⟩
theorem cal_raw_lengths {f : Addr} {fd : FuncData} (T : Top K mg) (c_draw_lengths : Cal P w K mg base "draw_lengths" 3 ps_draw_lengths (sp_draw_lengths K)) (c_bind_lengths : Cal P w K mg base "bind_lengths" 2 ps_bind_lengths (sp_bind_lengths K)) (c_again_lengths : Cal P w K mg base "again_lengths" 1 ps_again_lengths (sp_again_lengths K)) (hm : mg "raw_lengths" = some (.ref f)) (kp : PySem.W.keepIn K (.ref f) = true) (F : FnD K "raw_lengths" (top 72) f fd) : ∀ n, Cal P w K mg base "raw_lengths" (3 + 1 * n) ps_raw_lengths (sp_raw_lengths K n)
  | 0 => ⟨f, fd, hm, kp, (F.bindsN fun _ _ _ _ _ _ us hl => match us, hl with | [_, _], _ => rfl), ok_false (fun vs H Q E h => by obtain ⟨dk, I, a, _, _, hp, _⟩ := h; exact at_false hp.1)⟩
  | n + 1 => ⟨f, fd, hm, kp, (F.bindsN fun _ _ _ _ _ _ us hl => match us, hl with | [_, _], _ => rfl), by
    have ih := cal_raw_lengths T c_draw_lengths c_bind_lengths c_again_lengths hm kp F n
    exact ok_pureL F sc_raw_lengths (t_raw_lengths K n) (by decide) (fun _ _ => rfl) (fun cdv A outer s H E hr => tm_raw_lengths n T c_draw_lengths ih c_bind_lengths c_again_lengths cdv A outer s H E hr) (fun dk a h => se_raw_lengths n dk a h)⟩
theorem cal_raw_made_tails {f : Addr} {fd : FuncData} (T : Top K mg) (Z : Zo K) (c_raw_lengths : ∀ n, Cal P w K mg base "raw_lengths" (3 + 1 * n) ps_raw_lengths (sp_raw_lengths K n)) (c_minus : Cal P w K mg base "minus" 3 ps_minus (sp_minus K)) (c_shifted : Cal P w K mg base "shifted" 3 ps_shifted (sp_shifted K)) (hm : mg "raw_made_tails" = some (.ref f)) (kp : PySem.W.keepIn K (.ref f) = true) (F : FnD K "raw_made_tails" (top 73) f fd) : Cal P w K mg base "raw_made_tails" 8 ps_raw_made_tails (sp_raw_made_tails K) :=
  ⟨f, fd, hm, kp, (F.bindsN fun _ _ _ _ _ _ us hl => match us, hl with | [_, _], _ => rfl), ok_pureL F sc_raw_made_tails (t_raw_made_tails K) (by decide) (fun _ _ => rfl) (fun cdv A outer s H E hr => tm_raw_made_tails T (c_raw_lengths 4) c_minus c_shifted cdv A outer s H E hr) (fun dk a h => se_raw_made_tails Z dk a h)⟩
theorem cal_plain_cost {f : Addr} {fd : FuncData} (T : Top K mg) (c_need_closed : Cal P w K mg base "need_closed" 17 ps_need_closed (sp_need_closed K)) (c_raw_cost : ∀ n, Cal P w K mg base "raw_cost" (6 + 1 * n) ps_raw_cost (sp_raw_cost K n)) (hm : mg "plain_cost" = some (.ref f)) (kp : PySem.W.keepIn K (.ref f) = true) (F : FnD K "plain_cost" (top 75) f fd) : Cal P w K mg base "plain_cost" 18 ps_plain_cost (sp_plain_cost K) :=
  ⟨f, fd, hm, kp, (F.bindsN fun _ _ _ _ _ _ us hl => match us, hl with | [_], _ => rfl), ok_pureL F sc_plain_cost (t_plain_cost K) (by decide) (fun _ _ => rfl) (fun cdv A outer s H E hr => tm_plain_cost T c_need_closed (c_raw_cost 4) cdv A outer s H E hr) (fun dk a h => se_plain_cost dk a h)⟩
theorem cal_length_chance {f : Addr} {fd : FuncData} (T : Top K mg) (c_need_closed : Cal P w K mg base "need_closed" 17 ps_need_closed (sp_need_closed K)) (c_is_between : Cal P w K mg base "is_between" 2 ps_is_between (sp_is_between K)) (c_raw_outcomes : ∀ n, Cal P w K mg base "raw_outcomes" (0 + 1 * n) ps_raw_outcomes (sp_raw_outcomes K n)) (c_need_count : Cal P w K mg base "need_count" 3 ps_need_count (sp_need_count K)) (c_shifted : Cal P w K mg base "shifted" 3 ps_shifted (sp_shifted K)) (c_raw_lengths : ∀ n, Cal P w K mg base "raw_lengths" (3 + 1 * n) ps_raw_lengths (sp_raw_lengths K n)) (hm : mg "length_chance" = some (.ref f)) (kp : PySem.W.keepIn K (.ref f) = true) (F : FnD K "length_chance" (top 76) f fd) : Cal P w K mg base "length_chance" 18 ps_length_chance (sp_length_chance K) :=
  ⟨f, fd, hm, kp, (F.bindsN fun _ _ _ _ _ _ us hl => match us, hl with | [_, _, _], _ => rfl), ok_pureL F sc_length_chance (t_length_chance K) (by decide) (fun _ _ => rfl) (fun cdv A outer s H E hr => tm_length_chance T c_need_closed c_is_between (c_raw_outcomes 4) c_need_count c_shifted (c_raw_lengths 4) cdv A outer s H E hr) (fun dk a h => se_length_chance dk a h)⟩
theorem cal_made_tail {f : Addr} {fd : FuncData} (T : Top K mg) (c_need_closed : Cal P w K mg base "need_closed" 17 ps_need_closed (sp_need_closed K)) (c_need_count : Cal P w K mg base "need_count" 3 ps_need_count (sp_need_count K)) (c_raw_made_tails : Cal P w K mg base "raw_made_tails" 8 ps_raw_made_tails (sp_raw_made_tails K)) (hm : mg "made_tail" = some (.ref f)) (kp : PySem.W.keepIn K (.ref f) = true) (F : FnD K "made_tail" (top 77) f fd) : Cal P w K mg base "made_tail" 18 ps_made_tail (sp_made_tail K) :=
  ⟨f, fd, hm, kp, (F.bindsN fun _ _ _ _ _ _ us hl => match us, hl with | [_, _], _ => rfl), ok_pureL F sc_made_tail (t_made_tail K) (by decide) (fun _ _ => rfl) (fun cdv A outer s H E hr => tm_made_tail T c_need_closed c_need_count c_raw_made_tails cdv A outer s H E hr) (fun dk a h => se_made_tail dk a h)⟩
theorem cal_law_deck {f : Addr} {fd : FuncData} (T : Top K mg) (hm : mg "_law_deck" = some (.ref f)) (kp : PySem.W.keepIn K (.ref f) = true) (F : FnD K "_law_deck" (top 79) f fd) : Cal P w K mg base "_law_deck" 1 ps_law_deck (sp_law_deck K) :=
  ⟨f, fd, hm, kp, (F.bindsN fun _ _ _ _ _ _ us hl => match us, hl with | [_], _ => rfl), FunD.okT F sc_law_deck (fun vs H Q E h => by obtain ⟨a, ns, rfl, _⟩ := h; rfl) (t_law_deck K) (fun cdv A outer s H E hr => tm_law_deck T cdv A outer s H E hr) (fun vs H Q E h => sem_law_deck vs H Q E h)⟩
theorem cal_law_draw {f : Addr} {fd : FuncData} (T : Top K mg) (hm : mg "_law_draw" = some (.ref f)) (kp : PySem.W.keepIn K (.ref f) = true) (F : FnD K "_law_draw" (top 80) f fd) : Cal P w K mg base "_law_draw" 1 ps_law_draw (sp_law_draw K) :=
  ⟨f, fd, hm, kp, (F.bindsN fun _ _ _ _ _ _ us hl => match us, hl with | [_, _], _ => rfl), FunD.okT F sc_law_draw (fun vs H Q E h => by obtain ⟨p, I, ws, a, rfl, _, r, _⟩ := h; rw [List.length_cons, r.len]; rfl) (t_law_draw K) (fun cdv A outer s H E hr => tm_law_draw T cdv A outer s H E hr) (fun vs H Q E h => sem_law_draw vs H Q E h)⟩
theorem cal_law_pick {f : Addr} {fd : FuncData} (T : Top K mg) (c_law_draw : Cal P w K mg base "_law_draw" 1 ps_law_draw (sp_law_draw K)) (hm : mg "_law_pick" = some (.ref f)) (kp : PySem.W.keepIn K (.ref f) = true) (F : FnD K "_law_pick" (top 81) f fd) : Cal P w K mg base "_law_pick" 2 ps_law_pick (sp_law_pick K) :=
  ⟨f, fd, hm, kp, (F.bindsN fun _ _ _ _ _ _ us hl => match us, hl with | [_, _], _ => rfl), ok_deckL F sc_law_pick (t_law_pick K) (by decide) (fun _ _ => rfl) (fun cdv A outer s H E hr => tm_law_pick T c_law_draw cdv A outer s H E hr) (fun p a h => se_law_pick p a h)⟩
theorem cal_law_common {f : Addr} {fd : FuncData} (T : Top K mg) (hm : mg "_law_common" = some (.ref f)) (kp : PySem.W.keepIn K (.ref f) = true) (F : FnD K "_law_common" (top 82) f fd) : Cal P w K mg base "_law_common" 1 ps_law_common (sp_law_common K) :=
  ⟨f, fd, hm, kp, (F.bindsN fun _ _ _ _ _ _ us hl => match us, hl with | [_, _], _ => rfl), ok_pureL F sc_law_common (t_law_common K) (by decide) (fun _ _ => rfl) (fun cdv A outer s H E hr => tm_law_common T cdv A outer s H E hr) (fun dk a h => se_law_common dk a h)⟩
theorem cal_law_fraction {f : Addr} {fd : FuncData} (T : Top K mg) (c_law_common : Cal P w K mg base "_law_common" 1 ps_law_common (sp_law_common K)) (hm : mg "_law_fraction" = some (.ref f)) (kp : PySem.W.keepIn K (.ref f) = true) (F : FnD K "_law_fraction" (top 83) f fd) : Cal P w K mg base "_law_fraction" 2 ps_law_fraction (sp_law_fraction K) :=
  ⟨f, fd, hm, kp, (F.bindsN fun _ _ _ _ _ _ us hl => match us, hl with | [_, _], _ => rfl), ok_pureL F sc_law_fraction (t_law_fraction K) (by decide) (fun _ _ => rfl) (fun cdv A outer s H E hr => tm_law_fraction T c_law_common cdv A outer s H E hr) (fun dk a h => se_law_fraction dk a h)⟩
theorem cal_law_plus {f : Addr} {fd : FuncData} (T : Top K mg) (c_law_fraction : Cal P w K mg base "_law_fraction" 2 ps_law_fraction (sp_law_fraction K)) (hm : mg "_law_plus" = some (.ref f)) (kp : PySem.W.keepIn K (.ref f) = true) (F : FnD K "_law_plus" (top 84) f fd) : Cal P w K mg base "_law_plus" 3 ps_law_plus (sp_law_plus K) :=
  ⟨f, fd, hm, kp, (F.bindsN fun _ _ _ _ _ _ us hl => match us, hl with | [_, _], _ => rfl), ok_pureL F sc_law_plus (t_law_plus K) (by decide) (fun _ _ => rfl) (fun cdv A outer s H E hr => tm_law_plus T c_law_fraction cdv A outer s H E hr) (fun dk a h => se_law_plus dk a h)⟩
theorem cal_law_minus {f : Addr} {fd : FuncData} (T : Top K mg) (c_law_fraction : Cal P w K mg base "_law_fraction" 2 ps_law_fraction (sp_law_fraction K)) (hm : mg "_law_minus" = some (.ref f)) (kp : PySem.W.keepIn K (.ref f) = true) (F : FnD K "_law_minus" (top 85) f fd) : Cal P w K mg base "_law_minus" 3 ps_law_minus (sp_law_minus K) :=
  ⟨f, fd, hm, kp, (F.bindsN fun _ _ _ _ _ _ us hl => match us, hl with | [_, _], _ => rfl), ok_pureL F sc_law_minus (t_law_minus K) (by decide) (fun _ _ => rfl) (fun cdv A outer s H E hr => tm_law_minus T c_law_fraction cdv A outer s H E hr) (fun dk a h => se_law_minus dk a h)⟩
theorem cal_law_times {f : Addr} {fd : FuncData} (T : Top K mg) (c_law_fraction : Cal P w K mg base "_law_fraction" 2 ps_law_fraction (sp_law_fraction K)) (hm : mg "_law_times" = some (.ref f)) (kp : PySem.W.keepIn K (.ref f) = true) (F : FnD K "_law_times" (top 86) f fd) : Cal P w K mg base "_law_times" 3 ps_law_times (sp_law_times K) :=
  ⟨f, fd, hm, kp, (F.bindsN fun _ _ _ _ _ _ us hl => match us, hl with | [_, _], _ => rfl), ok_pureL F sc_law_times (t_law_times K) (by decide) (fun _ _ => rfl) (fun cdv A outer s H E hr => tm_law_times T c_law_fraction cdv A outer s H E hr) (fun dk a h => se_law_times dk a h)⟩
theorem cal_law_over {f : Addr} {fd : FuncData} (T : Top K mg) (c_law_fraction : Cal P w K mg base "_law_fraction" 2 ps_law_fraction (sp_law_fraction K)) (hm : mg "_law_over" = some (.ref f)) (kp : PySem.W.keepIn K (.ref f) = true) (F : FnD K "_law_over" (top 87) f fd) : Cal P w K mg base "_law_over" 3 ps_law_over (sp_law_over K) :=
  ⟨f, fd, hm, kp, (F.bindsN fun _ _ _ _ _ _ us hl => match us, hl with | [_, _], _ => rfl), ok_pureL F sc_law_over (t_law_over K) (by decide) (fun _ _ => rfl) (fun cdv A outer s H E hr => tm_law_over T c_law_fraction cdv A outer s H E hr) (fun dk a h => se_law_over dk a h)⟩
theorem cal_law_total {f : Addr} {fd : FuncData} (T : Top K mg) (c_law_plus : Cal P w K mg base "_law_plus" 3 ps_law_plus (sp_law_plus K)) (hm : mg "_law_total" = some (.ref f)) (kp : PySem.W.keepIn K (.ref f) = true) (F : FnD K "_law_total" (top 88) f fd) : Cal P w K mg base "_law_total" 4 ps_law_total (sp_law_total K) :=
  ⟨f, fd, hm, kp, (F.bindsN fun _ _ _ _ _ _ us hl => match us, hl with | [_], _ => rfl), ok_pureL F sc_law_total (t_law_total K) (by decide) (fun _ _ => rfl) (fun cdv A outer s H E hr => tm_law_total T c_law_plus cdv A outer s H E hr) (fun dk a h => se_law_total dk a h)⟩
theorem cal_law_is_less {f : Addr} {fd : FuncData} (T : Top K mg) (hm : mg "_law_is_less" = some (.ref f)) (kp : PySem.W.keepIn K (.ref f) = true) (F : FnD K "_law_is_less" (top 89) f fd) : Cal P w K mg base "_law_is_less" 1 ps_law_is_less (sp_law_is_less K) :=
  ⟨f, fd, hm, kp, (F.bindsN fun _ _ _ _ _ _ us hl => match us, hl with | [_, _], _ => rfl), ok_pureL F sc_law_is_less (t_law_is_less K) (by decide) (fun _ _ => rfl) (fun cdv A outer s H E hr => tm_law_is_less T cdv A outer s H E hr) (fun dk a h => se_law_is_less dk a h)⟩
theorem cal_law_table {f : Addr} {fd : FuncData} (T : Top K mg) (c_law_pick : Cal P w K mg base "_law_pick" 2 ps_law_pick (sp_law_pick K)) (c_law_draw : Cal P w K mg base "_law_draw" 1 ps_law_draw (sp_law_draw K)) (c_law_fraction : Cal P w K mg base "_law_fraction" 2 ps_law_fraction (sp_law_fraction K)) (hm : mg "_law_table" = some (.ref f)) (kp : PySem.W.keepIn K (.ref f) = true) (F : FnD K "_law_table" (top 90) f fd) : Cal P w K mg base "_law_table" 3 ps_law_table (sp_law_table K) :=
  ⟨f, fd, hm, kp, (F.bindsN fun _ _ _ _ _ _ us hl => match us, hl with | [_, _, _], _ => rfl), ok_deckL F sc_law_table (t_law_table K) (by decide) (fun _ _ => rfl) (fun cdv A outer s H E hr => tm_law_table T c_law_pick c_law_draw c_law_fraction cdv A outer s H E hr) (fun p a h => se_law_table p a.1 a.2 h)⟩
theorem cal_law_digits {f : Addr} {fd : FuncData} (T : Top K mg) (hm : mg "_law_digits" = some (.ref f)) (kp : PySem.W.keepIn K (.ref f) = true) (F : FnD K "_law_digits" (top 91) f fd) : Cal P w K mg base "_law_digits" 1 ps_law_digits (sp_law_digits K) :=
  ⟨f, fd, hm, kp, (F.bindsN fun _ _ _ _ _ _ us hl => match us, hl with | [_, _], _ => rfl), ok_pureL F sc_law_digits (t_law_digits K) (by decide) (fun _ _ => rfl) (fun cdv A outer s H E hr => tm_law_digits T cdv A outer s H E hr) (fun dk a h => se_law_digits dk a h)⟩
theorem cal_law_lot_chance {f : Addr} {fd : FuncData} (T : Top K mg) (c_law_total : Cal P w K mg base "_law_total" 4 ps_law_total (sp_law_total K)) (hm : mg "_law_lot_chance" = some (.ref f)) (kp : PySem.W.keepIn K (.ref f) = true) (F : FnD K "_law_lot_chance" (top 92) f fd) : Cal P w K mg base "_law_lot_chance" 5 ps_law_lot_chance (sp_law_lot_chance K) :=
  ⟨f, fd, hm, kp, (F.bindsN fun _ _ _ _ _ _ us hl => match us, hl with | [_, _], _ => rfl), ok_pureL F sc_law_lot_chance (t_law_lot_chance K) (by decide) (fun _ _ => rfl) (fun cdv A outer s H E hr => tm_law_lot_chance T c_law_total cdv A outer s H E hr) (fun dk a h => se_law_lot_chance dk a h)⟩
theorem cal_law_outcomes {f : Addr} {fd : FuncData} (T : Top K mg) (hm : mg "_law_outcomes" = some (.ref f)) (kp : PySem.W.keepIn K (.ref f) = true) (F : FnD K "_law_outcomes" (top 93) f fd) : ∀ n, Cal P w K mg base "_law_outcomes" (0 + 1 * n) ps_law_outcomes (sp_law_outcomes K n)
  | 0 => ⟨f, fd, hm, kp, (F.bindsN fun _ _ _ _ _ _ us hl => match us, hl with | [_], _ => rfl), ok_false (fun vs H Q E h => by obtain ⟨dk, I, a, _, _, hp, _⟩ := h; exact at_false hp)⟩
  | n + 1 => ⟨f, fd, hm, kp, (F.bindsN fun _ _ _ _ _ _ us hl => match us, hl with | [_], _ => rfl), by
    have ih := cal_law_outcomes T hm kp F n
    exact ok_pureL F sc_law_outcomes (t_law_outcomes K n) (by decide) (fun _ _ => rfl) (fun cdv A outer s H E hr => tm_law_outcomes n T ih cdv A outer s H E hr) (fun dk a h => se_law_outcomes n dk a h)⟩
theorem cal_law_meaning {f : Addr} {fd : FuncData} (T : Top K mg) (c_law_outcomes : ∀ n, Cal P w K mg base "_law_outcomes" (0 + 1 * n) ps_law_outcomes (sp_law_outcomes K n)) (c_law_plus : Cal P w K mg base "_law_plus" 3 ps_law_plus (sp_law_plus K)) (c_law_times : Cal P w K mg base "_law_times" 3 ps_law_times (sp_law_times K)) (c_law_lot_chance : Cal P w K mg base "_law_lot_chance" 5 ps_law_lot_chance (sp_law_lot_chance K)) (c_law_over : Cal P w K mg base "_law_over" 3 ps_law_over (sp_law_over K)) (hm : mg "_law_meaning" = some (.ref f)) (kp : PySem.W.keepIn K (.ref f) = true) (F : FnD K "_law_meaning" (top 94) f fd) : ∀ n, Cal P w K mg base "_law_meaning" (5 + 1 * n) ps_law_meaning (sp_law_meaning K n)
  | 0 => ⟨f, fd, hm, kp, (F.bindsN fun _ _ _ _ _ _ us hl => match us, hl with | [_], _ => rfl), ok_false (fun vs H Q E h => by obtain ⟨dk, I, a, _, _, hp, _⟩ := h; exact at_false hp)⟩
  | n + 1 => ⟨f, fd, hm, kp, (F.bindsN fun _ _ _ _ _ _ us hl => match us, hl with | [_], _ => rfl), by
    have ih := cal_law_meaning T c_law_outcomes c_law_plus c_law_times c_law_lot_chance c_law_over hm kp F n
    exact ok_pureL F sc_law_meaning (t_law_meaning K n) (by decide) (fun _ _ => rfl) (fun cdv A outer s H E hr => tm_law_meaning n T (c_law_outcomes (n + 1)) ih c_law_plus c_law_times c_law_lot_chance c_law_over cdv A outer s H E hr) (fun dk a h => se_law_meaning n dk a h)⟩
theorem cal_law_behind {f : Addr} {fd : FuncData} (T : Top K mg) (hm : mg "_law_behind" = some (.ref f)) (kp : PySem.W.keepIn K (.ref f) = true) (F : FnD K "_law_behind" (top 95) f fd) : Cal P w K mg base "_law_behind" 1 ps_law_behind (sp_law_behind K) :=
  ⟨f, fd, hm, kp, (F.bindsN fun _ _ _ _ _ _ us hl => match us, hl with | [_, _, _], _ => rfl), ok_pureL F sc_law_behind (t_law_behind K) (by decide) (fun _ _ => rfl) (fun cdv A outer s H E hr => tm_law_behind T cdv A outer s H E hr) (fun dk a h => se_law_behind dk a h)⟩
theorem cal_law_rows {f : Addr} {fd : FuncData} (T : Top K mg) (c_law_outcomes : ∀ n, Cal P w K mg base "_law_outcomes" (0 + 1 * n) ps_law_outcomes (sp_law_outcomes K n)) (c_law_digits : Cal P w K mg base "_law_digits" 1 ps_law_digits (sp_law_digits K)) (c_law_behind : Cal P w K mg base "_law_behind" 1 ps_law_behind (sp_law_behind K)) (hm : mg "_law_rows" = some (.ref f)) (kp : PySem.W.keepIn K (.ref f) = true) (F : FnD K "_law_rows" (top 96) f fd) : ∀ n, Cal P w K mg base "_law_rows" (1 + 1 * n) ps_law_rows (sp_law_rows K n)
  | 0 => ⟨f, fd, hm, kp, (F.bindsN fun _ _ _ _ _ _ us hl => match us, hl with | [_, _], _ => rfl), ok_false (fun vs H Q E h => by obtain ⟨dk, I, a, _, _, hp, _⟩ := h; exact at_false hp.1)⟩
  | n + 1 => ⟨f, fd, hm, kp, (F.bindsN fun _ _ _ _ _ _ us hl => match us, hl with | [_, _], _ => rfl), by
    have ih := cal_law_rows T c_law_outcomes c_law_digits c_law_behind hm kp F n
    exact ok_pureL F sc_law_rows (t_law_rows K n) (by decide) (fun _ _ => rfl) (fun cdv A outer s H E hr => tm_law_rows n T (c_law_outcomes (n + 1)) c_law_digits ih c_law_behind cdv A outer s H E hr) (fun dk a h => se_law_rows n dk a h)⟩
theorem cal_law_made_tail {f : Addr} {fd : FuncData} (T : Top K mg) (c_law_fraction : Cal P w K mg base "_law_fraction" 2 ps_law_fraction (sp_law_fraction K)) (hm : mg "_law_made_tail" = some (.ref f)) (kp : PySem.W.keepIn K (.ref f) = true) (F : FnD K "_law_made_tail" (top 97) f fd) : Cal P w K mg base "_law_made_tail" 3 ps_law_made_tail (sp_law_made_tail K) :=
  ⟨f, fd, hm, kp, (F.bindsN fun _ _ _ _ _ _ us hl => match us, hl with | [_, _], _ => rfl), ok_pureL F sc_law_made_tail (t_law_made_tail K) (by decide) (fun _ _ => rfl) (fun cdv A outer s H E hr => tm_law_made_tail T c_law_fraction cdv A outer s H E hr) (fun dk a h => se_law_made_tail dk a h)⟩
theorem cal_law_floor {f : Addr} {fd : FuncData} (T : Top K mg) (c_law_fraction : Cal P w K mg base "_law_fraction" 2 ps_law_fraction (sp_law_fraction K)) (hm : mg "_law_floor" = some (.ref f)) (kp : PySem.W.keepIn K (.ref f) = true) (F : FnD K "_law_floor" (top 98) f fd) : Cal P w K mg base "_law_floor" 3 ps_law_floor (sp_law_floor K) :=
  ⟨f, fd, hm, kp, (F.bindsN fun _ _ _ _ _ _ us hl => match us, hl with | [_, _], _ => rfl), ok_pureL F sc_law_floor (t_law_floor K) (by decide) (fun _ _ => rfl) (fun cdv A outer s H E hr => tm_law_floor T c_law_fraction cdv A outer s H E hr) (fun dk a h => se_law_floor dk a h)⟩
theorem cal_law_bottoms {f : Addr} {fd : FuncData} (T : Top K mg) (hm : mg "_law_bottoms" = some (.ref f)) (kp : PySem.W.keepIn K (.ref f) = true) (F : FnD K "_law_bottoms" (top 99) f fd) : Cal P w K mg base "_law_bottoms" 1 ps_law_bottoms (sp_law_bottoms K) :=
  ⟨f, fd, hm, kp, (F.bindsN fun _ _ _ _ _ _ us hl => match us, hl with | [], _ => rfl), ok_pureL F sc_law_bottoms (t_law_bottoms K) (by decide) (fun _ _ => rfl) (fun cdv A outer s H E hr => tm_law_bottoms T cdv A outer s H E hr) (fun dk a h => se_law_bottoms dk a h)⟩
theorem cal_law_closed {f : Addr} {fd : FuncData} (T : Top K mg) (c_law_draw : Cal P w K mg base "_law_draw" 1 ps_law_draw (sp_law_draw K)) (c_law_table : Cal P w K mg base "_law_table" 3 ps_law_table (sp_law_table K)) (c_law_bottoms : Cal P w K mg base "_law_bottoms" 1 ps_law_bottoms (sp_law_bottoms K)) (c_law_lot_chance : Cal P w K mg base "_law_lot_chance" 5 ps_law_lot_chance (sp_law_lot_chance K)) (c_law_meaning : ∀ n, Cal P w K mg base "_law_meaning" (5 + 1 * n) ps_law_meaning (sp_law_meaning K n)) (hm : mg "_law_closed" = some (.ref f)) (kp : PySem.W.keepIn K (.ref f) = true) (F : FnD K "_law_closed" (top 100) f fd) : ∀ n, Cal P w K mg base "_law_closed" (9 + 1 * n) ps_law_closed (sp_law_closed K n)
  | 0 => ⟨f, fd, hm, kp, (F.bindsN fun _ _ _ _ _ _ us hl => match us, hl with | [_, _, _], _ => rfl), ok_false (fun vs H Q E h => by obtain ⟨p, I, ws, a, _, _, _, hp, _⟩ := h; exact absurd hp.2.2.1 (Nat.not_lt_zero _))⟩
  | n + 1 => ⟨f, fd, hm, kp, (F.bindsN fun _ _ _ _ _ _ us hl => match us, hl with | [_, _, _], _ => rfl), by
    have ih := cal_law_closed T c_law_draw c_law_table c_law_bottoms c_law_lot_chance c_law_meaning hm kp F n
    exact ok_deckL F sc_law_closed (t_law_closed K n) (by decide) (fun _ _ => rfl) (fun cdv A outer s H E hr => tm_law_closed n T c_law_draw c_law_table c_law_bottoms ih c_law_lot_chance (c_law_meaning 4) cdv A outer s H E hr) (fun p a h => se_law_closed p n a.1 a.2 h)⟩
theorem cal_law_is_let {f : Addr} {fd : FuncData} (T : Top K mg) (hm : mg "_law_is_let" = some (.ref f)) (kp : PySem.W.keepIn K (.ref f) = true) (F : FnD K "_law_is_let" (top 101) f fd) : Cal P w K mg base "_law_is_let" 1 ps_law_is_let (sp_law_is_let K) :=
  ⟨f, fd, hm, kp, (F.bindsN fun _ _ _ _ _ _ us hl => match us, hl with | [_], _ => rfl), ok_pureL F sc_law_is_let (t_law_is_let K) (by decide) (fun _ _ => rfl) (fun cdv A outer s H E hr => tm_law_is_let T cdv A outer s H E hr) (fun dk a h => se_law_is_let dk a h)⟩
theorem cal_law_size {f : Addr} {fd : FuncData} (T : Top K mg) (c_law_is_let : Cal P w K mg base "_law_is_let" 1 ps_law_is_let (sp_law_is_let K)) (c_law_meaning : ∀ n, Cal P w K mg base "_law_meaning" (5 + 1 * n) ps_law_meaning (sp_law_meaning K n)) (hm : mg "_law_size" = some (.ref f)) (kp : PySem.W.keepIn K (.ref f) = true) (F : FnD K "_law_size" (top 102) f fd) : ∀ n, Cal P w K mg base "_law_size" (6 + 1 * n) ps_law_size (sp_law_size K n)
  | 0 => ⟨f, fd, hm, kp, (F.bindsN fun _ _ _ _ _ _ us hl => match us, hl with | [_], _ => rfl), ok_false (fun vs H Q E h => by obtain ⟨dk, I, a, _, _, hp, _⟩ := h; exact at_false hp)⟩
  | n + 1 => ⟨f, fd, hm, kp, (F.bindsN fun _ _ _ _ _ _ us hl => match us, hl with | [_], _ => rfl), by
    have ih := cal_law_size T c_law_is_let c_law_meaning hm kp F n
    exact ok_pureL F sc_law_size (t_law_size K n) (by decide) (fun _ _ => rfl) (fun cdv A outer s H E hr => tm_law_size n T c_law_is_let (c_law_meaning (n + 1)) ih cdv A outer s H E hr) (fun dk a h => se_law_size n dk a h)⟩
theorem cal_law_parts {f : Addr} {fd : FuncData} (T : Top K mg) (hm : mg "_law_parts" = some (.ref f)) (kp : PySem.W.keepIn K (.ref f) = true) (F : FnD K "_law_parts" (top 103) f fd) : ∀ n, Cal P w K mg base "_law_parts" (0 + 1 * n) ps_law_parts (sp_law_parts K n)
  | 0 => ⟨f, fd, hm, kp, (F.bindsN fun _ _ _ _ _ _ us hl => match us, hl with | [_], _ => rfl), ok_false (fun vs H Q E h => by obtain ⟨dk, I, a, _, _, hp, _⟩ := h; exact at_false hp)⟩
  | n + 1 => ⟨f, fd, hm, kp, (F.bindsN fun _ _ _ _ _ _ us hl => match us, hl with | [_], _ => rfl), by
    have ih := cal_law_parts T hm kp F n
    exact ok_pureL F sc_law_parts (t_law_parts K n) (by decide) (fun _ _ => rfl) (fun cdv A outer s H E hr => tm_law_parts n T ih cdv A outer s H E hr) (fun dk a h => se_law_parts n dk a h)⟩
theorem cal_law_program {f : Addr} {fd : FuncData} (T : Top K mg) (c_law_draw : Cal P w K mg base "_law_draw" 1 ps_law_draw (sp_law_draw K)) (c_law_closed : ∀ n, Cal P w K mg base "_law_closed" (9 + 1 * n) ps_law_closed (sp_law_closed K n)) (c_law_pick : Cal P w K mg base "_law_pick" 2 ps_law_pick (sp_law_pick K)) (c_law_size : ∀ n, Cal P w K mg base "_law_size" (6 + 1 * n) ps_law_size (sp_law_size K n)) (c_law_parts : ∀ n, Cal P w K mg base "_law_parts" (0 + 1 * n) ps_law_parts (sp_law_parts K n)) (c_law_table : Cal P w K mg base "_law_table" 3 ps_law_table (sp_law_table K)) (c_law_bottoms : Cal P w K mg base "_law_bottoms" 1 ps_law_bottoms (sp_law_bottoms K)) (hm : mg "_law_program" = some (.ref f)) (kp : PySem.W.keepIn K (.ref f) = true) (F : FnD K "_law_program" (top 104) f fd) : Cal P w K mg base "_law_program" 14 ps_law_program (sp_law_program K) :=
  ⟨f, fd, hm, kp, (F.bindsN fun _ _ _ _ _ _ us hl => match us, hl with | [_, _], _ => rfl), ok_deckL F sc_law_program (t_law_program K) (by decide) (fun _ _ => rfl) (fun cdv A outer s H E hr => tm_law_program T c_law_draw (c_law_closed 4) c_law_pick (c_law_size 4) (c_law_parts 4) c_law_table c_law_bottoms cdv A outer s H E hr) (fun p a h => se_law_program p a h)⟩
theorem cal_law_are_lengths_right {f : Addr} {fd : FuncData} (T : Top K mg) (c_law_made_tail : Cal P w K mg base "_law_made_tail" 3 ps_law_made_tail (sp_law_made_tail K)) (c_law_meaning : ∀ n, Cal P w K mg base "_law_meaning" (5 + 1 * n) ps_law_meaning (sp_law_meaning K n)) (c_law_draw : Cal P w K mg base "_law_draw" 1 ps_law_draw (sp_law_draw K)) (c_law_fraction : Cal P w K mg base "_law_fraction" 2 ps_law_fraction (sp_law_fraction K)) (c_length_chance : Cal P w K mg base "length_chance" 18 ps_length_chance (sp_length_chance K)) (c_made_tail : Cal P w K mg base "made_tail" 18 ps_made_tail (sp_made_tail K)) (c_floor_at : Cal P w K mg base "floor_at" 7 ps_floor_at (sp_floor_at K)) (c_law_is_less : Cal P w K mg base "_law_is_less" 1 ps_law_is_less (sp_law_is_less K)) (c_law_floor : Cal P w K mg base "_law_floor" 3 ps_law_floor (sp_law_floor K)) (c_law_total : Cal P w K mg base "_law_total" 4 ps_law_total (sp_law_total K)) (c_plain_cost : Cal P w K mg base "plain_cost" 18 ps_plain_cost (sp_plain_cost K)) (k_length_chance : CalK P w K mg base "length_chance" 18 ps_length_chance ["t", "outcome", "program"] gv_3 (sp_length_chance K)) (k_made_tail : CalK P w K mg base "made_tail" 18 ps_made_tail ["t", "program"] gv_2 (sp_made_tail K)) (hm : mg "_law_are_lengths_right" = some (.ref f)) (kp : PySem.W.keepIn K (.ref f) = true) (F : FnD K "_law_are_lengths_right" (top 105) f fd) : CalG P w K mg base "_law_are_lengths_right" 19 ps_law_are_lengths_right (sp_law_are_lengths_right K) :=
  ⟨f, fd, hm, kp, (F.bindsN fun _ _ _ _ _ _ us hl => match us, hl with | [_, _, _, _], _ => rfl), ok_deckG F sc_law_are_lengths_right (t_law_are_lengths_right K) (by decide) (fun _ _ => rfl) (fun cdv A outer s H E hgd hr => tm_law_are_lengths_right T c_law_made_tail (c_law_meaning 4) c_law_draw c_law_fraction c_length_chance c_made_tail c_floor_at c_law_is_less c_law_floor c_law_total c_plain_cost k_length_chance k_made_tail cdv A outer s H E hgd hr) (fun p a h => se_law_are_lengths_right p a.1 a.2 h)⟩
theorem cal_law_falls {f : Addr} {fd : FuncData} (T : Top K mg) (c_length_chance : Cal P w K mg base "length_chance" 18 ps_length_chance (sp_length_chance K)) (c_law_minus : Cal P w K mg base "_law_minus" 3 ps_law_minus (sp_law_minus K)) (c_made_tail : Cal P w K mg base "made_tail" 18 ps_made_tail (sp_made_tail K)) (c_law_total : Cal P w K mg base "_law_total" 4 ps_law_total (sp_law_total K)) (hm : mg "_law_falls" = some (.ref f)) (kp : PySem.W.keepIn K (.ref f) = true) (F : FnD K "_law_falls" (top 106) f fd) : CalG P w K mg base "_law_falls" 19 ps_law_falls (sp_law_falls K) :=
  ⟨f, fd, hm, kp, (F.bindsN fun _ _ _ _ _ _ us hl => match us, hl with | [_, _, _], _ => rfl), ok_pureG F sc_law_falls (t_law_falls K) (by decide) (fun _ _ => rfl) (fun cdv A outer s H E hgd hr => tm_law_falls T c_length_chance c_law_minus c_made_tail c_law_total cdv A outer s H E hgd hr) (fun dk a h => se_law_falls dk a.1 a.2 h)⟩
theorem cal_law_is_far_right {f : Addr} {fd : FuncData} (T : Top K mg) (c_law_table : Cal P w K mg base "_law_table" 3 ps_law_table (sp_law_table K)) (c_law_bottoms : Cal P w K mg base "_law_bottoms" 1 ps_law_bottoms (sp_law_bottoms K)) (c_law_draw : Cal P w K mg base "_law_draw" 1 ps_law_draw (sp_law_draw K)) (c_law_fraction : Cal P w K mg base "_law_fraction" 2 ps_law_fraction (sp_law_fraction K)) (c_law_digits : Cal P w K mg base "_law_digits" 1 ps_law_digits (sp_law_digits K)) (c_made_tail : Cal P w K mg base "made_tail" 18 ps_made_tail (sp_made_tail K)) (c_length_chance : Cal P w K mg base "length_chance" 18 ps_length_chance (sp_length_chance K)) (c_law_floor : Cal P w K mg base "_law_floor" 3 ps_law_floor (sp_law_floor K)) (hm : mg "_law_is_far_right" = some (.ref f)) (kp : PySem.W.keepIn K (.ref f) = true) (F : FnD K "_law_is_far_right" (top 107) f fd) : CalG P w K mg base "_law_is_far_right" 19 ps_law_is_far_right (sp_law_is_far_right K) :=
  ⟨f, fd, hm, kp, (F.bindsN fun _ _ _ _ _ _ us hl => match us, hl with | [_], _ => rfl), ok_deckG F sc_law_is_far_right (t_law_is_far_right K) (by decide) (fun _ _ => rfl) (fun cdv A outer s H E hgd hr => tm_law_is_far_right T c_law_table c_law_bottoms c_law_draw c_law_fraction c_law_digits c_made_tail c_length_chance c_law_floor cdv A outer s H E hgd hr) (fun p _ _ => se_law_is_far_right p)⟩
theorem cal_law {f : Addr} {fd : FuncData} (T : Top K mg) (c_law_deck : Cal P w K mg base "_law_deck" 1 ps_law_deck (sp_law_deck K)) (c_law_draw : Cal P w K mg base "_law_draw" 1 ps_law_draw (sp_law_draw K)) (c_law_program : Cal P w K mg base "_law_program" 14 ps_law_program (sp_law_program K)) (c_law_rows : ∀ n, Cal P w K mg base "_law_rows" (1 + 1 * n) ps_law_rows (sp_law_rows K n)) (c_law_falls : CalG P w K mg base "_law_falls" 19 ps_law_falls (sp_law_falls K)) (c_law_are_lengths_right : CalG P w K mg base "_law_are_lengths_right" 19 ps_law_are_lengths_right (sp_law_are_lengths_right K)) (c_law_is_far_right : CalG P w K mg base "_law_is_far_right" 19 ps_law_is_far_right (sp_law_is_far_right K)) (hm : mg "law" = some (.ref f)) (kp : PySem.W.keepIn K (.ref f) = true) (F : FnD K "law" (top 108) f fd) : CalG P w K mg base "law" 20 ps_law (sp_law K) :=
  ⟨f, fd, hm, kp, (F.bindsN fun _ _ _ _ _ _ us hl => match us, hl with | [_], _ => rfl), fnG_of F sc_law (fun vs H Q E h => by obtain ⟨a, ns, rfl, _⟩ := h; rfl) (t_law K) (fun cdv A outer s H E hgd hr => tm_law T c_law_deck c_law_draw c_law_program (c_law_rows 4) c_law_falls c_law_are_lengths_right c_law_is_far_right cdv A outer s H E hgd hr) (fun vs H Q E h => sem_law vs H Q E h)⟩
theorem calk_length_chance {f : Addr} {fd : FuncData} (c : Cal P w K mg base "length_chance" 18 ps_length_chance (sp_length_chance K)) (hm : mg "length_chance" = some (.ref f)) (F : FnD K "length_chance" (top 76) f fd) (O : FnOk P w K mg base CX0 18 f fd ps_length_chance (sp_length_chance K)) (kp : PySem.W.keepIn K (.ref f) = true) : CalK P w K mg base "length_chance" 18 ps_length_chance ["t", "outcome", "program"] gv_3 (sp_length_chance K) :=
  ⟨f, fd, gv_3, hm, kp, kbinds0 F (fun _ _ _ _ _ _ us ws hl => by
    match us, ws, hl with
    | [], [_, _, _], _ => rfl
    | _ :: _, _, h => exact absurd (show 0 = 3 from h) (by decide)
    | [], [], h => exact absurd (show 0 = 3 from h) (by decide)
    | [], [_], h => exact absurd (show 0 = 3 from h) (by decide)
    | [], [_, _], h => exact absurd (show 0 = 3 from h) (by decide)
    | [], _ :: _ :: _ :: _ :: _, h => exact absurd (show 0 = 3 from h) (by decide)) gv3_rel, O⟩
theorem calk_made_tail {f : Addr} {fd : FuncData} (c : Cal P w K mg base "made_tail" 18 ps_made_tail (sp_made_tail K)) (hm : mg "made_tail" = some (.ref f)) (F : FnD K "made_tail" (top 77) f fd) (O : FnOk P w K mg base CX0 18 f fd ps_made_tail (sp_made_tail K)) (kp : PySem.W.keepIn K (.ref f) = true) : CalK P w K mg base "made_tail" 18 ps_made_tail ["t", "program"] gv_2 (sp_made_tail K) :=
  ⟨f, fd, gv_2, hm, kp, kbinds0 F (fun _ _ _ _ _ _ us ws hl => by
    match us, ws, hl with
    | [], [_, _], _ => rfl
    | _ :: _, _, h => exact absurd (show 0 = 2 from h) (by decide)
    | [], [], h => exact absurd (show 0 = 2 from h) (by decide)
    | [], [_], h => exact absurd (show 0 = 2 from h) (by decide)
    | [], _ :: _ :: _ :: _, h => exact absurd (show 0 = 2 from h) (by decide)) gv2_rel, O⟩
theorem ok_length_chance {f : Addr} {fd : FuncData} (T : Top K mg) (c_need_closed : Cal P w K mg base "need_closed" 17 ps_need_closed (sp_need_closed K)) (c_is_between : Cal P w K mg base "is_between" 2 ps_is_between (sp_is_between K)) (c_raw_outcomes : ∀ n, Cal P w K mg base "raw_outcomes" (0 + 1 * n) ps_raw_outcomes (sp_raw_outcomes K n)) (c_need_count : Cal P w K mg base "need_count" 3 ps_need_count (sp_need_count K)) (c_shifted : Cal P w K mg base "shifted" 3 ps_shifted (sp_shifted K)) (c_raw_lengths : ∀ n, Cal P w K mg base "raw_lengths" (3 + 1 * n) ps_raw_lengths (sp_raw_lengths K n)) (F : FnD K "length_chance" (top 76) f fd) : FnOk P w K mg base CX0 18 f fd ps_length_chance (sp_length_chance K) := ok_pureL F sc_length_chance (t_length_chance K) (by decide) (fun _ _ => rfl) (fun cdv A outer s H E hr => tm_length_chance T c_need_closed c_is_between (c_raw_outcomes 4) c_need_count c_shifted (c_raw_lengths 4) cdv A outer s H E hr) (fun dk a h => se_length_chance dk a h)
theorem ok_made_tail {f : Addr} {fd : FuncData} (T : Top K mg) (c_need_closed : Cal P w K mg base "need_closed" 17 ps_need_closed (sp_need_closed K)) (c_need_count : Cal P w K mg base "need_count" 3 ps_need_count (sp_need_count K)) (c_raw_made_tails : Cal P w K mg base "raw_made_tails" 8 ps_raw_made_tails (sp_raw_made_tails K)) (F : FnD K "made_tail" (top 77) f fd) : FnOk P w K mg base CX0 18 f fd ps_made_tail (sp_made_tail K) := ok_pureL F sc_made_tail (t_made_tail K) (by decide) (fun _ _ => rfl) (fun cdv A outer s H E hr => tm_made_tail T c_need_closed c_need_count c_raw_made_tails cdv A outer s H E hr) (fun dk a h => se_made_tail dk a h)
theorem ok_law {f : Addr} {fd : FuncData} (T : Top K mg) (c_law_deck : Cal P w K mg base "_law_deck" 1 ps_law_deck (sp_law_deck K)) (c_law_draw : Cal P w K mg base "_law_draw" 1 ps_law_draw (sp_law_draw K)) (c_law_program : Cal P w K mg base "_law_program" 14 ps_law_program (sp_law_program K)) (c_law_rows : ∀ n, Cal P w K mg base "_law_rows" (1 + 1 * n) ps_law_rows (sp_law_rows K n)) (c_law_falls : CalG P w K mg base "_law_falls" 19 ps_law_falls (sp_law_falls K)) (c_law_are_lengths_right : CalG P w K mg base "_law_are_lengths_right" 19 ps_law_are_lengths_right (sp_law_are_lengths_right K)) (c_law_is_far_right : CalG P w K mg base "_law_is_far_right" 19 ps_law_is_far_right (sp_law_is_far_right K)) (F : FnD K "law" (top 108) f fd) : FnG P w K mg base 20 f fd ps_law (sp_law K) := fnG_of F sc_law (fun vs H Q E h => by obtain ⟨a, ns, rfl, _⟩ := h; rfl) (t_law K) (fun cdv A outer s H E hgd hr => tm_law T c_law_deck c_law_draw c_law_program (c_law_rows 4) c_law_falls c_law_are_lengths_right c_law_is_far_right cdv A outer s H E hgd hr) (fun vs H Q E h => sem_law vs H Q E h)
end
end K39

set_option Elab.async false
set_option linter.all false
set_option maxRecDepth 100000
set_option maxHeartbeats 1000000
/-! Fac: the head's facts handed to each def (printed by gen_fin.py) -/
namespace K39
open PySem PySem.Spec PyProof.Rows L2
section
variable {K : PySem.W.Frag} {h : Heap} {mg : Str → Option Value}
theorem SaysM.d (c : SaysM K) : He.SaysD fa fn K := congrArg Prod.fst c
theorem SaysM.m (c : SaysM K) : more K = true := congrArg Prod.snd c
theorem top_of (X : K.In h) (G : h.Ns mainGlobals mg) (c : SaysM K) : Top K mg := by
  have m := c.m
  unfold more at m
  rw [Bool.and_eq_true] at m
  have c := c.d
  exact {
    n_abs := He.free_ok X G (c.fact 93 (f := .free "abs") rfl)
    n_all := He.free_ok X G (c.fact 94 (f := .free "all") rfl)
    n_bool := He.free_ok X G (c.fact 95 (f := .free "bool") rfl)
    n_enumerate := He.free_ok X G (c.fact 96 (f := .free "enumerate") rfl)
    n_int := He.free_ok X G (c.fact 97 (f := .free "int") rfl)
    n_isinstance := He.free_ok X G (c.fact 98 (f := .free "isinstance") rfl)
    n_len := He.free_ok X G (c.fact 99 (f := .free "len") rfl)
    n_list := He.free_ok X G (c.fact 100 (f := .free "list") rfl)
    n_max := He.free_ok X G (c.fact 101 (f := .free "max") rfl)
    n_min := He.free_ok X G (c.fact 102 (f := .free "min") rfl)
    n_range := He.free_ok X G (c.fact 103 (f := .free "range") rfl)
    n_repr := He.free_ok X G (c.fact 104 (f := .free "repr") rfl)
    n_sorted := He.free_ok X G (c.fact 105 (f := .free "sorted") rfl)
    n_str := He.free_ok X G (c.fact 106 (f := .free "str") rfl)
    n_sum := He.free_ok X G (c.fact 107 (f := .free "sum") rfl)
    n_tuple := He.free_ok X G (c.fact 108 (f := .free "tuple") rfl)
    n_zip := He.free_ok X G (c.fact 109 (f := .free "zip") rfl)
    zero := He.glo_ok X G (c.fact 87 (f := .glo "ZERO") rfl)
    one := He.glo_ok X G (c.fact 88 (f := .glo "ONE") rfl)
    zeroT := He.tupB_ok m.1
    oneT := He.tupB_ok m.2
    most_outcomes := He.int_ok X G (c.fact 89 (f := .int "MOST_OUTCOMES" 8) rfl)
    most_name := He.int_ok X G (c.fact 90 (f := .int "MOST_NAME" 3) rfl)
    most_parts := He.int_ok X G (c.fact 91 (f := .int "MOST_PARTS" 40) rfl)
    most_deep := He.int_ok X G (c.fact 92 (f := .int "MOST_DEEP" 8) rfl)
  }
theorem zo_of (c : SaysM K) : Zo K := by
  have m := c.m
  unfold more at m
  rw [Bool.and_eq_true] at m
  exact ⟨He.tupB_ok m.1, He.tupB_ok m.2⟩
end
theorem g_is_integer {K : PySem.W.Frag} {h : Heap} {mg : Str → Option Value} (X : K.In h) (G : h.Ns mainGlobals mg) (c : SaysM K) : mg "is_integer" = some (.ref (He.ga K "is_integer")) := He.glo_ok X G (c.d.fact 0 (f := .glo "is_integer") rfl)
theorem f_is_integer {K : PySem.W.Frag} (c : SaysM K) : ∃ fd, FnD K "is_integer" (top 1) (He.ga K "is_integer") fd := c.d.def_ 0 (d := mkD 1 "is_integer") rfl
theorem g_is_between {K : PySem.W.Frag} {h : Heap} {mg : Str → Option Value} (X : K.In h) (G : h.Ns mainGlobals mg) (c : SaysM K) : mg "is_between" = some (.ref (He.ga K "is_between")) := He.glo_ok X G (c.d.fact 1 (f := .glo "is_between") rfl)
theorem f_is_between {K : PySem.W.Frag} (c : SaysM K) : ∃ fd, FnD K "is_between" (top 2) (He.ga K "is_between") fd := c.d.def_ 1 (d := mkD 2 "is_between") rfl
theorem g_are_between {K : PySem.W.Frag} {h : Heap} {mg : Str → Option Value} (X : K.In h) (G : h.Ns mainGlobals mg) (c : SaysM K) : mg "are_between" = some (.ref (He.ga K "are_between")) := He.glo_ok X G (c.d.fact 2 (f := .glo "are_between") rfl)
theorem f_are_between {K : PySem.W.Frag} (c : SaysM K) : ∃ fd, FnD K "are_between" (top 3) (He.ga K "are_between") fd := c.d.def_ 2 (d := mkD 3 "are_between") rfl
theorem g_is_count {K : PySem.W.Frag} {h : Heap} {mg : Str → Option Value} (X : K.In h) (G : h.Ns mainGlobals mg) (c : SaysM K) : mg "is_count" = some (.ref (He.ga K "is_count")) := He.glo_ok X G (c.d.fact 3 (f := .glo "is_count") rfl)
theorem f_is_count {K : PySem.W.Frag} (c : SaysM K) : ∃ fd, FnD K "is_count" (top 4) (He.ga K "is_count") fd := c.d.def_ 3 (d := mkD 4 "is_count") rfl
theorem g_is_word {K : PySem.W.Frag} {h : Heap} {mg : Str → Option Value} (X : K.In h) (G : h.Ns mainGlobals mg) (c : SaysM K) : mg "is_word" = some (.ref (He.ga K "is_word")) := He.glo_ok X G (c.d.fact 4 (f := .glo "is_word") rfl)
theorem f_is_word {K : PySem.W.Frag} (c : SaysM K) : ∃ fd, FnD K "is_word" (top 5) (He.ga K "is_word") fd := c.d.def_ 4 (d := mkD 5 "is_word") rfl
theorem g_is_ascending {K : PySem.W.Frag} {h : Heap} {mg : Str → Option Value} (X : K.In h) (G : h.Ns mainGlobals mg) (c : SaysM K) : mg "is_ascending" = some (.ref (He.ga K "is_ascending")) := He.glo_ok X G (c.d.fact 5 (f := .glo "is_ascending") rfl)
theorem f_is_ascending {K : PySem.W.Frag} (c : SaysM K) : ∃ fd, FnD K "is_ascending" (top 6) (He.ga K "is_ascending") fd := c.d.def_ 5 (d := mkD 6 "is_ascending") rfl
theorem g_is_lot_value {K : PySem.W.Frag} {h : Heap} {mg : Str → Option Value} (X : K.In h) (G : h.Ns mainGlobals mg) (c : SaysM K) : mg "is_lot_value" = some (.ref (He.ga K "is_lot_value")) := He.glo_ok X G (c.d.fact 6 (f := .glo "is_lot_value") rfl)
theorem f_is_lot_value {K : PySem.W.Frag} (c : SaysM K) : ∃ fd, FnD K "is_lot_value" (top 7) (He.ga K "is_lot_value") fd := c.d.def_ 6 (d := mkD 7 "is_lot_value") rfl
theorem g_divisor_of {K : PySem.W.Frag} {h : Heap} {mg : Str → Option Value} (X : K.In h) (G : h.Ns mainGlobals mg) (c : SaysM K) : mg "divisor_of" = some (.ref (He.ga K "divisor_of")) := He.glo_ok X G (c.d.fact 7 (f := .glo "divisor_of") rfl)
theorem f_divisor_of {K : PySem.W.Frag} (c : SaysM K) : ∃ fd, FnD K "divisor_of" (top 11) (He.ga K "divisor_of") fd := c.d.def_ 7 (d := mkD 11 "divisor_of") rfl
theorem g_is_fraction_value {K : PySem.W.Frag} {h : Heap} {mg : Str → Option Value} (X : K.In h) (G : h.Ns mainGlobals mg) (c : SaysM K) : mg "is_fraction_value" = some (.ref (He.ga K "is_fraction_value")) := He.glo_ok X G (c.d.fact 8 (f := .glo "is_fraction_value") rfl)
theorem f_is_fraction_value {K : PySem.W.Frag} (c : SaysM K) : ∃ fd, FnD K "is_fraction_value" (top 12) (He.ga K "is_fraction_value") fd := c.d.def_ 8 (d := mkD 12 "is_fraction_value") rfl
theorem g_is_share_value {K : PySem.W.Frag} {h : Heap} {mg : Str → Option Value} (X : K.In h) (G : h.Ns mainGlobals mg) (c : SaysM K) : mg "is_share_value" = some (.ref (He.ga K "is_share_value")) := He.glo_ok X G (c.d.fact 9 (f := .glo "is_share_value") rfl)
theorem f_is_share_value {K : PySem.W.Frag} (c : SaysM K) : ∃ fd, FnD K "is_share_value" (top 13) (He.ga K "is_share_value") fd := c.d.def_ 9 (d := mkD 13 "is_share_value") rfl
theorem g_lowest {K : PySem.W.Frag} {h : Heap} {mg : Str → Option Value} (X : K.In h) (G : h.Ns mainGlobals mg) (c : SaysM K) : mg "lowest" = some (.ref (He.ga K "lowest")) := He.glo_ok X G (c.d.fact 10 (f := .glo "lowest") rfl)
theorem f_lowest {K : PySem.W.Frag} (c : SaysM K) : ∃ fd, FnD K "lowest" (top 14) (He.ga K "lowest") fd := c.d.def_ 10 (d := mkD 14 "lowest") rfl
theorem g_plus {K : PySem.W.Frag} {h : Heap} {mg : Str → Option Value} (X : K.In h) (G : h.Ns mainGlobals mg) (c : SaysM K) : mg "plus" = some (.ref (He.ga K "plus")) := He.glo_ok X G (c.d.fact 11 (f := .glo "plus") rfl)
theorem f_plus {K : PySem.W.Frag} (c : SaysM K) : ∃ fd, FnD K "plus" (top 15) (He.ga K "plus") fd := c.d.def_ 11 (d := mkD 15 "plus") rfl
theorem g_minus {K : PySem.W.Frag} {h : Heap} {mg : Str → Option Value} (X : K.In h) (G : h.Ns mainGlobals mg) (c : SaysM K) : mg "minus" = some (.ref (He.ga K "minus")) := He.glo_ok X G (c.d.fact 12 (f := .glo "minus") rfl)
theorem f_minus {K : PySem.W.Frag} (c : SaysM K) : ∃ fd, FnD K "minus" (top 16) (He.ga K "minus") fd := c.d.def_ 12 (d := mkD 16 "minus") rfl
theorem g_times {K : PySem.W.Frag} {h : Heap} {mg : Str → Option Value} (X : K.In h) (G : h.Ns mainGlobals mg) (c : SaysM K) : mg "times" = some (.ref (He.ga K "times")) := He.glo_ok X G (c.d.fact 13 (f := .glo "times") rfl)
theorem f_times {K : PySem.W.Frag} (c : SaysM K) : ∃ fd, FnD K "times" (top 17) (He.ga K "times") fd := c.d.def_ 13 (d := mkD 17 "times") rfl
theorem g_over {K : PySem.W.Frag} {h : Heap} {mg : Str → Option Value} (X : K.In h) (G : h.Ns mainGlobals mg) (c : SaysM K) : mg "over" = some (.ref (He.ga K "over")) := He.glo_ok X G (c.d.fact 14 (f := .glo "over") rfl)
theorem f_over {K : PySem.W.Frag} (c : SaysM K) : ∃ fd, FnD K "over" (top 18) (He.ga K "over") fd := c.d.def_ 14 (d := mkD 18 "over") rfl
theorem g_total {K : PySem.W.Frag} {h : Heap} {mg : Str → Option Value} (X : K.In h) (G : h.Ns mainGlobals mg) (c : SaysM K) : mg "total" = some (.ref (He.ga K "total")) := He.glo_ok X G (c.d.fact 15 (f := .glo "total") rfl)
theorem f_total {K : PySem.W.Frag} (c : SaysM K) : ∃ fd, FnD K "total" (top 19) (He.ga K "total") fd := c.d.def_ 15 (d := mkD 19 "total") rfl
theorem g_whole_of {K : PySem.W.Frag} {h : Heap} {mg : Str → Option Value} (X : K.In h) (G : h.Ns mainGlobals mg) (c : SaysM K) : mg "whole_of" = some (.ref (He.ga K "whole_of")) := He.glo_ok X G (c.d.fact 16 (f := .glo "whole_of") rfl)
theorem f_whole_of {K : PySem.W.Frag} (c : SaysM K) : ∃ fd, FnD K "whole_of" (top 20) (He.ga K "whole_of") fd := c.d.def_ 16 (d := mkD 20 "whole_of") rfl
theorem g_shifted {K : PySem.W.Frag} {h : Heap} {mg : Str → Option Value} (X : K.In h) (G : h.Ns mainGlobals mg) (c : SaysM K) : mg "shifted" = some (.ref (He.ga K "shifted")) := He.glo_ok X G (c.d.fact 17 (f := .glo "shifted") rfl)
theorem f_shifted {K : PySem.W.Frag} (c : SaysM K) : ∃ fd, FnD K "shifted" (top 21) (He.ga K "shifted") fd := c.d.def_ 17 (d := mkD 21 "shifted") rfl
theorem g_is_table_value {K : PySem.W.Frag} {h : Heap} {mg : Str → Option Value} (X : K.In h) (G : h.Ns mainGlobals mg) (c : SaysM K) : mg "is_table_value" = some (.ref (He.ga K "is_table_value")) := He.glo_ok X G (c.d.fact 18 (f := .glo "is_table_value") rfl)
theorem f_is_table_value {K : PySem.W.Frag} (c : SaysM K) : ∃ fd, FnD K "is_table_value" (top 22) (He.ga K "is_table_value") fd := c.d.def_ 18 (d := mkD 22 "is_table_value") rfl
theorem g_power_by {K : PySem.W.Frag} {h : Heap} {mg : Str → Option Value} (X : K.In h) (G : h.Ns mainGlobals mg) (c : SaysM K) : mg "power_by" = some (.ref (He.ga K "power_by")) := He.glo_ok X G (c.d.fact 19 (f := .glo "power_by") rfl)
theorem f_power_by {K : PySem.W.Frag} (c : SaysM K) : ∃ fd, FnD K "power_by" (top 24) (He.ga K "power_by") fd := c.d.def_ 19 (d := mkD 24 "power_by") rfl
theorem g_raw_rest {K : PySem.W.Frag} {h : Heap} {mg : Str → Option Value} (X : K.In h) (G : h.Ns mainGlobals mg) (c : SaysM K) : mg "raw_rest" = some (.ref (He.ga K "raw_rest")) := He.glo_ok X G (c.d.fact 20 (f := .glo "raw_rest") rfl)
theorem f_raw_rest {K : PySem.W.Frag} (c : SaysM K) : ∃ fd, FnD K "raw_rest" (top 25) (He.ga K "raw_rest") fd := c.d.def_ 20 (d := mkD 25 "raw_rest") rfl
theorem g_raw_digit {K : PySem.W.Frag} {h : Heap} {mg : Str → Option Value} (X : K.In h) (G : h.Ns mainGlobals mg) (c : SaysM K) : mg "raw_digit" = some (.ref (He.ga K "raw_digit")) := He.glo_ok X G (c.d.fact 21 (f := .glo "raw_digit") rfl)
theorem f_raw_digit {K : PySem.W.Frag} (c : SaysM K) : ∃ fd, FnD K "raw_digit" (top 26) (He.ga K "raw_digit") fd := c.d.def_ 21 (d := mkD 26 "raw_digit") rfl
theorem g_twos_of {K : PySem.W.Frag} {h : Heap} {mg : Str → Option Value} (X : K.In h) (G : h.Ns mainGlobals mg) (c : SaysM K) : mg "twos_of" = some (.ref (He.ga K "twos_of")) := He.glo_ok X G (c.d.fact 22 (f := .glo "twos_of") rfl)
theorem f_twos_of {K : PySem.W.Frag} (c : SaysM K) : ∃ fd, FnD K "twos_of" (top 27) (He.ga K "twos_of") fd := c.d.def_ 22 (d := mkD 27 "twos_of") rfl
theorem g_raw_figures {K : PySem.W.Frag} {h : Heap} {mg : Str → Option Value} (X : K.In h) (G : h.Ns mainGlobals mg) (c : SaysM K) : mg "raw_figures" = some (.ref (He.ga K "raw_figures")) := He.glo_ok X G (c.d.fact 23 (f := .glo "raw_figures") rfl)
theorem f_raw_figures {K : PySem.W.Frag} (c : SaysM K) : ∃ fd, FnD K "raw_figures" (top 28) (He.ga K "raw_figures") fd := c.d.def_ 23 (d := mkD 28 "raw_figures") rfl
theorem g_sums_of {K : PySem.W.Frag} {h : Heap} {mg : Str → Option Value} (X : K.In h) (G : h.Ns mainGlobals mg) (c : SaysM K) : mg "sums_of" = some (.ref (He.ga K "sums_of")) := He.glo_ok X G (c.d.fact 24 (f := .glo "sums_of") rfl)
theorem f_sums_of {K : PySem.W.Frag} (c : SaysM K) : ∃ fd, FnD K "sums_of" (top 29) (He.ga K "sums_of") fd := c.d.def_ 24 (d := mkD 29 "sums_of") rfl
theorem g_raw_weight {K : PySem.W.Frag} {h : Heap} {mg : Str → Option Value} (X : K.In h) (G : h.Ns mainGlobals mg) (c : SaysM K) : mg "raw_weight" = some (.ref (He.ga K "raw_weight")) := He.glo_ok X G (c.d.fact 25 (f := .glo "raw_weight") rfl)
theorem f_raw_weight {K : PySem.W.Frag} (c : SaysM K) : ∃ fd, FnD K "raw_weight" (top 30) (He.ga K "raw_weight") fd := c.d.def_ 25 (d := mkD 30 "raw_weight") rfl
theorem g_need_table {K : PySem.W.Frag} {h : Heap} {mg : Str → Option Value} (X : K.In h) (G : h.Ns mainGlobals mg) (c : SaysM K) : mg "need_table" = some (.ref (He.ga K "need_table")) := He.glo_ok X G (c.d.fact 26 (f := .glo "need_table") rfl)
theorem f_need_table {K : PySem.W.Frag} (c : SaysM K) : ∃ fd, FnD K "need_table" (top 38) (He.ga K "need_table") fd := c.d.def_ 26 (d := mkD 38 "need_table") rfl
theorem g_need_count {K : PySem.W.Frag} {h : Heap} {mg : Str → Option Value} (X : K.In h) (G : h.Ns mainGlobals mg) (c : SaysM K) : mg "need_count" = some (.ref (He.ga K "need_count")) := He.glo_ok X G (c.d.fact 27 (f := .glo "need_count") rfl)
theorem f_need_count {K : PySem.W.Frag} (c : SaysM K) : ∃ fd, FnD K "need_count" (top 39) (He.ga K "need_count") fd := c.d.def_ 27 (d := mkD 39 "need_count") rfl
theorem g_raw_floor {K : PySem.W.Frag} {h : Heap} {mg : Str → Option Value} (X : K.In h) (G : h.Ns mainGlobals mg) (c : SaysM K) : mg "raw_floor" = some (.ref (He.ga K "raw_floor")) := He.glo_ok X G (c.d.fact 28 (f := .glo "raw_floor") rfl)
theorem f_raw_floor {K : PySem.W.Frag} (c : SaysM K) : ∃ fd, FnD K "raw_floor" (top 41) (He.ga K "raw_floor") fd := c.d.def_ 28 (d := mkD 41 "raw_floor") rfl
theorem g_raw_least_mean {K : PySem.W.Frag} {h : Heap} {mg : Str → Option Value} (X : K.In h) (G : h.Ns mainGlobals mg) (c : SaysM K) : mg "raw_least_mean" = some (.ref (He.ga K "raw_least_mean")) := He.glo_ok X G (c.d.fact 29 (f := .glo "raw_least_mean") rfl)
theorem f_raw_least_mean {K : PySem.W.Frag} (c : SaysM K) : ∃ fd, FnD K "raw_least_mean" (top 42) (He.ga K "raw_least_mean") fd := c.d.def_ 29 (d := mkD 42 "raw_least_mean") rfl
theorem g_floor_at {K : PySem.W.Frag} {h : Heap} {mg : Str → Option Value} (X : K.In h) (G : h.Ns mainGlobals mg) (c : SaysM K) : mg "floor_at" = some (.ref (He.ga K "floor_at")) := He.glo_ok X G (c.d.fact 30 (f := .glo "floor_at") rfl)
theorem f_floor_at {K : PySem.W.Frag} (c : SaysM K) : ∃ fd, FnD K "floor_at" (top 43) (He.ga K "floor_at") fd := c.d.def_ 30 (d := mkD 43 "floor_at") rfl
theorem g_raw_lot_chance {K : PySem.W.Frag} {h : Heap} {mg : Str → Option Value} (X : K.In h) (G : h.Ns mainGlobals mg) (c : SaysM K) : mg "raw_lot_chance" = some (.ref (He.ga K "raw_lot_chance")) := He.glo_ok X G (c.d.fact 31 (f := .glo "raw_lot_chance") rfl)
theorem f_raw_lot_chance {K : PySem.W.Frag} (c : SaysM K) : ∃ fd, FnD K "raw_lot_chance" (top 45) (He.ga K "raw_lot_chance") fd := c.d.def_ 31 (d := mkD 45 "raw_lot_chance") rfl
theorem g_raw_given {K : PySem.W.Frag} {h : Heap} {mg : Str → Option Value} (X : K.In h) (G : h.Ns mainGlobals mg) (c : SaysM K) : mg "raw_given" = some (.ref (He.ga K "raw_given")) := He.glo_ok X G (c.d.fact 32 (f := .glo "raw_given") rfl)
theorem f_raw_given {K : PySem.W.Frag} (c : SaysM K) : ∃ fd, FnD K "raw_given" (top 46) (He.ga K "raw_given") fd := c.d.def_ 32 (d := mkD 46 "raw_given") rfl
theorem g_raw_renamed {K : PySem.W.Frag} {h : Heap} {mg : Str → Option Value} (X : K.In h) (G : h.Ns mainGlobals mg) (c : SaysM K) : mg "raw_renamed" = some (.ref (He.ga K "raw_renamed")) := He.glo_ok X G (c.d.fact 33 (f := .glo "raw_renamed") rfl)
theorem f_raw_renamed {K : PySem.W.Frag} (c : SaysM K) : ∃ fd, FnD K "raw_renamed" (top 47) (He.ga K "raw_renamed") fd := c.d.def_ 33 (d := mkD 47 "raw_renamed") rfl
theorem g_raw_mixed {K : PySem.W.Frag} {h : Heap} {mg : Str → Option Value} (X : K.In h) (G : h.Ns mainGlobals mg) (c : SaysM K) : mg "raw_mixed" = some (.ref (He.ga K "raw_mixed")) := He.glo_ok X G (c.d.fact 34 (f := .glo "raw_mixed") rfl)
theorem f_raw_mixed {K : PySem.W.Frag} (c : SaysM K) : ∃ fd, FnD K "raw_mixed" (top 48) (He.ga K "raw_mixed") fd := c.d.def_ 34 (d := mkD 48 "raw_mixed") rfl
theorem g_looked_at {K : PySem.W.Frag} {h : Heap} {mg : Str → Option Value} (X : K.In h) (G : h.Ns mainGlobals mg) (c : SaysM K) : mg "looked_at" = some (.ref (He.ga K "looked_at")) := He.glo_ok X G (c.d.fact 35 (f := .glo "looked_at") rfl)
theorem f_looked_at {K : PySem.W.Frag} (c : SaysM K) : ∃ fd, FnD K "looked_at" (top 54) (He.ga K "looked_at") fd := c.d.def_ 35 (d := mkD 54 "looked_at") rfl
theorem g_bind_looked_at {K : PySem.W.Frag} {h : Heap} {mg : Str → Option Value} (X : K.In h) (G : h.Ns mainGlobals mg) (c : SaysM K) : mg "bind_looked_at" = some (.ref (He.ga K "bind_looked_at")) := He.glo_ok X G (c.d.fact 36 (f := .glo "bind_looked_at") rfl)
theorem f_bind_looked_at {K : PySem.W.Frag} (c : SaysM K) : ∃ fd, FnD K "bind_looked_at" (top 55) (He.ga K "bind_looked_at") fd := c.d.def_ 36 (d := mkD 55 "bind_looked_at") rfl
theorem g_again_looked_at {K : PySem.W.Frag} {h : Heap} {mg : Str → Option Value} (X : K.In h) (G : h.Ns mainGlobals mg) (c : SaysM K) : mg "again_looked_at" = some (.ref (He.ga K "again_looked_at")) := He.glo_ok X G (c.d.fact 37 (f := .glo "again_looked_at") rfl)
theorem f_again_looked_at {K : PySem.W.Frag} (c : SaysM K) : ∃ fd, FnD K "again_looked_at" (top 56) (He.ga K "again_looked_at") fd := c.d.def_ 37 (d := mkD 56 "again_looked_at") rfl
theorem g_map_looked_at {K : PySem.W.Frag} {h : Heap} {mg : Str → Option Value} (X : K.In h) (G : h.Ns mainGlobals mg) (c : SaysM K) : mg "map_looked_at" = some (.ref (He.ga K "map_looked_at")) := He.glo_ok X G (c.d.fact 38 (f := .glo "map_looked_at") rfl)
theorem f_map_looked_at {K : PySem.W.Frag} (c : SaysM K) : ∃ fd, FnD K "map_looked_at" (top 57) (He.ga K "map_looked_at") fd := c.d.def_ 38 (d := mkD 57 "map_looked_at") rfl
theorem g_are_of_one_size {K : PySem.W.Frag} {h : Heap} {mg : Str → Option Value} (X : K.In h) (G : h.Ns mainGlobals mg) (c : SaysM K) : mg "are_of_one_size" = some (.ref (He.ga K "are_of_one_size")) := He.glo_ok X G (c.d.fact 39 (f := .glo "are_of_one_size") rfl)
theorem f_are_of_one_size {K : PySem.W.Frag} (c : SaysM K) : ∃ fd, FnD K "are_of_one_size" (top 58) (He.ga K "are_of_one_size") fd := c.d.def_ 39 (d := mkD 58 "are_of_one_size") rfl
theorem g_is_program_value {K : PySem.W.Frag} {h : Heap} {mg : Str → Option Value} (X : K.In h) (G : h.Ns mainGlobals mg) (c : SaysM K) : mg "is_program_value" = some (.ref (He.ga K "is_program_value")) := He.glo_ok X G (c.d.fact 40 (f := .glo "is_program_value") rfl)
theorem f_is_program_value {K : PySem.W.Frag} (c : SaysM K) : ∃ fd, FnD K "is_program_value" (top 59) (He.ga K "is_program_value") fd := c.d.def_ 40 (d := mkD 59 "is_program_value") rfl
theorem g_need_closed {K : PySem.W.Frag} {h : Heap} {mg : Str → Option Value} (X : K.In h) (G : h.Ns mainGlobals mg) (c : SaysM K) : mg "need_closed" = some (.ref (He.ga K "need_closed")) := He.glo_ok X G (c.d.fact 41 (f := .glo "need_closed") rfl)
theorem f_need_closed {K : PySem.W.Frag} (c : SaysM K) : ∃ fd, FnD K "need_closed" (top 60) (He.ga K "need_closed") fd := c.d.def_ 41 (d := mkD 60 "need_closed") rfl
theorem g_raw_outcomes {K : PySem.W.Frag} {h : Heap} {mg : Str → Option Value} (X : K.In h) (G : h.Ns mainGlobals mg) (c : SaysM K) : mg "raw_outcomes" = some (.ref (He.ga K "raw_outcomes")) := He.glo_ok X G (c.d.fact 42 (f := .glo "raw_outcomes") rfl)
theorem f_raw_outcomes {K : PySem.W.Frag} (c : SaysM K) : ∃ fd, FnD K "raw_outcomes" (top 61) (He.ga K "raw_outcomes") fd := c.d.def_ 42 (d := mkD 61 "raw_outcomes") rfl
theorem g_inner_of {K : PySem.W.Frag} {h : Heap} {mg : Str → Option Value} (X : K.In h) (G : h.Ns mainGlobals mg) (c : SaysM K) : mg "inner_of" = some (.ref (He.ga K "inner_of")) := He.glo_ok X G (c.d.fact 43 (f := .glo "inner_of") rfl)
theorem f_inner_of {K : PySem.W.Frag} (c : SaysM K) : ∃ fd, FnD K "inner_of" (top 62) (He.ga K "inner_of") fd := c.d.def_ 43 (d := mkD 62 "inner_of") rfl
theorem g_places_in {K : PySem.W.Frag} {h : Heap} {mg : Str → Option Value} (X : K.In h) (G : h.Ns mainGlobals mg) (c : SaysM K) : mg "places_in" = some (.ref (He.ga K "places_in")) := He.glo_ok X G (c.d.fact 44 (f := .glo "places_in") rfl)
theorem f_places_in {K : PySem.W.Frag} (c : SaysM K) : ∃ fd, FnD K "places_in" (top 63) (He.ga K "places_in") fd := c.d.def_ 44 (d := mkD 63 "places_in") rfl
theorem g_raw_places {K : PySem.W.Frag} {h : Heap} {mg : Str → Option Value} (X : K.In h) (G : h.Ns mainGlobals mg) (c : SaysM K) : mg "raw_places" = some (.ref (He.ga K "raw_places")) := He.glo_ok X G (c.d.fact 45 (f := .glo "raw_places") rfl)
theorem f_raw_places {K : PySem.W.Frag} (c : SaysM K) : ∃ fd, FnD K "raw_places" (top 64) (He.ga K "raw_places") fd := c.d.def_ 45 (d := mkD 64 "raw_places") rfl
theorem g_raw_meaning {K : PySem.W.Frag} {h : Heap} {mg : Str → Option Value} (X : K.In h) (G : h.Ns mainGlobals mg) (c : SaysM K) : mg "raw_meaning" = some (.ref (He.ga K "raw_meaning")) := He.glo_ok X G (c.d.fact 46 (f := .glo "raw_meaning") rfl)
theorem f_raw_meaning {K : PySem.W.Frag} (c : SaysM K) : ∃ fd, FnD K "raw_meaning" (top 65) (He.ga K "raw_meaning") fd := c.d.def_ 46 (d := mkD 65 "raw_meaning") rfl
theorem g_raw_cost {K : PySem.W.Frag} {h : Heap} {mg : Str → Option Value} (X : K.In h) (G : h.Ns mainGlobals mg) (c : SaysM K) : mg "raw_cost" = some (.ref (He.ga K "raw_cost")) := He.glo_ok X G (c.d.fact 47 (f := .glo "raw_cost") rfl)
theorem f_raw_cost {K : PySem.W.Frag} (c : SaysM K) : ∃ fd, FnD K "raw_cost" (top 67) (He.ga K "raw_cost") fd := c.d.def_ 47 (d := mkD 67 "raw_cost") rfl
theorem g_draw_lengths {K : PySem.W.Frag} {h : Heap} {mg : Str → Option Value} (X : K.In h) (G : h.Ns mainGlobals mg) (c : SaysM K) : mg "draw_lengths" = some (.ref (He.ga K "draw_lengths")) := He.glo_ok X G (c.d.fact 48 (f := .glo "draw_lengths") rfl)
theorem f_draw_lengths {K : PySem.W.Frag} (c : SaysM K) : ∃ fd, FnD K "draw_lengths" (top 68) (He.ga K "draw_lengths") fd := c.d.def_ 48 (d := mkD 68 "draw_lengths") rfl
theorem g_put_behind {K : PySem.W.Frag} {h : Heap} {mg : Str → Option Value} (X : K.In h) (G : h.Ns mainGlobals mg) (c : SaysM K) : mg "put_behind" = some (.ref (He.ga K "put_behind")) := He.glo_ok X G (c.d.fact 49 (f := .glo "put_behind") rfl)
theorem f_put_behind {K : PySem.W.Frag} (c : SaysM K) : ∃ fd, FnD K "put_behind" (top 69) (He.ga K "put_behind") fd := c.d.def_ 49 (d := mkD 69 "put_behind") rfl
theorem g_bind_lengths {K : PySem.W.Frag} {h : Heap} {mg : Str → Option Value} (X : K.In h) (G : h.Ns mainGlobals mg) (c : SaysM K) : mg "bind_lengths" = some (.ref (He.ga K "bind_lengths")) := He.glo_ok X G (c.d.fact 50 (f := .glo "bind_lengths") rfl)
theorem f_bind_lengths {K : PySem.W.Frag} (c : SaysM K) : ∃ fd, FnD K "bind_lengths" (top 70) (He.ga K "bind_lengths") fd := c.d.def_ 50 (d := mkD 70 "bind_lengths") rfl
theorem g_again_lengths {K : PySem.W.Frag} {h : Heap} {mg : Str → Option Value} (X : K.In h) (G : h.Ns mainGlobals mg) (c : SaysM K) : mg "again_lengths" = some (.ref (He.ga K "again_lengths")) := He.glo_ok X G (c.d.fact 51 (f := .glo "again_lengths") rfl)
theorem f_again_lengths {K : PySem.W.Frag} (c : SaysM K) : ∃ fd, FnD K "again_lengths" (top 71) (He.ga K "again_lengths") fd := c.d.def_ 51 (d := mkD 71 "again_lengths") rfl
theorem g_raw_lengths {K : PySem.W.Frag} {h : Heap} {mg : Str → Option Value} (X : K.In h) (G : h.Ns mainGlobals mg) (c : SaysM K) : mg "raw_lengths" = some (.ref (He.ga K "raw_lengths")) := He.glo_ok X G (c.d.fact 52 (f := .glo "raw_lengths") rfl)
theorem f_raw_lengths {K : PySem.W.Frag} (c : SaysM K) : ∃ fd, FnD K "raw_lengths" (top 72) (He.ga K "raw_lengths") fd := c.d.def_ 52 (d := mkD 72 "raw_lengths") rfl
theorem g_raw_made_tails {K : PySem.W.Frag} {h : Heap} {mg : Str → Option Value} (X : K.In h) (G : h.Ns mainGlobals mg) (c : SaysM K) : mg "raw_made_tails" = some (.ref (He.ga K "raw_made_tails")) := He.glo_ok X G (c.d.fact 53 (f := .glo "raw_made_tails") rfl)
theorem f_raw_made_tails {K : PySem.W.Frag} (c : SaysM K) : ∃ fd, FnD K "raw_made_tails" (top 73) (He.ga K "raw_made_tails") fd := c.d.def_ 53 (d := mkD 73 "raw_made_tails") rfl
theorem g_plain_cost {K : PySem.W.Frag} {h : Heap} {mg : Str → Option Value} (X : K.In h) (G : h.Ns mainGlobals mg) (c : SaysM K) : mg "plain_cost" = some (.ref (He.ga K "plain_cost")) := He.glo_ok X G (c.d.fact 54 (f := .glo "plain_cost") rfl)
theorem f_plain_cost {K : PySem.W.Frag} (c : SaysM K) : ∃ fd, FnD K "plain_cost" (top 75) (He.ga K "plain_cost") fd := c.d.def_ 54 (d := mkD 75 "plain_cost") rfl
theorem g_length_chance {K : PySem.W.Frag} {h : Heap} {mg : Str → Option Value} (X : K.In h) (G : h.Ns mainGlobals mg) (c : SaysM K) : mg "length_chance" = some (.ref (He.ga K "length_chance")) := He.glo_ok X G (c.d.fact 55 (f := .glo "length_chance") rfl)
theorem f_length_chance {K : PySem.W.Frag} (c : SaysM K) : ∃ fd, FnD K "length_chance" (top 76) (He.ga K "length_chance") fd := c.d.def_ 55 (d := mkD 76 "length_chance") rfl
theorem g_made_tail {K : PySem.W.Frag} {h : Heap} {mg : Str → Option Value} (X : K.In h) (G : h.Ns mainGlobals mg) (c : SaysM K) : mg "made_tail" = some (.ref (He.ga K "made_tail")) := He.glo_ok X G (c.d.fact 56 (f := .glo "made_tail") rfl)
theorem f_made_tail {K : PySem.W.Frag} (c : SaysM K) : ∃ fd, FnD K "made_tail" (top 77) (He.ga K "made_tail") fd := c.d.def_ 56 (d := mkD 77 "made_tail") rfl
theorem g_law_deck {K : PySem.W.Frag} {h : Heap} {mg : Str → Option Value} (X : K.In h) (G : h.Ns mainGlobals mg) (c : SaysM K) : mg "_law_deck" = some (.ref (He.ga K "_law_deck")) := He.glo_ok X G (c.d.fact 57 (f := .glo "_law_deck") rfl)
theorem f_law_deck {K : PySem.W.Frag} (c : SaysM K) : ∃ fd, FnD K "_law_deck" (top 79) (He.ga K "_law_deck") fd := c.d.def_ 57 (d := mkD 79 "_law_deck") rfl
theorem g_law_draw {K : PySem.W.Frag} {h : Heap} {mg : Str → Option Value} (X : K.In h) (G : h.Ns mainGlobals mg) (c : SaysM K) : mg "_law_draw" = some (.ref (He.ga K "_law_draw")) := He.glo_ok X G (c.d.fact 58 (f := .glo "_law_draw") rfl)
theorem f_law_draw {K : PySem.W.Frag} (c : SaysM K) : ∃ fd, FnD K "_law_draw" (top 80) (He.ga K "_law_draw") fd := c.d.def_ 58 (d := mkD 80 "_law_draw") rfl
theorem g_law_pick {K : PySem.W.Frag} {h : Heap} {mg : Str → Option Value} (X : K.In h) (G : h.Ns mainGlobals mg) (c : SaysM K) : mg "_law_pick" = some (.ref (He.ga K "_law_pick")) := He.glo_ok X G (c.d.fact 59 (f := .glo "_law_pick") rfl)
theorem f_law_pick {K : PySem.W.Frag} (c : SaysM K) : ∃ fd, FnD K "_law_pick" (top 81) (He.ga K "_law_pick") fd := c.d.def_ 59 (d := mkD 81 "_law_pick") rfl
theorem g_law_common {K : PySem.W.Frag} {h : Heap} {mg : Str → Option Value} (X : K.In h) (G : h.Ns mainGlobals mg) (c : SaysM K) : mg "_law_common" = some (.ref (He.ga K "_law_common")) := He.glo_ok X G (c.d.fact 60 (f := .glo "_law_common") rfl)
theorem f_law_common {K : PySem.W.Frag} (c : SaysM K) : ∃ fd, FnD K "_law_common" (top 82) (He.ga K "_law_common") fd := c.d.def_ 60 (d := mkD 82 "_law_common") rfl
theorem g_law_fraction {K : PySem.W.Frag} {h : Heap} {mg : Str → Option Value} (X : K.In h) (G : h.Ns mainGlobals mg) (c : SaysM K) : mg "_law_fraction" = some (.ref (He.ga K "_law_fraction")) := He.glo_ok X G (c.d.fact 61 (f := .glo "_law_fraction") rfl)
theorem f_law_fraction {K : PySem.W.Frag} (c : SaysM K) : ∃ fd, FnD K "_law_fraction" (top 83) (He.ga K "_law_fraction") fd := c.d.def_ 61 (d := mkD 83 "_law_fraction") rfl
theorem g_law_plus {K : PySem.W.Frag} {h : Heap} {mg : Str → Option Value} (X : K.In h) (G : h.Ns mainGlobals mg) (c : SaysM K) : mg "_law_plus" = some (.ref (He.ga K "_law_plus")) := He.glo_ok X G (c.d.fact 62 (f := .glo "_law_plus") rfl)
theorem f_law_plus {K : PySem.W.Frag} (c : SaysM K) : ∃ fd, FnD K "_law_plus" (top 84) (He.ga K "_law_plus") fd := c.d.def_ 62 (d := mkD 84 "_law_plus") rfl
theorem g_law_minus {K : PySem.W.Frag} {h : Heap} {mg : Str → Option Value} (X : K.In h) (G : h.Ns mainGlobals mg) (c : SaysM K) : mg "_law_minus" = some (.ref (He.ga K "_law_minus")) := He.glo_ok X G (c.d.fact 63 (f := .glo "_law_minus") rfl)
theorem f_law_minus {K : PySem.W.Frag} (c : SaysM K) : ∃ fd, FnD K "_law_minus" (top 85) (He.ga K "_law_minus") fd := c.d.def_ 63 (d := mkD 85 "_law_minus") rfl
theorem g_law_times {K : PySem.W.Frag} {h : Heap} {mg : Str → Option Value} (X : K.In h) (G : h.Ns mainGlobals mg) (c : SaysM K) : mg "_law_times" = some (.ref (He.ga K "_law_times")) := He.glo_ok X G (c.d.fact 64 (f := .glo "_law_times") rfl)
theorem f_law_times {K : PySem.W.Frag} (c : SaysM K) : ∃ fd, FnD K "_law_times" (top 86) (He.ga K "_law_times") fd := c.d.def_ 64 (d := mkD 86 "_law_times") rfl
theorem g_law_over {K : PySem.W.Frag} {h : Heap} {mg : Str → Option Value} (X : K.In h) (G : h.Ns mainGlobals mg) (c : SaysM K) : mg "_law_over" = some (.ref (He.ga K "_law_over")) := He.glo_ok X G (c.d.fact 65 (f := .glo "_law_over") rfl)
theorem f_law_over {K : PySem.W.Frag} (c : SaysM K) : ∃ fd, FnD K "_law_over" (top 87) (He.ga K "_law_over") fd := c.d.def_ 65 (d := mkD 87 "_law_over") rfl
theorem g_law_total {K : PySem.W.Frag} {h : Heap} {mg : Str → Option Value} (X : K.In h) (G : h.Ns mainGlobals mg) (c : SaysM K) : mg "_law_total" = some (.ref (He.ga K "_law_total")) := He.glo_ok X G (c.d.fact 66 (f := .glo "_law_total") rfl)
theorem f_law_total {K : PySem.W.Frag} (c : SaysM K) : ∃ fd, FnD K "_law_total" (top 88) (He.ga K "_law_total") fd := c.d.def_ 66 (d := mkD 88 "_law_total") rfl
theorem g_law_is_less {K : PySem.W.Frag} {h : Heap} {mg : Str → Option Value} (X : K.In h) (G : h.Ns mainGlobals mg) (c : SaysM K) : mg "_law_is_less" = some (.ref (He.ga K "_law_is_less")) := He.glo_ok X G (c.d.fact 67 (f := .glo "_law_is_less") rfl)
theorem f_law_is_less {K : PySem.W.Frag} (c : SaysM K) : ∃ fd, FnD K "_law_is_less" (top 89) (He.ga K "_law_is_less") fd := c.d.def_ 67 (d := mkD 89 "_law_is_less") rfl
theorem g_law_table {K : PySem.W.Frag} {h : Heap} {mg : Str → Option Value} (X : K.In h) (G : h.Ns mainGlobals mg) (c : SaysM K) : mg "_law_table" = some (.ref (He.ga K "_law_table")) := He.glo_ok X G (c.d.fact 68 (f := .glo "_law_table") rfl)
theorem f_law_table {K : PySem.W.Frag} (c : SaysM K) : ∃ fd, FnD K "_law_table" (top 90) (He.ga K "_law_table") fd := c.d.def_ 68 (d := mkD 90 "_law_table") rfl
theorem g_law_digits {K : PySem.W.Frag} {h : Heap} {mg : Str → Option Value} (X : K.In h) (G : h.Ns mainGlobals mg) (c : SaysM K) : mg "_law_digits" = some (.ref (He.ga K "_law_digits")) := He.glo_ok X G (c.d.fact 69 (f := .glo "_law_digits") rfl)
theorem f_law_digits {K : PySem.W.Frag} (c : SaysM K) : ∃ fd, FnD K "_law_digits" (top 91) (He.ga K "_law_digits") fd := c.d.def_ 69 (d := mkD 91 "_law_digits") rfl
theorem g_law_lot_chance {K : PySem.W.Frag} {h : Heap} {mg : Str → Option Value} (X : K.In h) (G : h.Ns mainGlobals mg) (c : SaysM K) : mg "_law_lot_chance" = some (.ref (He.ga K "_law_lot_chance")) := He.glo_ok X G (c.d.fact 70 (f := .glo "_law_lot_chance") rfl)
theorem f_law_lot_chance {K : PySem.W.Frag} (c : SaysM K) : ∃ fd, FnD K "_law_lot_chance" (top 92) (He.ga K "_law_lot_chance") fd := c.d.def_ 70 (d := mkD 92 "_law_lot_chance") rfl
theorem g_law_outcomes {K : PySem.W.Frag} {h : Heap} {mg : Str → Option Value} (X : K.In h) (G : h.Ns mainGlobals mg) (c : SaysM K) : mg "_law_outcomes" = some (.ref (He.ga K "_law_outcomes")) := He.glo_ok X G (c.d.fact 71 (f := .glo "_law_outcomes") rfl)
theorem f_law_outcomes {K : PySem.W.Frag} (c : SaysM K) : ∃ fd, FnD K "_law_outcomes" (top 93) (He.ga K "_law_outcomes") fd := c.d.def_ 71 (d := mkD 93 "_law_outcomes") rfl
theorem g_law_meaning {K : PySem.W.Frag} {h : Heap} {mg : Str → Option Value} (X : K.In h) (G : h.Ns mainGlobals mg) (c : SaysM K) : mg "_law_meaning" = some (.ref (He.ga K "_law_meaning")) := He.glo_ok X G (c.d.fact 72 (f := .glo "_law_meaning") rfl)
theorem f_law_meaning {K : PySem.W.Frag} (c : SaysM K) : ∃ fd, FnD K "_law_meaning" (top 94) (He.ga K "_law_meaning") fd := c.d.def_ 72 (d := mkD 94 "_law_meaning") rfl
theorem g_law_behind {K : PySem.W.Frag} {h : Heap} {mg : Str → Option Value} (X : K.In h) (G : h.Ns mainGlobals mg) (c : SaysM K) : mg "_law_behind" = some (.ref (He.ga K "_law_behind")) := He.glo_ok X G (c.d.fact 73 (f := .glo "_law_behind") rfl)
theorem f_law_behind {K : PySem.W.Frag} (c : SaysM K) : ∃ fd, FnD K "_law_behind" (top 95) (He.ga K "_law_behind") fd := c.d.def_ 73 (d := mkD 95 "_law_behind") rfl
theorem g_law_rows {K : PySem.W.Frag} {h : Heap} {mg : Str → Option Value} (X : K.In h) (G : h.Ns mainGlobals mg) (c : SaysM K) : mg "_law_rows" = some (.ref (He.ga K "_law_rows")) := He.glo_ok X G (c.d.fact 74 (f := .glo "_law_rows") rfl)
theorem f_law_rows {K : PySem.W.Frag} (c : SaysM K) : ∃ fd, FnD K "_law_rows" (top 96) (He.ga K "_law_rows") fd := c.d.def_ 74 (d := mkD 96 "_law_rows") rfl
theorem g_law_made_tail {K : PySem.W.Frag} {h : Heap} {mg : Str → Option Value} (X : K.In h) (G : h.Ns mainGlobals mg) (c : SaysM K) : mg "_law_made_tail" = some (.ref (He.ga K "_law_made_tail")) := He.glo_ok X G (c.d.fact 75 (f := .glo "_law_made_tail") rfl)
theorem f_law_made_tail {K : PySem.W.Frag} (c : SaysM K) : ∃ fd, FnD K "_law_made_tail" (top 97) (He.ga K "_law_made_tail") fd := c.d.def_ 75 (d := mkD 97 "_law_made_tail") rfl
theorem g_law_floor {K : PySem.W.Frag} {h : Heap} {mg : Str → Option Value} (X : K.In h) (G : h.Ns mainGlobals mg) (c : SaysM K) : mg "_law_floor" = some (.ref (He.ga K "_law_floor")) := He.glo_ok X G (c.d.fact 76 (f := .glo "_law_floor") rfl)
theorem f_law_floor {K : PySem.W.Frag} (c : SaysM K) : ∃ fd, FnD K "_law_floor" (top 98) (He.ga K "_law_floor") fd := c.d.def_ 76 (d := mkD 98 "_law_floor") rfl
theorem g_law_bottoms {K : PySem.W.Frag} {h : Heap} {mg : Str → Option Value} (X : K.In h) (G : h.Ns mainGlobals mg) (c : SaysM K) : mg "_law_bottoms" = some (.ref (He.ga K "_law_bottoms")) := He.glo_ok X G (c.d.fact 77 (f := .glo "_law_bottoms") rfl)
theorem f_law_bottoms {K : PySem.W.Frag} (c : SaysM K) : ∃ fd, FnD K "_law_bottoms" (top 99) (He.ga K "_law_bottoms") fd := c.d.def_ 77 (d := mkD 99 "_law_bottoms") rfl
theorem g_law_closed {K : PySem.W.Frag} {h : Heap} {mg : Str → Option Value} (X : K.In h) (G : h.Ns mainGlobals mg) (c : SaysM K) : mg "_law_closed" = some (.ref (He.ga K "_law_closed")) := He.glo_ok X G (c.d.fact 78 (f := .glo "_law_closed") rfl)
theorem f_law_closed {K : PySem.W.Frag} (c : SaysM K) : ∃ fd, FnD K "_law_closed" (top 100) (He.ga K "_law_closed") fd := c.d.def_ 78 (d := mkD 100 "_law_closed") rfl
theorem g_law_is_let {K : PySem.W.Frag} {h : Heap} {mg : Str → Option Value} (X : K.In h) (G : h.Ns mainGlobals mg) (c : SaysM K) : mg "_law_is_let" = some (.ref (He.ga K "_law_is_let")) := He.glo_ok X G (c.d.fact 79 (f := .glo "_law_is_let") rfl)
theorem f_law_is_let {K : PySem.W.Frag} (c : SaysM K) : ∃ fd, FnD K "_law_is_let" (top 101) (He.ga K "_law_is_let") fd := c.d.def_ 79 (d := mkD 101 "_law_is_let") rfl
theorem g_law_size {K : PySem.W.Frag} {h : Heap} {mg : Str → Option Value} (X : K.In h) (G : h.Ns mainGlobals mg) (c : SaysM K) : mg "_law_size" = some (.ref (He.ga K "_law_size")) := He.glo_ok X G (c.d.fact 80 (f := .glo "_law_size") rfl)
theorem f_law_size {K : PySem.W.Frag} (c : SaysM K) : ∃ fd, FnD K "_law_size" (top 102) (He.ga K "_law_size") fd := c.d.def_ 80 (d := mkD 102 "_law_size") rfl
theorem g_law_parts {K : PySem.W.Frag} {h : Heap} {mg : Str → Option Value} (X : K.In h) (G : h.Ns mainGlobals mg) (c : SaysM K) : mg "_law_parts" = some (.ref (He.ga K "_law_parts")) := He.glo_ok X G (c.d.fact 81 (f := .glo "_law_parts") rfl)
theorem f_law_parts {K : PySem.W.Frag} (c : SaysM K) : ∃ fd, FnD K "_law_parts" (top 103) (He.ga K "_law_parts") fd := c.d.def_ 81 (d := mkD 103 "_law_parts") rfl
theorem g_law_program {K : PySem.W.Frag} {h : Heap} {mg : Str → Option Value} (X : K.In h) (G : h.Ns mainGlobals mg) (c : SaysM K) : mg "_law_program" = some (.ref (He.ga K "_law_program")) := He.glo_ok X G (c.d.fact 82 (f := .glo "_law_program") rfl)
theorem f_law_program {K : PySem.W.Frag} (c : SaysM K) : ∃ fd, FnD K "_law_program" (top 104) (He.ga K "_law_program") fd := c.d.def_ 82 (d := mkD 104 "_law_program") rfl
theorem g_law_are_lengths_right {K : PySem.W.Frag} {h : Heap} {mg : Str → Option Value} (X : K.In h) (G : h.Ns mainGlobals mg) (c : SaysM K) : mg "_law_are_lengths_right" = some (.ref (He.ga K "_law_are_lengths_right")) := He.glo_ok X G (c.d.fact 83 (f := .glo "_law_are_lengths_right") rfl)
theorem f_law_are_lengths_right {K : PySem.W.Frag} (c : SaysM K) : ∃ fd, FnD K "_law_are_lengths_right" (top 105) (He.ga K "_law_are_lengths_right") fd := c.d.def_ 83 (d := mkD 105 "_law_are_lengths_right") rfl
theorem g_law_falls {K : PySem.W.Frag} {h : Heap} {mg : Str → Option Value} (X : K.In h) (G : h.Ns mainGlobals mg) (c : SaysM K) : mg "_law_falls" = some (.ref (He.ga K "_law_falls")) := He.glo_ok X G (c.d.fact 84 (f := .glo "_law_falls") rfl)
theorem f_law_falls {K : PySem.W.Frag} (c : SaysM K) : ∃ fd, FnD K "_law_falls" (top 106) (He.ga K "_law_falls") fd := c.d.def_ 84 (d := mkD 106 "_law_falls") rfl
theorem g_law_is_far_right {K : PySem.W.Frag} {h : Heap} {mg : Str → Option Value} (X : K.In h) (G : h.Ns mainGlobals mg) (c : SaysM K) : mg "_law_is_far_right" = some (.ref (He.ga K "_law_is_far_right")) := He.glo_ok X G (c.d.fact 85 (f := .glo "_law_is_far_right") rfl)
theorem f_law_is_far_right {K : PySem.W.Frag} (c : SaysM K) : ∃ fd, FnD K "_law_is_far_right" (top 107) (He.ga K "_law_is_far_right") fd := c.d.def_ 85 (d := mkD 107 "_law_is_far_right") rfl
theorem g_law {K : PySem.W.Frag} {h : Heap} {mg : Str → Option Value} (X : K.In h) (G : h.Ns mainGlobals mg) (c : SaysM K) : mg "law" = some (.ref (He.ga K "law")) := He.glo_ok X G (c.d.fact 86 (f := .glo "law") rfl)
theorem f_law {K : PySem.W.Frag} (c : SaysM K) : ∃ fd, FnD K "law" (top 108) (He.ga K "law") fd := c.d.def_ 86 (d := mkD 108 "law") rfl
theorem facts {P : Program} {w : World} {K : PySem.W.Frag} {h : Heap} {mg : Str → Option Value} {f : Addr} (X : K.In h) (G : h.Ns mainGlobals mg) (hfa : mg ("law" : Str) = some (.ref f)) (c : SaysM K) :
    ∃ fd : FuncData, (∀ (s : Shared) (v : Value), BindsTo s fd ⟨[v], []⟩ [("_law_script", v)]) ∧ ∀ base : Heap, K.In base → base.Ns mainGlobals mg → FnG P w K mg base 20 f fd ["_law_script"] (sp_law K) := by
  have T := top_of X G c
  have Z := zo_of c
  obtain ⟨fd_is_integer, F_is_integer⟩ := f_is_integer c
  obtain ⟨fd_is_between, F_is_between⟩ := f_is_between c
  obtain ⟨fd_are_between, F_are_between⟩ := f_are_between c
  obtain ⟨fd_is_count, F_is_count⟩ := f_is_count c
  obtain ⟨fd_is_word, F_is_word⟩ := f_is_word c
  obtain ⟨fd_is_ascending, F_is_ascending⟩ := f_is_ascending c
  obtain ⟨fd_is_lot_value, F_is_lot_value⟩ := f_is_lot_value c
  obtain ⟨fd_divisor_of, F_divisor_of⟩ := f_divisor_of c
  obtain ⟨fd_is_fraction_value, F_is_fraction_value⟩ := f_is_fraction_value c
  obtain ⟨fd_is_share_value, F_is_share_value⟩ := f_is_share_value c
  obtain ⟨fd_lowest, F_lowest⟩ := f_lowest c
  obtain ⟨fd_plus, F_plus⟩ := f_plus c
  obtain ⟨fd_minus, F_minus⟩ := f_minus c
  obtain ⟨fd_times, F_times⟩ := f_times c
  obtain ⟨fd_over, F_over⟩ := f_over c
  obtain ⟨fd_total, F_total⟩ := f_total c
  obtain ⟨fd_whole_of, F_whole_of⟩ := f_whole_of c
  obtain ⟨fd_shifted, F_shifted⟩ := f_shifted c
  obtain ⟨fd_is_table_value, F_is_table_value⟩ := f_is_table_value c
  obtain ⟨fd_power_by, F_power_by⟩ := f_power_by c
  obtain ⟨fd_raw_rest, F_raw_rest⟩ := f_raw_rest c
  obtain ⟨fd_raw_digit, F_raw_digit⟩ := f_raw_digit c
  obtain ⟨fd_twos_of, F_twos_of⟩ := f_twos_of c
  obtain ⟨fd_raw_figures, F_raw_figures⟩ := f_raw_figures c
  obtain ⟨fd_sums_of, F_sums_of⟩ := f_sums_of c
  obtain ⟨fd_raw_weight, F_raw_weight⟩ := f_raw_weight c
  obtain ⟨fd_need_table, F_need_table⟩ := f_need_table c
  obtain ⟨fd_need_count, F_need_count⟩ := f_need_count c
  obtain ⟨fd_raw_floor, F_raw_floor⟩ := f_raw_floor c
  obtain ⟨fd_raw_least_mean, F_raw_least_mean⟩ := f_raw_least_mean c
  obtain ⟨fd_floor_at, F_floor_at⟩ := f_floor_at c
  obtain ⟨fd_raw_lot_chance, F_raw_lot_chance⟩ := f_raw_lot_chance c
  obtain ⟨fd_raw_given, F_raw_given⟩ := f_raw_given c
  obtain ⟨fd_raw_renamed, F_raw_renamed⟩ := f_raw_renamed c
  obtain ⟨fd_raw_mixed, F_raw_mixed⟩ := f_raw_mixed c
  obtain ⟨fd_raw_meaning, F_raw_meaning⟩ := f_raw_meaning c
  obtain ⟨fd_looked_at, F_looked_at⟩ := f_looked_at c
  obtain ⟨fd_bind_looked_at, F_bind_looked_at⟩ := f_bind_looked_at c
  obtain ⟨fd_again_looked_at, F_again_looked_at⟩ := f_again_looked_at c
  obtain ⟨fd_map_looked_at, F_map_looked_at⟩ := f_map_looked_at c
  obtain ⟨fd_are_of_one_size, F_are_of_one_size⟩ := f_are_of_one_size c
  obtain ⟨fd_is_program_value, F_is_program_value⟩ := f_is_program_value c
  obtain ⟨fd_inner_of, F_inner_of⟩ := f_inner_of c
  obtain ⟨fd_places_in, F_places_in⟩ := f_places_in c
  obtain ⟨fd_raw_places, F_raw_places⟩ := f_raw_places c
  obtain ⟨fd_need_closed, F_need_closed⟩ := f_need_closed c
  obtain ⟨fd_raw_outcomes, F_raw_outcomes⟩ := f_raw_outcomes c
  obtain ⟨fd_raw_cost, F_raw_cost⟩ := f_raw_cost c
  obtain ⟨fd_draw_lengths, F_draw_lengths⟩ := f_draw_lengths c
  obtain ⟨fd_put_behind, F_put_behind⟩ := f_put_behind c
  obtain ⟨fd_bind_lengths, F_bind_lengths⟩ := f_bind_lengths c
  obtain ⟨fd_again_lengths, F_again_lengths⟩ := f_again_lengths c
  obtain ⟨fd_raw_lengths, F_raw_lengths⟩ := f_raw_lengths c
  obtain ⟨fd_raw_made_tails, F_raw_made_tails⟩ := f_raw_made_tails c
  obtain ⟨fd_plain_cost, F_plain_cost⟩ := f_plain_cost c
  obtain ⟨fd_length_chance, F_length_chance⟩ := f_length_chance c
  obtain ⟨fd_made_tail, F_made_tail⟩ := f_made_tail c
  obtain ⟨fd_law_deck, F_law_deck⟩ := f_law_deck c
  obtain ⟨fd_law_draw, F_law_draw⟩ := f_law_draw c
  obtain ⟨fd_law_pick, F_law_pick⟩ := f_law_pick c
  obtain ⟨fd_law_common, F_law_common⟩ := f_law_common c
  obtain ⟨fd_law_fraction, F_law_fraction⟩ := f_law_fraction c
  obtain ⟨fd_law_plus, F_law_plus⟩ := f_law_plus c
  obtain ⟨fd_law_minus, F_law_minus⟩ := f_law_minus c
  obtain ⟨fd_law_times, F_law_times⟩ := f_law_times c
  obtain ⟨fd_law_over, F_law_over⟩ := f_law_over c
  obtain ⟨fd_law_total, F_law_total⟩ := f_law_total c
  obtain ⟨fd_law_is_less, F_law_is_less⟩ := f_law_is_less c
  obtain ⟨fd_law_table, F_law_table⟩ := f_law_table c
  obtain ⟨fd_law_digits, F_law_digits⟩ := f_law_digits c
  obtain ⟨fd_law_lot_chance, F_law_lot_chance⟩ := f_law_lot_chance c
  obtain ⟨fd_law_outcomes, F_law_outcomes⟩ := f_law_outcomes c
  obtain ⟨fd_law_meaning, F_law_meaning⟩ := f_law_meaning c
  obtain ⟨fd_law_behind, F_law_behind⟩ := f_law_behind c
  obtain ⟨fd_law_rows, F_law_rows⟩ := f_law_rows c
  obtain ⟨fd_law_made_tail, F_law_made_tail⟩ := f_law_made_tail c
  obtain ⟨fd_law_floor, F_law_floor⟩ := f_law_floor c
  obtain ⟨fd_law_bottoms, F_law_bottoms⟩ := f_law_bottoms c
  obtain ⟨fd_law_closed, F_law_closed⟩ := f_law_closed c
  obtain ⟨fd_law_is_let, F_law_is_let⟩ := f_law_is_let c
  obtain ⟨fd_law_size, F_law_size⟩ := f_law_size c
  obtain ⟨fd_law_parts, F_law_parts⟩ := f_law_parts c
  obtain ⟨fd_law_program, F_law_program⟩ := f_law_program c
  obtain ⟨fd_law_are_lengths_right, F_law_are_lengths_right⟩ := f_law_are_lengths_right c
  obtain ⟨fd_law_falls, F_law_falls⟩ := f_law_falls c
  obtain ⟨fd_law_is_far_right, F_law_is_far_right⟩ := f_law_is_far_right c
  obtain ⟨fd_law, F_law⟩ := f_law c
  have e := hfa.symm.trans (g_law X G c)
  cases e
  have b := FunD.bindsA (ps := ["_law_script"]) F_law fun _ _ _ _ _ _ us hl => match us, hl with | [_], _ => rfl
  refine ⟨fd_law, fun s v => b s [v] rfl, fun base _ _ => ?_⟩
  have c_is_integer := cal_is_integer (P := P) (w := w) (base := base) T (g_is_integer X G c) F_is_integer.kp F_is_integer
  have c_is_between := cal_is_between (P := P) (w := w) (base := base) T c_is_integer (g_is_between X G c) F_is_between.kp F_is_between
  have c_are_between := cal_are_between (P := P) (w := w) (base := base) T c_is_between (g_are_between X G c) F_are_between.kp F_are_between
  have c_is_count := cal_is_count (P := P) (w := w) (base := base) T c_is_integer (g_is_count X G c) F_is_count.kp F_is_count
  have c_is_word := cal_is_word (P := P) (w := w) (base := base) T (g_is_word X G c) F_is_word.kp F_is_word
  have c_is_ascending := cal_is_ascending (P := P) (w := w) (base := base) T (g_is_ascending X G c) F_is_ascending.kp F_is_ascending
  have c_is_lot_value := cal_is_lot_value (P := P) (w := w) (base := base) T c_is_ascending c_are_between (g_is_lot_value X G c) F_is_lot_value.kp F_is_lot_value
  have c_divisor_of := cal_divisor_of (P := P) (w := w) (base := base) T (g_divisor_of X G c) F_divisor_of.kp F_divisor_of
  have c_is_fraction_value := cal_is_fraction_value (P := P) (w := w) (base := base) T c_is_integer c_divisor_of (g_is_fraction_value X G c) F_is_fraction_value.kp F_is_fraction_value
  have c_is_share_value := cal_is_share_value (P := P) (w := w) (base := base) T c_is_fraction_value (g_is_share_value X G c) F_is_share_value.kp F_is_share_value
  have c_lowest := cal_lowest (P := P) (w := w) (base := base) T c_divisor_of (g_lowest X G c) F_lowest.kp F_lowest
  have c_plus := cal_plus (P := P) (w := w) (base := base) T c_lowest (g_plus X G c) F_plus.kp F_plus
  have c_minus := cal_minus (P := P) (w := w) (base := base) T c_lowest (g_minus X G c) F_minus.kp F_minus
  have c_times := cal_times (P := P) (w := w) (base := base) T c_lowest (g_times X G c) F_times.kp F_times
  have c_over := cal_over (P := P) (w := w) (base := base) T c_lowest (g_over X G c) F_over.kp F_over
  have c_total := cal_total (P := P) (w := w) (base := base) T Z c_plus (g_total X G c) F_total.kp F_total
  have c_whole_of := cal_whole_of (P := P) (w := w) (base := base) T (g_whole_of X G c) F_whole_of.kp F_whole_of
  have c_shifted := cal_shifted (P := P) (w := w) (base := base) T c_lowest (g_shifted X G c) F_shifted.kp F_shifted
  have c_is_table_value := cal_is_table_value (P := P) (w := w) (base := base) T Z c_is_share_value c_total (g_is_table_value X G c) F_is_table_value.kp F_is_table_value
  have c_power_by := cal_power_by (P := P) (w := w) (base := base) T (g_power_by X G c) F_power_by.kp F_power_by
  have c_raw_rest := cal_raw_rest (P := P) (w := w) (base := base) T c_lowest c_power_by (g_raw_rest X G c) F_raw_rest.kp F_raw_rest
  have c_raw_digit := cal_raw_digit (P := P) (w := w) (base := base) T c_power_by (g_raw_digit X G c) F_raw_digit.kp F_raw_digit
  have c_twos_of := cal_twos_of (P := P) (w := w) (base := base) T (g_twos_of X G c) F_twos_of.kp F_twos_of
  have c_raw_figures := cal_raw_figures (P := P) (w := w) (base := base) T c_twos_of (g_raw_figures X G c) F_raw_figures.kp F_raw_figures
  have c_sums_of := cal_sums_of (P := P) (w := w) (base := base) T c_lowest (g_sums_of X G c) F_sums_of.kp F_sums_of
  have c_raw_weight := cal_raw_weight (P := P) (w := w) (base := base) T c_raw_figures c_sums_of c_times c_plus c_lowest c_shifted (g_raw_weight X G c) F_raw_weight.kp F_raw_weight
  have c_need_table := cal_need_table (P := P) (w := w) (base := base) T c_is_table_value (g_need_table X G c) F_need_table.kp F_need_table
  have c_need_count := cal_need_count (P := P) (w := w) (base := base) T c_is_count (g_need_count X G c) F_need_count.kp F_need_count
  have c_raw_floor := cal_raw_floor (P := P) (w := w) (base := base) T c_shifted c_total c_raw_rest (g_raw_floor X G c) F_raw_floor.kp F_raw_floor
  have c_raw_least_mean := cal_raw_least_mean (P := P) (w := w) (base := base) T c_total c_raw_weight (g_raw_least_mean X G c) F_raw_least_mean.kp F_raw_least_mean
  have c_floor_at := cal_floor_at (P := P) (w := w) (base := base) T c_need_table c_need_count c_raw_floor (g_floor_at X G c) F_floor_at.kp F_floor_at
  have c_raw_lot_chance := cal_raw_lot_chance (P := P) (w := w) (base := base) T c_total (g_raw_lot_chance X G c) F_raw_lot_chance.kp F_raw_lot_chance
  have c_raw_given := cal_raw_given (P := P) (w := w) (base := base) T Z c_raw_lot_chance c_over (g_raw_given X G c) F_raw_given.kp F_raw_given
  have c_raw_renamed := cal_raw_renamed (P := P) (w := w) (base := base) T c_total (g_raw_renamed X G c) F_raw_renamed.kp F_raw_renamed
  have c_raw_mixed := cal_raw_mixed (P := P) (w := w) (base := base) T c_total c_times (g_raw_mixed X G c) F_raw_mixed.kp F_raw_mixed
  have c_raw_meaning := cal_raw_meaning (P := P) (w := w) (base := base) T Z c_raw_mixed c_raw_given c_raw_renamed (g_raw_meaning X G c) F_raw_meaning.kp F_raw_meaning
  have c_looked_at := cal_looked_at (P := P) (w := w) (base := base) T Z c_is_word c_is_between c_is_table_value c_is_lot_value c_raw_lot_chance c_raw_meaning c_are_between (g_looked_at X G c) F_looked_at.kp F_looked_at (g_bind_looked_at X G c) F_bind_looked_at.kp F_bind_looked_at (g_again_looked_at X G c) F_again_looked_at.kp F_again_looked_at (g_map_looked_at X G c) F_map_looked_at.kp F_map_looked_at
  have c_are_of_one_size := cal_are_of_one_size (P := P) (w := w) (base := base) T (g_are_of_one_size X G c) F_are_of_one_size.kp F_are_of_one_size
  have c_is_program_value := cal_is_program_value (P := P) (w := w) (base := base) T c_looked_at c_are_of_one_size (g_is_program_value X G c) F_is_program_value.kp F_is_program_value
  have c_inner_of := cal_inner_of (P := P) (w := w) (base := base) T (g_inner_of X G c) F_inner_of.kp F_inner_of
  have c_places_in := cal_places_in (P := P) (w := w) (base := base) T c_inner_of (g_places_in X G c) F_places_in.kp F_places_in
  have c_raw_places := cal_raw_places (P := P) (w := w) (base := base) T c_places_in (g_raw_places X G c) F_raw_places.kp F_raw_places
  have c_need_closed := cal_need_closed (P := P) (w := w) (base := base) T c_raw_places c_is_program_value (g_need_closed X G c) F_need_closed.kp F_need_closed
  have c_raw_outcomes := cal_raw_outcomes (P := P) (w := w) (base := base) T (g_raw_outcomes X G c) F_raw_outcomes.kp F_raw_outcomes
  have c_raw_cost := cal_raw_cost (P := P) (w := w) (base := base) T Z c_raw_least_mean c_raw_meaning c_plus c_total c_times c_over c_raw_lot_chance (g_raw_cost X G c) F_raw_cost.kp F_raw_cost
  have c_draw_lengths := cal_draw_lengths (P := P) (w := w) (base := base) T c_whole_of c_raw_digit (g_draw_lengths X G c) F_draw_lengths.kp F_draw_lengths
  have c_put_behind := cal_put_behind (P := P) (w := w) (base := base) T (g_put_behind X G c) F_put_behind.kp F_put_behind
  have c_bind_lengths := cal_bind_lengths (P := P) (w := w) (base := base) T c_put_behind (g_bind_lengths X G c) F_bind_lengths.kp F_bind_lengths
  have c_again_lengths := cal_again_lengths (P := P) (w := w) (base := base) T (g_again_lengths X G c) F_again_lengths.kp F_again_lengths
  have c_raw_lengths := cal_raw_lengths (P := P) (w := w) (base := base) T c_draw_lengths c_bind_lengths c_again_lengths (g_raw_lengths X G c) F_raw_lengths.kp F_raw_lengths
  have c_raw_made_tails := cal_raw_made_tails (P := P) (w := w) (base := base) T Z c_raw_lengths c_minus c_shifted (g_raw_made_tails X G c) F_raw_made_tails.kp F_raw_made_tails
  have c_plain_cost := cal_plain_cost (P := P) (w := w) (base := base) T c_need_closed c_raw_cost (g_plain_cost X G c) F_plain_cost.kp F_plain_cost
  have c_length_chance := cal_length_chance (P := P) (w := w) (base := base) T c_need_closed c_is_between c_raw_outcomes c_need_count c_shifted c_raw_lengths (g_length_chance X G c) F_length_chance.kp F_length_chance
  have k_length_chance := calk_length_chance c_length_chance (g_length_chance X G c) F_length_chance (by
    obtain ⟨f', fd', e1, e2, e3, e4⟩ := c_length_chance.ex
    exact ok_length_chance (P := P) (w := w) (base := base) T c_need_closed c_is_between c_raw_outcomes c_need_count c_shifted c_raw_lengths F_length_chance) F_length_chance.kp
  have c_made_tail := cal_made_tail (P := P) (w := w) (base := base) T c_need_closed c_need_count c_raw_made_tails (g_made_tail X G c) F_made_tail.kp F_made_tail
  have k_made_tail := calk_made_tail c_made_tail (g_made_tail X G c) F_made_tail (by
    obtain ⟨f', fd', e1, e2, e3, e4⟩ := c_made_tail.ex
    exact ok_made_tail (P := P) (w := w) (base := base) T c_need_closed c_need_count c_raw_made_tails F_made_tail) F_made_tail.kp
  have c_law_deck := cal_law_deck (P := P) (w := w) (base := base) T (g_law_deck X G c) F_law_deck.kp F_law_deck
  have c_law_draw := cal_law_draw (P := P) (w := w) (base := base) T (g_law_draw X G c) F_law_draw.kp F_law_draw
  have c_law_pick := cal_law_pick (P := P) (w := w) (base := base) T c_law_draw (g_law_pick X G c) F_law_pick.kp F_law_pick
  have c_law_common := cal_law_common (P := P) (w := w) (base := base) T (g_law_common X G c) F_law_common.kp F_law_common
  have c_law_fraction := cal_law_fraction (P := P) (w := w) (base := base) T c_law_common (g_law_fraction X G c) F_law_fraction.kp F_law_fraction
  have c_law_plus := cal_law_plus (P := P) (w := w) (base := base) T c_law_fraction (g_law_plus X G c) F_law_plus.kp F_law_plus
  have c_law_minus := cal_law_minus (P := P) (w := w) (base := base) T c_law_fraction (g_law_minus X G c) F_law_minus.kp F_law_minus
  have c_law_times := cal_law_times (P := P) (w := w) (base := base) T c_law_fraction (g_law_times X G c) F_law_times.kp F_law_times
  have c_law_over := cal_law_over (P := P) (w := w) (base := base) T c_law_fraction (g_law_over X G c) F_law_over.kp F_law_over
  have c_law_total := cal_law_total (P := P) (w := w) (base := base) T c_law_plus (g_law_total X G c) F_law_total.kp F_law_total
  have c_law_is_less := cal_law_is_less (P := P) (w := w) (base := base) T (g_law_is_less X G c) F_law_is_less.kp F_law_is_less
  have c_law_table := cal_law_table (P := P) (w := w) (base := base) T c_law_pick c_law_draw c_law_fraction (g_law_table X G c) F_law_table.kp F_law_table
  have c_law_digits := cal_law_digits (P := P) (w := w) (base := base) T (g_law_digits X G c) F_law_digits.kp F_law_digits
  have c_law_lot_chance := cal_law_lot_chance (P := P) (w := w) (base := base) T c_law_total (g_law_lot_chance X G c) F_law_lot_chance.kp F_law_lot_chance
  have c_law_outcomes := cal_law_outcomes (P := P) (w := w) (base := base) T (g_law_outcomes X G c) F_law_outcomes.kp F_law_outcomes
  have c_law_meaning := cal_law_meaning (P := P) (w := w) (base := base) T c_law_outcomes c_law_plus c_law_times c_law_lot_chance c_law_over (g_law_meaning X G c) F_law_meaning.kp F_law_meaning
  have c_law_behind := cal_law_behind (P := P) (w := w) (base := base) T (g_law_behind X G c) F_law_behind.kp F_law_behind
  have c_law_rows := cal_law_rows (P := P) (w := w) (base := base) T c_law_outcomes c_law_digits c_law_behind (g_law_rows X G c) F_law_rows.kp F_law_rows
  have c_law_made_tail := cal_law_made_tail (P := P) (w := w) (base := base) T c_law_fraction (g_law_made_tail X G c) F_law_made_tail.kp F_law_made_tail
  have c_law_floor := cal_law_floor (P := P) (w := w) (base := base) T c_law_fraction (g_law_floor X G c) F_law_floor.kp F_law_floor
  have c_law_bottoms := cal_law_bottoms (P := P) (w := w) (base := base) T (g_law_bottoms X G c) F_law_bottoms.kp F_law_bottoms
  have c_law_closed := cal_law_closed (P := P) (w := w) (base := base) T c_law_draw c_law_table c_law_bottoms c_law_lot_chance c_law_meaning (g_law_closed X G c) F_law_closed.kp F_law_closed
  have c_law_is_let := cal_law_is_let (P := P) (w := w) (base := base) T (g_law_is_let X G c) F_law_is_let.kp F_law_is_let
  have c_law_size := cal_law_size (P := P) (w := w) (base := base) T c_law_is_let c_law_meaning (g_law_size X G c) F_law_size.kp F_law_size
  have c_law_parts := cal_law_parts (P := P) (w := w) (base := base) T (g_law_parts X G c) F_law_parts.kp F_law_parts
  have c_law_program := cal_law_program (P := P) (w := w) (base := base) T c_law_draw c_law_closed c_law_pick c_law_size c_law_parts c_law_table c_law_bottoms (g_law_program X G c) F_law_program.kp F_law_program
  have c_law_are_lengths_right := cal_law_are_lengths_right (P := P) (w := w) (base := base) T c_law_made_tail c_law_meaning c_law_draw c_law_fraction c_length_chance c_made_tail c_floor_at c_law_is_less c_law_floor c_law_total c_plain_cost k_length_chance k_made_tail (g_law_are_lengths_right X G c) F_law_are_lengths_right.kp F_law_are_lengths_right
  have c_law_falls := cal_law_falls (P := P) (w := w) (base := base) T c_length_chance c_law_minus c_made_tail c_law_total (g_law_falls X G c) F_law_falls.kp F_law_falls
  have c_law_is_far_right := cal_law_is_far_right (P := P) (w := w) (base := base) T c_law_table c_law_bottoms c_law_draw c_law_fraction c_law_digits c_made_tail c_length_chance c_law_floor (g_law_is_far_right X G c) F_law_is_far_right.kp F_law_is_far_right
  have c_law := cal_law (P := P) (w := w) (base := base) T c_law_deck c_law_draw c_law_program c_law_rows c_law_falls c_law_are_lengths_right c_law_is_far_right (g_law X G c) F_law.kp F_law
  obtain ⟨f', fd', e1, _, _, e4⟩ := c_law.ex
  exact ok_law T c_law_deck c_law_draw c_law_program c_law_rows c_law_falls c_law_are_lengths_right c_law_is_far_right F_law
end K39

set_option Elab.async false
set_option linter.all false
set_option maxRecDepth 100000
set_option maxHeartbeats 0
namespace K39
open PySem PySem.Spec PyProof.Rows L2 HandSHeadRun PySem.W
theorem run (w : World) : HandSHeadRun.RunEq R (PySem.W.view R.prog [LAWIX]) hkM ob 4000 loose w := by
  intro os
  kernel_rfl
end K39

set_option Elab.async false
set_option linter.all false
set_option maxRecDepth 100000
set_option maxHeartbeats 1000000
/-! End: the law's call where no guard is up; the row -/
namespace K39
open PySem PySem.Spec PyProof.Rows L2
/-- what is tracked at the call: the script, if it is not one of the module's own -/
def scriptH (K : PySem.W.Frag) (a : Addr) (o : Obj) (ns : List Int) : Hp := fun b => if b = a ∧ K.lookup a = none then some (.frz o (.lst (ns.map V.int))) else none
section
variable {P : Program} {w : World} {K : PySem.W.Frag} {mg mb : Str → Option Value} {k : Nat} {fa a : Addr} {fd : FuncData} {x : Str} {sp : Sp} {s : Shared} {vs : List Value} {ns : List Int}
theorem scriptH_out {o : Obj} {b : Addr} (h : b ≠ a) : scriptH K a o ns b = none := if_neg fun z => h z.1
theorem scriptH_some {o : Obj} {b : Addr} {u : HO} (h : scriptH K a o ns b = some u) : b = a ∧ K.lookup a = none ∧ u = .frz o (.lst (ns.map V.int)) := by
  unfold scriptH at h
  split at h
  · rename_i c
    exact ⟨c.1, c.2, (Option.some.inj h).symm⟩
  · cases h
theorem law_callG (KX : K.In s.heap) (hns : s.heap.Ns mainGlobals mg) (hb : s.heap.Ns builtinsNs mb) (hbb : ∀ x : Str, x ≠ "__name__" → mb x = bootBuiltins x) (hlim : s.heap.NoLimit) (hg : s.gens = #[])
    (ha : s.heap.get? a = some { cls := .type "list", data := .seq vs.toArray }) (hi : IntsAre vs ns) (hl : ns.length ≤ sizeLine) (hr : Room k callerA)
    (F : ∀ base : Heap, K.In base → base.Ns mainGlobals mg → FnG P w K mg base k fa fd [x] sp) (hbind : ∀ (s : Shared) (u : Value), BindsTo s fd ⟨[u], []⟩ [(x, u)])
    (hsp : ∀ H : Hp, SqL K H a (ns.map V.int) → sp [.ref a] H (fun v _ => v = .bl true) E0) :
    codeAny (model P w) callerA (.call (.ref fa) ⟨[.ref a], []⟩) (fun r s' => r = .ok (.ret (.bool true)) ∧ OldK s.heap s'.heap ∧ s'.os = s.os ∧ AllBare s'.gens) s := by
  let o : Obj := { cls := .type "list", data := .seq vs.toArray }
  let H : Hp := scriptH K a o ns
  have rv := vals_ints hi
  have out : ∀ {b : Addr} {u : Obj}, s.heap.get? b = some u → H b = none → (hidT s.heap H).get? b = some u := fun e n => hidT_get e n
  -- dicts are not the script
  have dict : ∀ {b : Addr} {m : Str → Option Value}, s.heap.Ns b m → (hidT s.heap H).Ns b m := fun {b m} ⟨u, es, ep, e, d, r⟩ => by
    refine ⟨u, es, ep, out e (scriptH_out fun z => ?_), d, r⟩
    subst z
    have e' := ha.symm.trans e
    cases e'
    cases (show Data.seq vs.toArray _ = Data.dict es ep from d)
  have own : K.In (hidT s.heap H) := fun b u e => out (KX b u e) (by
    cases q : H b with
    | none => rfl
    | some v =>
      obtain ⟨rfl, n, _⟩ := scriptH_some q
      rw [n] at e; cases e)
  have md : Mod K mg (hidT s.heap H) := ⟨own, dict hns, ⟨mb, dict hb, hbb⟩, let ⟨mc, h1, h2⟩ := hlim; ⟨mc, dict h1, h2⟩⟩
  have hok : HOk P w H s.heap := fun b u q => by
    obtain ⟨rfl, _, rfl⟩ := scriptH_some q
    exact ⟨ha, by rw [List.length_map]; exact hl, vs, _, rv, ha⟩
  have seq : SqL K H a (ns.map V.int) := by
    cases q : K.lookup a with
    | none => exact .inl (.inr ⟨o, if_pos ⟨rfl, q⟩⟩)
    | some u =>
      have e := ha.symm.trans (KX a u q)
      cases e
      exact .inr ⟨_, vs.toArray, _, q, rfl, rfl, rfl, by rw [List.size_toArray, hi.length]; exact hl, by simpa using rv⟩
  have env : Env0 P w K mg (hidT s.heap H) callerA [] s H := ⟨rfl, md, fun b u e => of_hidT e, Nat.le_of_eq (hidT_size _ _), trivial, fun b hb => absurd (show b ∈ ([] : List Addr) from hb) (by simp), hok, .of_eq hg⟩
  refine codeAny_mono ((F _ own (dict hns)).run callerA [] s H ⟨[.ref a], []⟩ [.ref a] [.ref a] _ _ rfl hr env (hbind s (.ref a)) (.cons rfl .nil) (hsp H seq)) fun r s' h => ?_
  match r, h with
  | .error e, h => exact h.elim
  | .ok .next, h => exact False.elim h
  | .ok .brk, h => exact False.elim h
  | .ok .cont, h => exact False.elim h
  | .ok (.ret u), ⟨v, H', os, bare, un, hok', r', q⟩ =>
    have q' : v = .bl true := q
    subst q'
    obtain rfl : u = Value.bool true := r'
    refine ⟨rfl, OldK.of_keep fun b u e => ?_, os, bare⟩
    cases q : H b with
    | none => exact un.keep b u e q (by intro z; exact absurd (show b ∈ ([] : List Addr) from z) (by simp)) (by simp)
    | some v =>
      obtain ⟨rfl, _, rfl⟩ := scriptH_some q
      have z2 := un.frzs b o _ q
      obtain ⟨e2, _⟩ := hok' b _ z2
      cases ha.symm.trans e
      exact e2
end
theorem walk_ofG {l : PySem.W.OpenLaw} {n k : Nat} {q : Program} {loose : List Str} {XP : (Str → Option Value) → Heap → Prop} {YP : World → Heap → Prop} {d : DefRec} {x : Str}
    (hn : l.most = some n) (hn2 : n ≤ sizeLine) (hdf : d.params.defaults = []) (hr : Room k callerA)
    (F : ∀ (w : World) (mg : Str → Option Value) (fa : Addr) (h : Heap), YP w h → h.Ns mainGlobals mg → mg d.name = some (.ref fa) →
      ∃ (K : PySem.W.Frag) (fd : FuncData) (sp : Sp), K.In h ∧ (∀ (s : Shared) (u : Value), BindsTo s fd ⟨[u], []⟩ [(x, u)]) ∧
        (∀ (H : Hp) (a : Addr) (ns : List Int), ns.length ≤ n → SqL K H a (ns.map V.int) → sp [.ref a] H (fun v _ => v = .bl true) E0) ∧
        ∀ base : Heap, K.In base → base.Ns mainGlobals mg → FnG l.prog w K mg base k fa fd [x] sp) :
    PySem.W.WalkO q loose XP YP l.row.toRowW d [] (fun f vs => PySem.call f vs) := by
  refine Att.attach_call hn hdf fun w s₀ s₁ mg mb fa o pm cd doc a vs ns G Y ho hd hcd hmg hobj hints hlen hg => ?_
  obtain ⟨K, fd, sp, KX, hb, hsp, hF⟩ := F w mg fa _ Y G.T.g hmg
  exact law_callG KX G.T.g G.T.b G.T.builtins G.T.nolimit hg hobj hints (Nat.le_trans hlen hn2) hr hF hb fun H hS => hsp H a ns hlen hS
end K39
open PySem PySem.W PySem.Calls PyProof.Rows
set_option maxHeartbeats 0 in
theorem PySem.Challenge.cw_drawnbits_k39_whole_lengths_and_made_tai_holds : PySem.Challenge.rw_drawnbits_k39_whole_lengths_and_made_tai.Holds := by
  w_on; o_law
  refine HandSHeadRun.head_any (r := OpenLaw.row PySem.Challenge.rw_drawnbits_k39_whole_lengths_and_made_tai) (q := view (OpenLaw.row PySem.Challenge.rw_drawnbits_k39_whole_lengths_and_made_tai).prog [K39.LAWIX]) (H := K39.hkM) (ob := K39.ob) (M := 4000) (loose := K39.loose) (d := HandSHeadRun.topDef (OpenLaw.row PySem.Challenge.rw_drawnbits_k39_whole_lengths_and_made_tai).prog K39.LAWIX) (kwd := []) K39.ob_eq
    (by kernel_rfl) (fun s => by kernel_rfl) K39.run (by kernel_rfl) (by kernel_rfl) (by kernel_rfl) (by rfl) (by first | assumption | decide +kernel) (by decide +kernel) ⟨rfl, rfl, rfl, rfl, rfl, by decide +kernel⟩ ?hw ?hc
  case hw => w_witness2
  case hc =>
    refine K39.walk_ofG (l := PySem.Challenge.rw_drawnbits_k39_whole_lengths_and_made_tai) (n := 63) (k := 20) (x := "_law_script") rfl (by decide) (by kernel_rfl) ⟨rfl, by decide, by decide⟩ ?F
    intro w mg fa h Y G hmg0
    obtain ⟨K, KX, c⟩ := Y
    have hmg : mg ("law" : PySem.Str) = some (.ref fa) := by
      have e : (HandSHeadRun.topDef (OpenLaw.row PySem.Challenge.rw_drawnbits_k39_whole_lengths_and_made_tai).prog K39.LAWIX).name = ("law" : PySem.Str) := by kernel_rfl
      rw [← e]
      exact hmg0
    obtain ⟨fd, hb, hF⟩ := K39.facts (P := (PySem.Challenge.rw_drawnbits_k39_whole_lengths_and_made_tai).prog) (w := w) KX G hmg c
    exact ⟨K, fd, K39.sp_law K, KX, hb, fun H a ns hl hS => ⟨a, ns, rfl, hS, trivial, hl, fun _ => rfl⟩, hF⟩
