import PyProof.Rows.All
import Wide.All
import OpenK.AllK
import Wide.FinOn
import HandS.ForMost
import HandS.Walk
import HandS.Wide
import HandS.IsInst
import HandS.TupAny
import HandS.TupMul
import HandS.Deep
import HandS.Zip
import KE.GoesMore
import HandS.Head0
import HandS.Head1
import HandS.Head2
import HandS.HeadEnd
import HandS.HeadHook1
import HandS.HeadHook2
import HandS.Conv
import HandS.Ends
import PyProof.ReprRoads
import PySem.Challenge.RW_stridelots_k06_all_deeds
set_option Elab.async false
set_option linter.all false
set_option maxRecDepth 100000
set_option maxHeartbeats 2000000
/-! A layer of data over the hand layer: each def's body is told by a function on plain data; lists and dicts that a def alone holds are told by value. -/
namespace DL
open PySem PySem.Spec L2
/-- plain data -/
inductive D where
  | non | bl (b : Bool) | int (i : Int) | str (s : Str)
  | tup (xs : List D) | lst (xs : List D) | ins (C : Addr) (ns : List Str) (xs : List D) | scr (ns : List Int)
mutual
/-- the value v stands for the datum in a heap -/
inductive Rp (K : PySem.W.Frag) (H : Hp) : V → D → Prop
  | non : Rp K H .non .non
  | bl (b : Bool) : Rp K H (.bl b) (.bl b)
  | int (i : Int) : Rp K H (.int i) (.int i)
  | str (x : Str) : Rp K H (.str x) (.str x)
  | lst {a : Addr} {xs : List V} {ds : List D} : H a = some (.lst xs) → Rps K H xs ds → Rp K H (.ref a) (.lst ds)
  | tup {a : Addr} {xs : List V} {ds : List D} : H a = some (.tup xs) → Rps K H xs ds → Rp K H (.ref a) (.tup ds)
  | scr {a : Addr} {ns : List Int} : SqL K H a (ns.map V.int) → Rp K H (.ref a) (.scr ns)
  | ins {a C dx : Addr} {ns : List Str} {xs : List V} {ds : List D} : H a = some (.ins C dx (ns.zip xs)) → Rps K H xs ds → ns.length = xs.length → Rp K H (.ref a) (.ins C ns ds)
inductive Rps (K : PySem.W.Frag) (H : Hp) : List V → List D → Prop
  | nil : Rps K H [] []
  | cons {v : V} {vs : List V} {d : D} {ds : List D} : Rp K H v d → Rps K H vs ds → Rps K H (v :: vs) (d :: ds)
end
abbrev Ex (H H' : Hp) : Prop := Same H H'
theorem ex_new {H : Hp} {p : Addr} {o : HO} (h : H p = none) : Ex H (upd H p o) := fun a u e => by
  rw [upd_ne (ne_of_none e h)]
  exact e
theorem ex_sqT {K : PySem.W.Frag} {H H' : Hp} {a : Addr} {xs : List V} (e : Ex H H') (h : SqT K H a xs) : SqT K H' a xs := by
  rcases h with (h | ⟨o, h⟩) | h
  · exact .inl (.inl (e _ _ h))
  · exact .inl (.inr ⟨o, e _ _ h⟩)
  · exact .inr h
section
variable {K : PySem.W.Frag} {H H' : Hp}
mutual
theorem Rp.mono (e : Ex H H') : ∀ (d : D) (v : V), Rp K H v d → Rp K H' v d
  | .non, _, h => by cases h; exact .non
  | .bl b, _, h => by cases h; exact .bl b
  | .int i, _, h => by cases h; exact .int i
  | .str x, _, h => by cases h; exact .str x
  | .lst ds, _, h => by
    cases h with
    | lst h1 h2 => exact .lst (e _ _ h1) (Rps.mono e ds _ h2)
  | .tup ds, _, h => by
    cases h with
    | tup h1 h2 => exact .tup (e _ _ h1) (Rps.mono e ds _ h2)
  | .ins C ns ds, _, h => by
    cases h with
    | ins h1 h2 h3 => exact .ins (e _ _ h1) (Rps.mono e ds _ h2) h3
  | .scr ns, _, h => by
    cases h with
    | scr h1 => exact .scr (e.seq h1)
theorem Rps.mono (e : Ex H H') : ∀ (ds : List D) (vs : List V), Rps K H vs ds → Rps K H' vs ds
  | [], _, h => by cases h; exact .nil
  | d :: ds, _, h => by
    cases h with
    | cons h1 h2 => exact .cons (Rp.mono e d _ h1) (Rps.mono e ds _ h2)
end
theorem Rp.up {v : V} {d : D} (h : Rp K H v d) (e : Ex H H') : Rp K H' v d := Rp.mono e d v h
theorem Rps.up {vs : List V} {ds : List D} (h : Rps K H vs ds) (e : Ex H H') : Rps K H' vs ds := Rps.mono e ds vs h
theorem Rps.len : ∀ {vs : List V} {ds : List D}, Rps K H vs ds → vs.length = ds.length
  | _, _, .nil => rfl
  | _, _, .cons _ t => by simp [Rps.len t]
theorem Rps.app : ∀ {vs ws : List V} {ds es : List D}, Rps K H vs ds → Rps K H ws es → Rps K H (vs ++ ws) (ds ++ es)
  | _, _, _, _, .nil, h => h
  | _, _, _, _, .cons a b, h => .cons a (Rps.app b h)
theorem Rps.one {v : V} {d : D} (h : Rp K H v d) : Rps K H [v] [d] := .cons h .nil
theorem Rps.get : ∀ {vs : List V} {ds : List D} {i : Nat} {d : D}, Rps K H vs ds → ds[i]? = some d → ∃ v, vs[i]? = some v ∧ Rp K H v d
  | _, _, _, _, .nil, e => by simp at e
  | _, _, 0, _, .cons r _, e => by simp at e; subst e; exact ⟨_, rfl, r⟩
  | _, _, i + 1, d, .cons _ t, e => by
    obtain ⟨v, h1, h2⟩ := Rps.get (i := i) (d := d) t (by simpa using e)
    exact ⟨v, by simpa using h1, h2⟩
theorem Rps.getV : ∀ {vs : List V} {ds : List D} {i : Nat} {v : V}, Rps K H vs ds → vs[i]? = some v → ∃ d, ds[i]? = some d ∧ Rp K H v d
  | _, _, _, _, .nil, e => by simp at e
  | _, _, 0, _, .cons r _, e => by simp at e; subst e; exact ⟨_, rfl, r⟩
  | _, _, i + 1, v, .cons _ t, e => by
    obtain ⟨d, h1, h2⟩ := Rps.getV (i := i) (v := v) t (by simpa using e)
    exact ⟨d, by simpa using h1, h2⟩
theorem Rps.set {v : V} {d : D} (r : Rp K H v d) : ∀ {vs : List V} {ds : List D} (i : Nat), Rps K H vs ds → Rps K H (vs.set i v) (ds.set i d)
  | _, _, _, .nil => .nil
  | _, _, 0, .cons _ t => .cons r t
  | _, _, i + 1, .cons q t => .cons q (Rps.set r i t)
theorem Rps.erase : ∀ {vs : List V} {ds : List D} (i : Nat), Rps K H vs ds → Rps K H (vs.eraseIdx i) (ds.eraseIdx i)
  | _, _, _, .nil => .nil
  | _, _, 0, .cons _ t => t
  | _, _, i + 1, .cons q t => .cons q (Rps.erase i t)
theorem Rps.take : ∀ {vs : List V} {ds : List D} (i : Nat), Rps K H vs ds → Rps K H (vs.take i) (ds.take i)
  | _, _, 0, _ => .nil
  | _, _, _ + 1, .nil => .nil
  | _, _, i + 1, .cons q t => .cons q (Rps.take i t)
theorem Rps.drop : ∀ {vs : List V} {ds : List D} (i : Nat), Rps K H vs ds → Rps K H (vs.drop i) (ds.drop i)
  | _, _, 0, h => h
  | _, _, _ + 1, .nil => .nil
  | _, _, i + 1, .cons q t => Rps.drop i t
theorem Rps.dropLast : ∀ {vs : List V} {ds : List D}, Rps K H vs ds → Rps K H vs.dropLast ds.dropLast := fun {vs ds} h => by
  rw [List.dropLast_eq_take, List.dropLast_eq_take, h.len]
  exact h.take _
theorem Rps.rev : ∀ {vs : List V} {ds : List D}, Rps K H vs ds → Rps K H vs.reverse ds.reverse
  | _, _, .nil => .nil
  | _, _, .cons q t => by
    rw [List.reverse_cons, List.reverse_cons]
    exact (Rps.rev t).app (.one q)
/-- what is told by the datum alone -/
theorem Rp.of_int {v : V} {i : Int} (h : Rp K H v (.int i)) : v = .int i := by cases h; rfl
theorem Rp.of_bl {v : V} {b : Bool} (h : Rp K H v (.bl b)) : v = .bl b := by cases h; rfl
theorem Rp.of_str {v : V} {s : Str} (h : Rp K H v (.str s)) : v = .str s := by cases h; rfl
theorem Rp.of_non {v : V} (h : Rp K H v .non) : v = .non := by cases h; rfl
theorem Rps.ints : ∀ {ns : List Int} {vs : List V}, Rps K H vs (ns.map D.int) → vs = ns.map V.int
  | [], _, h => by cases h; rfl
  | n :: ns, _, h => by
    cases h with
    | cons h1 h2 => rw [h1.of_int, Rps.ints h2]; rfl
theorem Rps.of_ints : ∀ {ns : List Int}, Rps K H (ns.map V.int) (ns.map D.int)
  | [] => .nil
  | n :: _ => .cons (.int n) Rps.of_ints
theorem Rps.strs : ∀ {ns : List Str} {vs : List V}, Rps K H vs (ns.map D.str) → vs = ns.map V.str
  | [], _, h => by cases h; rfl
  | n :: ns, _, h => by
    cases h with
    | cons h1 h2 => rw [h1.of_str, Rps.strs h2]; rfl
theorem Rps.of_strs : ∀ {ns : List Str}, Rps K H (ns.map V.str) (ns.map D.str)
  | [] => .nil
  | n :: _ => .cons (.str n) Rps.of_strs
theorem Rps.bls : ∀ {ns : List Bool} {vs : List V}, Rps K H vs (ns.map D.bl) → vs = ns.map V.bl
  | [], _, h => by cases h; rfl
  | n :: ns, _, h => by
    cases h with
    | cons h1 h2 => rw [h1.of_bl, Rps.bls h2]; rfl
end
/-- what is held by one name alone: a list; a dict whose keys are ints and texts, or (t) tuples of them -/
inductive Mu where
  | l (xs : List D)
  | k (kvs : List (Key × D))
  | t (kvs : List (List Key × D))
inductive RpKV {κ : Type} (K : PySem.W.Frag) (G : Hp) : List (κ × V) → List (κ × D) → Prop
  | nil : RpKV K G [] []
  | cons {k : κ} {v : V} {d : D} {vs : List (κ × V)} {ds : List (κ × D)} : Rp K G v d → RpKV K G vs ds → RpKV K G ((k, v) :: vs) ((k, d) :: ds)
inductive MuOk (K : PySem.W.Frag) (G : Hp) : HO → Mu → Prop
  | l {vs : List V} {xs : List D} : Rps K G vs xs → MuOk K G (.lst vs) (.l xs)
  | k {vs : List (Key × V)} {xs : List (Key × D)} : RpKV K G vs xs → MuOk K G (.dK vs) (.k xs)
  | t {vs : List (List Key × V)} {xs : List (List Key × D)} : RpKV K G vs xs → MuOk K G (.dT vs) (.t xs)
theorem RpKV.up {κ : Type} {K : PySem.W.Frag} {G G' : Hp} (e : Ex G G') : ∀ {vs : List (κ × V)} {ds : List (κ × D)}, RpKV K G vs ds → RpKV K G' vs ds
  | _, _, .nil => .nil
  | _, _, .cons h t => .cons (h.up e) (RpKV.up e t)
theorem MuOk.up {K : PySem.W.Frag} {G G' : Hp} {o : HO} {m : Mu} (h : MuOk K G o m) (e : Ex G G') : MuOk K G' o m := by
  cases h with
  | l h => exact .l (h.up e)
  | k h => exact .k (h.up e)
  | t h => exact .t (h.up e)
/-- a slot: not known; a datum that stays; held alone; lent by the caller; (a result only) what slot i holds -/
inductive Sl where
  | un | fz (d : D) | ow (m : Mu) | rf (m : Mu) | bw (i : Nat)
abbrev En := List Sl
def SlOk (K : PySem.W.Frag) (G H : Hp) (s : Option V) : Sl → Prop
  | .un => True
  | .fz d => ∃ v, s = some v ∧ Rp K G v d
  | .ow m => ∃ p o, s = some (.ref p) ∧ G p = none ∧ H p = some o ∧ MuOk K G o m
  | .rf m => ∃ p o, s = some (.ref p) ∧ G p = none ∧ H p = some o ∧ MuOk K G o m
  | .bw _ => False
def Own (σ : L2.St) (ρ : En) (i : Nat) (p : Addr) : Prop := σ[i]? = some (some (.ref p)) ∧ ((∃ m, ρ[i]? = some (.ow m)) ∨ ∃ m, ρ[i]? = some (.rf m))
def OwnA (σ : L2.St) (ρ : En) (p : Addr) : Prop := ∃ i, Own σ ρ i p
/-- G: what stays; H: all -/
structure Good (K : PySem.W.Frag) (G H : Hp) (σ : L2.St) (ρ : En) : Prop where
  ex : Ex G H
  len : σ.length = ρ.length
  sl : ∀ (i : Nat) (s : Option V) (r : Sl), σ[i]? = some s → ρ[i]? = some r → SlOk K G H s r
  nd : ∀ i j p, Own σ ρ i p → Own σ ρ j p → i = j
structure Aft (K : PySem.W.Frag) (G H : Hp) (σ : L2.St) (ρ : En) (G' H' : Hp) (σ' : L2.St) (ρ' : En) : Prop where
  good : Good K G' H' σ' ρ'
  ex : Ex G G'
  keep : ∀ a o, H a = some o → ¬ OwnA σ ρ a → H' a = some o ∧ (G a = none → G' a = none)
  dom : ∀ a o, H a = some o → ∃ o', H' a = some o'
  own : ∀ i p, Own σ' ρ' i p → OwnA σ ρ p ∨ H p = none
  rf : ∀ (i : Nat) (m : Mu), ρ[i]? = some (.rf m) → σ'[i]? = σ[i]? ∧ ∃ m', ρ'[i]? = some (.rf m')
  len : ρ'.length = ρ.length
section
variable {K : PySem.W.Frag} {G H G1 H1 G2 H2 G' H' : Hp} {σ σ1 σ2 : L2.St} {ρ ρ1 ρ2 : En}
theorem Aft.refl (g : Good K G H σ ρ) : Aft K G H σ ρ G H σ ρ :=
  ⟨g, Same.refl G, fun _ _ e _ => ⟨e, fun h => h⟩, fun _ o e => ⟨o, e⟩, fun i p h => .inl ⟨i, h⟩, fun i m h => ⟨rfl, m, h⟩, rfl⟩
theorem none_back (a : ∀ a o, H a = some o → ∃ o', H1 a = some o') {p : Addr} (h : H1 p = none) : H p = none := by
  cases e : H p with
  | none => rfl
  | some o =>
    obtain ⟨o', e'⟩ := a p o e
    rw [h] at e'
    cases e'
theorem Aft.back (a : Aft K G H σ ρ G1 H1 σ1 ρ1) {p : Addr} (h : H1 p = none) : H p = none := none_back a.dom h
theorem Aft.nown (a : Aft K G H σ ρ G1 H1 σ1 ρ1) {p : Addr} {o : HO} (h : H p = some o) (n : ¬ OwnA σ ρ p) : ¬ OwnA σ1 ρ1 p := fun ⟨i, q⟩ => by
  rcases a.own i p q with z | z
  · exact n z
  · rw [h] at z
    cases z
theorem Aft.trans (a : Aft K G H σ ρ G1 H1 σ1 ρ1) (b : Aft K G1 H1 σ1 ρ1 G2 H2 σ2 ρ2) : Aft K G H σ ρ G2 H2 σ2 ρ2 where
  good := b.good
  ex := a.ex.trans b.ex
  keep := fun x o e n => by
    obtain ⟨e1, k1⟩ := a.keep x o e n
    obtain ⟨e2, k2⟩ := b.keep x o e1 (a.nown e n)
    exact ⟨e2, fun z => k2 (k1 z)⟩
  dom := fun x o e => by
    obtain ⟨o', e'⟩ := a.dom x o e
    exact b.dom x o' e'
  own := fun i p q => by
    rcases b.own i p q with ⟨j, z⟩ | z
    · exact a.own j p z
    · exact .inr (a.back z)
  rf := fun i m e => by
    obtain ⟨q1, m1, e1⟩ := a.rf i m e
    obtain ⟨q2, m2, e2⟩ := b.rf i m1 e1
    exact ⟨q2.trans q1, m2, e2⟩
  len := b.len.trans a.len
/-- a new object that stays -/
theorem Good.laid {p : Addr} {o : HO} (g : Good K G H σ ρ) (h : H p = none) : Good K (upd G p o) (upd H p o) σ ρ := by
  have gp : G p = none := g.ex.free h
  refine ⟨fun a u e => ?_, g.len, fun i s r e1 e2 => ?_, g.nd⟩
  · by_cases q : a = p
    · subst q
      rw [upd_same] at e ⊢
      exact e
    · rw [upd_ne q] at e ⊢
      exact g.ex a u e
  · have k := g.sl i s r e1 e2
    cases r with
    | un => trivial
    | fz d =>
      obtain ⟨v, h1, h2⟩ := k
      exact ⟨v, h1, h2.up (ex_new gp)⟩
    | ow m =>
      obtain ⟨q, u, h1, h2, h3, h4⟩ := k
      have ne : q ≠ p := ne_of_none h3 h
      exact ⟨q, u, h1, by rw [upd_ne ne]; exact h2, by rw [upd_ne ne]; exact h3, h4.up (ex_new gp)⟩
    | rf m =>
      obtain ⟨q, u, h1, h2, h3, h4⟩ := k
      have ne : q ≠ p := ne_of_none h3 h
      exact ⟨q, u, h1, by rw [upd_ne ne]; exact h2, by rw [upd_ne ne]; exact h3, h4.up (ex_new gp)⟩
    | bw i => exact k
theorem Aft.laid {p : Addr} {o : HO} (g : Good K G H σ ρ) (h : H p = none) : Aft K G H σ ρ (upd G p o) (upd H p o) σ ρ :=
  ⟨g.laid h, ex_new (g.ex.free h), fun a u e _ => ⟨by rw [upd_ne (ne_of_none e h)]; exact e, fun z => by rw [upd_ne (ne_of_none e h)]; exact z⟩,
    fun a u e => ⟨u, by rw [upd_ne (ne_of_none e h)]; exact e⟩, fun i q z => .inl ⟨i, z⟩, fun i m e => ⟨rfl, m, e⟩, rfl⟩
/-- an object that no slot holds and that does not stay is new, or changes -/
theorem Good.mut {p : Addr} {o : HO} (g : Good K G H σ ρ) (h : G p = none) (n : ¬ OwnA σ ρ p) : Good K G (upd H p o) σ ρ := by
  refine ⟨fun a u e => ?_, g.len, fun i s r e1 e2 => ?_, g.nd⟩
  · rw [upd_ne (ne_of_none e h)]
    exact g.ex a u e
  · have k := g.sl i s r e1 e2
    cases r with
    | un => trivial
    | fz d => exact k
    | ow m =>
      obtain ⟨q, u, h1, h2, h3, h4⟩ := k
      have ne : q ≠ p := fun z => n ⟨i, by rw [e1, h1, z], .inl ⟨m, e2⟩⟩
      exact ⟨q, u, h1, h2, by rw [upd_ne ne]; exact h3, h4⟩
    | rf m =>
      obtain ⟨q, u, h1, h2, h3, h4⟩ := k
      have ne : q ≠ p := fun z => n ⟨i, by rw [e1, h1, z], .inr ⟨m, e2⟩⟩
      exact ⟨q, u, h1, h2, by rw [upd_ne ne]; exact h3, h4⟩
    | bw i => exact k
theorem Own.there (g : Good K G H σ ρ) {i : Nat} {p : Addr} (q : Own σ ρ i p) : G p = none ∧ ∃ o, H p = some o := by
  obtain ⟨e, ⟨m, k⟩ | ⟨m, k⟩⟩ := q
  · obtain ⟨q, u, h1, h2, h3, h4⟩ := g.sl i _ _ e k
    cases h1
    exact ⟨h2, u, h3⟩
  · obtain ⟨q, u, h1, h2, h3, h4⟩ := g.sl i _ _ e k
    cases h1
    exact ⟨h2, u, h3⟩
theorem Good.notOwn (g : Good K G H σ ρ) {p : Addr} (h : H p = none) : ¬ OwnA σ ρ p := fun ⟨i, q⟩ => by
  obtain ⟨_, o, e⟩ := Own.there g q
  rw [h] at e
  cases e
/-- a new object, or one that was new at the start, changed; it does not stay -/
theorem Aft.mut {p : Addr} {o : HO} (a : Aft K G H σ ρ G1 H1 σ1 ρ1) (h0 : H p = none) (h : G1 p = none) (n : ¬ OwnA σ1 ρ1 p) : Aft K G H σ ρ G1 (upd H1 p o) σ1 ρ1 :=
  ⟨a.good.mut h n, a.ex, fun b u e z => by
    obtain ⟨k1, k2⟩ := a.keep b u e z
    exact ⟨by rw [upd_ne (ne_of_none e h0)]; exact k1, k2⟩, fun b u e => by
    obtain ⟨u', k⟩ := a.dom b u e
    exact ⟨u', by rw [upd_ne (ne_of_none e h0)]; exact k⟩, a.own, a.rf, a.len⟩
/-- such an object stays from here on -/
theorem Good.stay {p : Addr} {o : HO} (g : Good K G H σ ρ) (h : G p = none) (e : H p = some o) (n : ¬ OwnA σ ρ p) : Good K (upd G p o) H σ ρ := by
  refine ⟨fun a u q => ?_, g.len, fun i s r e1 e2 => ?_, g.nd⟩
  · by_cases z : a = p
    · subst z
      rw [upd_same] at q
      cases q
      exact e
    · rw [upd_ne z] at q
      exact g.ex a u q
  · have k := g.sl i s r e1 e2
    cases r with
    | un => trivial
    | fz d =>
      obtain ⟨v, h1, h2⟩ := k
      exact ⟨v, h1, h2.up (ex_new h)⟩
    | ow m =>
      obtain ⟨q, u, h1, h2, h3, h4⟩ := k
      have ne : q ≠ p := fun z => n ⟨i, by rw [e1, h1, z], .inl ⟨m, e2⟩⟩
      exact ⟨q, u, h1, by rw [upd_ne ne]; exact h2, h3, h4.up (ex_new h)⟩
    | rf m =>
      obtain ⟨q, u, h1, h2, h3, h4⟩ := k
      have ne : q ≠ p := fun z => n ⟨i, by rw [e1, h1, z], .inr ⟨m, e2⟩⟩
      exact ⟨q, u, h1, by rw [upd_ne ne]; exact h2, h3, h4.up (ex_new h)⟩
    | bw i => exact k
theorem Aft.stay {p : Addr} {o : HO} (a : Aft K G H σ ρ G1 H1 σ1 ρ1) (h0 : H p = none) (h : G1 p = none) (e : H1 p = some o) (n : ¬ OwnA σ1 ρ1 p) : Aft K G H σ ρ (upd G1 p o) H1 σ1 ρ1 :=
  ⟨a.good.stay h e n, a.ex.trans (ex_new h), fun b u q z => by
    obtain ⟨k1, k2⟩ := a.keep b u q z
    exact ⟨k1, fun y => by rw [upd_ne (ne_of_none q h0)]; exact k2 y⟩, a.dom, a.own, a.rf, a.len⟩
theorem getElem?_set_cases {α : Type} {l : List α} {i j : Nat} {x y : α} (h : (l.set i x)[j]? = some y) : (j = i ∧ y = x) ∨ (j ≠ i ∧ l[j]? = some y) := by
  by_cases e : i = j
  · subst e
    by_cases hi : i < l.length
    · rw [List.getElem?_set_self hi] at h
      exact .inl ⟨rfl, (Option.some.inj h).symm⟩
    · rw [List.getElem?_eq_none (by simpa using hi)] at h
      cases h
  · rw [List.getElem?_set_ne e] at h
    exact .inr ⟨fun z => e z.symm, h⟩
/-- what slot i holds alone stays from here on -/
theorem Good.freeze {i : Nat} {p : Addr} {o : HO} {m : Mu} {d : D} (g : Good K G H σ ρ) (e1 : σ[i]? = some (some (.ref p))) (e2 : ρ[i]? = some (.ow m)) (e : H p = some o) (r : Rp K (upd G p o) (.ref p) d) : Good K (upd G p o) H σ (ρ.set i (.fz d)) := by
  obtain ⟨q, u, h1, h2, h3, h4⟩ := g.sl i _ _ e1 e2
  cases h1
  have ownOld : ∀ j a, Own σ (ρ.set i (.fz d)) j a → Own σ ρ j a ∧ j ≠ i := fun j a ⟨z1, z2⟩ => by
    have ne : j ≠ i := fun y => by
      subst y
      rcases z2 with ⟨m', z2⟩ | ⟨m', z2⟩
      · rcases getElem?_set_cases z2 with ⟨_, y⟩ | ⟨y, _⟩
        · cases y
        · exact y rfl
      · rcases getElem?_set_cases z2 with ⟨_, y⟩ | ⟨y, _⟩
        · cases y
        · exact y rfl
    rw [List.getElem?_set_ne (Ne.symm ne)] at z2
    exact ⟨⟨z1, z2⟩, ne⟩
  refine ⟨fun a u q => ?_, by simpa using g.len, fun j s r' e3 e4 => ?_, fun j k a z1 z2 => g.nd j k a (ownOld j a z1).1 (ownOld k a z2).1⟩
  · by_cases z : a = p
    · subst z
      rw [upd_same] at q
      cases q
      exact e
    · rw [upd_ne z] at q
      exact g.ex a u q
  · rcases getElem?_set_cases e4 with ⟨y1, y2⟩ | ⟨y1, y2⟩
    · subst y1
      subst y2
      rw [e1] at e3
      cases e3
      exact ⟨_, rfl, r⟩
    · have k := g.sl j s r' e3 y2
      cases r' with
      | un => trivial
      | fz d' =>
        obtain ⟨v, h1, h2'⟩ := k
        exact ⟨v, h1, h2'.up (ex_new h2)⟩
      | ow m' =>
        obtain ⟨q, u', k1, k2, k3, k4⟩ := k
        have ne : q ≠ p := fun z => y1 (g.nd j i p ⟨by rw [e3, k1, z], .inl ⟨m', y2⟩⟩ ⟨e1, .inl ⟨m, e2⟩⟩)
        exact ⟨q, u', k1, by rw [upd_ne ne]; exact k2, k3, k4.up (ex_new h2)⟩
      | rf m' =>
        obtain ⟨q, u', k1, k2, k3, k4⟩ := k
        have ne : q ≠ p := fun z => y1 (g.nd j i p ⟨by rw [e3, k1, z], .inr ⟨m', y2⟩⟩ ⟨e1, .inl ⟨m, e2⟩⟩)
        exact ⟨q, u', k1, by rw [upd_ne ne]; exact k2, k3, k4.up (ex_new h2)⟩
      | bw _ => exact k
theorem Aft.freeze {i : Nat} {p : Addr} {o : HO} {m : Mu} {d : D} (g : Good K G H σ ρ) (e1 : σ[i]? = some (some (.ref p))) (e2 : ρ[i]? = some (.ow m)) (e : H p = some o) (r : Rp K (upd G p o) (.ref p) d) :
    Aft K G H σ ρ (upd G p o) H σ (ρ.set i (.fz d)) := by
  have gp : G p = none := (Own.there g ⟨e1, .inl ⟨m, e2⟩⟩).1
  refine ⟨g.freeze e1 e2 e r, ex_new gp, fun a u q z => ⟨q, fun y => ?_⟩, fun a u q => ⟨u, q⟩, fun j a ⟨z1, z2⟩ => .inl ⟨j, z1, ?_⟩, fun j m' q => ⟨rfl, m', ?_⟩, by simp⟩
  · rw [upd_ne fun w => z ⟨i, by rw [e1, w], .inl ⟨m, e2⟩⟩]
    exact y
  · rcases z2 with ⟨m', z2⟩ | ⟨m', z2⟩
    · rcases getElem?_set_cases z2 with ⟨_, y⟩ | ⟨_, y⟩
      · cases y
      · exact .inl ⟨m', y⟩
    · rcases getElem?_set_cases z2 with ⟨_, y⟩ | ⟨_, y⟩
      · cases y
      · exact .inr ⟨m', y⟩
  · rw [List.getElem?_set_ne fun z => ?_]
    · exact q
    · subst z
      rw [e2] at q
      cases q
/-- a slot's own object changes in place -/
inductive Held : Sl → Mu → Prop
  | ow (m : Mu) : Held (.ow m) m
  | rf (m : Mu) : Held (.rf m) m
def Sl.put (m : Mu) : Sl → Sl
  | .rf _ => .rf m
  | _ => .ow m
theorem Good.change {i : Nat} {p : Addr} {o : HO} {r : Sl} {m m' : Mu} (g : Good K G H σ ρ) (e1 : σ[i]? = some (some (.ref p))) (e2 : ρ[i]? = some r) (hr : Held r m) (ok : MuOk K G o m') : Good K G (upd H p o) σ (ρ.set i (r.put m')) := by
  have ow : Own σ ρ i p := ⟨e1, by cases hr with | ow m => exact .inl ⟨m, e2⟩ | rf m => exact .inr ⟨m, e2⟩⟩
  have gp := (Own.there g ow).1
  have ownOld : ∀ j a, Own σ (ρ.set i (r.put m')) j a → Own σ ρ j a := fun j a ⟨z1, z2⟩ => by
    by_cases ne : j = i
    · subst ne
      rw [e1] at z1
      cases z1
      exact ow
    · rw [List.getElem?_set_ne (Ne.symm ne)] at z2
      exact ⟨z1, z2⟩
  refine ⟨fun a u q => ?_, by simpa using g.len, fun j s r' e3 e4 => ?_, fun j k a z1 z2 => g.nd j k a (ownOld j a z1) (ownOld k a z2)⟩
  · rw [upd_ne (ne_of_none q gp)]
    exact g.ex a u q
  · rcases getElem?_set_cases e4 with ⟨y1, y2⟩ | ⟨y1, y2⟩
    · subst y1
      subst y2
      rw [e1] at e3
      cases e3
      cases hr with
      | ow m => exact ⟨p, o, rfl, gp, upd_same, ok⟩
      | rf m => exact ⟨p, o, rfl, gp, upd_same, ok⟩
    · have k := g.sl j s r' e3 y2
      cases r' with
      | un => trivial
      | fz d' => exact k
      | ow m' =>
        obtain ⟨q, u', k1, k2, k3, k4⟩ := k
        have ne : q ≠ p := fun z => y1 (g.nd j i p ⟨by rw [e3, k1, z], .inl ⟨m', y2⟩⟩ ow)
        exact ⟨q, u', k1, k2, by rw [upd_ne ne]; exact k3, k4⟩
      | rf m' =>
        obtain ⟨q, u', k1, k2, k3, k4⟩ := k
        have ne : q ≠ p := fun z => y1 (g.nd j i p ⟨by rw [e3, k1, z], .inr ⟨m', y2⟩⟩ ow)
        exact ⟨q, u', k1, k2, by rw [upd_ne ne]; exact k3, k4⟩
      | bw _ => exact k
theorem Aft.change {i : Nat} {p : Addr} {o : HO} {r : Sl} {m m' : Mu} (g : Good K G H σ ρ) (e1 : σ[i]? = some (some (.ref p))) (e2 : ρ[i]? = some r) (hr : Held r m) (ok : MuOk K G o m') : Aft K G H σ ρ G (upd H p o) σ (ρ.set i (r.put m')) := by
  have ow : Own σ ρ i p := ⟨e1, by cases hr with | ow m => exact .inl ⟨m, e2⟩ | rf m => exact .inr ⟨m, e2⟩⟩
  refine ⟨g.change e1 e2 hr ok, Same.refl G, fun a u q z => ⟨?_, fun y => y⟩, fun a u q => ?_, fun j a ⟨z1, z2⟩ => .inl ?_, fun j m1 q => ⟨rfl, ?_⟩, by simp⟩
  · rw [upd_ne fun (w : a = p) => z ⟨i, by rw [w]; exact ow⟩]
    exact q
  · by_cases y : a = p
    · subst y
      exact ⟨o, upd_same⟩
    · exact ⟨u, by rw [upd_ne y]; exact q⟩
  · by_cases ne : j = i
    · subst ne
      rw [e1] at z1
      cases z1
      exact ⟨j, ow⟩
    · rw [List.getElem?_set_ne (Ne.symm ne)] at z2
      exact ⟨j, z1, z2⟩
  · by_cases ne : i = j
    · subst ne
      rw [e2] at q
      cases q
      have hi : i < ρ.length := (List.getElem?_eq_some_iff.mp e2).1
      exact ⟨m', by rw [List.getElem?_set_self hi]; rfl⟩
    · exact ⟨m1, by rw [List.getElem?_set_ne ne]; exact q⟩
/-- slot i is stored anew -/
theorem Good.store {i : Nat} {s : Option V} {r : Sl} (g : Good K G H σ ρ) (ok : SlOk K G H s r) (n : ∀ p, s = some (.ref p) → ((∃ m, r = .ow m) ∨ ∃ m, r = .rf m) → ¬ OwnA σ ρ p) : Good K G H (σ.set i s) (ρ.set i r) := by
  have cases_ : ∀ j p, Own (σ.set i s) (ρ.set i r) j p → (j = i ∧ s = some (.ref p) ∧ ((∃ m, r = .ow m) ∨ ∃ m, r = .rf m)) ∨ (j ≠ i ∧ Own σ ρ j p) := fun j p ⟨z1, z2⟩ => by
    by_cases ne : j = i
    · subst ne
      rcases getElem?_set_cases z1 with ⟨_, y⟩ | ⟨y, _⟩
      · refine .inl ⟨rfl, y.symm, ?_⟩
        rcases z2 with ⟨m, z2⟩ | ⟨m, z2⟩
        · rcases getElem?_set_cases z2 with ⟨_, y⟩ | ⟨y, _⟩
          · exact .inl ⟨m, y.symm⟩
          · exact absurd rfl y
        · rcases getElem?_set_cases z2 with ⟨_, y⟩ | ⟨y, _⟩
          · exact .inr ⟨m, y.symm⟩
          · exact absurd rfl y
      · exact absurd rfl y
    · rw [List.getElem?_set_ne (Ne.symm ne)] at z1 z2
      exact .inr ⟨ne, z1, z2⟩
  refine ⟨g.ex, by simpa using g.len, fun j s' r' e3 e4 => ?_, fun j k p z1 z2 => ?_⟩
  · by_cases ne : j = i
    · subst ne
      rcases getElem?_set_cases e3 with ⟨_, y⟩ | ⟨y, _⟩
      · rcases getElem?_set_cases e4 with ⟨_, y'⟩ | ⟨y', _⟩
        · subst y
          subst y'
          exact ok
        · exact absurd rfl y'
      · exact absurd rfl y
    · rw [List.getElem?_set_ne (Ne.symm ne)] at e3 e4
      exact g.sl j s' r' e3 e4
  · rcases cases_ j p z1 with ⟨y1, y2, y3⟩ | ⟨y1, y2⟩
    · rcases cases_ k p z2 with ⟨x1, _, _⟩ | ⟨_, x2⟩
      · rw [y1, x1]
      · exact absurd ⟨k, x2⟩ (n p y2 y3)
    · rcases cases_ k p z2 with ⟨x1, x2, x3⟩ | ⟨_, x2⟩
      · exact absurd ⟨j, y2⟩ (n p x2 x3)
      · exact g.nd j k p y2 x2
def notRf (ρ : En) (i : Nat) : Bool := match ρ[i]? with
  | some (.rf _) => false
  | some _ => true
  | none => false
theorem Aft.store {i : Nat} {s : Option V} {r : Sl} (a : Aft K G H σ ρ G1 H1 σ1 ρ1) (ok : SlOk K G1 H1 s r) (n : ∀ p, s = some (.ref p) → ((∃ m, r = .ow m) ∨ ∃ m, r = .rf m) → ¬ OwnA σ1 ρ1 p ∧ H p = none) (hr : notRf ρ1 i = true) :
    Aft K G H σ ρ G1 H1 (σ1.set i s) (ρ1.set i r) := by
  refine ⟨a.good.store ok fun p h1 h2 => (n p h1 h2).1, a.ex, a.keep, a.dom, fun j p ⟨z1, z2⟩ => ?_, fun j m e => ?_, by simpa using a.len⟩
  · by_cases ne : j = i
    · subst ne
      rcases getElem?_set_cases z1 with ⟨_, y⟩ | ⟨y, _⟩
      · refine .inr (n p y.symm ?_).2
        rcases z2 with ⟨m, z2⟩ | ⟨m, z2⟩
        · rcases getElem?_set_cases z2 with ⟨_, y⟩ | ⟨y, _⟩
          · exact .inl ⟨m, y.symm⟩
          · exact absurd rfl y
        · rcases getElem?_set_cases z2 with ⟨_, y⟩ | ⟨y, _⟩
          · exact .inr ⟨m, y.symm⟩
          · exact absurd rfl y
      · exact absurd rfl y
    · rw [List.getElem?_set_ne (Ne.symm ne)] at z1 z2
      exact a.own j p ⟨z1, z2⟩
  · obtain ⟨q1, m1, e1⟩ := a.rf j m e
    have ne : i ≠ j := fun z => by
      subst z
      unfold notRf at hr
      rw [e1] at hr
      cases hr
    exact ⟨by rw [List.getElem?_set_ne ne]; exact q1, m1, by rw [List.getElem?_set_ne ne]; exact e1⟩
end
end DL
set_option Elab.async false
set_option linter.all false
set_option maxRecDepth 100000
set_option maxHeartbeats 2000000
namespace DL
open PySem PySem.Spec L2
/-! ### results, readings -/
def ROk (K : PySem.W.Frag) (H0 G H : Hp) (σ : L2.St) (ρ : En) (v : V) : Sl → Prop
  | .fz d => Rp K G v d
  | .ow m => ∃ p o, v = .ref p ∧ H0 p = none ∧ G p = none ∧ H p = some o ∧ MuOk K G o m ∧ ¬ OwnA σ ρ p
  | .bw i => σ[i]? = some (some v)
  | _ => False
inductive RsOk (K : PySem.W.Frag) (H0 G H : Hp) (σ : L2.St) (ρ : En) : List V → List Sl → Prop
  | nil : RsOk K H0 G H σ ρ [] []
  | cons {v : V} {vs : List V} {r : Sl} {rs : List Sl} : ROk K H0 G H σ ρ v r → RsOk K H0 G H σ ρ vs rs → RsOk K H0 G H σ ρ (v :: vs) (r :: rs)
abbrev Fe := En → Option (Sl × En)
abbrev Ft := En → Option (Bool × En)
abbrev Fa := En → Option (List Sl × En)
abbrev Fd := En → Option (List D × En)
def teOf (K : PySem.W.Frag) (f : Fe) : TE := fun σ H Q => ∃ G ρ r ρ', Good K G H σ ρ ∧ f ρ = some (r, ρ') ∧ ∀ v G' H', Aft K G H σ ρ G' H' σ ρ' → ROk K H G' H' σ ρ' v r → Q v H'
def ttOf (K : PySem.W.Frag) (f : Ft) : TT := fun σ H Q => ∃ G ρ b ρ', Good K G H σ ρ ∧ f ρ = some (b, ρ') ∧ ∀ G' H', Aft K G H σ ρ G' H' σ ρ' → Q b H'
def taOf (K : PySem.W.Frag) (f : Fa) : TA := fun σ H Q => ∃ G ρ rs ρ', Good K G H σ ρ ∧ f ρ = some (rs, ρ') ∧ ∀ vs G' H', Aft K G H σ ρ G' H' σ ρ' → RsOk K H G' H' σ ρ' vs rs → Q vs H'
abbrev DE (X : Cx) (e : Expr) (f : Fe) : Prop := PE X e (teOf X.K f)
abbrev DT (X : Cx) (e : Expr) (f : Ft) : Prop := PT X e (ttOf X.K f)
abbrev DW (X : Cx) (e : Expr) (f : Ft) : Prop := PW X e (ttOf X.K f)
abbrev DA (X : Cx) (es : List Expr) (f : Fa) : Prop := PA X es (taOf X.K f)
theorem PE.weak {X : Cx} {e : Expr} {t t' : TE} (h : PE X e t) (w : ∀ σ H Q, t' σ H Q → t σ H Q) : PE X e t' := ⟨fun pins s σ H Q I q => h.run pins s σ H Q I (w σ H Q q)⟩
theorem PT.weak {X : Cx} {e : Expr} {t t' : TT} (h : PT X e t) (w : ∀ σ H Q, t' σ H Q → t σ H Q) : PT X e t' := ⟨fun pins s σ H Q I q => h.run pins s σ H Q I (w σ H Q q)⟩
theorem PW.weak {X : Cx} {e : Expr} {t t' : TT} (h : PW X e t) (w : ∀ σ H Q, t' σ H Q → t σ H Q) : PW X e t' := ⟨fun wh pins s σ H Q I q => h.run wh pins s σ H Q I (w σ H Q q)⟩
theorem PA.weak {X : Cx} {e : List Expr} {t t' : TA} (h : PA X e t) (w : ∀ σ H Q, t' σ H Q → t σ H Q) : PA X e t' := ⟨fun pos pins s σ H Q I q => h.run pos pins s σ H Q I (w σ H Q q)⟩
section
variable {K : PySem.W.Frag} {H0 G H G1 H1 G2 H2 G' H' : Hp} {σ : L2.St} {ρ ρ1 ρ2 ρ' : En} {v : V} {r : Sl} {d : D}
theorem ROk.aft (k : ROk K H0 G1 H1 σ ρ1 v r) (a : Aft K G1 H1 σ ρ1 G2 H2 σ ρ2) : ROk K H0 G2 H2 σ ρ2 v r := by
  cases r with
  | un => exact k
  | fz d => exact Rp.up k a.ex
  | rf m => exact k
  | bw i => exact k
  | ow m =>
    obtain ⟨p, o, rfl, h0, h1, h2, h3, h4⟩ := k
    obtain ⟨k1, k2⟩ := a.keep p o h2 h4
    exact ⟨p, o, rfl, h0, k2 h1, k1, h3.up a.ex, a.nown h2 h4⟩
theorem ROk.start (k : ROk K H1 G2 H2 σ ρ2 v r) (dom : ∀ a o, H0 a = some o → ∃ o', H1 a = some o') : ROk K H0 G2 H2 σ ρ2 v r := by
  cases r with
  | un => exact k
  | fz d => exact k
  | rf m => exact k
  | bw i => exact k
  | ow m =>
    obtain ⟨p, o, rfl, h0, h⟩ := k
    exact ⟨p, o, rfl, none_back dom h0, h⟩
theorem RsOk.aft {vs : List V} {rs : List Sl} (a : Aft K G1 H1 σ ρ1 G2 H2 σ ρ2) : ∀ {vs : List V} {rs : List Sl}, RsOk K H0 G1 H1 σ ρ1 vs rs → RsOk K H0 G2 H2 σ ρ2 vs rs
  | _, _, .nil => .nil
  | _, _, .cons h t => .cons (h.aft a) (RsOk.aft (vs := vs) (rs := rs) a t)
theorem RsOk.start (dom : ∀ a o, H0 a = some o → ∃ o', H1 a = some o') : ∀ {vs : List V} {rs : List Sl}, RsOk K H1 G2 H2 σ ρ2 vs rs → RsOk K H0 G2 H2 σ ρ2 vs rs
  | _, _, .nil => .nil
  | _, _, .cons h t => .cons (h.start dom) (RsOk.start dom t)
/-! ### what an operand is read as -/
def rd (ρ : En) : Sl → Option D
  | .fz d => some d
  | .ow (.l xs) => some (.lst xs)
  | .bw i => match ρ[i]? with
    | some (.fz d) => some d
    | some (.ow (.l xs)) => some (.lst xs)
    | some (.rf (.l xs)) => some (.lst xs)
    | _ => none
  | _ => none
/-- read now: a list whose items stay, or what stays -/
def Vw (K : PySem.W.Frag) (G H : Hp) (v : V) (d : D) : Prop := (∃ xs p vs, d = .lst xs ∧ v = .ref p ∧ H p = some (.lst vs) ∧ Rps K G vs xs) ∨ Rp K G v d
theorem rd_ok (g : Good K G H σ ρ) (k : ROk K H0 G H σ ρ v r) (e : rd ρ r = some d) : Vw K G H v d := by
  cases r with
  | un => cases e
  | rf m => cases e
  | fz d' => cases e; exact .inr k
  | ow m =>
    cases m with
    | k _ => cases e
    | t _ => cases e
    | l xs =>
      cases e
      obtain ⟨p, o, rfl, h0, h1, h2, h3, h4⟩ := k
      cases h3 with
      | l h3 => exact .inl ⟨xs, p, _, rfl, rfl, h2, h3⟩
  | bw i =>
    have e' : (match ρ[i]? with | some (.fz d) => some d | some (.ow (.l xs)) => some (.lst xs) | some (.rf (.l xs)) => some (.lst xs) | _ => none) = some d := e
    have k' : σ[i]? = some (some v) := k
    cases q : ρ[i]? with
    | none => rw [q] at e'; cases e'
    | some x =>
      rw [q] at e'
      have s := g.sl i _ _ k' q
      cases x with
      | un => cases e'
      | bw _ => cases e'
      | fz d' =>
        cases e'
        obtain ⟨v', h1, h2⟩ := s
        cases h1
        exact .inr h2
      | ow m =>
        cases m with
        | k _ => cases e'
        | t _ => cases e'
        | l xs =>
          cases e'
          obtain ⟨p, o, h1, h2, h3, h4⟩ := s
          cases h1
          cases h4 with
          | l h4 => exact .inl ⟨xs, p, _, rfl, rfl, h3, h4⟩
      | rf m =>
        cases m with
        | k _ => cases e'
        | t _ => cases e'
        | l xs =>
          cases e'
          obtain ⟨p, o, h1, h2, h3, h4⟩ := s
          cases h1
          cases h4 with
          | l h4 => exact .inl ⟨xs, p, _, rfl, rfl, h3, h4⟩
theorem Vw.rp (ex : Ex G H) (h : Vw K G H v d) : Rp K H v d := by
  rcases h with ⟨xs, p, vs, rfl, rfl, h1, h2⟩ | h
  · exact .lst h1 (h2.up ex)
  · exact h.up ex
theorem Vw.lst {xs : List D} (ex : Ex G H) (h : Vw K G H v (.lst xs)) : ∃ p vs, v = .ref p ∧ H p = some (.lst vs) ∧ Rps K G vs xs := by
  rcases h with ⟨ys, p, vs, e, rfl, h1, h2⟩ | h
  · cases e; exact ⟨p, vs, rfl, h1, h2⟩
  · cases h with
    | lst h1 h2 => exact ⟨_, _, rfl, ex _ _ h1, h2⟩
theorem Vw.tup {xs : List D} (ex : Ex G H) (h : Vw K G H v (.tup xs)) : ∃ p vs, v = .ref p ∧ G p = some (.tup vs) ∧ H p = some (.tup vs) ∧ Rps K G vs xs := by
  rcases h with ⟨ys, p, vs, e, rfl, h1, h2⟩ | h
  · cases e
  · cases h with
    | tup h1 h2 => exact ⟨_, _, rfl, h1, ex _ _ h1, h2⟩
theorem Vw.int {i : Int} (h : Vw K G H v (.int i)) : v = .int i := by
  rcases h with ⟨ys, p, vs, e, rfl, h1, h2⟩ | h
  · cases e
  · exact h.of_int
theorem Vw.bl {i : Bool} (h : Vw K G H v (.bl i)) : v = .bl i := by
  rcases h with ⟨ys, p, vs, e, rfl, h1, h2⟩ | h
  · cases e
  · exact h.of_bl
theorem Vw.str {i : Str} (h : Vw K G H v (.str i)) : v = .str i := by
  rcases h with ⟨ys, p, vs, e, rfl, h1, h2⟩ | h
  · cases e
  · exact h.of_str
theorem Vw.non (h : Vw K G H v .non) : v = .non := by
  rcases h with ⟨ys, p, vs, e, rfl, h1, h2⟩ | h
  · cases e
  · exact h.of_non
theorem Vw.scr {ns : List Int} (ex : Ex G H) (h : Vw K G H v (.scr ns)) : ∃ p, v = .ref p ∧ SqL K H p (ns.map V.int) := by
  rcases h with ⟨ys, p, vs, e, rfl, h1, h2⟩ | h
  · cases e
  · cases h with
    | scr h1 => exact ⟨_, rfl, ex.seq h1⟩
/-- lists of operands -/
inductive Vws (K : PySem.W.Frag) (G H : Hp) : List V → List D → Prop
  | nil : Vws K G H [] []
  | cons {v : V} {vs : List V} {d : D} {ds : List D} : Vw K G H v d → Vws K G H vs ds → Vws K G H (v :: vs) (d :: ds)
def rds (ρ : En) : List Sl → Option (List D)
  | [] => some []
  | r :: rs => match rd ρ r with
    | some d => match rds ρ rs with
      | some ds => some (d :: ds)
      | none => none
    | none => none
theorem rds_ok (g : Good K G H σ ρ) : ∀ {vs : List V} {rs : List Sl} {ds : List D}, RsOk K H0 G H σ ρ vs rs → rds ρ rs = some ds → Vws K G H vs ds
  | _, _, _, .nil, e => by cases e; exact .nil
  | _, _, _, .cons (r := r) (rs := rs) h t, e => by
    unfold rds at e
    cases q : rd ρ r with
    | none => rw [q] at e; cases e
    | some d =>
      rw [q] at e
      cases q2 : rds ρ rs with
      | none => rw [q2] at e; cases e
      | some ds =>
        rw [q2] at e
        cases e
        exact .cons (rd_ok g h q) (rds_ok g t q2)
/-! ### a result that stays -/
def fr (ρ : En) : Sl → Option (D × En)
  | .fz d => some (d, ρ)
  | .ow (.l xs) => some (.lst xs, ρ)
  | .bw i => match ρ[i]? with
    | some (.fz d) => some (d, ρ)
    | some (.ow (.l xs)) => some (.lst xs, ρ.set i (.fz (.lst xs)))
    | _ => none
  | _ => none
theorem fr_ok {ρ0 : En} {Hs : Hp} {Gs : Hp} (a : Aft K Gs Hs σ ρ0 G H σ ρ) (k : ROk K Hs G H σ ρ v r) (e : fr ρ r = some (d, ρ')) : ∃ G', Aft K Gs Hs σ ρ0 G' H σ ρ' ∧ Rp K G' v d := by
  cases r with
  | un => cases e
  | rf m => cases e
  | fz d' => cases e; exact ⟨G, a, k⟩
  | ow m =>
    cases m with
    | k _ => cases e
    | t _ => cases e
    | l xs =>
      cases e
      obtain ⟨p, o, rfl, h0, h1, h2, h3, h4⟩ := k
      cases h3 with
      | l h3 => exact ⟨_, a.stay h0 h1 h2 h4, .lst upd_same (h3.up (ex_new h1))⟩
  | bw i =>
    have e' : (match ρ[i]? with | some (.fz d) => some (d, ρ) | some (.ow (.l xs)) => some (.lst xs, ρ.set i (.fz (.lst xs))) | _ => none) = some (d, ρ') := e
    have k' : σ[i]? = some (some v) := k
    cases q : ρ[i]? with
    | none => rw [q] at e'; cases e'
    | some x =>
      rw [q] at e'
      have s := a.good.sl i _ _ k' q
      cases x with
      | un => cases e'
      | bw _ => cases e'
      | rf m => cases e'
      | fz d' =>
        cases e'
        obtain ⟨v', h1, h2⟩ := s
        cases h1
        exact ⟨G, a, h2⟩
      | ow m =>
        cases m with
        | k _ => cases e'
        | t _ => cases e'
        | l xs =>
          cases e'
          obtain ⟨p, o, h1, h2, h3, h4⟩ := s
          cases h1
          cases h4 with
          | l h4 =>
            have rr : Rp K (upd G p (.lst _)) (.ref p) (.lst xs) := .lst upd_same (h4.up (ex_new h2))
            exact ⟨_, a.trans (Aft.freeze a.good k' q h3 rr), rr⟩
end
/-- evaluate and let it stay -/
def dFr (f : Fe) : En → Option (D × En) := fun ρ => match f ρ with
  | some (r, ρ1) => fr ρ1 r
  | none => none
def tdOf (K : PySem.W.Frag) (f : En → Option (D × En)) : TE := fun σ H Q => ∃ G ρ d ρ', Good K G H σ ρ ∧ f ρ = some (d, ρ') ∧ ∀ v G' H', Aft K G H σ ρ G' H' σ ρ' → Rp K G' v d → Q v H'
section
variable {X : Cx} {e a b c : Expr} {f fa fb fc : Fe} {pos : Pos}
theorem de_fr (h : DE X e f) : PE X e (tdOf X.K (dFr f)) := PE.weak h fun σ H Q ⟨G, ρ, d, ρ', g, e, k⟩ => by
  unfold dFr at e
  cases q : f ρ with
  | none => rw [q] at e; cases e
  | some x =>
    obtain ⟨r, ρ1⟩ := x
    rw [q] at e
    refine ⟨G, ρ, r, ρ1, g, q, fun v G1 H1 A1 R1 => ?_⟩
    obtain ⟨G2, A2, R2⟩ := fr_ok A1 R1 e
    exact k v G2 H1 A2 R2
/-! ### names and constants -/
def eVar (i : Nat) : Fe := fun ρ => match ρ[i]? with
  | some (.fz d) => some (.fz d, ρ)
  | some (.ow _) => some (.bw i, ρ)
  | some (.rf _) => some (.bw i, ρ)
  | _ => none
def eC (d : D) : Fe := fun ρ => some (.fz d, ρ)
theorem de_of_var {x : Expr} {i : Nat} (h : PE X x (tVar i)) : DE X x (eVar i) := PE.weak h fun σ H Q ⟨G, ρ, r, ρ', g, e, k⟩ => by
  have e' : (match ρ[i]? with | some (.fz d) => some (Sl.fz d, ρ) | some (.ow _) => some (.bw i, ρ) | some (.rf _) => some (.bw i, ρ) | _ => none) = some (r, ρ') := e
  cases q : ρ[i]? with
  | none => rw [q] at e'; cases e'
  | some z =>
    rw [q] at e'
    have hi : i < σ.length := by
      rw [g.len]
      exact (List.getElem?_eq_some_iff.mp q).1
    have hs : σ[i]? = some σ[i] := List.getElem?_eq_getElem hi
    have s := g.sl i _ _ hs q
    cases z with
    | un => cases e'
    | bw _ => cases e'
    | fz d =>
      cases e'
      obtain ⟨v, h1, h2⟩ := s
      exact ⟨v, by rw [hs, h1], k v G H (Aft.refl g) h2⟩
    | ow m =>
      cases e'
      obtain ⟨p, o, h1, _⟩ := s
      exact ⟨.ref p, by rw [hs, h1], k _ G H (Aft.refl g) (show σ[i]? = some (some (.ref p)) by rw [hs, h1])⟩
    | rf m =>
      cases e'
      obtain ⟨p, o, h1, _⟩ := s
      exact ⟨.ref p, by rw [hs, h1], k _ G H (Aft.refl g) (show σ[i]? = some (some (.ref p)) by rw [hs, h1])⟩
theorem de_of_c {x : Expr} {v : V} {d : D} (h : PE X x (tC v)) (r : ∀ G, Rp X.K G v d) : DE X x (eC d) := PE.weak h fun σ H Q ⟨G, ρ, z, ρ', g, e, k⟩ => by
  cases e
  exact k v G H (Aft.refl g) (r G)
theorem dv (i : Nat) {x : Str} {pos : Pos} (hN : X.N[i]? = some x := by rfl) (hv : Vis X.env.scope x := by first | exact Or.inl rfl | exact Or.inr (Or.inl rfl) | exact Or.inr (Or.inr rfl)) (hd : (x == ("__debug__" : Str)) = false := by decide)
    (hcd : (x == ("__classdict__" : Str)) = false := by decide) : DE X (.Name x pos) (eVar i) := de_of_var (pv i hN hv hd hcd)
theorem de_int {i j pos} : DE X (.Constant (.int i) j pos) (eC (.int i)) := de_of_c pe_int fun _ => .int i
theorem de_str {i j pos} : DE X (.Constant (.str i) j pos) (eC (.str i)) := de_of_c pe_str fun _ => .str i
theorem de_bl {i j pos} : DE X (.Constant (.bool i) j pos) (eC (.bl i)) := de_of_c pe_bl fun _ => .bl i
theorem de_non {j pos} : DE X (.Constant .none j pos) (eC .non) := de_of_c pe_non fun _ => .non
/-! ### two operands -/
def Op2 (K : PySem.W.Frag) (r : R2) (g : D → D → Option Sl) : Prop := ∀ {G H : Hp} {σ : L2.St} {ρ : En} {x y : V} {d e : D} {z : Sl} {Q : VK}, Good K G H σ ρ → Vw K G H x d → Vw K G H y e → g d e = some z →
  (∀ v G' H', Aft K G H σ ρ G' H' σ ρ → ROk K H G' H' σ ρ v z → Q v H') → r x y H Q
def dOp2 (g : D → D → Option Sl) (fa fb : Fe) : Fe := fun ρ => match fa ρ with
  | some (ra, ρ1) => match fb ρ1 with
    | some (rb, ρ2) => match rd ρ2 ra, rd ρ2 rb with
      | some d, some e => match g d e with
        | some z => some (z, ρ2)
        | none => none
      | _, _ => none
    | none => none
  | none => none
theorem dOp2_inv {g : D → D → Option Sl} {ρ ρ' : En} {z : Sl} (e : dOp2 g fa fb ρ = some (z, ρ')) : ∃ ra ρ1 rb da db, fa ρ = some (ra, ρ1) ∧ fb ρ1 = some (rb, ρ') ∧ rd ρ' ra = some da ∧ rd ρ' rb = some db ∧ g da db = some z := by
  unfold dOp2 at e
  cases q : fa ρ with
  | none => rw [q] at e; cases e
  | some x =>
    obtain ⟨ra, ρ1⟩ := x
    rw [q] at e
    cases q2 : fb ρ1 with
    | none => simp only [q2] at e; cases e
    | some y =>
      obtain ⟨rb, ρ2⟩ := y
      simp only [q2] at e
      cases q3 : rd ρ2 ra with
      | none => simp only [q3] at e; cases e
      | some da =>
        cases q4 : rd ρ2 rb with
        | none => simp only [q3, q4] at e; cases e
        | some db =>
          simp only [q3, q4] at e
          cases q5 : g da db with
          | none => simp only [q5] at e; cases e
          | some w =>
            simp only [q5] at e
            cases e
            exact ⟨ra, ρ1, rb, da, db, rfl, q2, q3, q4, q5⟩
theorem tOp_of {K : PySem.W.Frag} {r : R2} {g : D → D → Option Sl} (hg : Op2 K r g) : ∀ σ H Q, teOf K (dOp2 g fa fb) σ H Q → tOp r (teOf K fa) (teOf K fb) σ H Q := fun σ H Q ⟨G, ρ, z, ρ', gd, e, k⟩ => by
  obtain ⟨ra, ρ1, rb, da, db, q1, q2, q3, q4, q5⟩ := dOp2_inv e
  refine ⟨G, ρ, ra, ρ1, gd, q1, fun va G1 H1 A1 R1 => ⟨G1, ρ1, rb, ρ', A1.good, q2, fun vb G2 H2 A2 R2 => ?_⟩⟩
  refine hg A2.good (rd_ok A2.good (R1.aft A2) q3) (rd_ok A2.good R2 q4) q5 fun v G3 H3 A3 R3 => ?_
  exact k v G3 H3 ((A1.trans A2).trans A3) (R3.start (A1.trans A2).dom)
theorem de_op {op : Operator} {r : R2} {g : D → D → Option Sl} (ho : OpR X (binaryOp op) r) (hg : Op2 X.K r g) (ha : DE X a fa) (hb : DE X b fb) : DE X (.BinOp a op b pos) (dOp2 g fa fb) :=
  PE.weak (pe_op ho ha hb) (tOp_of hg)
theorem de_cmp {op : CmpOp} {r : R2} {g : D → D → Option Sl} (ho : OpR X (compareOp op) r) (hg : Op2 X.K r g) (ha : DE X a fa) (hb : DE X b fb) (hm : behindInMarks op b = false) : DE X (.Compare a [op] [b] pos) (dOp2 g fa fb) :=
  PE.weak (pe_cmpR ho ha hb hm) (tOp_of hg)
def dTst (f : Fe) : Ft := fun ρ => match f ρ with
  | some (.fz (.bl b), ρ1) => some (b, ρ1)
  | _ => none
theorem dTst_inv {ρ ρ' : En} {b : Bool} (e : dTst f ρ = some (b, ρ')) : f ρ = some (.fz (.bl b), ρ') := by
  unfold dTst at e
  split at e
  · cases e
    assumption
  · cases e
theorem tTest_of {K : PySem.W.Frag} : ∀ σ H Q, ttOf K (dTst f) σ H Q → tTest (teOf K f) σ H Q := fun σ H Q ⟨G, ρ, b, ρ', g, e, k⟩ =>
  ⟨G, ρ, _, ρ', g, dTst_inv e, fun v G1 H1 A1 R1 => ⟨b, Rp.of_bl R1, k G1 H1 A1⟩⟩
theorem tTest_mono {t t' : TE} {σ : L2.St} {H : Hp} {Q : Bool → Hp → Prop} (w : ∀ σ H Q, t' σ H Q → t σ H Q) (h : tTest t' σ H Q) : tTest t σ H Q := w σ H _ h
theorem dt_cmp {op : CmpOp} {r : R2} {g : D → D → Option Sl} (ho : OpR X (compareOp op) r) (hg : Op2 X.K r g) (ha : DE X a fa) (hb : DE X b fb) (hm : behindInMarks op b = false) : DT X (.Compare a [op] [b] pos) (dTst (dOp2 g fa fb)) :=
  PT.weak (pt_cmpR ho ha hb hm) fun σ H Q q => tTest_mono (tOp_of hg) (tTest_of σ H Q q)
/-- an expression that gives a truth, as a test -/
theorem dt_val (h : DE X e f) (he : ∀ whole, isTrue e X.env whole = (do let v ← whole; standAt e.pos; holding [v] (truthy v)) := by intro _; rfl) : DT X e (dTst f) :=
  PT.weak (pt_val h he) fun σ H Q q => tTest_of σ H Q q
/-! ### and, or, not, if -/
def dAnd (f g : Ft) : Ft := fun ρ => match f ρ with
  | some (true, ρ1) => g ρ1
  | some (false, ρ1) => some (false, ρ1)
  | none => none
def dOr (f g : Ft) : Ft := fun ρ => match f ρ with
  | some (false, ρ1) => g ρ1
  | some (true, ρ1) => some (true, ρ1)
  | none => none
def dNot (f : Ft) : Ft := fun ρ => match f ρ with
  | some (b, ρ1) => some (!b, ρ1)
  | none => none
def dIfE (t : Ft) (f g : Fe) : Fe := fun ρ => match t ρ with
  | some (true, ρ1) => f ρ1
  | some (false, ρ1) => g ρ1
  | none => none
variable {ft fu : Ft} {rest : List Expr}
theorem dw_and1 (ha : DT X a ft) : DW X (.BoolOp .And [a] pos) ft := pw_and1 ha
theorem dw_or1 (ha : DT X a ft) : DW X (.BoolOp .Or [a] pos) ft := pw_or1 ha
theorem dw_and (ha : DT X a ft) (hb : DW X (.BoolOp .And (b :: rest) pos) fu) : DW X (.BoolOp .And (a :: b :: rest) pos) (dAnd ft fu) := PW.weak (pw_and ha hb) fun σ H Q ⟨G, ρ, x, ρ', g, e, k⟩ => by
  unfold dAnd at e
  cases q : ft ρ with
  | none => rw [q] at e; cases e
  | some y =>
    obtain ⟨y, ρ1⟩ := y
    rw [q] at e
    refine ⟨G, ρ, y, ρ1, g, q, fun G1 H1 A1 => ?_⟩
    cases y with
    | true => exact iteT ⟨G1, ρ1, x, ρ', A1.good, e, fun G2 H2 A2 => k G2 H2 (A1.trans A2)⟩
    | false =>
      cases e
      exact iteF (k G1 H1 A1)
theorem dw_or (ha : DT X a ft) (hb : DW X (.BoolOp .Or (b :: rest) pos) fu) : DW X (.BoolOp .Or (a :: b :: rest) pos) (dOr ft fu) := PW.weak (pw_or ha hb) fun σ H Q ⟨G, ρ, x, ρ', g, e, k⟩ => by
  unfold dOr at e
  cases q : ft ρ with
  | none => rw [q] at e; cases e
  | some y =>
    obtain ⟨y, ρ1⟩ := y
    rw [q] at e
    refine ⟨G, ρ, y, ρ1, g, q, fun G1 H1 A1 => ?_⟩
    cases y with
    | false => exact iteF ⟨G1, ρ1, x, ρ', A1.good, e, fun G2 H2 A2 => k G2 H2 (A1.trans A2)⟩
    | true =>
      cases e
      exact iteT (k G1 H1 A1)
theorem dt_bool (h : DW X e ft) : DT X e ft := h.pt
theorem dt_not (ha : DT X a ft) : DT X (.UnaryOp .Not a pos) (dNot ft) := PT.weak (pt_not ha) fun σ H Q ⟨G, ρ, x, ρ', g, e, k⟩ => by
  unfold dNot at e
  cases q : ft ρ with
  | none => rw [q] at e; cases e
  | some y =>
    obtain ⟨y, ρ1⟩ := y
    rw [q] at e
    cases e
    exact ⟨G, ρ, y, _, g, q, k⟩
theorem de_if (hc : DT X c ft) (ha : DE X a fa) (hb : DE X b fb) : DE X (.IfExp c a b pos) (dIfE ft fa fb) := PE.weak (pe_ifExp hc ha hb) fun σ H Q ⟨G, ρ, x, ρ', g, e, k⟩ => by
  unfold dIfE at e
  cases q : ft ρ with
  | none => rw [q] at e; cases e
  | some y =>
    obtain ⟨y, ρ1⟩ := y
    rw [q] at e
    refine ⟨G, ρ, y, ρ1, g, q, fun G1 H1 A1 => ?_⟩
    cases y with
    | true => exact iteT ⟨G1, ρ1, x, ρ', A1.good, e, fun v G2 H2 A2 R2 => k v G2 H2 (A1.trans A2) (R2.start A1.dom)⟩
    | false => exact iteF ⟨G1, ρ1, x, ρ', A1.good, e, fun v G2 H2 A2 R2 => k v G2 H2 (A1.trans A2) (R2.start A1.dom)⟩
/-- values of and, or, not, all of them truths -/
def dAndV (f g : Fe) : Fe := fun ρ => match f ρ with
  | some (.fz (.bl true), ρ1) => g ρ1
  | some (.fz (.bl false), ρ1) => some (.fz (.bl false), ρ1)
  | _ => none
def dOrV (f g : Fe) : Fe := fun ρ => match f ρ with
  | some (.fz (.bl false), ρ1) => g ρ1
  | some (.fz (.bl true), ρ1) => some (.fz (.bl true), ρ1)
  | _ => none
theorem de_one {op} (h : DE X a fa) : DE X (.BoolOp op [a] pos) fa := pe_one h
theorem de_and (ha : DE X a fa) (hb : DE X (.BoolOp .And (b :: rest) pos) fb) : DE X (.BoolOp .And (a :: b :: rest) pos) (dAndV fa fb) := PE.weak (pe_and ha hb) fun σ H Q ⟨G, ρ, x, ρ', g, e, k⟩ => by
  unfold dAndV at e
  split at e
  · rename_i ρ1 q
    exact ⟨G, ρ, _, ρ1, g, q, fun v G1 H1 A1 R1 => ⟨true, Rp.of_bl R1, iteT ⟨G1, ρ1, x, ρ', A1.good, e, fun v G2 H2 A2 R2 => k v G2 H2 (A1.trans A2) (R2.start A1.dom)⟩⟩⟩
  · rename_i ρ1 q
    cases e
    exact ⟨G, ρ, _, _, g, q, fun v G1 H1 A1 R1 => ⟨false, Rp.of_bl R1, iteF (k _ G1 H1 A1 (.bl false))⟩⟩
  · cases e
theorem de_or (ha : DE X a fa) (hb : DE X (.BoolOp .Or (b :: rest) pos) fb) : DE X (.BoolOp .Or (a :: b :: rest) pos) (dOrV fa fb) := PE.weak (pe_or ha hb) fun σ H Q ⟨G, ρ, x, ρ', g, e, k⟩ => by
  unfold dOrV at e
  split at e
  · rename_i ρ1 q
    exact ⟨G, ρ, _, ρ1, g, q, fun v G1 H1 A1 R1 => ⟨false, Rp.of_bl R1, iteF ⟨G1, ρ1, x, ρ', A1.good, e, fun v G2 H2 A2 R2 => k v G2 H2 (A1.trans A2) (R2.start A1.dom)⟩⟩⟩
  · rename_i ρ1 q
    cases e
    exact ⟨G, ρ, _, _, g, q, fun v G1 H1 A1 R1 => ⟨true, Rp.of_bl R1, iteT (k _ G1 H1 A1 (.bl true))⟩⟩
  · cases e
def dNotV (f : Fe) : Fe := fun ρ => match f ρ with
  | some (.fz (.bl b), ρ1) => some (.fz (.bl (!b)), ρ1)
  | _ => none
theorem de_not (ha : DE X a fa) : DE X (.UnaryOp .Not a pos) (dNotV fa) := PE.weak (pe_not ha) fun σ H Q ⟨G, ρ, x, ρ', g, e, k⟩ => by
  unfold dNotV at e
  split at e
  · rename_i b ρ1 q
    cases e
    exact ⟨G, ρ, _, _, g, q, fun v G1 H1 A1 R1 => ⟨b, Rp.of_bl R1, k _ G1 H1 A1 (.bl _)⟩⟩
  · cases e
/-! ### arguments -/
def aNil : Fa := fun ρ => some ([], ρ)
def aCons (f : Fe) (g : Fa) : Fa := fun ρ => match f ρ with
  | some (r, ρ1) => match g ρ1 with
    | some (rs, ρ2) => some (r :: rs, ρ2)
    | none => none
  | none => none
/-- each let stay as it comes -/
def aFr (f : Fe) (g : Fa) : Fa := fun ρ => match dFr f ρ with
  | some (d, ρ1) => match g ρ1 with
    | some (rs, ρ2) => some (.fz d :: rs, ρ2)
    | none => none
  | none => none
variable {es : List Expr} {ga : Fa}
theorem da_nil : DA X [] aNil := PA.weak pa_nil fun σ H Q ⟨G, ρ, x, ρ', g, e, k⟩ => by
  cases e
  exact k [] G H (Aft.refl g) .nil
theorem da_cons (ha : DE X e f) (hr : DA X es ga) (hs : starEach (e :: es) X.env = (false, eval e X.env) :: starEach es X.env := by rfl) : DA X (e :: es) (aCons f ga) := PA.weak (pa_cons ha hr hs) fun σ H Q ⟨G, ρ, x, ρ', g, q, k⟩ => by
  unfold aCons at q
  cases q1 : f ρ with
  | none => rw [q1] at q; cases q
  | some y =>
    obtain ⟨r, ρ1⟩ := y
    rw [q1] at q
    cases q2 : ga ρ1 with
    | none => simp only [q2] at q; cases q
    | some y =>
      obtain ⟨rs, ρ2⟩ := y
      simp only [q2] at q
      cases q
      exact ⟨G, ρ, r, ρ1, g, q1, fun v G1 H1 A1 R1 => ⟨G1, ρ1, rs, _, A1.good, q2, fun vs G2 H2 A2 R2 => k (v :: vs) G2 H2 (A1.trans A2) (.cons (R1.aft A2) (R2.start A1.dom))⟩⟩
theorem da_fr (ha : DE X e f) (hr : DA X es ga) (hs : starEach (e :: es) X.env = (false, eval e X.env) :: starEach es X.env := by rfl) : DA X (e :: es) (aFr f ga) := PA.weak (pa_cons (de_fr ha) hr hs) fun σ H Q ⟨G, ρ, x, ρ', g, q, k⟩ => by
  unfold aFr at q
  cases q1 : dFr f ρ with
  | none => rw [q1] at q; cases q
  | some y =>
    obtain ⟨r, ρ1⟩ := y
    rw [q1] at q
    cases q2 : ga ρ1 with
    | none => simp only [q2] at q; cases q
    | some y =>
      obtain ⟨rs, ρ2⟩ := y
      simp only [q2] at q
      cases q
      refine ⟨G, ρ, r, ρ1, g, q1, fun v G1 H1 A1 R1 => ⟨G1, ρ1, rs, _, A1.good, q2, fun vs G2 H2 A2 R2 => k (v :: vs) G2 H2 (A1.trans A2) (.cons ?_ (R2.start A1.dom))⟩⟩
      exact Rp.up R1 A2.ex
/-! ### built-ins by values -/
def Cl (K : PySem.W.Frag) (r : List V → Hp → VK → Prop) (g : List D → Option Sl) : Prop := ∀ {G H : Hp} {σ : L2.St} {ρ : En} {xs : List V} {ds : List D} {z : Sl} {Q : VK}, Good K G H σ ρ → Vws K G H xs ds → g ds = some z →
  (∀ v G' H', Aft K G H σ ρ G' H' σ ρ → ROk K H G' H' σ ρ v z → Q v H') → r xs H Q
def dCall (g : List D → Option Sl) (fa : Fa) : Fe := fun ρ => match fa ρ with
  | some (rs, ρ1) => match rds ρ1 rs with
    | some ds => match g ds with
      | some z => some (z, ρ1)
      | none => none
    | none => none
  | none => none
theorem dCall_inv {g : List D → Option Sl} {ρ ρ' : En} {z : Sl} (e : dCall g ga ρ = some (z, ρ')) : ∃ rs ds, ga ρ = some (rs, ρ') ∧ rds ρ' rs = some ds ∧ g ds = some z := by
  unfold dCall at e
  cases q : ga ρ with
  | none => rw [q] at e; cases e
  | some x =>
    obtain ⟨rs, ρ1⟩ := x
    rw [q] at e
    cases q2 : rds ρ1 rs with
    | none => simp only [q2] at e; cases e
    | some ds =>
      simp only [q2] at e
      cases q3 : g ds with
      | none => simp only [q3] at e; cases e
      | some w =>
        simp only [q3] at e
        cases e
        exact ⟨rs, ds, rfl, q2, q3⟩
theorem tCB_of {K : PySem.W.Frag} {r : List V → Hp → VK → Prop} {g : List D → Option Sl} (hg : Cl K r g) : ∀ σ H Q, teOf K (dCall g ga) σ H Q → tCB r (taOf K ga) σ H Q := fun σ H Q ⟨G, ρ, z, ρ', gd, e, k⟩ => by
  obtain ⟨rs, ds, q1, q2, q3⟩ := dCall_inv e
  refine ⟨G, ρ, rs, ρ', gd, q1, fun vs G1 H1 A1 R1 => ?_⟩
  exact hg A1.good (rds_ok A1.good R1 q2) q3 fun v G3 H3 A3 R3 => k v G3 H3 (A1.trans A3) (R3.start A1.dom)
variable {x : Str} {p : Pos} {id T : String} {r : List V → Hp → VK → Prop} {g : List D → Option Sl}
theorem de_callB (hc : CallR X (.builtin id) r) (hg : Cl X.K r g) (hx : Gl X x) (hm : X.mg x = none) (hv : bootBuiltins x = some (.builtin id)) (ha : DA X (e :: es) ga) (hn : x ≠ "__name__" := by decide) (hdb : (x == ("__debug__" : Str)) = false := by decide)
    (he : starEach (e :: es) X.env = (false, eval e X.env) :: starEach es X.env := by rfl) (hpl : (backTo pos (starEach es X.env)).any (·.1) = false := by rfl) : DE X (.Call (.Name x p) (e :: es) [] pos) (dCall g ga) :=
  PE.weak (pe_callB hc hx hm hv ha hn hdb he hpl) (tCB_of hg)
theorem de_callTy (hc : CallR X (.type T) r) (hg : Cl X.K r g) (hx : Gl X x) (hm : X.mg x = none) (hv : bootBuiltins x = some (.type T)) (ha : DA X (e :: es) ga) (hn : x ≠ "__name__" := by decide) (hdb : (x == ("__debug__" : Str)) = false := by decide)
    (he : starEach (e :: es) X.env = (false, eval e X.env) :: starEach es X.env := by rfl) (hpl : (backTo pos (starEach es X.env)).any (·.1) = false := by rfl) : DE X (.Call (.Name x p) (e :: es) [] pos) (dCall g ga) :=
  PE.weak (pe_callTy hc hx hm hv ha hn hdb he hpl) (tCB_of hg)
end
end DL
set_option Elab.async false
set_option linter.all false
set_option maxRecDepth 100000
set_option maxHeartbeats 2000000
namespace DL
open PySem PySem.Spec L2
/-! ### statements -/
/-- how a statement ends -/
inductive Fl where
  | nx | bk | ct | rt (r : Sl) | ex (C : Addr) (ns : List Str) (ds : List D)
abbrev Fs := En → Option (Fl × En)
def EndsOk (K : PySem.W.Frag) (E : XK) (D : Ends) (H0 G' H' : Hp) (σ' : L2.St) (ρ' : En) : Fl → Prop
  | .nx => D.nx σ' H'
  | .bk => D.bk σ' H'
  | .ct => D.ct σ' H'
  | .rt r => ∀ v, ROk K H0 G' H' σ' ρ' v r → D.rt v H'
  | .ex C ns ds => ∀ d vs, H0 d = none → G' d = none → H' d = some (.xd (ns.zip vs)) → ns.length = vs.length → Rps K G' vs ds → E (.ref C) (some d) H'
def tsOf (K : PySem.W.Frag) (E : XK) (B : Fs) : TS := fun D σ H => ∃ G ρ fl ρ', Good K G H σ ρ ∧ B ρ = some (fl, ρ') ∧ ∀ σ' G' H', Aft K G H σ ρ G' H' σ' ρ' → EndsOk K E D H G' H' σ' ρ' fl
abbrev DS (X : Cx) (E : XK) (st : Stmt) (B : Fs) : Prop := PS X st (tsOf X.K E B)
abbrev DB (X : Cx) (E : XK) (st : List Stmt) (B : Fs) : Prop := PSs X st (tsOf X.K E B)
theorem PS.weak {X : Cx} {e : Stmt} {t t' : TS} (h : PS X e t) (w : ∀ D σ H, t' D σ H → t D σ H) : PS X e t' := ⟨fun pins s σ H Q I q => h.run pins s σ H Q I (w Q σ H q)⟩
theorem PSs.weak {X : Cx} {e : List Stmt} {t t' : TS} (h : PSs X e t) (w : ∀ D σ H, t' D σ H → t D σ H) : PSs X e t' := ⟨fun pins s σ H Q I q => h.run pins s σ H Q I (w Q σ H q)⟩
theorem EndsOk.start {K : PySem.W.Frag} {E : XK} {D : Ends} {H0 H1 G' H' : Hp} {σ' : L2.St} {ρ' : En} {fl : Fl} (k : EndsOk K E D H0 G' H' σ' ρ' fl) (dom : ∀ a o, H0 a = some o → ∃ o', H1 a = some o') : EndsOk K E D H1 G' H' σ' ρ' fl := by
  cases fl with
  | nx => exact k
  | bk => exact k
  | ct => exact k
  | rt r => exact fun v h => k v (h.start dom)
  | ex C ns ds => exact fun d vs h1 h2 h3 h4 h5 => k d vs (none_back dom h1) h2 h3 h4 h5
theorem EndsOk.nx_of {K : PySem.W.Frag} {E : XK} {D : Ends} {u : L2.St → Hp → Prop} {H0 G' H' : Hp} {σ' : L2.St} {ρ' : En} {fl : Fl} (n : fl ≠ .nx) (k : EndsOk K E D H0 G' H' σ' ρ' fl) : EndsOk K E { D with nx := u } H0 G' H' σ' ρ' fl := by
  cases fl with
  | nx => exact absurd rfl n
  | bk => exact k
  | ct => exact k
  | rt r => exact k
  | ex C ns ds => exact k
def bNext : Fs := fun ρ => some (.nx, ρ)
def bSeq (A B : Fs) : Fs := fun ρ => match A ρ with
  | some (.nx, ρ1) => B ρ1
  | o => o
section
variable {X : Cx} {E : XK} {e a b c : Expr} {f fa fb fc : Fe} {ft : Ft} {pos : Pos} {st : Stmt} {rest : List Stmt} {A B : Fs}
theorem db_nil : DB X E [] bNext := PSs.weak pss_nil fun D σ H ⟨G, ρ, fl, ρ', g, e, k⟩ => by
  cases e
  exact k σ G H (Aft.refl g)
theorem db_cons (h1 : DS X E st A) (h2 : DB X E rest B) : DB X E (st :: rest) (bSeq A B) := PSs.weak (pss_cons h1 h2) fun D σ H ⟨G, ρ, fl, ρ', g, e, k⟩ => by
  unfold bSeq at e
  split at e
  · rename_i ρ1 q
    refine ⟨G, ρ, .nx, ρ1, g, q, fun σ1 G1 H1 A1 => ?_⟩
    exact ⟨G1, ρ1, fl, ρ', A1.good, e, fun σ2 G2 H2 A2 => (k σ2 G2 H2 (A1.trans A2)).start A1.dom⟩
  · rename_i n
    refine ⟨G, ρ, fl, ρ', g, e, fun σ1 G1 H1 A1 => ?_⟩
    exact EndsOk.nx_of (fun z => n ρ' (by rw [e, z])) (k σ1 G1 H1 A1)
theorem db_one (h1 : DS X E st A) : DB X E [st] A := pss_one h1
theorem ds_pass : DS X E (.Pass pos) bNext := PS.weak ps_pass fun D σ H ⟨G, ρ, fl, ρ', g, e, k⟩ => by
  cases e
  exact k σ G H (Aft.refl g)
def bBreak : Fs := fun ρ => some (.bk, ρ)
def bCont : Fs := fun ρ => some (.ct, ρ)
theorem ds_break : DS X E (.Break pos) bBreak := PS.weak ps_break fun D σ H ⟨G, ρ, fl, ρ', g, e, k⟩ => by
  cases e
  exact k σ G H (Aft.refl g)
theorem ds_cont : DS X E (.Continue pos) bCont := PS.weak ps_continue fun D σ H ⟨G, ρ, fl, ρ', g, e, k⟩ => by
  cases e
  exact k σ G H (Aft.refl g)
/-- a statement that is never reached -/
def bNever : Fs := fun _ => none
theorem ds_never : DS X E st bNever := PS.weak ps_never fun D σ H ⟨G, ρ, fl, ρ', g, e, k⟩ => nomatch e
def bDrop (f : Fe) : Fs := fun ρ => match f ρ with
  | some (_, ρ1) => some (.nx, ρ1)
  | none => none
theorem ds_expr (h : DE X e f) (hs : swapsWith e none pos.line X.env = pure false := by rfl) : DS X E (.Expr e pos) (bDrop f) := PS.weak (ps_expr h hs) fun D σ H ⟨G, ρ, fl, ρ', g, e, k⟩ => by
  unfold bDrop at e
  cases q : f ρ with
  | none => rw [q] at e; cases e
  | some y =>
    obtain ⟨r, ρ1⟩ := y
    rw [q] at e
    cases e
    exact ⟨G, ρ, r, _, g, q, fun v G1 H1 A1 _ => k σ G1 H1 A1⟩
def bRet (f : Fe) : Fs := fun ρ => match f ρ with
  | some (r, ρ1) => some (.rt r, ρ1)
  | none => none
theorem ds_ret (h : DE X e f) : DS X E (.Return (some e) pos) (bRet f) := PS.weak (ps_ret h) fun D σ H ⟨G, ρ, fl, ρ', g, e, k⟩ => by
  unfold bRet at e
  cases q : f ρ with
  | none => rw [q] at e; cases e
  | some y =>
    obtain ⟨r, ρ1⟩ := y
    rw [q] at e
    cases e
    exact ⟨G, ρ, r, _, g, q, fun v G1 H1 A1 R1 => k σ G1 H1 A1 v R1⟩
def bRetN : Fs := fun ρ => some (.rt (.fz .non), ρ)
theorem ds_retN : DS X E (.Return none pos) bRetN := PS.weak ps_retN fun D σ H ⟨G, ρ, fl, ρ', g, e, k⟩ => by
  cases e
  exact k σ G H (Aft.refl g) .non .non
def bIf (t : Ft) (A B : Fs) : Fs := fun ρ => match t ρ with
  | some (true, ρ1) => A ρ1
  | some (false, ρ1) => B ρ1
  | none => none
theorem ds_if {as bs : List Stmt} (hc : DT X c ft) (ha : DB X E as A) (hb : DB X E bs B) : DS X E (.If c as bs pos) (bIf ft A B) := PS.weak (ps_if hc ha hb) fun D σ H ⟨G, ρ, fl, ρ', g, e, k⟩ => by
  unfold bIf at e
  cases q : ft ρ with
  | none => rw [q] at e; cases e
  | some y =>
    obtain ⟨y, ρ1⟩ := y
    rw [q] at e
    refine ⟨G, ρ, y, ρ1, g, q, fun G1 H1 A1 => ?_⟩
    cases y with
    | true => exact iteT ⟨G1, ρ1, fl, ρ', A1.good, e, fun σ2 G2 H2 A2 => (k σ2 G2 H2 (A1.trans A2)).start A1.dom⟩
    | false => exact iteF ⟨G1, ρ1, fl, ρ', A1.good, e, fun σ2 G2 H2 A2 => (k σ2 G2 H2 (A1.trans A2)).start A1.dom⟩
/-! ### x = e -/
/-- what a slot gets; another name's own thing stays from then on -/
def toSlot (ρ : En) : Sl → Option (Sl × En)
  | .fz d => some (.fz d, ρ)
  | .ow m => some (.ow m, ρ)
  | .bw j => match fr ρ (.bw j) with
    | some (d, ρ1) => some (.fz d, ρ1)
    | none => none
  | _ => none
def bAsg (i : Nat) (f : Fe) : Fs := fun ρ => match f ρ with
  | some (r, ρ1) => match toSlot ρ1 r with
    | some (z, ρ2) => if notRf ρ2 i then some (.nx, ρ2.set i z) else none
    | none => none
  | none => none
theorem asg_ok {K : PySem.W.Frag} {G H G1 H1 : Hp} {σ : L2.St} {ρ ρ1 ρ2 : En} {v : V} {r z : Sl} {i : Nat} (A1 : Aft K G H σ ρ G1 H1 σ ρ1) (R1 : ROk K H G1 H1 σ ρ1 v r) (e : toSlot ρ1 r = some (z, ρ2)) (n : notRf ρ2 i = true) :
    ∃ G2, Aft K G H σ ρ G2 H1 (σ.set i (some v)) (ρ2.set i z) := by
  cases r with
  | un => cases e
  | rf m => cases e
  | fz d =>
    cases e
    exact ⟨G1, A1.store ⟨v, rfl, R1⟩ (fun p h1 h2 => by rcases h2 with ⟨m, h2⟩ | ⟨m, h2⟩ <;> cases h2) n⟩
  | ow m =>
    cases e
    obtain ⟨p, o, rfl, h0, h1, h2, h3, h4⟩ := R1
    exact ⟨G1, A1.store ⟨p, o, rfl, h1, h2, h3⟩ (fun q h1 _ => by cases h1; exact ⟨h4, h0⟩) n⟩
  | bw j =>
    have e' : (match fr ρ1 (.bw j) with | some (d, ρ1) => some (Sl.fz d, ρ1) | none => none) = some (z, ρ2) := e
    cases q : fr ρ1 (.bw j) with
    | none => rw [q] at e'; cases e'
    | some y =>
      obtain ⟨d, ρ3⟩ := y
      rw [q] at e'
      cases e'
      obtain ⟨G2, A2, R2⟩ := fr_ok A1 R1 q
      exact ⟨G2, A2.store ⟨v, rfl, R2⟩ (fun p h1 h2 => by rcases h2 with ⟨m, h2⟩ | ⟨m, h2⟩ <;> cases h2) n⟩
theorem tAsg_of {K : PySem.W.Frag} {i : Nat} : ∀ D σ H, tsOf K E (bAsg i f) D σ H → tAsg (teOf K f) (gName i) D σ H := fun D σ H ⟨G, ρ, fl, ρ', g, e, k⟩ => by
  unfold bAsg at e
  cases q : f ρ with
  | none => rw [q] at e; cases e
  | some y =>
    obtain ⟨r, ρ1⟩ := y
    rw [q] at e
    cases q2 : toSlot ρ1 r with
    | none => simp only [q2] at e; cases e
    | some w =>
      obtain ⟨z, ρ2⟩ := w
      simp only [q2] at e
      split at e
      · rename_i n
        cases e
        refine ⟨G, ρ, r, ρ1, g, q, fun v G1 H1 A1 R1 => ?_⟩
        obtain ⟨G2, A2⟩ := asg_ok A1 R1 q2 n
        exact k _ G2 H1 A2
      · cases e
theorem ds_set {i : Nat} {x : Str} {e : Expr} {pos' : Pos} (hN : X.N.Nodup) (hi : X.N[i]? = some x) (hx : Loc X.env.scope x) (he : DE X e f) (hs : swapsWith e (some (.Name x pos')) pos.line X.env = pure false := by rfl) (hf : X.fn x = true ∨ X.env.scope.names.lookup x = some .local := by first | exact .inl rfl | exact .inr rfl | assumption) :
    DS X E (.Assign [.Name x pos'] e pos) (bAsg i f) := PS.weak (ps_set hN hi hx he hs hf) (tAsg_of)
/-! ### targets: names, tuples of targets -/
abbrev Fg := D → En → Option En
def tgOf (K : PySem.W.Frag) (h : Fg) (S : List Nat) : TG := fun v σ H Q => ∃ G ρ d ρ', Good K G H σ ρ ∧ Rp K G v d ∧ h d ρ = some ρ' ∧ ∀ σ', Aft K G H σ ρ G H σ' ρ' → σ'.length = σ.length → (∀ i, i ∉ S → σ'[i]? = σ[i]?) → Q σ' H
abbrev DG (X : Cx) (tg : Expr) (h : Fg) (S : List Nat) : Prop := PG X tg (tgOf X.K h S)
theorem PG.weak {tg : Expr} {t t' : TG} (h : PG X tg t) (w : ∀ v σ H Q, t' v σ H Q → t v σ H Q) : PG X tg t' := ⟨fun pins s σ H v u Q I r q => h.run pins s σ H v u Q I r (w v σ H Q q)⟩
def gNm (i : Nat) : Fg := fun d ρ => if notRf ρ i then some (ρ.set i (.fz d)) else none
theorem dg_name {i : Nat} {x : Str} (hN : X.N.Nodup) (hi : X.N[i]? = some x) (hx : Loc X.env.scope x) (hf : X.fn x = true ∨ X.env.scope.names.lookup x = some .local := by first | exact .inl rfl | exact .inr rfl | assumption) : DG X (.Name x pos) (gNm i) [i] :=
  PG.weak (pg_name hN hi hx hf) fun v σ H Q ⟨G, ρ, d, ρ', g, r, e, k⟩ => by
    unfold gNm at e
    split at e
    · rename_i n
      cases e
      refine k _ ((Aft.refl g).store ⟨v, rfl, r⟩ (fun p h1 h2 => by rcases h2 with ⟨m, h2⟩ | ⟨m, h2⟩ <;> cases h2) n) (by simp) fun j hj => ?_
      rw [List.getElem?_set_ne fun z => hj (by simp [z])]
    · cases e
abbrev Fgs := List D → En → Option En
def tgsOf (K : PySem.W.Frag) (h : Fgs) (S : List Nat) : TGs := fun vs σ H Q => ∃ G ρ ds ρ', Good K G H σ ρ ∧ Rps K G vs ds ∧ h ds ρ = some ρ' ∧ ∀ σ', Aft K G H σ ρ G H σ' ρ' → σ'.length = σ.length → (∀ i, i ∉ S → σ'[i]? = σ[i]?) → Q σ' H
abbrev DGs (X : Cx) (tg : List Expr) (h : Fgs) (S : List Nat) : Prop := PGs X tg (tgsOf X.K h S)
theorem PGs.weak {tg : List Expr} {t t' : TGs} (h : PGs X tg t) (w : ∀ v σ H Q, t' v σ H Q → t v σ H Q) : PGs X tg t' := ⟨fun pins s σ H v u Q I r q => h.run pins s σ H v u Q I r (w v σ H Q q)⟩
def gsNil : Fgs := fun ds ρ => match ds with
  | [] => some ρ
  | _ => none
def gsCons (h : Fg) (t : Fgs) : Fgs := fun ds ρ => match ds with
  | [] => none
  | d :: ds => match h d ρ with
    | some ρ1 => t ds ρ1
    | none => none
theorem dgs_nil : DGs X [] gsNil [] := PGs.weak pgs_nil fun vs σ H Q ⟨G, ρ, ds, ρ', g, r, e, k⟩ => by
  cases r with
  | nil =>
    cases e
    exact ⟨rfl, k σ (Aft.refl g) rfl fun _ _ => rfl⟩
  | cons _ _ => cases e
theorem dgs_cons {es : List Expr} {h : Fg} {t : Fgs} {S T : List Nat} (h1 : DG X e h S) (h2 : DGs X es t T) (hs : (assignEach (e :: es) X.env).map (·.2) = assign e X.env :: (assignEach es X.env).map (·.2) := by rfl) : DGs X (e :: es) (gsCons h t) (S ++ T) := by
  refine PGs.weak (pgs_cons h1 h2 hs) fun vs σ H Q ⟨G, ρ, ds, ρ', g, r, q, k⟩ => ?_
  cases r with
  | nil => cases q
  | @cons v vs d ds r1 r2 =>
    unfold gsCons at q
    cases q1 : h d ρ with
    | none => simp only [q1] at q; cases q
    | some ρ1 =>
      simp only [q1] at q
      refine ⟨v, vs, rfl, G, ρ, d, ρ1, g, r1, q1, fun σ1 A1 l1 s1 => ?_⟩
      exact ⟨G, ρ1, ds, ρ', A1.good, r2, q, fun σ2 A2 l2 s2 => k σ2 (A1.trans A2) (l2.trans l1) fun i hi => (s2 i fun z => hi (List.mem_append_right _ z)).trans (s1 i fun z => hi (List.mem_append_left _ z))⟩
def gTp (n : Nat) (t : Fgs) : Fg := fun d ρ => match d with
  | .tup ds => if ds.length = n then t ds ρ else none
  | _ => none
theorem dg_tup {es : List Expr} {k n : Nat} {t : Fgs} {S : List Nat} (hc : X.calm = true) (h : DGs X es t S) (hn : (assignEach es X.env).length = n := by rfl) (hst : (assignEach es X.env).findIdx? (·.1) = none := by rfl) : DG X (.Tuple es k pos) (gTp n t) S := by
  refine PG.weak (pg_tup hc h hn hst) fun v σ H Q ⟨G, ρ, d, ρ', g, r, q, k⟩ => ?_
  unfold gTp at q
  split at q
  · rename_i ds
    split at q
    · rename_i hl
      cases r with
      | tup r1 r2 => exact ⟨_, _, rfl, SqT.of (g.ex _ _ r1), r2.len.trans hl, G, ρ, ds, ρ', g, r2, q, k⟩
    · cases q
  · cases q
/-- a, b = e -/
def bUnp (h : Fg) (f : Fe) : Fs := fun ρ => match dFr f ρ with
  | some (d, ρ1) => match h d ρ1 with
    | some ρ2 => some (.nx, ρ2)
    | none => none
  | none => none
theorem ds_unp {tg : Expr} {h : Fg} {S : List Nat} (he : DE X e f) (hg : DG X tg h S) (hs : swapsWithSole [tg] e pos.line X.env = pure false := by rfl) (hw : swappedStores [tg] e X.env = pure none := by rfl) (h1 : (assignEach [tg] X.env).map (·.2) = [assign tg X.env] := by rfl) : DS X E (.Assign [tg] e pos) (bUnp h f) :=
  PS.weak (ps_asg (de_fr he) hg hs hw h1) fun D σ H ⟨G, ρ, fl, ρ', g, e, k⟩ => by
    unfold bUnp at e
    cases q : dFr f ρ with
    | none => rw [q] at e; cases e
    | some y =>
      obtain ⟨d, ρ1⟩ := y
      rw [q] at e
      cases q2 : h d ρ1 with
      | none => simp only [q2] at e; cases e
      | some ρ2 =>
        simp only [q2] at e
        cases e
        exact ⟨G, ρ, d, ρ1, g, q, fun v G1 H1 A1 R1 => ⟨G1, ρ1, d, _, A1.good, R1, q2, fun σ' A2 _ _ => k σ' G1 H1 (A1.trans A2)⟩⟩
/-! ### walks -/
abbrev Fi := En → Option (List D × En)
/-- one turn's item: it stays; or a new tuple -/
def ItemY (K : PySem.W.Frag) (G : Hp) (d : D) (H : Hp) (x : V) (H' : Hp) : Prop :=
  (H' = H ∧ Rp K G x d) ∨ ∃ T vs ds, x = .ref T ∧ d = .tup ds ∧ H T = none ∧ H' = upd H T (.tup vs) ∧ Rps K G vs ds
def ItOk (K : PySem.W.Frag) (G : Hp) (J : It) (xs : List D) : Prop := Walk J xs.length (fun H => Ex G H) (fun i H x H' => ∃ d, xs[i]? = some d ∧ ItemY K G d H x H')
def tiOf (K : PySem.W.Frag) (f : Fi) : TI := fun σ H R => ∃ G ρ xs ρ', Good K G H σ ρ ∧ f ρ = some (xs, ρ') ∧ ∀ J G' H', Aft K G H σ ρ G' H' σ ρ' → ItOk K G' J xs → R J H'
abbrev DI (X : Cx) (tg it : Expr) (f : Fi) : Prop := PI X tg it (tiOf X.K f)
theorem PI.weak {tg it : Expr} {t t' : TI} (h : PI X tg it t) (w : ∀ σ H R, t' σ H R → t σ H R) : PI X tg it t' := ⟨fun pins s σ H R I q => h.run pins s σ H R I (w σ H R q)⟩
theorem ItemY.take {K : PySem.W.Frag} {G G1 H H' : Hp} {d : D} {x : V} {σ : L2.St} {ρ : En} (g : Good K G1 H σ ρ) (ex : Ex G G1) (y : ItemY K G d H x H') : ∃ G2, Aft K G1 H σ ρ G2 H' σ ρ ∧ Rp K G2 x d := by
  rcases y with ⟨rfl, r⟩ | ⟨T, vs, ds, rfl, rfl, hT, rfl, r⟩
  · exact ⟨G1, Aft.refl g, r.up ex⟩
  · exact ⟨_, Aft.laid g hT, .tup upd_same (r.up (ex.trans (ex_new (g.ex.free hT))))⟩
/-- for -/
def forL (h : Fg) (B : Fs) : List D → En → Option (Fl × En)
  | [], ρ => some (.nx, ρ)
  | d :: ds, ρ => match h d ρ with
    | none => none
    | some ρ1 => match B ρ1 with
      | some (.nx, ρ2) => forL h B ds ρ2
      | some (.ct, ρ2) => forL h B ds ρ2
      | some (.bk, ρ2) => some (.nx, ρ2)
      | o => o
def bFor (fi : Fi) (h : Fg) (B : Fs) : Fs := fun ρ => match fi ρ with
  | some (xs, ρ1) => forL h B xs ρ1
  | none => none
theorem ds_for {iter tg : Expr} {body : List Stmt} {fi : Fi} {h : Fg} {S : List Nat} (hp : PassesOwn (model X.prog X.w) X.A X.env X.xe) (hc : X.calm = true) (hi : DI X tg iter fi) (hg : DG X tg h S) (hb : DB X E body B) (hs : ∀ x, foldedSetIterable iter X.env x = pure x := by intro _; rfl) : DS X E (.For tg iter body [] pos) (bFor fi h B) :=
  PS.weak (ps_for hp hc hi hg hb hs) fun D σ H ⟨G, ρ, fl, ρ', g, e, k⟩ => by
    unfold bFor at e
    cases q : fi ρ with
    | none => rw [q] at e; cases e
    | some y =>
      obtain ⟨xs, ρ1⟩ := y
      rw [q] at e
      replace e : forL h B xs ρ1 = some (fl, ρ') := e
      refine ⟨G, ρ, xs, ρ1, g, q, fun J G1 H1 A1 W => ?_⟩
      refine for_it W (fun i σ2 H2 => ∃ G2 ρ2, Aft X.K G H σ ρ G2 H2 σ2 ρ2 ∧ Ex G1 G2 ∧ forL h B (xs.drop i) ρ2 = some (fl, ρ')) ⟨G1, ρ1, A1, Same.refl _, by rw [List.drop_zero]; exact e⟩
        (fun i σ2 H2 _ ⟨G2, ρ2, A2, x2, _⟩ => x2.trans A2.good.ex) ?_ ?_
      · rintro i x σ2 H2 H3 hi ⟨G2, ρ2, A2, x2, e2⟩ ⟨d, hd, y⟩
        obtain ⟨G3, A3, R3⟩ := ItemY.take A2.good x2 y
        have hlt : i < xs.length := hi
        have hdr : xs.drop i = d :: xs.drop (i + 1) := by
          rw [List.drop_eq_getElem_cons hlt]
          rw [List.getElem?_eq_getElem hlt] at hd
          cases hd
          rfl
        rw [hdr] at e2
        unfold forL at e2
        cases q3 : h d ρ2 with
        | none => simp only [q3] at e2; cases e2
        | some ρ3 =>
          simp only [q3] at e2
          have A23 := A2.trans A3
          refine ⟨G3, ρ2, d, ρ3, A3.good, R3, q3, fun σ4 A4 _ _ => ?_⟩
          have A24 := A23.trans A4
          have x4 : Ex G1 G3 := x2.trans A3.ex
          split at e2
          · rename_i ρ5 q5
            exact ⟨G3, ρ3, .nx, ρ5, A4.good, q5, fun σ5 G5 H5 A5 => ⟨G5, ρ5, A24.trans A5, x4.trans A5.ex, e2⟩⟩
          · rename_i ρ5 q5
            exact ⟨G3, ρ3, .ct, ρ5, A4.good, q5, fun σ5 G5 H5 A5 => ⟨G5, ρ5, A24.trans A5, x4.trans A5.ex, e2⟩⟩
          · rename_i ρ5 q5
            cases e2
            exact ⟨G3, ρ3, .bk, _, A4.good, q5, fun σ5 G5 H5 A5 => k σ5 G5 H5 (A24.trans A5)⟩
          · rename_i n1 n2 n3
            refine ⟨G3, ρ3, fl, ρ', A4.good, e2, fun σ5 G5 H5 A5 => ?_⟩
            have r := (k σ5 G5 H5 (A24.trans A5)).start A24.dom
            cases fl with
            | nx => exact absurd e2 (n1 _)
            | ct => exact absurd e2 (n2 _)
            | bk => exact absurd e2 (n3 _)
            | rt r' => exact r
            | ex C ns ds => exact r
      · rintro σ2 H2 ⟨G2, ρ2, A2, x2, e2⟩
        rw [List.drop_eq_nil_of_le (Nat.le_refl _)] at e2
        cases e2
        exact k σ2 G2 H2 A2
/-- while, at most so many turns -/
def whileN (t : Ft) (B : Fs) : Nat → Fs
  | 0, _ => none
  | n + 1, ρ => match t ρ with
    | none => none
    | some (false, ρ1) => some (.nx, ρ1)
    | some (true, ρ1) => match B ρ1 with
      | some (.nx, ρ2) => whileN t B n ρ2
      | some (.ct, ρ2) => whileN t B n ρ2
      | some (.bk, ρ2) => some (.nx, ρ2)
      | o => o
/-- some number of turns will do -/
noncomputable def bWhile (t : Ft) (B : Fs) : Fs := fun ρ => open Classical in if h : ∃ r n, whileN t B n ρ = some r then some h.choose else none
theorem whileN_more {t : Ft} : ∀ {n : Nat} {ρ : En} {r : Fl × En}, whileN t B n ρ = some r → whileN t B (n + 1) ρ = some r
  | 0, _, _, h => nomatch h
  | n + 1, ρ, r, h => by
    unfold whileN at h ⊢
    split at h
    · cases h
    · exact h
    · split at h
      · exact whileN_more h
      · exact whileN_more h
      · exact h
      · exact h
theorem whileN_le {t : Ft} {n m : Nat} {ρ : En} {r : Fl × En} (h : whileN t B n ρ = some r) (l : n ≤ m) : whileN t B m ρ = some r := by
  induction l with
  | refl => exact h
  | step _ ih => exact whileN_more ih
theorem bWhile_eq {t : Ft} {n : Nat} {ρ : En} {r : Fl × En} (h : whileN t B n ρ = some r) : bWhile t B ρ = some r := by
  have hex : ∃ r n, whileN t B n ρ = some r := ⟨r, n, h⟩
  unfold bWhile
  rw [dif_pos hex]
  obtain ⟨m, hm⟩ := hex.choose_spec
  have e1 := whileN_le hm (Nat.le_max_right n m)
  have e2 := whileN_le h (Nat.le_max_left n m)
  rw [e1] at e2
  exact e2
theorem bWhile_inv {t : Ft} {ρ : En} {r : Fl × En} (h : bWhile t B ρ = some r) : ∃ n, whileN t B n ρ = some r := by
  unfold bWhile at h
  split at h
  · rename_i hex
    obtain ⟨m, hm⟩ := hex.choose_spec
    cases h
    exact ⟨m, hm⟩
  · cases h
theorem ds_while {body : List Stmt} {t : Ft} (hp : PassesOwn (model X.prog X.w) X.A X.env X.xe) (hc : DT X c t) (hb : DB X E body B) : DS X E (.While c body [] pos) (bWhile t B) :=
  PS.weak (ps_while hp hc hb) fun D σ H ⟨G, ρ, fl, ρ', g, e, k⟩ => by
    obtain ⟨n, hn⟩ := bWhile_inv e
    refine ⟨fun m σ2 H2 => ∃ G2 ρ2, Aft X.K G H σ ρ G2 H2 σ2 ρ2 ∧ whileN t B m ρ2 = some (fl, ρ'), ⟨n, G, ρ, Aft.refl g, hn⟩, ?_⟩
    rintro m σ2 H2 ⟨G2, ρ2, A2, e2⟩
    cases m with
    | zero => cases e2
    | succ m =>
      unfold whileN at e2
      cases q : t ρ2 with
      | none => rw [q] at e2; cases e2
      | some y =>
        obtain ⟨b, ρ3⟩ := y
        rw [q] at e2
        refine ⟨G2, ρ2, b, ρ3, A2.good, q, fun G3 H3 A3 => ?_⟩
        have A23 := A2.trans A3
        cases b with
        | false =>
          cases e2
          exact iteF (k σ2 G3 H3 A23)
        | true =>
          refine iteT ⟨fun σ' H' => ∃ G2 ρ2, Aft X.K G H σ ρ G2 H' σ' ρ2 ∧ whileN t B m ρ2 = some (fl, ρ'), fun σ' H' w => ⟨m, Nat.lt_succ_self m, w⟩, ?_⟩
          replace e2 : (match B ρ3 with | some (.nx, ρ2) => whileN t B m ρ2 | some (.ct, ρ2) => whileN t B m ρ2 | some (.bk, ρ2) => some (.nx, ρ2) | o => o) = some (fl, ρ') := e2
          split at e2
          · rename_i ρ5 q5
            exact ⟨G3, ρ3, .nx, ρ5, A3.good, q5, fun σ5 G5 H5 A5 => ⟨G5, ρ5, A23.trans A5, e2⟩⟩
          · rename_i ρ5 q5
            exact ⟨G3, ρ3, .ct, ρ5, A3.good, q5, fun σ5 G5 H5 A5 => ⟨G5, ρ5, A23.trans A5, e2⟩⟩
          · rename_i ρ5 q5
            cases e2
            exact ⟨G3, ρ3, .bk, _, A3.good, q5, fun σ5 G5 H5 A5 => k σ5 G5 H5 (A23.trans A5)⟩
          · rename_i n1 n2 n3
            refine ⟨G3, ρ3, fl, ρ', A3.good, e2, fun σ5 G5 H5 A5 => ?_⟩
            have r := (k σ5 G5 H5 (A23.trans A5)).start A23.dom
            cases fl with
            | nx => exact absurd e2 (n1 _)
            | ct => exact absurd e2 (n2 _)
            | bk => exact absurd e2 (n3 _)
            | rt r' => exact r
            | ex C ns ds => exact r
end
end DL
set_option Elab.async false
set_option linter.all false
set_option maxRecDepth 100000
set_option maxHeartbeats 2000000
namespace DL
open PySem PySem.Spec L2
/-! ### comprehensions -/
def wipeD (ρ : En) : List Nat → En
  | [] => ρ
  | v :: vs => (wipeD ρ vs).set v .un
def restD (ρ0 ρ : En) : List Nat → En
  | [] => ρ
  | v :: vs => match ρ0[v]? with
    | some x => (restD ρ0 ρ vs).set v x
    | none => restD ρ0 ρ vs
theorem wipeD_len (ρ : En) : ∀ vs, (wipeD ρ vs).length = ρ.length
  | [] => rfl
  | v :: vs => by unfold wipeD; rw [List.length_set, wipeD_len ρ vs]
theorem restD_len (ρ0 ρ : En) : ∀ vs, (restD ρ0 ρ vs).length = ρ.length
  | [] => rfl
  | v :: vs => by
    unfold restD
    split
    · rw [List.length_set, restD_len ρ0 ρ vs]
    · exact restD_len ρ0 ρ vs
theorem wipe_in (σ : L2.St) (i : Nat) (h : i < σ.length) : ∀ vs, i ∈ vs → (wipe σ vs)[i]? = some none
  | v :: vs, hi => by
    unfold wipe
    by_cases e : v = i
    · subst e
      rw [List.getElem?_set_self (by rw [wipe_length]; exact h)]
    · rw [List.getElem?_set_ne e]
      exact wipe_in σ i h vs ((List.mem_cons.mp hi).resolve_left fun z => e z.symm)
theorem wipe_out (σ : L2.St) (i : Nat) : ∀ vs, i ∉ vs → (wipe σ vs)[i]? = σ[i]?
  | [], _ => rfl
  | v :: vs, hi => by
    unfold wipe
    rw [List.getElem?_set_ne fun z => hi (by simp [z])]
    exact wipe_out σ i vs fun z => hi (List.mem_cons_of_mem _ z)
theorem wipeD_in (σ : En) (i : Nat) (h : i < σ.length) : ∀ vs, i ∈ vs → (wipeD σ vs)[i]? = some .un
  | v :: vs, hi => by
    unfold wipeD
    by_cases e : v = i
    · subst e
      rw [List.getElem?_set_self (by rw [wipeD_len]; exact h)]
    · rw [List.getElem?_set_ne e]
      exact wipeD_in σ i h vs ((List.mem_cons.mp hi).resolve_left fun z => e z.symm)
theorem wipeD_out (σ : En) (i : Nat) : ∀ vs, i ∉ vs → (wipeD σ vs)[i]? = σ[i]?
  | [], _ => rfl
  | v :: vs, hi => by
    unfold wipeD
    rw [List.getElem?_set_ne fun z => hi (by simp [z])]
    exact wipeD_out σ i vs fun z => hi (List.mem_cons_of_mem _ z)
theorem restD_in (ρ0 ρ : En) (i : Nat) (h : i < ρ.length) (hl : ρ0.length = ρ.length) : ∀ vs, i ∈ vs → (restD ρ0 ρ vs)[i]? = ρ0[i]?
  | v :: vs, hi => by
    unfold restD
    by_cases e : v = i
    · subst e
      have e1 : ρ0[v]? = some ρ0[v] := List.getElem?_eq_getElem (by rw [hl]; exact h)
      rw [e1]
      exact List.getElem?_set_self (by rw [restD_len]; exact h)
    · have ih := restD_in ρ0 ρ i h hl vs ((List.mem_cons.mp hi).resolve_left fun z => e z.symm)
      split
      · rw [List.getElem?_set_ne e]
        exact ih
      · exact ih
theorem restD_out (ρ0 ρ : En) (i : Nat) : ∀ vs, i ∉ vs → (restD ρ0 ρ vs)[i]? = ρ[i]?
  | [], _ => rfl
  | v :: vs, hi => by
    unfold restD
    have ih := restD_out ρ0 ρ i vs fun z => hi (List.mem_cons_of_mem _ z)
    split
    · rw [List.getElem?_set_ne fun z => hi (by simp [z])]
      exact ih
    · exact ih
theorem wipe_eq {σ σ' : L2.St} {vs : List Nat} (hl : σ'.length = (wipe σ vs).length) (h : ∀ i, i ∉ vs → σ'[i]? = (wipe σ vs)[i]?) : wipe σ' vs = wipe σ vs := by
  apply List.ext_getElem?
  intro i
  rw [wipe_length] at hl
  by_cases hv : i ∈ vs
  · by_cases hi : i < σ.length
    · rw [wipe_in σ i hi vs hv, wipe_in σ' i (by omega) vs hv]
    · rw [List.getElem?_eq_none (by rw [wipe_length]; omega), List.getElem?_eq_none (by rw [wipe_length]; omega)]
  · rw [wipe_out σ' i vs hv]
    exact h i hv
section
variable {K : PySem.W.Frag} {G H G1 H1 G' H' : Hp} {σ σ' : L2.St} {ρ ρ' ρe : En} {vs : List Nat}
theorem own_wipe (hl : σ.length = ρ.length) {i : Nat} {p : Addr} (o : Own (wipe σ vs) (wipeD ρ vs) i p) : i ∉ vs ∧ Own σ ρ i p := by
  obtain ⟨h1, h2⟩ := o
  have hi : i ∉ vs := fun z => by
    by_cases l : i < σ.length
    · rw [wipe_in σ i l vs z] at h1
      cases h1
    · rw [List.getElem?_eq_none (by rw [wipe_length]; omega)] at h1
      cases h1
  rw [wipe_out σ i vs hi] at h1
  rw [wipeD_out ρ i vs hi] at h2
  exact ⟨hi, h1, h2⟩
theorem Good.wipe (g : Good K G H σ ρ) : Good K G H (wipe σ vs) (wipeD ρ vs) := by
  refine ⟨g.ex, by rw [wipe_length, wipeD_len]; exact g.len, fun i s r e1 e2 => ?_, fun i j p a b => g.nd i j p (own_wipe g.len a).2 (own_wipe g.len b).2⟩
  by_cases hv : i ∈ vs
  · by_cases l : i < ρ.length
    · rw [wipeD_in ρ i l vs hv] at e2
      cases e2
      trivial
    · rw [List.getElem?_eq_none (by rw [wipeD_len]; omega)] at e2
      cases e2
  · rw [wipe_out σ i vs hv] at e1
    rw [wipeD_out ρ i vs hv] at e2
    exact g.sl i s r e1 e2
theorem Aft.wipe (a : Aft K G H σ ρ G1 H1 σ' ρ') (hr : ∀ i m, i ∈ vs → ρ[i]? ≠ some (.rf m)) : Aft K G H σ ρ G1 H1 (wipe σ' vs) (wipeD ρ' vs) := by
  refine ⟨a.good.wipe, a.ex, a.keep, a.dom, fun i p o => a.own i p (own_wipe a.good.len o).2, fun i m e => ?_, by rw [wipeD_len]; exact a.len⟩
  have hv : i ∉ vs := fun z => hr i m z e
  obtain ⟨h1, m', h2⟩ := a.rf i m e
  exact ⟨by rw [wipe_out σ' i vs hv]; exact h1, m', by rw [wipeD_out ρ' i vs hv]; exact h2⟩
theorem Aft.rest (g : Good K G H σ ρ) (a : Aft K G H (L2.wipe σ vs) (wipeD ρ vs) G1 H1 (L2.wipe σ vs) ρe) : Aft K G H σ ρ G1 H1 σ (restD ρ ρe vs) := by
  have hl : ρe.length = ρ.length := by
    have := a.good.len
    rw [wipe_length] at this
    rw [← this]
    exact g.len
  have notW : ∀ i p, i ∈ vs → Own σ ρ i p → ¬ OwnA (L2.wipe σ vs) (wipeD ρ vs) p := fun i p hi o ⟨j, oj⟩ => by
    obtain ⟨hj, oj⟩ := own_wipe g.len oj
    exact hj (g.nd i j p o oj ▸ hi)
  have split_ : ∀ i p, Own σ (restD ρ ρe vs) i p → (i ∈ vs ∧ Own σ ρ i p) ∨ (i ∉ vs ∧ Own (L2.wipe σ vs) ρe i p) := fun i p ⟨h1, h2⟩ => by
    by_cases hv : i ∈ vs
    · have l : i < ρe.length := by
        rw [hl, ← g.len]
        exact (List.getElem?_eq_some_iff.mp h1).1
      rw [restD_in ρ ρe i l hl.symm vs hv] at h2
      exact .inl ⟨hv, h1, h2⟩
    · rw [restD_out ρ ρe i vs hv] at h2
      exact .inr ⟨hv, by rw [wipe_out σ i vs hv]; exact h1, h2⟩
  refine ⟨⟨a.good.ex, by rw [restD_len, hl]; exact g.len, fun i s r e1 e2 => ?_, fun i j p oi oj => ?_⟩, a.ex, fun x o e n => a.keep x o e fun ⟨j, oj⟩ => n ⟨j, (own_wipe g.len oj).2⟩, a.dom, fun i p o => ?_, fun i m e => ⟨rfl, ?_⟩, by rw [restD_len, hl]⟩
  · by_cases hv : i ∈ vs
    · have l : i < ρe.length := by
        rw [hl, ← g.len]
        exact (List.getElem?_eq_some_iff.mp e1).1
      rw [restD_in ρ ρe i l hl.symm vs hv] at e2
      have k := g.sl i s r e1 e2
      cases r with
      | un => trivial
      | fz d =>
        obtain ⟨v, h1, h2⟩ := k
        exact ⟨v, h1, h2.up a.ex⟩
      | ow m =>
        obtain ⟨p, o, h1, h2, h3, h4⟩ := k
        obtain ⟨k1, k2⟩ := a.keep p o h3 (notW i p hv ⟨by rw [e1, h1], .inl ⟨m, e2⟩⟩)
        exact ⟨p, o, h1, k2 h2, k1, h4.up a.ex⟩
      | rf m =>
        obtain ⟨p, o, h1, h2, h3, h4⟩ := k
        obtain ⟨k1, k2⟩ := a.keep p o h3 (notW i p hv ⟨by rw [e1, h1], .inr ⟨m, e2⟩⟩)
        exact ⟨p, o, h1, k2 h2, k1, h4.up a.ex⟩
      | bw _ => exact k
    · rw [restD_out ρ ρe i vs hv] at e2
      exact a.good.sl i s r (by rw [wipe_out σ i vs hv]; exact e1) e2
  · have mix : ∀ i j, i ∈ vs → Own σ ρ i p → Own (L2.wipe σ vs) ρe j p → False := fun i j hi oi oj => by
      rcases a.own j p oj with z | z
      · exact notW i p hi oi z
      · obtain ⟨_, u, e⟩ := Own.there g oi
        rw [z] at e
        cases e
    rcases split_ i p oi with ⟨hi, oi⟩ | ⟨hi, oi⟩
    · rcases split_ j p oj with ⟨hj, oj⟩ | ⟨hj, oj⟩
      · exact g.nd i j p oi oj
      · exact (mix i j hi oi oj).elim
    · rcases split_ j p oj with ⟨hj, oj⟩ | ⟨hj, oj⟩
      · exact (mix j i hj oj oi).elim
      · exact a.good.nd i j p oi oj
  · rcases split_ i p o with ⟨_, oi⟩ | ⟨_, oi⟩
    · exact .inl ⟨i, oi⟩
    · rcases a.own i p oi with ⟨j, oj⟩ | z
      · exact .inl ⟨j, (own_wipe g.len oj).2⟩
      · exact .inr z
  · by_cases hv : i ∈ vs
    · have l : i < ρe.length := by
        rw [hl]
        exact (List.getElem?_eq_some_iff.mp e).1
      exact ⟨m, by rw [restD_in ρ ρe i l hl.symm vs hv]; exact e⟩
    · obtain ⟨_, m', e'⟩ := a.rf i m (by rw [wipeD_out ρ i vs hv]; exact e)
      exact ⟨m', by rw [restD_out ρ ρe i vs hv]; exact e'⟩
end
def lcL (h : Fg) (ft : Ft) (fe : Fe) (vs : List Nat) : List D → List D → En → Option (List D × En)
  | [], acc, ρ => some (acc, ρ)
  | d :: ds, acc, ρ => match h d ρ with
    | none => none
    | some ρ1 => match ft ρ1 with
      | none => none
      | some (false, ρ2) => lcL h ft fe vs ds acc (wipeD ρ2 vs)
      | some (true, ρ2) => match dFr fe ρ2 with
        | none => none
        | some (y, ρ3) => if acc.length < 16000000 then lcL h ft fe vs ds (acc ++ [y]) (wipeD ρ3 vs) else none
def dLc (fi : Fi) (h : Fg) (ft : Ft) (fe : Fe) (vs : List Nat) : Fe := fun ρ => match fi ρ with
  | some (xs, ρ1) => match lcL h ft fe vs xs [] (wipeD ρ1 vs) with
    | some (acc, ρ2) => some (.ow (.l acc), restD ρ1 ρ2 vs)
    | none => none
  | none => none
theorem sz16 {n : Nat} (h : n < 16000000) : n < sizeLine := Nat.lt_trans h (by decide)
theorem tLc_of {K : PySem.W.Frag} {fi : Fi} {h : Fg} {ft : Ft} {fe : Fe} {vs S : List Nat} (hS : ∀ i ∈ S, i ∈ vs) : ∀ σ H Q, teOf K (dLc fi h ft fe vs) σ H Q → tLc (tiOf K fi) (tgOf K h S) (ttOf K ft) (tdOf K (dFr fe)) vs σ H Q := fun σ H Q ⟨G, ρ, z, ρ', g, e, k⟩ => by
  unfold dLc at e
  cases q : fi ρ with
  | none => rw [q] at e; cases e
  | some y =>
    obtain ⟨xs, ρ1⟩ := y
    rw [q] at e
    cases q2 : lcL h ft fe vs xs [] (wipeD ρ1 vs) with
    | none => simp only [q2] at e; cases e
    | some y =>
      obtain ⟨accE, ρ2⟩ := y
      simp only [q2] at e
      cases e
      refine ⟨G, ρ, xs, ρ1, g, q, fun J G1 H1 A1 W Dl hD => ?_⟩
      have gw : Good K G1 H1 (wipe σ vs) (wipeD ρ1 vs) := A1.good.wipe
      have hr : ∀ i m, i ∈ vs → (wipeD ρ1 vs)[i]? ≠ some (.rf m) := fun i m hi z => by
        have l : i < ρ1.length := by
          have := (List.getElem?_eq_some_iff.mp z).1
          rw [wipeD_len] at this
          exact this
        rw [wipeD_in ρ1 i l vs hi] at z
        cases z
      refine lc_it W (fun i H2 => ∃ G2 ρ3 accV acc, Aft K G1 H1 (wipe σ vs) (wipeD ρ1 vs) G2 H2 (wipe σ vs) ρ3 ∧ Ex G1 G2 ∧ G2 Dl = none ∧ ¬ OwnA (wipe σ vs) ρ3 Dl ∧ H2 Dl = some (.lst accV) ∧ Rps K G2 accV acc ∧ lcL h ft fe vs (xs.drop i) acc ρ3 = some (accE, ρ2))
        ⟨G1, wipeD ρ1 vs, [], [], (Aft.refl gw).mut hD (gw.ex.free hD) (gw.notOwn hD), Same.refl _, gw.ex.free hD, gw.notOwn hD, upd_same, .nil, by rw [List.drop_zero]; exact q2⟩
        (fun i H2 _ ⟨G2, ρ3, accV, acc, A2, x2, _⟩ => x2.trans A2.good.ex) ?_ ?_
      · rintro i x H2 H3 hi ⟨G2, ρ3, accV, acc, A2, x2, d2, n2, h2, r2, e2⟩ ⟨d, hd, y⟩
        obtain ⟨G3, A3, R3⟩ := ItemY.take A2.good x2 y
        have hlt : i < xs.length := hi
        have hdr : xs.drop i = d :: xs.drop (i + 1) := by
          rw [List.drop_eq_getElem_cons hlt]
          rw [List.getElem?_eq_getElem hlt] at hd
          cases hd
          rfl
        rw [hdr] at e2
        unfold lcL at e2
        cases q3 : h d ρ3 with
        | none => simp only [q3] at e2; cases e2
        | some ρ4 =>
          simp only [q3] at e2
          obtain ⟨k3a, k3b⟩ := A3.keep Dl _ h2 n2
          refine ⟨G3, ρ3, d, ρ4, A3.good, R3, q3, fun σ4 A4 l4 s4 => ⟨wipe_eq l4 fun j hj => s4 j fun z => hj (hS j z), ?_⟩⟩
          obtain ⟨k4a, k4b⟩ := A4.keep Dl _ k3a (A3.nown h2 n2)
          have n4 := A4.nown k3a (A3.nown h2 n2)
          have ew : wipe σ4 vs = wipe σ vs := wipe_eq l4 fun j hj => s4 j fun z => hj (hS j z)
          cases q4 : ft ρ4 with
          | none => simp only [q4] at e2; cases e2
          | some y =>
            obtain ⟨b, ρ5⟩ := y
            simp only [q4] at e2
            refine ⟨G3, ρ4, b, ρ5, A4.good, q4, fun G5 H5 A5 => ?_⟩
            obtain ⟨k5a, k5b⟩ := A5.keep Dl _ k4a n4
            have n5 := A5.nown k4a n4
            have A25 := ((A2.trans A3).trans A4).trans A5
            cases b with
            | false =>
              refine iteF ⟨G5, wipeD ρ5 vs, accV, acc, ?_, ?_, k5b (k4b (k3b d2)), ?_, k5a, r2.up (A3.ex.trans A5.ex), e2⟩
              · have := A25.wipe (vs := vs) hr
                rw [ew] at this
                exact this
              · exact (x2.trans A3.ex).trans A5.ex
              · rw [← ew]
                exact fun ⟨j, oj⟩ => n5 ⟨j, (own_wipe A5.good.len oj).2⟩
            | true =>
              cases q5 : dFr fe ρ5 with
              | none => simp only [q5] at e2; cases e2
              | some y =>
                obtain ⟨y, ρ6⟩ := y
                simp only [q5] at e2
                split at e2
                · rename_i hsz
                  refine iteT ⟨G5, ρ5, y, ρ6, A5.good, q5, fun v G6 H6 A6 R6 => ?_⟩
                  obtain ⟨k6a, k6b⟩ := A6.keep Dl _ k5a n5
                  have n6 := A6.nown k5a n5
                  have A26 := A25.trans A6
                  have x6 : Ex G2 G6 := (A3.ex.trans A5.ex).trans A6.ex
                  have Aw : Aft K G1 H1 (wipe σ vs) (wipeD ρ1 vs) G6 H6 (wipe σ vs) (wipeD ρ6 vs) := by
                    have := A26.wipe (vs := vs) hr
                    rw [ew] at this
                    exact this
                  have nw : ¬ OwnA (wipe σ vs) (wipeD ρ6 vs) Dl := by
                    rw [← ew]
                    exact fun ⟨j, oj⟩ => n6 ⟨j, (own_wipe A6.good.len oj).2⟩
                  have g6 : G6 Dl = none := k6b (k5b (k4b (k3b d2)))
                  refine ⟨accV, k6a, by rw [r2.len]; exact sz16 hsz, G6, wipeD ρ6 vs, accV ++ [v], acc ++ [y], Aw.mut hD g6 nw, x2.trans x6, g6, nw, upd_same, (r2.up x6).app (.one R6), e2⟩
                · cases e2
      · rintro H2 ⟨G2, ρ3, accV, acc, A2, x2, d2, n2, h2, r2, e2⟩
        rw [List.drop_eq_nil_of_le (Nat.le_refl _)] at e2
        cases e2
        have Ar := Aft.rest A1.good A2
        refine k (.ref Dl) G2 H2 (A1.trans Ar) ⟨Dl, _, rfl, A1.back hD, d2, h2, .l r2, fun ⟨j, oj1, oj2⟩ => ?_⟩
        have l2 : ρ2.length = ρ1.length := by
          have := A2.good.len
          rw [wipe_length] at this
          rw [← this]
          exact A1.good.len
        by_cases hv : j ∈ vs
        · have l : j < ρ2.length := by
            rw [l2, ← A1.good.len]
            exact (List.getElem?_eq_some_iff.mp oj1).1
          rw [restD_in ρ1 ρ2 j l l2.symm vs hv] at oj2
          obtain ⟨_, u, e⟩ := Own.there A1.good ⟨oj1, oj2⟩
          rw [hD] at e
          cases e
        · rw [restD_out ρ1 ρ2 j vs hv] at oj2
          exact n2 ⟨j, by rw [wipe_out σ j vs hv]; exact oj1, oj2⟩
section
variable {X : Cx} {elt tg iter : Expr} {ifs : List Expr} {scope : Scope} {own : List (Str × Nat)} {pos spos : Pos} {fi : Fi} {h : Fg} {S : List Nat} {ft : Ft} {fe : Fe}
def dYes : Ft := fun ρ => some (true, ρ)
abbrev DTs (X : Cx) (ifs : List Expr) (f : Ft) : Prop := PTs X ifs (ttOf X.K f)
theorem PTs.weak {X : Cx} {e : List Expr} {t t' : TT} (h : PTs X e t) (w : ∀ σ H Q, t' σ H Q → t σ H Q) : PTs X e t' := ⟨fun pins s σ H Q I q => h.run pins s σ H Q I (w σ H Q q)⟩
theorem dts_nil : DTs X [] dYes := PTs.weak pts_nil fun σ H Q ⟨G, ρ, b, ρ', g, e, k⟩ => by
  cases e
  exact k G H (Aft.refl g)
theorem dts_one {c : Expr} (hc : DT X c ft) : DTs X [c] ft := pts_one hc
theorem de_lc (hc : X.calm = true) (hN : X.N.Nodup) (hi : DI X tg iter fi) (ok : BlkOk X.N X.env.scope scope own)
    (hg : ∀ (s : Shared) (H : Hp) (C : Addr) (cl : List (Str × Addr)) (fp : List Addr), DG (X.blk s H scope (compEnvC scope cl C X.env) fp) tg h S) (ht : ∀ (s : Shared) (H : Hp) (C : Addr) (cl : List (Str × Addr)) (fp : List Addr), DTs (X.blk s H scope (compEnvC scope cl C X.env) fp) ifs ft)
    (he : ∀ (s : Shared) (H : Hp) (C : Addr) (cl : List (Str × Addr)) (fp : List Addr), DE (X.blk s H scope (compEnvC scope cl C X.env) fp) elt fe) (hS : ∀ i ∈ S, i ∈ own.map (·.2) := by decide) (hs : ∀ x, foldedSetIterable iter X.env x = pure x := by intro _; rfl) :
    DE X (.ListComp elt [⟨tg, iter, ifs, 0⟩] scope pos) (dLc fi h ft fe (own.map (·.2))) :=
  PE.weak (pe_lc hc hN hi ok hg ht (fun s H C cl fp => de_fr (he s H C cl fp)) hs) (tLc_of hS)
end
end DL
set_option Elab.async false
set_option linter.all false
set_option maxRecDepth 100000
set_option maxHeartbeats 2000000
namespace DL
open PySem PySem.Spec L2
open PyProof.Rows (envOfC)
/-! ### defs -/
/-- from the arguments (data; lent things) to the result and what was lent -/
abbrev FF := En → Option (Sl × En)
def ArgsOk (ρ : En) : Prop := ∀ (i : Nat) (m : Mu), ρ[i]? ≠ some (.ow m)
def spD (K : PySem.W.Frag) (n : Nat) (F : FF) : Sp := fun vs H Q _ => ∃ G ρ r ρ', vs.length = n ∧ ArgsOk ρ ∧ Good K G H (vs.map some) ρ ∧ F ρ = some (r, ρ') ∧
  ∀ v G' H', Aft K G H (vs.map some) ρ G' H' (vs.map some) ρ' → ROk K H G' H' (vs.map some) ρ' v r → Q v H'
def resolve (ρ : En) : Sl → Option Sl
  | .fz d => some (.fz d)
  | .ow m => some (.ow m)
  | .bw i => match ρ[i]? with
    | some (.fz d) => some (.fz d)
    | some (.ow m) => some (.ow m)
    | _ => none
  | _ => none
def finS (a b : Sl) : Sl := match a with
  | .rf _ => b
  | .fz d => .fz d
  | _ => .un
def fin (ρ ρe : En) : En := List.zipWith finS ρ ρe
def endF (ρ : En) (o : Option (Fl × En)) : Option (Sl × En) := match o with
  | some (.nx, ρe) => some (.fz .non, fin ρ ρe)
  | some (.rt r, ρe) => match resolve ρe r with
    | some z => some (z, fin ρ ρe)
    | none => none
  | _ => none
def runF (k : Nat) (B : Fs) : FF := fun ρ => endF ρ (B (ρ ++ List.replicate k .un))
section
variable {K : PySem.W.Frag} {G H G' H' : Hp} {σ σ' : L2.St} {ρ ρe : En} {k : Nat} {vs : List V}
theorem pad_get {α : Type} {l : List α} {x : α} {i : Nat} {y : α} (h : (l ++ List.replicate k x)[i]? = some y) : l[i]? = some y ∨ y = x := by
  by_cases hi : i < l.length
  · rw [List.getElem?_append_left hi] at h
    exact .inl h
  · rw [List.getElem?_append_right (by omega)] at h
    rw [List.getElem?_replicate] at h
    split at h
    · cases h
      exact .inr rfl
    · cases h
theorem own_pad {i : Nat} {p : Addr} (o : Own (σ ++ List.replicate k none) (ρ ++ List.replicate k .un) i p) : Own σ ρ i p := by
  obtain ⟨h1, h2⟩ := o
  refine ⟨?_, ?_⟩
  · rcases pad_get h1 with z | z
    · exact z
    · cases z
  · rcases h2 with ⟨m, h2⟩ | ⟨m, h2⟩
    · rcases pad_get h2 with z | z
      · exact .inl ⟨m, z⟩
      · cases z
    · rcases pad_get h2 with z | z
      · exact .inr ⟨m, z⟩
      · cases z
theorem Good.pad (g : Good K G H σ ρ) : Good K G H (σ ++ List.replicate k none) (ρ ++ List.replicate k .un) := by
  refine ⟨g.ex, by simp [g.len], fun i s r e1 e2 => ?_, fun i j p a b => g.nd i j p (own_pad a) (own_pad b)⟩
  rcases pad_get e2 with z | z
  · have hi : i < σ.length := by
      rw [g.len]
      exact (List.getElem?_eq_some_iff.mp z).1
    rw [List.getElem?_append_left hi] at e1
    exact g.sl i s r e1 z
  · rw [z]
    trivial
theorem fin_get {i : Nat} {z : Sl} (h : (fin ρ ρe)[i]? = some z) : ∃ a b, ρ[i]? = some a ∧ ρe[i]? = some b ∧ z = finS a b := by
  unfold fin at h
  rw [List.getElem?_zipWith] at h
  cases h1 : ρ[i]? with
  | none => rw [h1] at h; cases h
  | some a =>
    cases h2 : ρe[i]? with
    | none => rw [h1, h2] at h; cases h
    | some b =>
      rw [h1, h2] at h
      cases h
      exact ⟨a, b, rfl, rfl, rfl⟩
theorem finS_own {a b : Sl} (h : (∃ m, finS a b = .ow m) ∨ ∃ m, finS a b = .rf m) : (∃ m, a = .rf m) ∧ finS a b = b := by
  cases a with
  | rf m => exact ⟨⟨m, rfl⟩, rfl⟩
  | un => rcases h with ⟨m, h⟩ | ⟨m, h⟩ <;> cases h
  | fz d => rcases h with ⟨m, h⟩ | ⟨m, h⟩ <;> cases h
  | ow d => rcases h with ⟨m, h⟩ | ⟨m, h⟩ <;> cases h
  | bw d => rcases h with ⟨m, h⟩ | ⟨m, h⟩ <;> cases h
theorem call_end (g : Good K G H (vs.map some) ρ) (a : Aft K G H (vs.map some ++ List.replicate k none) (ρ ++ List.replicate k .un) G' H' σ' ρe) : Aft K G H (vs.map some) ρ G' H' (vs.map some) (fin ρ ρe) := by
  have vlen : ∀ i (z : Sl), (fin ρ ρe)[i]? = some z → i < (vs.map some).length := fun i z h => by
    obtain ⟨x, y, h1, _⟩ := fin_get h
    rw [g.len]
    exact (List.getElem?_eq_some_iff.mp h1).1
  have sig : ∀ i m, ρ[i]? = some (Sl.rf m) → σ'[i]? = (vs.map some)[i]? ∧ ∃ m', ρe[i]? = some (Sl.rf m') := fun i m h => by
    have hi : i < ρ.length := (List.getElem?_eq_some_iff.mp h).1
    obtain ⟨h1, h2⟩ := a.rf i m (by rw [List.getElem?_append_left hi]; exact h)
    refine ⟨?_, h2⟩
    rw [h1, List.getElem?_append_left (by rw [g.len]; exact hi)]
  have own_ : ∀ i p, Own (vs.map some) (fin ρ ρe) i p → Own σ' ρe i p ∧ Own (vs.map some) ρ i p := fun i p ⟨h1, h2⟩ => by
    have h3 : ∃ z, (fin ρ ρe)[i]? = some z ∧ ((∃ m, z = .ow m) ∨ ∃ m, z = .rf m) := by
      rcases h2 with ⟨m, h2⟩ | ⟨m, h2⟩
      · exact ⟨_, h2, .inl ⟨m, rfl⟩⟩
      · exact ⟨_, h2, .inr ⟨m, rfl⟩⟩
    obtain ⟨z, hz, hm⟩ := h3
    obtain ⟨x, y, e1, e2, e3⟩ := fin_get hz
    subst e3
    obtain ⟨⟨m, rfl⟩, e4⟩ := finS_own hm
    obtain ⟨s1, m', s2⟩ := sig i m e1
    exact ⟨⟨by rw [s1]; exact h1, .inr ⟨m', s2⟩⟩, h1, .inr ⟨m, e1⟩⟩
  refine ⟨⟨a.good.ex, ?_, fun i s r e1 e2 => ?_, fun i j p oi oj => a.good.nd i j p (own_ i p oi).1 (own_ j p oj).1⟩, a.ex, fun x o e n => a.keep x o e fun ⟨j, oj⟩ => n ⟨j, own_pad oj⟩, a.dom, fun i p o => .inl ⟨i, (own_ i p o).2⟩, fun i m e => ⟨rfl, ?_⟩, ?_⟩
  · have h1 := a.good.len
    unfold fin
    rw [List.length_zipWith, g.len]
    have h2 := a.len
    rw [List.length_append] at h2
    omega
  · obtain ⟨x, y, h1, h2, rfl⟩ := fin_get e2
    cases x with
    | un => trivial
    | bw _ => trivial
    | ow _ => trivial
    | fz d =>
      obtain ⟨v, k1, k2⟩ := g.sl i s _ e1 h1
      exact ⟨v, k1, k2.up a.ex⟩
    | rf m =>
      obtain ⟨s1, m', s2⟩ := sig i m h1
      exact a.good.sl i s y (by rw [s1]; exact e1) h2
  · obtain ⟨s1, m', s2⟩ := sig i m e
    refine ⟨m', ?_⟩
    unfold fin
    rw [List.getElem?_zipWith, e, s2]
    rfl
  · have h2 := a.len
    rw [List.length_append] at h2
    unfold fin
    rw [List.length_zipWith]
    omega
theorem res_ok {r z : Sl} {v : V} (hA : ArgsOk ρ) (g : Good K G H (vs.map some) ρ) (a : Aft K G H (vs.map some ++ List.replicate k none) (ρ ++ List.replicate k .un) G' H' σ' ρe) (R : ROk K H G' H' σ' ρe v r) (e : resolve ρe r = some z) :
    ROk K H G' H' (vs.map some) (fin ρ ρe) v z := by
  have own_ : ∀ i p, Own (vs.map some) (fin ρ ρe) i p → Own σ' ρe i p ∧ ∃ m, ρ[i]? = some (Sl.rf m) := fun i p ⟨h1, h2⟩ => by
    have h3 : ∃ z, (fin ρ ρe)[i]? = some z ∧ ((∃ m, z = .ow m) ∨ ∃ m, z = .rf m) := by
      rcases h2 with ⟨m, h2⟩ | ⟨m, h2⟩
      · exact ⟨_, h2, .inl ⟨m, rfl⟩⟩
      · exact ⟨_, h2, .inr ⟨m, rfl⟩⟩
    obtain ⟨z, hz, hm⟩ := h3
    obtain ⟨x, y, e1, e2, e3⟩ := fin_get hz
    subst e3
    obtain ⟨⟨m, rfl⟩, e4⟩ := finS_own hm
    have hi : i < ρ.length := (List.getElem?_eq_some_iff.mp e1).1
    obtain ⟨s1, m', s2⟩ := a.rf i m (by rw [List.getElem?_append_left hi]; exact e1)
    rw [List.getElem?_append_left (by rw [g.len]; exact hi)] at s1
    exact ⟨⟨by rw [s1]; exact h1, .inr ⟨m', s2⟩⟩, m, e1⟩
  cases r with
  | un => cases e
  | rf m => cases e
  | fz d => cases e; exact R
  | ow m =>
    cases e
    obtain ⟨p, o, rfl, h0, h1, h2, h3, h4⟩ := R
    exact ⟨p, o, rfl, h0, h1, h2, h3, fun ⟨j, oj⟩ => h4 ⟨j, (own_ j p oj).1⟩⟩
  | bw i =>
    have e' : (match ρe[i]? with | some (.fz d) => some (Sl.fz d) | some (.ow m) => some (.ow m) | _ => none) = some z := e
    have R' : σ'[i]? = some (some v) := R
    cases q : ρe[i]? with
    | none => rw [q] at e'; cases e'
    | some x =>
      rw [q] at e'
      have s := a.good.sl i _ _ R' q
      cases x with
      | un => cases e'
      | bw _ => cases e'
      | rf m => cases e'
      | fz d =>
        cases e'
        obtain ⟨v', h1, h2⟩ := s
        cases h1
        exact h2
      | ow m =>
        cases e'
        obtain ⟨p, o, h1, h2, h3, h4⟩ := s
        cases h1
        have oi : Own σ' ρe i p := ⟨R', .inl ⟨m, q⟩⟩
        refine ⟨p, o, rfl, ?_, h2, h3, h4, fun ⟨j, oj⟩ => ?_⟩
        · rcases a.own i p oi with ⟨j, oj⟩ | z
          · exfalso
            obtain ⟨w1, w2⟩ := own_pad oj
            have hr : ∃ m, ρ[j]? = some (Sl.rf m) := by
              rcases w2 with ⟨m', w2⟩ | w2
              · exact absurd w2 (hA j m')
              · exact w2
            obtain ⟨m1, hr⟩ := hr
            have hj : j < ρ.length := (List.getElem?_eq_some_iff.mp hr).1
            obtain ⟨s1, m', s2⟩ := a.rf j m1 (by rw [List.getElem?_append_left hj]; exact hr)
            rw [List.getElem?_append_left (by rw [g.len]; exact hj)] at s1
            have e3 := a.good.nd i j p oi ⟨by rw [s1]; exact w1, .inr ⟨m', s2⟩⟩
            subst e3
            rw [q] at s2
            cases s2
          · exact z
        · obtain ⟨oj', m1, hr⟩ := own_ j p oj
          have e3 := a.good.nd i j p oi oj'
          subst e3
          have hj : i < ρ.length := (List.getElem?_eq_some_iff.mp hr).1
          obtain ⟨s1, m', s2⟩ := a.rf i m1 (by rw [List.getElem?_append_left hj]; exact hr)
          rw [q] at s2
          cases s2
end
section
variable {P : Program} {w : World} {K : PySem.W.Frag} {mg : Str → Option Value} {base : Heap}
/-- THE RULE for a def -/
theorem okD {x qual : Str} {st : Stmt} {f : Addr} {fd : FuncData} {N ps : List Str} {k : Nat} {B : Fs} (F : Fun K x qual st f fd) (S : FnScope N ps (defScope st))
    (hb : ∀ (cdv : Value) (A : Around) (outer : List Env) (s : Shared) (H : Hp), Room k (A.deeper (envOfC qual (defScope st) s.heap.objs.size f cdv)) → DB (cxOf CX0 P w K mg base N qual (defScope st) f cdv A outer s H E0).nox E0 (defBody st) B) :
    FnOk P w K mg base CX0 (k + 1) f fd ps (spD K ps.length (runF (N.length - ps.length) B)) := by
  obtain ⟨oc, od, kV, doc, pm, an, cdv, ct, osl, rfl, lk, hcd⟩ := F.ex
  refine fn_of lk hcd S (fun vs H Q E h => ?_) fun A outer s H vs Q E hr hsp => ?_
  · obtain ⟨G, ρ, r, ρ', h1, _⟩ := h
    exact h1
  · obtain ⟨G, ρ, r, ρ', h1, hA, g, e, k⟩ := hsp
    refine ⟨tsOf K E0 B, ?_, ?_⟩
    · have h0 := hb cdv A outer s H hr
      exact PSs.nox (X := cxOf CX0 P w K mg base N qual (defScope st) f cdv A outer s H E) (show PSs _ _ (tsOf K E0 B) from ⟨fun pins s1 σ H1 D I q => h0.run pins s1 σ H1 D I q⟩)
    · have e0 : L2.start N vs = vs.map some ++ List.replicate (N.length - ps.length) none := by
        unfold L2.start
        rw [h1]
      rw [e0]
      unfold runF at e
      cases q : B (ρ ++ List.replicate (N.length - ps.length) .un) with
      | none => rw [q] at e; cases e
      | some y =>
        obtain ⟨fl, ρe⟩ := y
        rw [q] at e
        refine ⟨G, _, fl, ρe, g.pad, q, fun σ' G' H' A' => ?_⟩
        have Ae := call_end g A'
        cases fl with
        | nx =>
          cases e
          exact k .non G' H' Ae .non
        | bk => cases e
        | ct => cases e
        | ex C ns ds => cases e
        | rt r1 =>
          intro v R
          replace e : (match resolve ρe r1 with | some z => some (z, fin ρ ρe) | none => none) = some (r, ρ') := e
          cases q2 : resolve ρe r1 with
          | none => rw [q2] at e; cases e
          | some z =>
            rw [q2] at e
            cases e
            exact k v G' H' Ae (res_ok hA g A' R q2)
end
/-! ### calls of defs -/
def allFz : List Sl → Bool
  | [] => true
  | .fz _ :: r => allFz r
  | _ => false
/-- the arguments as they come: let stay; or the first one lent -/
def isRes : Sl → Bool
  | .fz _ => true
  | .ow _ => true
  | _ => false
def fCall (F : FF) (fa : Fa) : Fe := fun ρ => match fa ρ with
  | some (rs, ρ1) => match rs with
    | .bw i :: rest => if allFz rest = true then (match ρ1[i]? with
        | some (.ow m) => match F (.rf m :: rest) with
          | some (z, .rf m' :: _) => if isRes z = true then some (z, ρ1.set i (.ow m')) else none
          | _ => none
        | some (.rf m) => match F (.rf m :: rest) with
          | some (z, .rf m' :: _) => if isRes z = true then some (z, ρ1.set i (.rf m')) else none
          | _ => none
        | _ => none) else none
    | rs => if allFz rs = true then (match F rs with
        | some (z, _) => if isRes z = true then some (z, ρ1) else none
        | none => none) else none
  | none => none
section
variable {K : PySem.W.Frag} {G H G1 H1 G2 H2 H0 : Hp} {σ : L2.St} {ρ ρ1 ρc ρc' : En} {vs : List V} {rs : List Sl}
theorem fz_slots : ∀ {vs : List V} {rs : List Sl}, RsOk K H0 G H σ ρ vs rs → allFz rs = true → vs.length = rs.length ∧ (∀ (i : Nat) (s : Option V) (r : Sl), (vs.map some)[i]? = some s → rs[i]? = some r → ∃ v d, s = some v ∧ r = .fz d ∧ Rp K G v d)
  | _, _, .nil, _ => ⟨rfl, fun i s r h _ => by simp at h⟩
  | _, _, .cons (v := v) (r := r) h t, f => by
    cases r with
    | fz d =>
      obtain ⟨h1, h2⟩ := fz_slots t f
      refine ⟨by simp [h1], fun i s r e1 e2 => ?_⟩
      cases i with
      | zero =>
        simp at e1 e2
        subst e1
        subst e2
        exact ⟨v, d, rfl, rfl, h⟩
      | succ i => exact h2 i s r (by simpa using e1) (by simpa using e2)
    | un => cases f
    | ow _ => cases f
    | rf _ => cases f
    | bw _ => cases f
/-- the caller's slots behind a call that was lent nothing of theirs -/
theorem Good.frame (g : Good K G1 H1 σ ρ) (ex : Ex G1 G2) (ex2 : Ex G2 H2) (k : ∀ a o, H1 a = some o → OwnA σ ρ a → H2 a = some o ∧ (G1 a = none → G2 a = none)) : Good K G2 H2 σ ρ := by
  refine ⟨ex2, g.len, fun i s r e1 e2 => ?_, g.nd⟩
  have q := g.sl i s r e1 e2
  cases r with
  | un => trivial
  | bw _ => exact q
  | fz d =>
    obtain ⟨v, h1, h2⟩ := q
    exact ⟨v, h1, h2.up ex⟩
  | ow m =>
    obtain ⟨p, o, h1, h2, h3, h4⟩ := q
    obtain ⟨k1, k2⟩ := k p o h3 ⟨i, by rw [e1, h1], .inl ⟨m, e2⟩⟩
    exact ⟨p, o, h1, k2 h2, k1, h4.up ex⟩
  | rf m =>
    obtain ⟨p, o, h1, h2, h3, h4⟩ := q
    obtain ⟨k1, k2⟩ := k p o h3 ⟨i, by rw [e1, h1], .inr ⟨m, e2⟩⟩
    exact ⟨p, o, h1, k2 h2, k1, h4.up ex⟩
/-- a call with all arguments standing -/
theorem call_fz {F : FF} {n : Nat} {z : Sl} {Q : VK} {E : XK} (g : Good K G1 H1 σ ρ1) (R : RsOk K H0 G1 H1 σ ρ1 vs rs) (hz : allFz rs = true) (e : F rs = some (z, ρc')) (hzr : isRes z = true) (hn : rs.length = n)
    (k : ∀ v G2 H2, Aft K G1 H1 σ ρ1 G2 H2 σ ρ1 → ROk K H1 G2 H2 σ ρ1 v z → Q v H2) : spD K n F vs H1 Q E := by
  obtain ⟨hl, hs⟩ := fz_slots R hz
  have noOwn : ∀ p, ¬ OwnA (vs.map some) rs p := fun p ⟨i, h1, h2⟩ => by
    rcases h2 with ⟨m, h2⟩ | ⟨m, h2⟩
    · obtain ⟨v, d, _, q, _⟩ := hs i _ _ h1 h2
      cases q
    · obtain ⟨v, d, _, q, _⟩ := hs i _ _ h1 h2
      cases q
  have gc : Good K G1 H1 (vs.map some) rs := ⟨g.ex, by simp [hl], fun i s r e1 e2 => by
    obtain ⟨v, d, rfl, rfl, h⟩ := hs i s r e1 e2
    exact ⟨v, rfl, h⟩, fun i j p o _ => absurd ⟨i, o⟩ (noOwn p)⟩
  refine ⟨G1, rs, z, ρc', hl.trans hn, fun i m q => ?_, gc, e, fun v G2 H2 A2 R2 => ?_⟩
  · have hi : i < (vs.map some).length := by
      rw [List.length_map, hl]
      exact (List.getElem?_eq_some_iff.mp q).1
    obtain ⟨v, d, _, q', _⟩ := hs i _ _ (List.getElem?_eq_getElem hi) q
    cases q'
  · have kk : ∀ a o, H1 a = some o → H2 a = some o ∧ (G1 a = none → G2 a = none) := fun a o q => A2.keep a o q (noOwn a)
    have g2 : Good K G2 H2 σ ρ1 := g.frame A2.ex A2.good.ex fun a o q _ => kk a o q
    refine k v G2 H2 ⟨g2, A2.ex, fun a o q _ => kk a o q, A2.dom, fun i p o => .inl ⟨i, o⟩, fun i m q => ⟨rfl, m, q⟩, rfl⟩ ?_
    cases z with
    | un => exact R2
    | rf m => exact R2
    | fz d => exact R2
    | ow m =>
      obtain ⟨p, o, rfl, h0, h1, h2, h3, h4⟩ := R2
      exact ⟨p, o, rfl, h0, h1, h2, h3, g.notOwn h0⟩
    | bw i => cases hzr
/-- a call whose first argument is lent -/
theorem call_rf {F : FF} {n i : Nat} {z : Sl} {v0 : V} {rest : List Sl} {r0 : Sl} {m m' : Mu} {more : En} {Q : VK} {E : XK} (g : Good K G1 H1 σ ρ1) (R : RsOk K H0 G1 H1 σ ρ1 vs rest) (hz : allFz rest = true) (hv : σ[i]? = some (some v0)) (hr : ρ1[i]? = some r0) (hh : Held r0 m)
    (e : F (.rf m :: rest) = some (z, .rf m' :: more)) (hzr : isRes z = true) (hn : rest.length + 1 = n)
    (k : ∀ v G2 H2, Aft K G1 H1 σ ρ1 G2 H2 σ (ρ1.set i (r0.put m')) → ROk K H1 G2 H2 σ (ρ1.set i (r0.put m')) v z → Q v H2) : spD K n F (v0 :: vs) H1 Q E := by
  obtain ⟨hl, hs⟩ := fz_slots R hz
  have sl0 : ∃ p o, v0 = .ref p ∧ G1 p = none ∧ H1 p = some o ∧ MuOk K G1 o m := by
    have q := g.sl i _ _ hv hr
    cases hh with
    | ow m =>
      obtain ⟨p, o, h1, h2⟩ := q
      exact ⟨p, o, by cases h1; rfl, h2⟩
    | rf m =>
      obtain ⟨p, o, h1, h2⟩ := q
      exact ⟨p, o, by cases h1; rfl, h2⟩
  obtain ⟨p, o, rfl, hp1, hp2, hp3⟩ := sl0
  have oi : Own σ ρ1 i p := ⟨hv, by cases hh with | ow m => exact .inl ⟨m, hr⟩ | rf m => exact .inr ⟨m, hr⟩⟩
  have onlyP : ∀ j q, Own ((V.ref p :: vs).map some) (.rf m :: rest) j q → j = 0 ∧ q = p := fun j q ⟨h1, h2⟩ => by
    cases j with
    | zero => exact ⟨rfl, by simpa using h1.symm⟩
    | succ j =>
      exfalso
      rcases h2 with ⟨m1, h2⟩ | ⟨m1, h2⟩
      · obtain ⟨v, d, _, q, _⟩ := hs j _ _ (show (vs.map some)[j]? = _ from h1) (show rest[j]? = _ from h2)
        cases q
      · obtain ⟨v, d, _, q, _⟩ := hs j _ _ (show (vs.map some)[j]? = _ from h1) (show rest[j]? = _ from h2)
        cases q
  have gc : Good K G1 H1 ((V.ref p :: vs).map some) (.rf m :: rest) := ⟨g.ex, by simp [hl], fun j s r e1 e2 => by
    cases j with
    | zero =>
      simp at e1 e2
      subst e1
      subst e2
      exact ⟨p, o, rfl, hp1, hp2, hp3⟩
    | succ j =>
      obtain ⟨v, d, rfl, rfl, h⟩ := hs j s r (by simpa using e1) (by simpa using e2)
      exact ⟨v, rfl, h⟩, fun j1 j2 q o1 o2 => (onlyP j1 q o1).1.trans (onlyP j2 q o2).1.symm⟩
  refine ⟨G1, _, z, _, by simp only [List.length_cons]; omega, fun j m1 q => ?_, gc, e, fun v G2 H2 A2 R2 => ?_⟩
  · cases j with
    | zero => simp at q
    | succ j =>
      have hi : j < (vs.map some).length := by
        rw [List.length_map, hl]
        exact (List.getElem?_eq_some_iff.mp (show rest[j]? = some _ by simpa using q)).1
      obtain ⟨v, d, _, q', _⟩ := hs j _ _ (List.getElem?_eq_getElem hi) (by simpa using q)
      cases q'
  · have kk : ∀ a o, H1 a = some o → a ≠ p → H2 a = some o ∧ (G1 a = none → G2 a = none) := fun a o q ne => A2.keep a o q fun ⟨j, oj⟩ => ne (onlyP j a oj).2
    -- the lent thing behind the call
    obtain ⟨p', o', h1, h2, h3, h4⟩ := A2.good.sl 0 _ _ rfl rfl
    have ep : p = p' := by simpa using h1
    subst ep
    have hi : i < ρ1.length := (List.getElem?_eq_some_iff.mp hr).1
    have ownOld : ∀ j q, Own σ (ρ1.set i (r0.put m')) j q → Own σ ρ1 j q := fun j q ⟨z1, z2⟩ => by
      by_cases ne : j = i
      · subst ne
        rw [hv] at z1
        cases z1
        exact oi
      · rw [List.getElem?_set_ne (Ne.symm ne)] at z2
        exact ⟨z1, z2⟩
    have g2 : Good K G2 H2 σ (ρ1.set i (r0.put m')) := by
      refine ⟨A2.good.ex, by simpa using g.len, fun j s r e1 e2 => ?_, fun j1 j2 q o1 o2 => g.nd j1 j2 q (ownOld _ _ o1) (ownOld _ _ o2)⟩
      rcases getElem?_set_cases e2 with ⟨y1, y2⟩ | ⟨y1, y2⟩
      · subst y1
        subst y2
        rw [hv] at e1
        cases e1
        cases hh with
        | ow m => exact ⟨p, o', rfl, h2, h3, h4⟩
        | rf m => exact ⟨p, o', rfl, h2, h3, h4⟩
      · have q := g.sl j s r e1 y2
        cases r with
        | un => trivial
        | bw _ => exact q
        | fz d =>
          obtain ⟨v, w1, w2⟩ := q
          exact ⟨v, w1, w2.up A2.ex⟩
        | ow m1 =>
          obtain ⟨q, u, w1, w2, w3, w4⟩ := q
          have ne : q ≠ p := fun z => y1 (g.nd j i p ⟨by rw [e1, w1, z], .inl ⟨m1, y2⟩⟩ oi)
          obtain ⟨k1, k2⟩ := kk q u w3 ne
          exact ⟨q, u, w1, k2 w2, k1, w4.up A2.ex⟩
        | rf m1 =>
          obtain ⟨q, u, w1, w2, w3, w4⟩ := q
          have ne : q ≠ p := fun z => y1 (g.nd j i p ⟨by rw [e1, w1, z], .inr ⟨m1, y2⟩⟩ oi)
          obtain ⟨k1, k2⟩ := kk q u w3 ne
          exact ⟨q, u, w1, k2 w2, k1, w4.up A2.ex⟩
    refine k v G2 H2 ⟨g2, A2.ex, fun a u q n => kk a u q fun z => n ⟨i, z ▸ oi⟩, A2.dom, fun j q oj => .inl ⟨j, ownOld j q oj⟩, fun j m1 q => ⟨rfl, ?_⟩, by simp⟩ ?_
    · by_cases ne : i = j
      · subst ne
        rw [hr] at q
        cases q
        exact ⟨m', by rw [List.getElem?_set_self hi]; cases hh; rfl⟩
      · exact ⟨m1, by rw [List.getElem?_set_ne ne]; exact q⟩
    · cases z with
      | un => exact R2
      | rf m => exact R2
      | fz d => exact R2
      | ow m1 =>
        obtain ⟨q, u, rfl, h0, w1, w2, w3, w4⟩ := R2
        exact ⟨q, u, rfl, h0, w1, w2, w3, fun ⟨j, oj⟩ => g.notOwn h0 ⟨j, ownOld j q oj⟩⟩
      | bw i => cases hzr
end
section
variable {X : Cx} {k : Nat} {f : Addr} {fd : FuncData} {ps : List Str} {F : FF} {x : Str} {p pos : Pos} {e : Expr} {es : List Expr} {fa : Fa}
theorem tCall_of {K : PySem.W.Frag} {n : Nat} {E : XK} (hl : ∀ ρ rs ρ', fa ρ = some (rs, ρ') → rs.length = n) : ∀ σ H Q, teOf K (fCall F fa) σ H Q → tCall (spD K n F) [] E (taOf K fa) σ H Q := fun σ H Q ⟨G, ρ, z, ρ', g, q, kk⟩ => by
  unfold fCall at q
  cases q1 : fa ρ with
  | none => rw [q1] at q; cases q
  | some y =>
    obtain ⟨rs, ρ1⟩ := y
    simp only [q1] at q
    have hn := hl ρ rs ρ1 q1
    refine ⟨G, ρ, rs, ρ1, g, q1, fun vs G1 H1 A1 R1 => ?_⟩
    show spD K n F (vs ++ []) H1 Q E
    rw [List.append_nil]
    split at q
    · rename_i i rest
      split at q
      · rename_i hz
        cases R1 with
        | cons r1 r2 =>
          have hv : σ[i]? = some (some _) := r1
          split at q
          · rename_i m hr
            split at q
            · rename_i z' m' more hF
              split at q
              · rename_i hres
                cases q
                refine call_rf A1.good r2 hz hv hr (.ow m) hF hres (by simpa using hn) fun v G2 H2 A2 R2 => kk v G2 H2 (A1.trans A2) (R2.start A1.dom)
              · cases q
            · cases q
          · rename_i m hr
            split at q
            · rename_i z' m' more hF
              split at q
              · rename_i hres
                cases q
                refine call_rf A1.good r2 hz hv hr (.rf m) hF hres (by simpa using hn) fun v G2 H2 A2 R2 => kk v G2 H2 (A1.trans A2) (R2.start A1.dom)
              · cases q
            · cases q
          · cases q
      · cases q
    · split at q
      · rename_i hz
        split at q
        · rename_i z' ρ2 hF
          split at q
          · rename_i hres
            cases q
            exact call_fz A1.good R1 hz hF hres hn fun v G2 H2 A2 R2 => kk v G2 H2 (A1.trans A2) (R2.start A1.dom)
          · cases q
        · cases q
      · cases q
/-- how many arguments -/
inductive Cnt : Fa → Nat → Prop
  | nil : Cnt aNil 0
  | cons {f : Fe} {g : Fa} {n : Nat} : Cnt g n → Cnt (aCons f g) (n + 1)
  | fr {f : Fe} {g : Fa} {n : Nat} : Cnt g n → Cnt (aFr f g) (n + 1)
theorem Cnt.len {g : Fa} {n : Nat} (c : Cnt g n) : ∀ ρ rs ρ', g ρ = some (rs, ρ') → rs.length = n := by
  induction c with
  | nil =>
    intro ρ rs ρ' e
    cases e
    rfl
  | @cons f g n _ ih =>
    intro ρ rs ρ' e
    unfold aCons at e
    cases q : f ρ with
    | none => rw [q] at e; cases e
    | some y =>
      obtain ⟨r, ρ1⟩ := y
      simp only [q] at e
      cases q2 : g ρ1 with
      | none => simp only [q2] at e; cases e
      | some y =>
        obtain ⟨rs', ρ2⟩ := y
        simp only [q2] at e
        cases e
        simp [ih _ _ _ q2]
  | @fr f g n _ ih =>
    intro ρ rs ρ' e
    unfold aFr at e
    cases q : dFr f ρ with
    | none => rw [q] at e; cases e
    | some y =>
      obtain ⟨r, ρ1⟩ := y
      simp only [q] at e
      cases q2 : g ρ1 with
      | none => simp only [q2] at e; cases e
      | some y =>
        obtain ⟨rs', ρ2⟩ := y
        simp only [q2] at e
        cases e
        simp [ih _ _ _ q2]
theorem de_call {n : Nat} (G : FnOk X.prog X.w X.K X.mg X.base CX0 k f fd ps (spD X.K n F)) (hr : Room k X.A) (hg : Gl X x) (hm : X.mg x = some (.ref f)) (hk : PySem.W.keepIn X.K (.ref f) = true) (hb : Binds X.K fd ps [])
    (ha : DA X (e :: es) fa) (hc : Cnt fa n) (hdb : (x == ("__debug__" : Str)) = false := by decide) (he : starEach (e :: es) X.env = (false, eval e X.env) :: starEach es X.env := by rfl) (hpl : (backTo pos (starEach es X.env)).any (·.1) = false := by rfl) :
    DE X (.Call (.Name x p) (e :: es) [] pos) (fCall F fa) := PE.weak (pe_call (E := E0) G hr hg hm hk hb .nil pass0 ha hdb he hpl) (tCall_of hc.len)
end
/-! ### the law -/
def spLaw (K : PySem.W.Frag) : Sp := fun vs H Q _ => ∃ (a : Addr) (ns : List Int), vs = [.ref a] ∧ SqL K H a (ns.map V.int) ∧ ns.length ≤ 63 ∧ ∀ H', Q (.bl true) H'
theorem spLaw_of {K : PySem.W.Frag} {F : FF} {vs : List V} {H : Hp} {Q : VK} {E : XK} (h : ∀ ns : List Int, ns.length ≤ 63 → ∃ ρ', F [.fz (.scr ns)] = some (.fz (.bl true), ρ')) (z : spLaw K vs H Q E) : spD K 1 F vs H Q E := by
    obtain ⟨a, ns, e, hS, hl, q⟩ := z
    subst e
    obtain ⟨ρ', h⟩ := h ns hl
    refine ⟨H, [.fz (.scr ns)], .fz (.bl true), ρ', rfl, fun i m z => ?_, ⟨Same.refl H, rfl, fun i s r e1 e2 => ?_, fun i j p o _ => ?_⟩, h, fun v G' H' _ R => ?_⟩
    · cases i with
      | zero => simp at z
      | succ i => simp at z
    · cases i with
      | zero =>
        simp at e1 e2
        subst e1
        subst e2
        exact ⟨_, rfl, .scr hS⟩
      | succ i => simp at e2
    · exfalso
      obtain ⟨_, h2⟩ := o
      cases i with
      | zero => rcases h2 with ⟨m, h2⟩ | ⟨m, h2⟩ <;> simp at h2
      | succ i => rcases h2 with ⟨m, h2⟩ | ⟨m, h2⟩ <;> simp at h2
    · rw [Rp.of_bl R]
      exact q H'
end DL
set_option Elab.async false
set_option linter.all false
set_option maxRecDepth 100000
set_option maxHeartbeats 2000000
namespace DL
open PySem PySem.Spec L2
open PyProof.Rows (envOfC boot_enumerate)
/-! ### rules of the machine that the hand layer lacks -/
section
variable {X : Cx}
/-- a text so many times -/
theorem op_mul_str : OpR X (binaryOp .Mult) (fun x y H Q => ∃ z n, x = .str z ∧ y = .int n ∧ MulOk z n ∧ Q (.str (Txt.mul z n)) H) := by
  intro pins s σ H x y v u Q I rx ry h
  obtain ⟨z, n, rfl, rfl, hm, q⟩ := h
  obtain ⟨t, rfl⟩ := rx
  obtain ⟨t', rfl⟩ := ry
  exact SB.mul hm fun t1 k => ⟨.str _, H, I.tok _, ⟨_, rfl⟩, q⟩
/-- a power whose bits are few -/
def CPowW (i j : Int) : Prop := 0 ≤ j ∧ (Builtin.Int.intBits i : Int) * j ≤ 2 ^ 27
theorem op_powW : OpR X (binaryOp .Pow) (rI CPowW fun i j => .int (i ^ j.toNat)) := opI fun _ _ _ _ _ _ _ hc q => PyProof.Rows.pow_int hc.1 hc.2 q
end
section
open AutoSeq1 (wpAny_loadPart')
theorem meets_enumerate_newT (l : Addr) (items : Array Value) (n : Nat) (dct : Option Addr) (sl : Array (Option Value)) :
    Meets (Builtin.«enumerate.__new__» ⟨[.type "enumerate", .ref l], []⟩) (fun _ R s => s.heap.get? l = some { cls := .type "tuple", dict := dct, data := .seq items n, slots := sl } ∧
      R (.ok (.ret (.ref (s.heap.push { cls := .type "tuple_iterator", data := .fields #[.ref l, .int 0 0] }).objs.size)))
        { s with heap := (s.heap.push { cls := .type "tuple_iterator", data := .fields #[.ref l, .int 0 0] }).push { cls := .type "enumerate", data := .fields #[.none, .bool false, .ref s.heap.objs.size, rawInt 0, .none, .none] } }) :=
  .of_wp fun prog w A R s h => by
    obtain ⟨hp, g, d, tk, os⟩ := s; obtain ⟨hl, h⟩ := h
    have hsub := sub_enumerate
    have hL : Heap.IsTuple (Shared.heap ⟨hp, g, d, tk, os⟩) l items := ⟨_, hl, rfl, n, rfl⟩
    wp_walk using wpAny_loadPart' hl
    refine wpAny_stack_any fun st => wpAny_pure ?_
    split
    · rename_i c _ _ _ _ _
      cases (c == Value.type "enumerate")
      · wp_walk using wpAny_loadPart' hl, wpAny_pyIter_tuple hL
        exact ⟨_, rfl, h⟩
      · wp_walk using wpAny_loadPart' hl, wpAny_pyIter_tuple hL
        exact ⟨_, rfl, h⟩
    · wp_walk using wpAny_loadPart' hl, wpAny_pyIter_tuple hL
      exact ⟨_, rfl, h⟩
theorem call_enumerate_tuple {prog : Program} {w : World} {A : Around} {E : Value → Shared → Prop} {s : Shared} {l : Addr} {items : Array Value} {Q : Value → Shared → Prop} (hL : s.heap.IsTuple l items)
    (h : ∀ h', IsEnum h' (s.heap.objs.size + 1) s.heap.objs.size 0 .none → h'.IsTupleIter s.heap.objs.size l 0 → h'.objs.size = s.heap.objs.size + 2 →
      (∀ b o, s.heap.get? b = some o → h'.get? b = some o) → Q (.ref (s.heap.objs.size + 1)) { s with heap := h' }) :
    wpAny (model prog w) A (call (.type "enumerate") [.ref l]) Q E s := by
  obtain ⟨⟨c, dct, dt, sl⟩, hl, hc, n, hd⟩ := hL
  replace hc : c = .type "tuple" := hc
  replace hd : dt = .seq items n := hd
  subst hc hd
  refine callType_new F.called_enumerate (by decide) (F.typeCall_enumerate_1 _) (F.newCall_enumerate_1 _) (fun obj => F.args_object_init_2 obj _) F.entry_enumerate_new
    (meets_enumerate_newT l items n dct sl) ⟨hl, ?_⟩
  have hz : (s.heap.push { cls := .type "tuple_iterator", data := .fields #[.ref l, .int 0 0] }).objs.size = s.heap.objs.size + 1 := Heap.size_push ..
  show _ ∧ _
  rw [hz]
  have he : IsEnum ((s.heap.push { cls := .type "tuple_iterator", data := .fields #[.ref l, .int 0 0] }).push
      { cls := .type "enumerate", data := .fields #[.none, .bool false, .ref s.heap.objs.size, rawInt 0, .none, .none] }) (s.heap.objs.size + 1) s.heap.objs.size 0 .none := by
    have := Heap.get?_push_size (s.heap.push { cls := .type "tuple_iterator", data := .fields #[.ref l, .int 0 0] })
      (o := { cls := .type "enumerate", data := .fields #[.none, .bool false, .ref s.heap.objs.size, rawInt 0, .none, .none] }) rfl
    rw [hz] at this; exact this
  refine ⟨⟨_, he, rfl⟩, h _ he ⟨_, Heap.get?_push_of_some _ (Heap.get?_push_size _ rfl), rfl, rfl⟩ (by rw [Heap.size_push, hz]) fun b o x => Heap.get?_push_of_some _ (Heap.get?_push_of_some _ x)⟩
end
/-- enumerate(tuple) -/
def IteT (K : PySem.W.Frag) (a : Addr) : It :=
  ⟨fun i H => ∃ (xs : List V) (x : V), SqT K H a xs ∧ xs[i]? = some x, fun i H v H' => ∃ T x, v = .ref T ∧ H T = none ∧ H' = upd H T (.tup [.int (i : Nat), x]) ∧ ∀ xs, SqT K H a xs → xs[i]? = some x, fun i H => ∃ xs : List V, SqT K H a xs ∧ xs.length = i⟩
theorem turn_enumT {P : Program} {w : World} {K : PySem.W.Frag} {elts : List Expr} {kk : Nat} {tpos : Pos} (a e it : Addr) :
    Turn P w K (.Tuple elts kk tpos) (IteT K a) [e, it] e (fun i h => (∃ old, IsEnum h e it ((i : Nat) : Int) old) ∧ h.IsTupleIter it a i ∧ e ≠ it ∧ a ≠ it ∧ a ≠ e) where
  mem := by simp
  obj := fun i h st b hb => by
    obtain ⟨⟨old, he⟩, ⟨o, ho, hc, hd⟩, _⟩ := st
    have e' : b = e ∨ b = it := by simpa using hb
    rcases e' with z | z
    · rw [z]; exact ⟨_, he, fun v q => nomatch q⟩
    · rw [z]; exact ⟨o, ho, fun v q => by rw [hd] at q; cases q⟩
  keep := fun i h h' st k => let ⟨⟨old, he⟩, hi, hne⟩ := st; ⟨⟨old, k e (by simp) _ he⟩, hi.at fun o q => k it (by simp) o q, hne⟩
  item := by
    intro X hP hw hK hc i pins s σ H E I hf st hg
    subst hP hw hK
    obtain ⟨⟨old, he⟩, hit, hne, hai, hae⟩ := st
    obtain ⟨xs, x, hq, hx⟩ := hg
    obtain ⟨its, rv, p, hz⟩ := I.tuple hq
    obtain ⟨u, hu, ru⟩ := rv.get hx
    have hel : e < s.heap.objs.size := Heap.lt_size he
    have hil : it < s.heap.objs.size := by obtain ⟨_, q, _⟩ := hit; exact Heap.lt_size q
    have hlt : i < its.toArray.size := by
      have := (List.getElem?_eq_some_iff.mp hu).1
      simpa using this
    refine wpAny_pyNext_enum_itemD (Draws.tuple (A := X.A.in1) (I.ok.hd hc) it a hai its.toArray) he ⟨hit, p⟩ hlt hne (by simp [hne, Ne.symm hae]) fun x' h' tk hx' ho hst' hT hsz hk => ?_
    have hit' := hst'.1
    have ex : x' = u := by
      have h1 : its[i]? = some x' := by simpa using hx'
      rw [hu] at h1
      exact (Option.some.inj h1).symm
    subst ex
    refine ⟨_, rfl, wpAny_letOwnedTupleGo_enum (s := { s with heap := h', toks := tk + 1 }) ho fun h'' he' sb => ?_⟩
    have hT2 : h''.get? s.heap.objs.size = some { cls := .type "tuple", data := .seq #[.int i tk, x'] } := (sb.2 _ (Nat.ne_of_gt hel)).trans hT
    have new : ObjOk X.prog X.w (upd H s.heap.objs.size (.tup [.int (i : Nat), x])) h'' s.heap.objs.size (.tup [.int (i : Nat), x]) :=
      ⟨by show 2 ≤ sizeLine; decide, [.int i tk, x'], .cons ⟨_, rfl⟩ (.cons ru .nil), ⟨_, hT2, rfl, _, rfl⟩⟩
    have I1 : Inv X pins σ (upd H s.heap.objs.size (.tup [.int (i : Nat), x])) { s with heap := h'', toks := tk + 1 } :=
      I.turnedNew (ch := [e, it]) (fun b ob hb q => (sb.2 b (fun z => hb (by simp [z]))).trans (hk b ob (fun z => hb (by simp [z])) (fun z => hb (by simp [z])) q)) hf (Nat.le_refl _) new
    refine ⟨.ref s.heap.objs.size, _, I1, rfl, ⟨_, x, rfl, I.hok.fresh (Nat.le_refl _), rfl, fun ys hy => by rw [I.tuple_inj hy hq]; exact hx⟩, ⟨⟨x', ?_⟩, hit'.at fun o q => (sb.2 it (Ne.symm hne)).trans q, hne, hai, hae⟩, fun b hb => ?_⟩
    · have e1 : ((i + 1 : Nat) : Int) = (i : Int) + 1 := by omega
      rw [e1]; exact he'
    · have hb' : b < s.heap.objs.size := by
        have e' : b = e ∨ b = it := by simpa using hb
        rcases e' with z | z
        · rw [z]; exact hel
        · rw [z]; exact hil
      rw [upd_ne (Nat.ne_of_lt hb')]
      exact (hf b hb).1
  done := by
    intro X hP hw hK hc i pins s σ H E I hf st hg
    subst hP hw hK
    obtain ⟨⟨old, he⟩, hit, hne, hai, hae⟩ := st
    obtain ⟨xs, hq, hx⟩ := hg
    obtain ⟨its, rv, p, hz⟩ := I.tuple hq
    obtain ⟨f0, f1, f2, f3, f4, f5⟩ := hf it (by simp)
    have hl := rv.length
    have hn : i = its.toArray.size := by simp; omega
    subst hn
    exact wpAny_pyNext_enum_endD (Draws.tuple (A := X.A.in1) (I.ok.hd hc) it a hai its.toArray) he ⟨hit, p⟩ fun h' eb => ⟨rfl, I.turned (t' := s.toks) (fun b o hb q => eb b o hb q) f0 f1 f3 f4 f5⟩
  self := fun A i s Q E st h => let ⟨⟨_, he⟩, _⟩ := st; wpAny_pyIter_enum he h
def iEnumT (K : PySem.W.Frag) (ta : TA) : TI := fun σ H R => ta σ H fun vs H1 => ∃ a xs, vs = [.ref a] ∧ ((SqL K H1 a xs ∧ R (Ite K a) H1) ∨ (SqT K H1 a xs ∧ R (IteT K a) H1))
theorem pi_enumA {X : Cx} {e : Expr} {ta : TA} {p pos tpos : Pos} {elts : List Expr} {kk : Nat} (hg : Gl X "enumerate") (hm : X.mg "enumerate" = none) (ha : PA X [e] ta) (hs : starEach [e] X.env = [(false, eval e X.env)] := by rfl) :
    PI X (.Tuple elts kk tpos) (.Call (.Name "enumerate" p) [e] [] pos) (iEnumT X.K ta) := by
  refine ⟨fun pins s σ H R I h => ?_⟩
  refine PyProof.Rows.Call_ (ld_blt I hg hm boot_enumerate (PyProof.Rows.callWith_type1 (thn (ha.run pos pins s σ H _ I h) fun us s1 ⟨vs, H1, I1, r1, q1⟩ => ?_) hs rfl))
  obtain ⟨a, xs, ex, q⟩ := q1
  subst ex
  cases r1 with
  | cons r rr =>
    cases rr
    cases r
    have fresh : ∀ b, b ∈ [s1.heap.objs.size + 1, s1.heap.objs.size] → FpOk X pins H1 b := fun b hb => by
      have e' : b = s1.heap.objs.size + 1 ∨ b = s1.heap.objs.size := by simpa using hb
      have hle : s1.heap.objs.size ≤ b := by
        rcases e' with z | z
        · rw [z]; exact Nat.le_add_right _ _
        · rw [z]; exact Nat.le_refl _
      exact I1.fpOk hle (I1.hok.fresh hle)
    rcases q with ⟨hq, q⟩ | ⟨hq, q⟩
    · obtain ⟨its, rv, p', hz⟩ := I1.list hq
      refine call_enumerate_list p'.isList fun h' he hit hsz hk => wpAny_pyIter_enum he ?_
      have I2 : Inv X pins σ H1 { s1 with heap := h' } := I1.kept (t' := s1.toks) hk
      exact ⟨s1.heap.objs.size + 1, [s1.heap.objs.size + 1, s1.heap.objs.size], _, _, H1, rfl, I2, turn_enum a (s1.heap.objs.size + 1) s1.heap.objs.size, ⟨⟨.none, he⟩, hit, Nat.succ_ne_self _⟩, fresh, q⟩
    · obtain ⟨its, rv, p', hz⟩ := I1.tuple hq
      obtain ⟨ob, hob, _⟩ := id p'
      have la : a < s1.heap.objs.size := Heap.lt_size hob
      refine call_enumerate_tuple (show s1.heap.IsTuple a its.toArray from p') fun h' he hit hsz hk => wpAny_pyIter_enum he ?_
      have I2 : Inv X pins σ H1 { s1 with heap := h' } := I1.kept (t' := s1.toks) hk
      exact ⟨s1.heap.objs.size + 1, [s1.heap.objs.size + 1, s1.heap.objs.size], _, _, H1, rfl, I2, turn_enumT a (s1.heap.objs.size + 1) s1.heap.objs.size, ⟨⟨.none, he⟩, hit, Nat.succ_ne_self _, Nat.ne_of_lt la, Nat.ne_of_lt (Nat.lt_succ_of_lt la)⟩, fresh, q⟩
theorem walk_enumT {K : PySem.W.Frag} {a : Addr} {xs : List V} : Walk (IteT K a) xs.length (fun H => SqT K H a xs) (YPair (fun i => some (.int (i : Nat))) (fun i => xs[i]?)) := by
  refine ⟨fun i _ hi q => ⟨xs, xs[i], q, by simp [hi]⟩, fun _ q => ⟨xs, q, rfl⟩, fun i H v H' _ q y => ?_⟩
  obtain ⟨T, x, h1, h2, h3, h4⟩ := y
  exact ⟨T, .int (i : Nat), x, h1, h2, h3, rfl, h4 xs q⟩
/-! ### data as the library's data, for == -/
mutual
def D.py : D → PyData
  | .non => .none
  | .bl b => .bool b
  | .int i => .int i
  | .str s => .str s
  | .tup xs => .tuple (D.pys xs)
  | .lst xs => .list (D.pys xs)
  | .ins _ _ _ => .none
  | .scr ns => .list (ns.map .int)
def D.pys : List D → List PyData
  | [] => []
  | d :: ds => d.py :: D.pys ds
end
mutual
def D.plain : D → Bool
  | .ins _ _ _ => false
  | .scr _ => false
  | .tup xs => D.plains xs
  | .lst xs => D.plains xs
  | _ => true
def D.plains : List D → Bool
  | [] => true
  | d :: ds => d.plain && D.plains ds
end
section
variable {K : PySem.W.Frag} {H : Hp}
mutual
theorem Rp.dp : ∀ (d : D) (v : V), d.plain = true → Rp K H v d → Dp K H v d.py
  | .non, _, _, h => by cases h; rw [D.py]; exact .non
  | .bl b, _, _, h => by cases h; rw [D.py]; exact .bl b
  | .int b, _, _, h => by cases h; rw [D.py]; exact .int b
  | .str b, _, _, h => by cases h; rw [D.py]; exact .str b
  | .tup ds, _, p, h => by
    cases h with
    | tup h1 h2 =>
      rw [D.py]
      exact .tup (SqT.of h1) (Rps.dp ds _ (by rw [D.plain] at p; exact p) h2)
  | .lst ds, _, p, h => by
    cases h with
    | lst h1 h2 =>
      rw [D.py]
      exact .lst (SqL.of h1) (Rps.dp ds _ (by rw [D.plain] at p; exact p) h2)
  | .ins _ _ _, _, p, _ => by rw [D.plain] at p; cases p
  | .scr _, _, p, _ => by rw [D.plain] at p; cases p
theorem Rps.dp : ∀ (ds : List D) (vs : List V), D.plains ds = true → Rps K H vs ds → DpAll K H vs (D.pys ds)
  | [], _, _, h => by cases h; rw [D.pys]; exact .nil
  | d :: ds, _, p, h => by
    cases h with
    | cons h1 h2 =>
      rw [D.plains, Bool.and_eq_true] at p
      rw [D.pys]
      exact .cons (Rp.dp d _ p.1 h1) (Rps.dp ds _ p.2 h2)
end
end
def D.ok (d : D) : Bool := d.plain && SeqAt.shaped d.py
def D.eqv (d e : D) : Bool := PyData.eqv d.py e.py
/-! ### two-place operations on data -/
def lim : Nat := 1000000
theorem lim_le {n : Nat} (h : n ≤ lim) : n ≤ sizeLine := Nat.le_trans h (by decide)
theorem lim_lt {n : Nat} (h : n ≤ lim) : n < sizeLine := Nat.lt_of_le_of_lt h (by decide)
def rOr (r r' : R2) : R2 := fun x y H Q => r x y H Q ∨ r' x y H Q
section
variable {K : PySem.W.Frag} {G H : Hp} {σ : L2.St} {ρ : En} {Q : VK}
/-- results that make nothing -/
theorem give {v : V} {d : D} (g : Good K G H σ ρ) (r : Rp K G v d) (k : ∀ v G' H', Aft K G H σ ρ G' H' σ ρ → ROk K H G' H' σ ρ v (.fz d) → Q v H') : Q v H := k v G H (Aft.refl g) r
/-- a new list -/
theorem giveL {vs : List V} {ds : List D} (g : Good K G H σ ρ) (r : Rps K G vs ds) (k : ∀ v G' H', Aft K G H σ ρ G' H' σ ρ → ROk K H G' H' σ ρ v (.ow (.l ds)) → Q v H') : ∀ p, H p = none → Q (.ref p) (upd H p (.lst vs)) := fun p hp => by
  have gp : G p = none := g.ex.free hp
  exact k (.ref p) G _ ((Aft.refl g).mut hp gp (g.notOwn hp)) ⟨p, _, rfl, hp, gp, upd_same, .l r, g.notOwn hp⟩
/-- a new tuple -/
theorem giveT {vs : List V} {ds : List D} (g : Good K G H σ ρ) (r : Rps K G vs ds) (k : ∀ v G' H', Aft K G H σ ρ G' H' σ ρ → ROk K H G' H' σ ρ v (.fz (.tup ds)) → Q v H') : ∀ p, H p = none → Q (.ref p) (upd H p (.tup vs)) := fun p hp => by
  have gp : G p = none := g.ex.free hp
  exact k (.ref p) _ _ (Aft.laid g hp) (.tup upd_same (r.up (ex_new gp)))
end
def gAdd : D → D → Option Sl
  | .int i, .int j => some (.fz (.int (i + j)))
  | .str a, .str b => if a.length + b.length ≤ lim then some (.fz (.str (a ++ b))) else none
  | .lst xs, .lst ys => if xs.length + ys.length ≤ lim then some (.ow (.l (xs ++ ys))) else none
  | .tup xs, .tup ys => if xs.length + ys.length ≤ lim then some (.fz (.tup (xs ++ ys))) else none
  | _, _ => none
def rAddU (K : PySem.W.Frag) : R2 := rOr (rI0 fun i j => .int (i + j)) (rOr (fun x y H Q => ∃ i j, x = .str i ∧ y = .str j ∧ i.length + j.length ≤ sizeLine ∧ Q (.str (i ++ j)) H) (rOr rCat (rCatA K)))
theorem op_addU {X : Cx} : OpR X (binaryOp .Add) (rAddU X.K) := OpR.or op_add (OpR.or op_add_str (OpR.or op_cat op_catA))
theorem g_add {K : PySem.W.Frag} : Op2 K (rAddU K) gAdd := fun {G H σ ρ x y d e z Q} g hx hy he k => by
  unfold gAdd at he
  split at he
  · cases he
    exact .inl ⟨_, _, hx.int, hy.int, give g (.int _) k⟩
  · split at he
    · rename_i hl
      cases he
      exact .inr (.inl ⟨_, _, hx.str, hy.str, lim_le hl, give g (.str _) k⟩)
    · cases he
  · split at he
    · rename_i hl
      cases he
      obtain ⟨p, vs, rfl, h1, h2⟩ := hx.lst g.ex
      obtain ⟨q, ws, rfl, h3, h4⟩ := hy.lst g.ex
      exact .inr (.inr (.inl ⟨p, q, vs, ws, rfl, rfl, h1, h3, by rw [h2.len, h4.len]; exact lim_le hl, giveL g (h2.app h4) k⟩))
    · cases he
  · split at he
    · rename_i hl
      cases he
      obtain ⟨p, vs, rfl, h0, h1, h2⟩ := hx.tup g.ex
      obtain ⟨q, ws, rfl, h0', h3, h4⟩ := hy.tup g.ex
      refine .inr (.inr (.inr ⟨p, q, vs, ws, rfl, rfl, SqT.of h1, SqT.of h3, by rw [h2.len, h4.len]; exact lim_le hl, fun ev => ?_, fun _ ev => ?_, fun _ _ => giveT g (h2.app h4) k⟩))
      · subst ev
        cases h2
        exact k _ G H (Aft.refl g) (show Rp K G (.ref q) (.tup ([] ++ _)) from .tup h0' h4)
      · subst ev
        cases h4
        exact k _ G H (Aft.refl g) (show Rp K G (.ref p) (.tup (_ ++ [])) from by rw [List.append_nil]; exact .tup h0 h2)
    · cases he
  · cases he
def gSub : D → D → Option Sl
  | .int i, .int j => some (.fz (.int (i - j)))
  | _, _ => none
theorem g_sub {K : PySem.W.Frag} : Op2 K (rI0 fun i j => .int (i - j)) gSub := fun {G H σ ρ x y d e z Q} g hx hy he k => by
  unfold gSub at he
  split at he
  · cases he
    exact ⟨_, _, hx.int, hy.int, give g (.int _) k⟩
  · cases he
def gMul : D → D → Option Sl
  | .int i, .int j => if i.natAbs.log2 + j.natAbs.log2 < 1000000 then some (.fz (.int (i * j))) else none
  | .str a, .int j => if 0 ≤ j ∧ j ≤ 1000 ∧ a.length ≤ 1000 then some (.fz (.str (Txt.mul a j))) else none
  | .lst xs, .int j => if 0 ≤ j ∧ j ≤ 1000 ∧ xs.length ≤ 1000 then some (.ow (.l (List.replicate j.toNat xs).flatten)) else none
  | .tup xs, .int j => if xs ≠ [] ∧ 2 ≤ j ∧ j ≤ 1000 ∧ xs.length ≤ 1000 then some (.fz (.tup (List.replicate j.toNat xs).flatten)) else none
  | _, _ => none
def rMulU (K : PySem.W.Frag) : R2 := rOr (rI CMulW fun i j => .int (i * j)) (rOr (fun x y H Q => ∃ z n, x = .str z ∧ y = .int n ∧ MulOk z n ∧ Q (.str (Txt.mul z n)) H) (rOr rRep (rRepT K)))
theorem op_mulU {X : Cx} : OpR X (binaryOp .Mult) (rMulU X.K) := OpR.or op_mulW (OpR.or op_mul_str (OpR.or op_rep op_repT))
theorem mulOk_small {z : Str} {n : Int} (h : 0 ≤ n ∧ n ≤ 1000 ∧ z.length ≤ 1000) : MulOk z n := by
  obtain ⟨h0, h1, h2⟩ := h
  refine ⟨?_, fun h3 _ => ?_, fun h3 _ => ?_⟩
  · rw [decide_eq_false (by omega), decide_eq_false (by omega)]
    rfl
  · have e : (2 ^ 63 - 1) / 1000 ≤ ((2 ^ 63 - 1) / n : Int) := by
      rw [Int.le_ediv_iff_mul_le (by omega)]
      omega
    omega
  · have h4 : z.length * n.toNat ≤ 1000 * 1000 := Nat.mul_le_mul h2 (by omega)
    rw [Builtin.Str.tooLong]
    simp
    have := sizeLine_eq
    omega
theorem Rps.reps {K : PySem.W.Frag} {G : Hp} {vs : List V} {ds : List D} (h : Rps K G vs ds) : ∀ n : Nat, Rps K G (List.replicate n vs).flatten (List.replicate n ds).flatten
  | 0 => .nil
  | n + 1 => by
    rw [List.replicate_succ, List.replicate_succ, List.flatten_cons, List.flatten_cons]
    exact h.app (Rps.reps h n)
theorem g_mul {K : PySem.W.Frag} : Op2 K (rMulU K) gMul := fun {G H σ ρ x y d e z Q} g hx hy he k => by
  unfold gMul at he
  split at he
  · split at he
    · rename_i hl
      cases he
      exact .inl ⟨_, _, hx.int, hy.int, hl, give g (.int _) k⟩
    · cases he
  · split at he
    · rename_i hl
      cases he
      exact .inr (.inl ⟨_, _, hx.str, hy.int, mulOk_small hl, give g (.str _) k⟩)
    · cases he
  · split at he
    · rename_i hl
      cases he
      obtain ⟨p, vs, rfl, h1, h2⟩ := hx.lst g.ex
      obtain ⟨l0, l1, l2⟩ := hl
      refine .inr (.inr (.inl ⟨p, _, vs, rfl, hy.int, h1, by omega, by omega, ?_, giveL g (h2.reps _) k⟩))
      rw [h2.len]
      refine Nat.le_trans (Nat.mul_le_mul l2 (show Int.toNat _ ≤ 1000 by omega)) (by decide)
    · cases he
  · split at he
    · rename_i hl
      cases he
      obtain ⟨p, vs, rfl, h0, h1, h2⟩ := hx.tup g.ex
      obtain ⟨l0, l1, l2, l3⟩ := hl
      refine .inr (.inr (.inr ⟨p, _, vs, rfl, hy.int, SqT.of h1, fun ev => ?_, l1, l2, by rw [h2.len]; exact l3, giveT g (h2.reps _) k⟩))
      subst ev
      cases h2
      exact l0 rfl
    · cases he
  · cases he
def gDiv : D → D → Option Sl
  | .int i, .int j => if 0 < j ∧ j.natAbs.log2 < 9000 then some (.fz (.int (i / j))) else none
  | _, _ => none
theorem g_div {K : PySem.W.Frag} : Op2 K (rI CDivW fun i j => .int (i / j)) gDiv := fun {G H σ ρ x y d e z Q} g hx hy he k => by
  unfold gDiv at he
  split at he
  · split at he
    · rename_i hl
      cases he
      exact ⟨_, _, hx.int, hy.int, hl, give g (.int _) k⟩
    · cases he
  · cases he
def gMod : D → D → Option Sl
  | .int i, .int j => if 0 < j then some (.fz (.int (i % j))) else none
  | _, _ => none
theorem g_mod {K : PySem.W.Frag} : Op2 K (rI (fun _ j => 0 < j) fun i j => .int (i % j)) gMod := fun {G H σ ρ x y d e z Q} g hx hy he k => by
  unfold gMod at he
  split at he
  · split at he
    · rename_i hl
      cases he
      exact ⟨_, _, hx.int, hy.int, hl, give g (.int _) k⟩
    · cases he
  · cases he
def gPow : D → D → Option Sl
  | .int i, .int j => if 0 ≤ j ∧ (Builtin.Int.intBits i : Int) * j ≤ 2 ^ 27 then some (.fz (.int (i ^ j.toNat))) else none
  | _, _ => none
theorem g_pow {K : PySem.W.Frag} : Op2 K (rI CPowW fun i j => .int (i ^ j.toNat)) gPow := fun {G H σ ρ x y d e z Q} g hx hy he k => by
  unfold gPow at he
  split at he
  · split at he
    · rename_i hl
      cases he
      exact ⟨_, _, hx.int, hy.int, hl, give g (.int _) k⟩
    · cases he
  · cases he
def gCmp (p : Int → Int → Bool) : D → D → Option Sl
  | .int i, .int j => some (.fz (.bl (p i j)))
  | _, _ => none
theorem g_cmp {K : PySem.W.Frag} (p : Int → Int → Bool) : Op2 K (rI0 fun i j => .bl (p i j)) (gCmp p) := fun {G H σ ρ x y d e z Q} g hx hy he k => by
  unfold gCmp at he
  split at he
  · cases he
    exact ⟨_, _, hx.int, hy.int, give g (.bl _) k⟩
  · cases he
abbrev gLt : D → D → Option Sl := gCmp fun i j => decide (i < j)
abbrev gLe : D → D → Option Sl := gCmp fun i j => decide (i ≤ j)
abbrev gGt : D → D → Option Sl := gCmp fun i j => decide (j < i)
abbrev gGe : D → D → Option Sl := gCmp fun i j => decide (j ≤ i)
def gEq (d e : D) : Option Sl := match d, e with
  | .str i, .str j => some (.fz (.bl (decide (i = j))))
  | .int i, .int j => some (.fz (.bl (decide (i = j))))
  | d, e => if d.ok = true ∧ e.ok = true then some (.fz (.bl (d.eqv e))) else none
def gNe (d e : D) : Option Sl := match d, e with
  | .str i, .str j => some (.fz (.bl (!decide (i = j))))
  | .int i, .int j => some (.fz (.bl (!decide (i = j))))
  | d, e => if d.ok = true ∧ e.ok = true then some (.fz (.bl (!d.eqv e))) else none
theorem ok_parts {d : D} (h : d.ok = true) : d.plain = true ∧ SeqAt.shaped d.py = true := by
  unfold D.ok at h
  rw [Bool.and_eq_true] at h
  exact h
theorem scal_str {i j : Str} {H : Hp} {Q : VK} (h : Q (.bl (decide (i = j))) H) : rEq (.str i) (.str j) H Q := ⟨rfl, by rwa [show decide (V.str i = V.str j) = decide (i = j) by simp]⟩
theorem scal_int {i j : Int} {H : Hp} {Q : VK} (h : Q (.bl (decide (i = j))) H) : rEq (.int i) (.int j) H Q := ⟨rfl, by rwa [show decide (V.int i = V.int j) = decide (i = j) by simp]⟩
theorem scaln_str {i j : Str} {H : Hp} {Q : VK} (h : Q (.bl (!decide (i = j))) H) : rNe (.str i) (.str j) H Q := ⟨rfl, by rwa [show decide (V.str i = V.str j) = decide (i = j) by simp]⟩
theorem scaln_int {i j : Int} {H : Hp} {Q : VK} (h : Q (.bl (!decide (i = j))) H) : rNe (.int i) (.int j) H Q := ⟨rfl, by rwa [show decide (V.int i = V.int j) = decide (i = j) by simp]⟩
theorem g_eq {K : PySem.W.Frag} : Op2 K (rOr rEq (rEqD K)) gEq := fun {G H σ ρ x y d e z Q} g hx hy he k => by
  unfold gEq at he
  split at he
  · cases he
    rw [hx.str, hy.str]
    exact .inl (scal_str (give g (.bl _) k))
  · cases he
    rw [hx.int, hy.int]
    exact .inl (scal_int (give g (.bl _) k))
  · split at he
    · rename_i hl
      cases he
      obtain ⟨a1, a2⟩ := ok_parts hl.1
      obtain ⟨b1, b2⟩ := ok_parts hl.2
      exact .inr ⟨_, _, Rp.dp _ x a1 (hx.rp g.ex), Rp.dp _ y b1 (hy.rp g.ex), a2, b2, give g (.bl _) k⟩
    · cases he
theorem g_ne {K : PySem.W.Frag} : Op2 K (rOr rNe (rNeD K)) gNe := fun {G H σ ρ x y d e z Q} g hx hy he k => by
  unfold gNe at he
  split at he
  · cases he
    rw [hx.str, hy.str]
    exact .inl (scaln_str (give g (.bl _) k))
  · cases he
    rw [hx.int, hy.int]
    exact .inl (scaln_int (give g (.bl _) k))
  · split at he
    · rename_i hl
      cases he
      obtain ⟨a1, a2⟩ := ok_parts hl.1
      obtain ⟨b1, b2⟩ := ok_parts hl.2
      exact .inr ⟨_, _, Rp.dp _ x a1 (hx.rp g.ex), Rp.dp _ y b1 (hy.rp g.ex), a2, b2, give g (.bl _) k⟩
    · cases he
def D.isNon : D → Bool
  | .non => true
  | _ => false
theorem Vw.isNon {K : PySem.W.Frag} {G H : Hp} {v : V} {d : D} (h : Vw K G H v d) : decide (v = .non) = d.isNon := by
  rcases h with ⟨xs, p, vs, rfl, rfl, _, _⟩ | h
  · rfl
  · cases h <;> rfl
def gIs : D → D → Option Sl
  | d, .non => some (.fz (.bl d.isNon))
  | _, _ => none
def gIsNot : D → D → Option Sl
  | d, .non => some (.fz (.bl (!d.isNon)))
  | _, _ => none
theorem g_is {K : PySem.W.Frag} : Op2 K (fun x y H Q => y = .non ∧ Q (.bl (decide (x = .non))) H) gIs := fun {G H σ ρ x y d e z Q} g hx hy he k => by
  unfold gIs at he
  split at he
  · cases he
    exact ⟨hy.non, by rw [hx.isNon]; exact give g (.bl _) k⟩
  · cases he
theorem g_isnot {K : PySem.W.Frag} : Op2 K (fun x y H Q => y = .non ∧ Q (.bl (!decide (x = .non))) H) gIsNot := fun {G H σ ρ x y d e z Q} g hx hy he k => by
  unfold gIsNot at he
  split at he
  · cases he
    exact ⟨hy.non, by rw [hx.isNon]; exact give g (.bl _) k⟩
  · cases he
/-- x in a text (one sign), a list, a tuple of ints and texts -/
def D.flat : D → Bool
  | .non => true
  | .bl _ => true
  | .int _ => true
  | .str _ => true
  | _ => false
def gIn' : D → D → Option Bool
  | .str a, .str z => if a.cps.size = 1 then some (decide (a.cps.getD 0 0 ∈ z.cps.toList)) else none
  | d, .lst ys => if d.ok = true ∧ (D.lst ys).ok = true then some (ys.any fun y => y.eqv d) else none
  | d, .tup ys => if d.flat = true ∧ ys.all D.flat = true then some (ys.any fun y => y.eqv d) else if d.ok = true ∧ (D.tup ys).ok = true then some (ys.any fun y => y.eqv d) else none
  | _, _ => none
def gIn (d e : D) : Option Sl := (gIn' d e).map fun b => .fz (.bl b)
def gNotIn (d e : D) : Option Sl := (gIn' d e).map fun b => .fz (.bl !b)
/-- in a tuple of data of any depth -/
def rTupIn (K : PySem.W.Frag) (neg : Bool) : R2 := fun x y M Q => ∃ e es, Dp K M x e ∧ Dp K M y (.tuple es) ∧ SeqAt.shaped e = true ∧ SeqAt.shaped (.tuple es) = true ∧ Q (.bl (neg ^^ es.any fun z => PyData.eqv z e)) M
theorem op_tupIn {X : Cx} (room : X.A.units + 65 < cLine) : OpR X (compareOp .In) (rTupIn X.K false) := by
  rintro pins t σ M x y v u Q J rx ry ⟨e, es, p1, p2, c1, c2, k⟩
  obtain ⟨l1, r1⟩ := Dp.reads J e x v p1 rx
  obtain ⟨l2, r2⟩ := Dp.reads J (.tuple es) y u p2 ry
  refine SeqAt.in_tuple_reads r2 r1 (SeqAt.canLay_of_shaped c2) (SeqAt.canLay_of_shaped c1) (PyProof.Rows.room_in_shaped c1 room) ⟨.bl _, M, J, rfl, ?_⟩
  rwa [Bool.false_xor] at k
theorem op_tupNotIn {X : Cx} (room : X.A.units + 65 < cLine) : OpR X (compareOp .NotIn) (rTupIn X.K true) := by
  rintro pins t σ M x y v u Q J rx ry ⟨e, es, p1, p2, c1, c2, k⟩
  obtain ⟨l1, r1⟩ := Dp.reads J e x v p1 rx
  obtain ⟨l2, r2⟩ := Dp.reads J (.tuple es) y u p2 ry
  refine SeqAt.notIn_tuple_reads r2 r1 (SeqAt.canLay_of_shaped c2) (SeqAt.canLay_of_shaped c1) (PyProof.Rows.room_in_shaped c1 room) ⟨.bl _, M, J, rfl, ?_⟩
  rwa [Bool.true_xor] at k
def rInU (K : PySem.W.Frag) : R2 := rOr (fun x y H Q => ∃ (c : Nat) (z : Str), x = .str ⟨#[c]⟩ ∧ y = .str z ∧ Q (.bl (decide (c ∈ z.cps.toList))) H) (rOr (rInD K) (rOr (rIn K false) (rTupIn K false)))
def rNotInU (K : PySem.W.Frag) : R2 := rOr (fun x y H Q => ∃ (c : Nat) (z : Str), x = .str ⟨#[c]⟩ ∧ y = .str z ∧ Q (.bl (!decide (c ∈ z.cps.toList))) H) (rOr (rNotInD K) (rOr (rIn K true) (rTupIn K true)))
theorem op_inU {X : Cx} (hu : X.A.units + 65 < cLine) : OpR X (compareOp .In) (rInU X.K) := OpR.or op_in_sign (OpR.or (op_inD hu) (OpR.or op_in_seq (op_tupIn hu)))
theorem op_notInU {X : Cx} (hu : X.A.units + 65 < cLine) : OpR X (compareOp .NotIn) (rNotInU X.K) := OpR.or op_notIn_sign (OpR.or (op_notInD hu) (OpR.or op_notIn_seq (op_tupNotIn hu)))
theorem pys_any (d : D) : ∀ ys : List D, (D.pys ys).any (fun z => PyData.eqv z d.py) = ys.any fun y => y.eqv d
  | [] => by rw [D.pys]; rfl
  | y :: ys => by
    rw [D.pys, List.any_cons, List.any_cons, pys_any d ys]
    rfl
theorem flat_v {K : PySem.W.Frag} {G : Hp} {v : V} {d : D} (h : Rp K G v d) (f : d.flat = true) : flatV v = true := by
  cases h <;> first | rfl | cases f
theorem flat_eq {K : PySem.W.Frag} {G : Hp} {v u : V} {d e : D} (h : Rp K G v d) (h' : Rp K G u e) (f : d.flat = true) (f' : e.flat = true) : eqV v u = d.eqv e := by
  unfold D.eqv
  cases h <;> first | (cases (show false = true from f)) | skip
  all_goals cases h' <;> first | (cases (show false = true from f')) | (simp only [D.py, PyData.eqv, eqV] <;> done) | (simp only [D.py, PyData.eqv, eqV] <;> rfl)
theorem flat_all {K : PySem.W.Frag} {G : Hp} : ∀ {vs : List V} {ds : List D}, Rps K G vs ds → ds.all D.flat = true → vs.all flatV = true
  | _, _, .nil, _ => rfl
  | _, _, .cons h t, f => by
    rw [List.all_cons, Bool.and_eq_true] at f
    rw [List.all_cons, flat_v h f.1, flat_all t f.2]
    rfl
theorem flat_in {K : PySem.W.Frag} {G : Hp} {v : V} {d : D} (hd : Rp K G v d) (fd : d.flat = true) : ∀ {vs : List V} {ds : List D}, Rps K G vs ds → ds.all D.flat = true → inV v vs = ds.any fun y => y.eqv d
  | _, _, .nil, _ => rfl
  | _, _, .cons h t, f => by
    rw [List.all_cons, Bool.and_eq_true] at f
    have ih := flat_in hd fd t f.2
    unfold inV at ih ⊢
    rw [List.any_cons, List.any_cons, flat_eq h hd f.1 fd, ih]
theorem Vw.flat {K : PySem.W.Frag} {G H : Hp} {v : V} {d : D} (h : Vw K G H v d) (f : d.flat = true) : Rp K G v d := by
  rcases h with ⟨xs, p, vs, rfl, rfl, _, _⟩ | h
  · cases f
  · exact h
theorem one_sign {a : Str} (h : a.cps.size = 1) : a = ⟨#[a.cps.getD 0 0]⟩ := by
  obtain ⟨cps⟩ := a
  obtain ⟨l⟩ := cps
  match l, h with
  | [c], _ => rfl
theorem g_in' {K : PySem.W.Frag} {G H : Hp} {σ : L2.St} {ρ : En} {x y : V} {d e : D} {b : Bool} {Q : VK} (g : Good K G H σ ρ) (hx : Vw K G H x d) (hy : Vw K G H y e) (he : gIn' d e = some b) :
    (Q (.bl b) H → rInU K x y H Q) ∧ (Q (.bl !b) H → rNotInU K x y H Q) := by
  unfold gIn' at he
  split at he
  · split at he
    · rename_i a z hs
      cases he
      have e1 := hx.str
      rw [one_sign hs] at e1
      exact ⟨fun q => .inl ⟨_, _, e1, hy.str, q⟩, fun q => .inl ⟨_, _, e1, hy.str, q⟩⟩
    · cases he
  · split at he
    · rename_i ys hl
      cases he
      obtain ⟨a1, a2⟩ := ok_parts hl.1
      obtain ⟨b1, b2⟩ := ok_parts hl.2
      have q1 := Rp.dp d x a1 (hx.rp g.ex)
      have q2 := Rp.dp _ y b1 (hy.rp g.ex)
      rw [D.py] at q2 b2
      exact ⟨fun q => .inr (.inl ⟨_, _, q1, q2, a2, b2, by rw [pys_any]; exact q⟩), fun q => .inr (.inl ⟨_, _, q1, q2, a2, b2, by rw [pys_any]; exact q⟩)⟩
    · cases he
  · split at he
    · rename_i ys hl
      cases he
      obtain ⟨p, vs, rfl, h0, h1, h2⟩ := hy.tup g.ex
      have hx' := hx.flat hl.1
      refine ⟨fun q => .inr (.inr (.inl ⟨p, vs, rfl, .inr (SqT.of h1), flat_v hx' hl.1, flat_all h2 hl.2, ?_⟩)), fun q => .inr (.inr (.inl ⟨p, vs, rfl, .inr (SqT.of h1), flat_v hx' hl.1, flat_all h2 hl.2, ?_⟩))⟩
      · rw [flat_in hx' hl.1 h2 hl.2]
        exact q
      · rw [flat_in hx' hl.1 h2 hl.2]
        exact q
    · split at he
      · rename_i ys _ hl
        cases he
        obtain ⟨a1, a2⟩ := ok_parts hl.1
        obtain ⟨b1, b2⟩ := ok_parts hl.2
        have q1 := Rp.dp d x a1 (hx.rp g.ex)
        have q2 := Rp.dp _ y b1 (hy.rp g.ex)
        rw [D.py] at q2 b2
        exact ⟨fun q => .inr (.inr (.inr ⟨_, _, q1, q2, a2, b2, by rw [pys_any, Bool.false_xor]; exact q⟩)), fun q => .inr (.inr (.inr ⟨_, _, q1, q2, a2, b2, by rw [pys_any, Bool.true_xor]; exact q⟩))⟩
      · cases he
  · cases he
theorem g_in {K : PySem.W.Frag} : Op2 K (rInU K) gIn := fun {G H σ ρ x y d e z Q} g hx hy he k => by
  unfold gIn at he
  cases q : gIn' d e with
  | none => rw [q] at he; cases he
  | some b =>
    rw [q] at he
    cases he
    exact (g_in' g hx hy q).1 (give g (.bl _) k)
theorem g_notIn {K : PySem.W.Frag} : Op2 K (rNotInU K) gNotIn := fun {G H σ ρ x y d e z Q} g hx hy he k => by
  unfold gNotIn at he
  cases q : gIn' d e with
  | none => rw [q] at he; cases he
  | some b =>
    rw [q] at he
    cases he
    exact (g_in' g hx hy q).2 (give g (.bl _) k)
/-! ### subscripts -/
def gIx : D → D → Option Sl
  | .lst xs, .int i => (atI xs i).map .fz
  | .tup xs, .int i => (atI xs i).map .fz
  | .scr ns, .int i => (atI ns i).map fun n => .fz (.int n)
  | .str z, .int i => if z.length ≤ lim then (atI z.cps.toList i).map fun c => .fz (.str ⟨#[c]⟩) else none
  | _, _ => none
theorem atI_rel {K : PySem.W.Frag} {G : Hp} {vs : List V} {ds : List D} {i : Int} {d : D} (h : Rps K G vs ds) (e : atI ds i = some d) : ∃ v, atI vs i = some v ∧ Rp K G v d := by
  unfold atI at e ⊢
  rw [h.len]
  cases q : ixN ds.length i with
  | none => rw [q] at e; cases e
  | some j =>
    rw [q] at e
    exact h.get e
theorem g_ix {K : PySem.W.Frag} : Op2 K (rIx K) gIx := fun {G H σ ρ x y d e z Q} g hx hy he k => by
  unfold gIx at he
  split at he
  · rename_i xs i
    cases q : atI xs i with
    | none => rw [q] at he; cases he
    | some d =>
      rw [q] at he
      cases he
      obtain ⟨p, vs, rfl, h1, h2⟩ := hx.lst g.ex
      obtain ⟨v, e1, r⟩ := atI_rel h2 q
      exact .inl ⟨p, vs, i, v, rfl, hy.int, SqL.of h1, e1, give g r k⟩
  · rename_i xs i
    cases q : atI xs i with
    | none => rw [q] at he; cases he
    | some d =>
      rw [q] at he
      cases he
      obtain ⟨p, vs, rfl, h0, h1, h2⟩ := hx.tup g.ex
      obtain ⟨v, e1, r⟩ := atI_rel h2 q
      exact .inr (.inl ⟨p, vs, i, v, rfl, hy.int, SqT.of h1, e1, give g r k⟩)
  · rename_i ns i
    cases q : atI ns i with
    | none => rw [q] at he; cases he
    | some n =>
      rw [q] at he
      cases he
      obtain ⟨p, rfl, h1⟩ := hx.scr g.ex
      refine .inl ⟨p, _, i, .int n, rfl, hy.int, h1, ?_, give g (.int n) k⟩
      unfold atI at q ⊢
      rw [List.length_map]
      cases q2 : ixN ns.length i with
      | none => rw [q2] at q; cases q
      | some j =>
        rw [q2] at q
        show (ns.map V.int)[j]? = _
        rw [List.getElem?_map, show ns[j]? = some n from q]
        rfl
  · split at he
    · rename_i z i hl
      cases q : atI z.cps.toList i with
      | none => rw [q] at he; cases he
      | some c =>
        rw [q] at he
        cases he
        exact .inr (.inr ⟨z, i, c, hx.str, hy.int, lim_le hl, q, give g (.str _) k⟩)
    · cases he
  · cases he
theorem de_ix {X : Cx} {a b : Expr} {fa fb : Fe} {pos : Pos} (ha : DE X a fa) (hb : DE X b fb) (hs : PlainIx b := by first | exact fun _ _ => rfl | (intro _ _; rfl)) : DE X (.Subscript a b pos) (dOp2 gIx fa fb) := PE.weak (pe_ix ix_seq ha hb hs) (tOp_of g_ix)
/-! ### slices -/
abbrev Fo := En → Option (Option Int × En)
def toOf (K : PySem.W.Frag) (f : Fo) : TO := fun σ H Q => ∃ G ρ o ρ', Good K G H σ ρ ∧ f ρ = some (o, ρ') ∧ ∀ G' H', Aft K G H σ ρ G' H' σ ρ' → Q o H'
abbrev DO (X : Cx) (e : Option Expr) (f : Fo) : Prop := PO X e (toOf X.K f)
theorem PO.weak {X : Cx} {e : Option Expr} {t t' : TO} (h : PO X e t) (w : ∀ σ H Q, t' σ H Q → t σ H Q) : PO X e t' := ⟨fun pins s σ H Q I q => h.run pins s σ H Q I (w σ H Q q)⟩
def oNo : Fo := fun ρ => some (none, ρ)
def oSome (f : Fe) : Fo := fun ρ => match f ρ with
  | some (.fz (.int i), ρ1) => some (some i, ρ1)
  | _ => none
theorem do_no {X : Cx} : DO X none oNo := PO.weak po_none fun σ H Q ⟨G, ρ, o, ρ', g, e, k⟩ => by
  cases e
  exact k G H (Aft.refl g)
theorem do_some {X : Cx} {e : Expr} {f : Fe} (h : DE X e f) : DO X (some e) (oSome f) := PO.weak (po_some h) fun σ H Q ⟨G, ρ, o, ρ', g, e, k⟩ => by
  unfold oSome at e
  split at e
  · rename_i i ρ1 q
    cases e
    exact ⟨G, ρ, _, _, g, q, fun v G1 H1 A1 R1 => ⟨i, Rp.of_int R1, k G1 H1 A1⟩⟩
  · cases e
def cutD {α : Type} (xs : List α) (lo hi : Option Int) : List α := (xs.drop (HT.sIx xs.length 0 lo)).take (HT.sIx xs.length xs.length hi - HT.sIx xs.length 0 lo)
def gSl : D → Option Int → Option Int → Option Sl
  | .lst xs, lo, hi => some (.ow (.l (cutD xs lo hi)))
  | .tup xs, lo, hi => some (.fz (.tup (cutD xs lo hi)))
  | .str z, lo, hi => if z.length ≤ lim then some (.fz (.str (cutS z lo hi))) else none
  | _, _, _ => none
def dSl (f : Fe) (fl fh : Fo) : Fe := fun ρ => match f ρ with
  | none => none
  | some (r, ρ1) => match fl ρ1 with
    | none => none
    | some (lo, ρ2) => match fh ρ2 with
      | none => none
      | some (hi, ρ3) => match rd ρ3 r with
        | none => none
        | some d => match gSl d lo hi with
          | none => none
          | some z => some (z, ρ3)
def rSlU (K : PySem.W.Frag) : V → Option Int → Option Int → Hp → VK → Prop := fun x lo hi H Q => rSlL K x lo hi H Q ∨ (rSlA K x lo hi H Q ∨ rSlS x lo hi H Q)
theorem sl_u {X : Cx} : SlR X (rSlU X.K) := SlR.or sl_list (SlR.or sl_tupA sl_str)
theorem Rps.cut {K : PySem.W.Frag} {G : Hp} {vs : List V} {ds : List D} (h : Rps K G vs ds) (lo hi : Option Int) : Rps K G (cutV vs lo hi) (cutD ds lo hi) := by
  unfold cutV cutD
  rw [h.len]
  exact (h.drop _).take _
theorem de_sl {X : Cx} {e : Expr} {lo hi : Option Expr} {f : Fe} {fl fh : Fo} {pos p2 : Pos} (he : DE X e f) (hl : DO X lo fl) (hh : DO X hi fh) : DE X (.Subscript e (.Slice lo hi none p2) pos) (dSl f fl fh) :=
  PE.weak (pe_slice sl_u he hl hh) fun σ H Q ⟨G, ρ, z, ρ', g, q, k⟩ => by
    unfold dSl at q
    cases q1 : f ρ with
    | none => rw [q1] at q; cases q
    | some y =>
      obtain ⟨r, ρ1⟩ := y
      simp only [q1] at q
      cases q2 : fl ρ1 with
      | none => simp only [q2] at q; cases q
      | some y =>
        obtain ⟨l, ρ2⟩ := y
        simp only [q2] at q
        cases q3 : fh ρ2 with
        | none => simp only [q3] at q; cases q
        | some y =>
          obtain ⟨h, ρ3⟩ := y
          simp only [q3] at q
          cases q4 : rd ρ3 r with
          | none => simp only [q4] at q; cases q
          | some d =>
            simp only [q4] at q
            cases q5 : gSl d l h with
            | none => simp only [q5] at q; cases q
            | some w =>
              simp only [q5] at q
              cases q
              refine ⟨G, ρ, r, ρ1, g, q1, fun v G1 H1 A1 R1 => ⟨G1, ρ1, l, ρ2, A1.good, q2, fun G2 H2 A2 => ⟨G2, ρ2, h, _, A2.good, q3, fun G3 H3 A3 => ?_⟩⟩⟩
              have A13 := (A1.trans A2).trans A3
              have R3 := (R1.aft A2).aft A3
              have W := rd_ok A3.good R3 q4
              have k' : ∀ v G' H', Aft X.K G3 H3 σ ρ' G' H' σ ρ' → ROk X.K H3 G' H' σ ρ' v z → Q v H' := fun v G' H' A R => k v G' H' (A13.trans A) (R.start A13.dom)
              unfold gSl at q5
              split at q5
              · cases q5
                obtain ⟨p, vs, rfl, h1, h2⟩ := W.lst A3.good.ex
                exact .inl ⟨p, vs, rfl, SqL.of h1, giveL A3.good (h2.cut _ _) k'⟩
              · cases q5
                obtain ⟨p, vs, rfl, h0, h1, h2⟩ := W.tup A3.good.ex
                refine .inr (.inl ⟨p, vs, rfl, SqT.of h1, fun hw => ?_, fun hw => giveT A3.good (h2.cut _ _) k'⟩)
                refine k' (.ref p) G3 H3 (Aft.refl A3.good) (.tup h0 ?_)
                unfold cutD
                rw [← h2.len, hw.1, hw.2, List.drop_zero, Nat.sub_zero, h2.len, List.take_length]
                exact h2
              · split at q5
                · rename_i hz
                  cases q5
                  exact .inr (.inr ⟨_, W.str, lim_le hz, give A3.good (.str _) k'⟩)
                · cases q5
              · cases q5
end DL
set_option Elab.async false
set_option linter.all false
set_option maxRecDepth 100000
set_option maxHeartbeats 2000000
namespace DL
open PySem PySem.Spec L2
open PyProof.Rows (envOfC)
section
variable {K : PySem.W.Frag} {G H : Hp} {σ : L2.St} {ρ : En} {Q : VK}
theorem Vws.one {vs : List V} {d : D} (h : Vws K G H vs [d]) : ∃ v, vs = [v] ∧ Vw K G H v d := by
  cases h with
  | cons h1 h2 =>
    cases h2
    exact ⟨_, rfl, h1⟩
theorem Vws.two {vs : List V} {d e : D} (h : Vws K G H vs [d, e]) : ∃ v u, vs = [v, u] ∧ Vw K G H v d ∧ Vw K G H u e := by
  cases h with
  | cons h1 h2 =>
    obtain ⟨u, rfl, h3⟩ := h2.one
    exact ⟨_, u, rfl, h1, h3⟩
end
/-! ### built-ins -/
def gLen : List D → Option Sl
  | [.lst xs] => some (.fz (.int xs.length))
  | [.tup xs] => some (.fz (.int xs.length))
  | [.scr xs] => some (.fz (.int xs.length))
  | [.str z] => if z.length ≤ lim then some (.fz (.int z.length)) else none
  | _ => none
theorem c_len {K : PySem.W.Frag} : Cl K (fun xs H Q => ∃ x n, xs = [x] ∧ LenV K x H n ∧ Q (.int n) H) gLen := fun {G H σ ρ xs ds z Q} g hx he k => by
  unfold gLen at he
  split at he
  · cases he
    obtain ⟨v, rfl, h⟩ := hx.one
    obtain ⟨p, vs, rfl, h1, h2⟩ := h.lst g.ex
    exact ⟨_, _, rfl, .inl ⟨_, SqL.of h1, h2.len.symm⟩, give g (.int _) k⟩
  · cases he
    obtain ⟨v, rfl, h⟩ := hx.one
    obtain ⟨p, vs, rfl, h0, h1, h2⟩ := h.tup g.ex
    exact ⟨_, _, rfl, .inr ⟨_, SqT.of h1, h2.len.symm⟩, give g (.int _) k⟩
  · cases he
    obtain ⟨v, rfl, h⟩ := hx.one
    obtain ⟨p, rfl, h1⟩ := h.scr g.ex
    exact ⟨_, _, rfl, .inl ⟨_, h1, by simp⟩, give g (.int _) k⟩
  · split at he
    · rename_i hl
      cases he
      obtain ⟨v, rfl, h⟩ := hx.one
      exact ⟨_, _, rfl, by rw [h.str]; exact ⟨lim_le hl, rfl⟩, give g (.int _) k⟩
    · cases he
  · cases he
def gMax : List D → Option Sl
  | [.int i, .int j] => some (.fz (.int (if j > i then j else i)))
  | _ => none
def gMin : List D → Option Sl
  | [.int i, .int j] => some (.fz (.int (if j < i then j else i)))
  | _ => none
theorem c_max {K : PySem.W.Frag} : Cl K (fun xs H Q => ∃ i j, xs = [.int i, .int j] ∧ Q (.int (if j > i then j else i)) H) gMax := fun {G H σ ρ xs ds z Q} g hx he k => by
  unfold gMax at he
  split at he
  · cases he
    obtain ⟨v, u, rfl, h1, h2⟩ := hx.two
    rw [h1.int, h2.int]
    exact ⟨_, _, rfl, give g (.int _) k⟩
  · cases he
theorem c_min {K : PySem.W.Frag} : Cl K (fun xs H Q => ∃ i j, xs = [.int i, .int j] ∧ Q (.int (if j < i then j else i)) H) gMin := fun {G H σ ρ xs ds z Q} g hx he k => by
  unfold gMin at he
  split at he
  · cases he
    obtain ⟨v, u, rfl, h1, h2⟩ := hx.two
    rw [h1.int, h2.int]
    exact ⟨_, _, rfl, give g (.int _) k⟩
  · cases he
def gInt : List D → Option Sl
  | [.int i] => some (.fz (.int i))
  | [.bl b] => some (.fz (.int (if b then 1 else 0)))
  | _ => none
theorem c_int {K : PySem.W.Frag} : Cl K (fun xs H Q => (∃ i, xs = [.int i] ∧ Q (.int i) H) ∨ ∃ k, xs = [.bl k] ∧ Q (.int (if k then 1 else 0)) H) gInt := fun {G H σ ρ xs ds z Q} g hx he k => by
  unfold gInt at he
  split at he
  · cases he
    obtain ⟨v, rfl, h1⟩ := hx.one
    rw [h1.int]
    exact .inl ⟨_, rfl, give g (.int _) k⟩
  · cases he
    obtain ⟨v, rfl, h1⟩ := hx.one
    rw [h1.bl]
    exact .inr ⟨_, rfl, give g (.int _) k⟩
  · cases he
def gAbs : List D → Option Sl
  | [.int i] => some (.fz (.int (if i < 0 then -i else i)))
  | _ => none
theorem c_abs {K : PySem.W.Frag} : Cl K (fun xs H Q => ∃ i, xs = [.int i] ∧ Q (.int (if i < 0 then -i else i)) H) gAbs := fun {G H σ ρ xs ds z Q} g hx he k => by
  unfold gAbs at he
  split at he
  · cases he
    obtain ⟨v, rfl, h1⟩ := hx.one
    rw [h1.int]
    exact ⟨_, rfl, give g (.int _) k⟩
  · cases he
def gStr : List D → Option Sl
  | [.int i] => if i.natAbs.log2 < 1920 then some (.fz (.str (toString i))) else none
  | _ => none
theorem c_str {K : PySem.W.Frag} : Cl K (fun xs H Q => ∃ i, xs = [.int i] ∧ i.natAbs.log2 < 1920 ∧ Q (.str (toString i)) H) gStr := fun {G H σ ρ xs ds z Q} g hx he k => by
  unfold gStr at he
  split at he
  · split at he
    · rename_i hl
      cases he
      obtain ⟨v, rfl, h1⟩ := hx.one
      rw [h1.int]
      exact ⟨_, rfl, hl, give g (.str _) k⟩
    · cases he
  · cases he
def gList : List D → Option Sl
  | [.lst xs] => some (.ow (.l xs))
  | [.tup xs] => some (.ow (.l xs))
  | _ => none
theorem c_list {K : PySem.W.Frag} : Cl K (fun xs H Q => ∃ p ys, xs = [.ref p] ∧ (SqL K H p ys ∨ SqT K H p ys) ∧ ∀ l, H l = none → Q (.ref l) (upd H l (.lst ys))) gList := fun {G H σ ρ xs ds z Q} g hx he k => by
  unfold gList at he
  split at he
  · cases he
    obtain ⟨v, rfl, h⟩ := hx.one
    obtain ⟨p, vs, rfl, h1, h2⟩ := h.lst g.ex
    exact ⟨p, vs, rfl, .inl (SqL.of h1), giveL g h2 k⟩
  · cases he
    obtain ⟨v, rfl, h⟩ := hx.one
    obtain ⟨p, vs, rfl, h0, h1, h2⟩ := h.tup g.ex
    exact ⟨p, vs, rfl, .inr (SqT.of h1), giveL g h2 k⟩
  · cases he
def gTuple : List D → Option Sl
  | [.lst xs] => some (.fz (.tup xs))
  | [.tup xs] => some (.fz (.tup xs))
  | _ => none
theorem c_tuple {K : PySem.W.Frag} : Cl K (fun xs H Q => ∃ p ys, xs = [.ref p] ∧ ((SqL K H p ys ∧ ∀ l, H l = none → Q (.ref l) (upd H l (.tup ys))) ∨ (SqT K H p ys ∧ Q (.ref p) H))) gTuple := fun {G H σ ρ xs ds z Q} g hx he k => by
  unfold gTuple at he
  split at he
  · cases he
    obtain ⟨v, rfl, h⟩ := hx.one
    obtain ⟨p, vs, rfl, h1, h2⟩ := h.lst g.ex
    exact ⟨p, vs, rfl, .inl ⟨SqL.of h1, giveT g h2 k⟩⟩
  · cases he
    obtain ⟨v, rfl, h⟩ := hx.one
    obtain ⟨p, vs, rfl, h0, h1, h2⟩ := h.tup g.ex
    exact ⟨p, vs, rfl, .inr ⟨SqT.of h1, k (.ref p) G H (Aft.refl g) (.tup h0 h2)⟩⟩
  · cases he
def intsOf : List D → Option (List Int)
  | [] => some []
  | .int i :: r => (intsOf r).map (i :: ·)
  | _ => none
theorem intsOf_eq : ∀ {ds : List D} {ns : List Int}, intsOf ds = some ns → ds = ns.map .int
  | [], _, h => by cases h; rfl
  | d :: ds, ns, h => by
    cases d with
    | int i =>
      have h' : (intsOf ds).map (i :: ·) = some ns := h
      cases q : intsOf ds with
      | none => rw [q] at h'; cases h'
      | some ms =>
        rw [q] at h'
        cases h'
        rw [intsOf_eq q]
        rfl
    | _ => cases h
theorem intsOf_map (ns : List Int) : intsOf (ns.map .int) = some ns := by
  induction ns with
  | nil => rfl
  | cons n ns ih =>
    show (intsOf (ns.map .int)).map (n :: ·) = _
    rw [ih]
    rfl
def gSum : List D → Option Sl
  | [.lst xs] => (intsOf xs).map fun ns => .fz (.int ns.sum)
  | _ => none
theorem c_sum {K : PySem.W.Frag} : Cl K (rSum K) gSum := fun {G H σ ρ xs ds z Q} g hx he k => by
  unfold gSum at he
  split at he
  · rename_i ys
    cases q : intsOf ys with
    | none => rw [q] at he; cases he
    | some ns =>
      rw [q] at he
      cases he
      have e := intsOf_eq q
      subst e
      obtain ⟨v, rfl, h⟩ := hx.one
      obtain ⟨p, vs, rfl, h1, h2⟩ := h.lst g.ex
      rw [h2.ints] at h1
      exact ⟨p, ns, rfl, SqL.of h1, give g (.int _) k⟩
  · cases he
def blsOf : List D → Option (List Bool)
  | [] => some []
  | .bl i :: r => (blsOf r).map (i :: ·)
  | _ => none
theorem blsOf_eq : ∀ {ds : List D} {ns : List Bool}, blsOf ds = some ns → ds = ns.map .bl
  | [], _, h => by cases h; rfl
  | d :: ds, ns, h => by
    cases d with
    | bl i =>
      have h' : (blsOf ds).map (i :: ·) = some ns := h
      cases q : blsOf ds with
      | none => rw [q] at h'; cases h'
      | some ms =>
        rw [q] at h'
        cases h'
        rw [blsOf_eq q]
        rfl
    | _ => cases h
theorem blsOf_map (ns : List Bool) : blsOf (ns.map .bl) = some ns := by
  induction ns with
  | nil => rfl
  | cons n ns ih =>
    show (blsOf (ns.map .bl)).map (n :: ·) = _
    rw [ih]
    rfl
def gAll : List D → Option Sl
  | [.lst xs] => (blsOf xs).map fun ns => .fz (.bl (ns.all id))
  | _ => none
theorem c_all {K : PySem.W.Frag} : Cl K (rAll K) gAll := fun {G H σ ρ xs ds z Q} g hx he k => by
  unfold gAll at he
  split at he
  · rename_i ys
    cases q : blsOf ys with
    | none => rw [q] at he; cases he
    | some ns =>
      rw [q] at he
      cases he
      have e := blsOf_eq q
      subst e
      obtain ⟨v, rfl, h⟩ := hx.one
      obtain ⟨p, vs, rfl, h1, h2⟩ := h.lst g.ex
      rw [h2.bls] at h1
      exact ⟨p, ns, rfl, SqL.of h1, give g (.bl _) k⟩
  · cases he
/-! ### isinstance with a built-in class -/
def tyN : D → Option String
  | .non => some "NoneType"
  | .bl _ => some "bool"
  | .int _ => some "int"
  | .str _ => some "str"
  | .tup _ => some "tuple"
  | .lst _ => some "list"
  | _ => none
theorem tyN_ok {K : PySem.W.Frag} {G H : Hp} {v : V} {d : D} {n : String} (ex : Ex G H) (h : Vw K G H v d) (e : tyN d = some n) : TyX K H v (.type n) := by
  have r := h.rp ex
  cases r with
  | non => cases e; exact .base .non
  | bl b => cases e; exact .base (.bl b)
  | int b => cases e; exact .base (.int b)
  | str b => cases e; exact .base (.str b)
  | tup h1 _ => cases e; exact .base (.tup h1)
  | lst h1 _ => cases e; exact .base (.lst h1)
  | ins _ _ _ => cases e
  | scr _ => cases e
/-- whether what stands first is of the class T -/
def isB (T : String) (d : D) : Option Bool := (tyN d).bind fun n => kitB n T
def dIsi (T : String) (f : Fe) : Fe := fun ρ => match f ρ with
  | none => none
  | some (r, ρ1) => match rd ρ1 r with
    | none => none
    | some d => match isB T d with
      | none => none
      | some b => some (.fz (.bl b), ρ1)
theorem de_isi {X : Cx} {x : Str} {p p2 pos : Pos} {e : Expr} {f : Fe} {y : Str} {T : String} (hx : Gl X x) (hm : X.mg x = none) (hv : bootBuiltins x = some (.builtin "isinstance")) (he : DE X e f) (hy : Gl X y) (hm2 : X.mg y = none) (hv2 : bootBuiltins y = some (.type T))
    (hn : x ≠ "__name__" := by decide) (hdb : (x == ("__debug__" : Str)) = false := by decide) (hn2 : y ≠ "__name__" := by decide) (hdb2 : (y == ("__debug__" : Str)) = false := by decide)
    (hs : starEach [e, .Name y p2] X.env = (false, eval e X.env) :: starEach [.Name y p2] X.env := by rfl) (hpl : (backTo pos (starEach [.Name y p2] X.env)).any (·.1) = false := by rfl)
    (hs2 : starEach [.Name y p2] X.env = (false, eval (.Name y p2) X.env) :: starEach [] X.env := by rfl) :
    DE X (.Call (.Name x p) [e, .Name y p2] [] pos) (dIsi T f) :=
  PE.weak (pe_callB call_isi hx hm hv (pa_cons he (pa_cons (pe_bltn (v := .ty T) hy hm2 hv2 rfl hn2 hdb2) pa_nil hs2) hs) hn hdb hs hpl) fun σ H Q ⟨G, ρ, z, ρ', g, q, k⟩ => by
    unfold dIsi at q
    cases q1 : f ρ with
    | none => rw [q1] at q; cases q
    | some y =>
      obtain ⟨r, ρ1⟩ := y
      simp only [q1] at q
      cases q4 : rd ρ1 r with
      | none => simp only [q4] at q; cases q
      | some d =>
        simp only [q4] at q
        cases q5 : isB T d with
        | none => simp only [q5] at q; cases q
        | some b =>
          simp only [q5] at q
          cases q
          refine ⟨G, ρ, r, _, g, q1, fun v G1 H1 A1 R1 => ?_⟩
          unfold isB at q5
          cases q6 : tyN d with
          | none => rw [q6] at q5; cases q5
          | some n =>
            rw [q6] at q5
            refine ⟨v, .ty T, .type n, .type T, b, rfl, .ty T, tyN_ok A1.good.ex (rd_ok A1.good R1 q4) q6, kit_ty q5, ?_⟩
            exact k _ G1 H1 A1 (.bl b)
/-! ### displays -/
/-- all of them standing -/
def dsOf : List Sl → Option (List D)
  | [] => some []
  | .fz d :: r => (dsOf r).map (d :: ·)
  | _ => none
theorem dsOf_ok {K : PySem.W.Frag} {H0 G H : Hp} {σ : L2.St} {ρ : En} : ∀ {vs : List V} {rs : List Sl} {ds : List D}, RsOk K H0 G H σ ρ vs rs → dsOf rs = some ds → Rps K G vs ds
  | _, _, _, .nil, e => by cases e; exact .nil
  | _, _, _, .cons (r := r) (rs := rs) h t, e => by
    cases r with
    | fz d =>
      have e' : (dsOf rs).map (d :: ·) = some _ := e
      cases q : dsOf rs with
      | none => rw [q] at e'; cases e'
      | some ds =>
        rw [q] at e'
        cases e'
        exact .cons h (dsOf_ok t q)
    | un => cases e
    | ow _ => cases e
    | rf _ => cases e
    | bw _ => cases e
def eTup (fa : Fa) : Fe := fun ρ => match fa ρ with
  | some (rs, ρ1) => match dsOf rs with
    | some ds => if ds.length ≤ lim then some (.fz (.tup ds), ρ1) else none
    | none => none
  | none => none
def eLst (fa : Fa) : Fe := fun ρ => match fa ρ with
  | some (rs, ρ1) => match dsOf rs with
    | some ds => if ds.length ≤ lim then some (.ow (.l ds), ρ1) else none
    | none => none
  | none => none
section
variable {X : Cx} {es : List Expr} {fa : Fa} {pos : Pos} {k : Nat}
theorem de_tup (ha : DA X es fa) : DE X (.Tuple es k pos) (eTup fa) := PE.weak (pe_tup ha) fun σ H Q ⟨G, ρ, z, ρ', g, q, kk⟩ => by
  unfold eTup at q
  cases q1 : fa ρ with
  | none => rw [q1] at q; cases q
  | some y =>
    obtain ⟨rs, ρ1⟩ := y
    simp only [q1] at q
    cases q2 : dsOf rs with
    | none => simp only [q2] at q; cases q
    | some ds =>
      simp only [q2] at q
      split at q
      · rename_i hl
        cases q
        refine ⟨G, ρ, rs, _, g, q1, fun vs G1 H1 A1 R1 => ?_⟩
        have r := dsOf_ok R1 q2
        exact ⟨by rw [r.len]; exact lim_le hl, giveT A1.good r fun v G' H' A R => kk v G' H' (A1.trans A) (R.start A1.dom)⟩
      · cases q
theorem de_lst (ha : DA X es fa) : DE X (.List es pos) (eLst fa) := PE.weak (pe_lst ha) fun σ H Q ⟨G, ρ, z, ρ', g, q, kk⟩ => by
  unfold eLst at q
  cases q1 : fa ρ with
  | none => rw [q1] at q; cases q
  | some y =>
    obtain ⟨rs, ρ1⟩ := y
    simp only [q1] at q
    cases q2 : dsOf rs with
    | none => simp only [q2] at q; cases q
    | some ds =>
      simp only [q2] at q
      split at q
      · rename_i hl
        cases q
        refine ⟨G, ρ, rs, _, g, q1, fun vs G1 H1 A1 R1 => ?_⟩
        have r := dsOf_ok R1 q2
        exact ⟨by rw [r.len]; exact lim_le hl, giveL A1.good r fun v G' H' A R => kk v G' H' (A1.trans A) (R.start A1.dom)⟩
      · cases q
end
/-! ### what is walked -/
section
variable {K : PySem.W.Frag} {G H : Hp}
theorem it_list {p : Addr} {vs : List V} {xs : List D} (h1 : G p = some (.lst vs)) (h2 : Rps K G vs xs) : ItOk K G (Itl K p) xs := by
  have w := (walk_list (K := K) (a := p) (xs := vs)).mono (G' := fun H => Ex G H) (Y' := fun i H x H' => ∃ d, xs[i]? = some d ∧ ItemY K G d H x H') (fun H e => SqL.of (e _ _ h1)) fun i H x H' hi e y => by
    obtain ⟨rfl, e1⟩ := y
    obtain ⟨d, e2, r⟩ := h2.getV e1
    exact ⟨d, e2, .inl ⟨rfl, r⟩⟩
  rw [h2.len] at w
  exact w
theorem it_tup {p : Addr} {vs : List V} {xs : List D} (h1 : G p = some (.tup vs)) (h2 : Rps K G vs xs) : ItOk K G (Itt K p) xs := by
  have w := (walk_tup (K := K) (a := p) (xs := vs)).mono (G' := fun H => Ex G H) (Y' := fun i H x H' => ∃ d, xs[i]? = some d ∧ ItemY K G d H x H') (fun H e => SqT.of (e _ _ h1)) fun i H x H' hi e y => by
    obtain ⟨rfl, e1⟩ := y
    obtain ⟨d, e2, r⟩ := h2.getV e1
    exact ⟨d, e2, .inl ⟨rfl, r⟩⟩
  rw [h2.len] at w
  exact w
def rangeD (lo : Int) (n : Nat) : List D := (List.range n).map fun i => .int (lo + (i : Nat))
theorem it_range {lo : Int} {n : Nat} : ItOk K G (Itr lo n) (rangeD lo n) := by
  have w := (walk_range (lo := lo) (n := n)).mono (G' := fun H => Ex G H) (Y' := fun i H x H' => ∃ d, (rangeD lo n)[i]? = some d ∧ ItemY K G d H x H') (fun _ _ => trivial) fun i H x H' hi e y => by
    obtain ⟨rfl, rfl⟩ := y
    exact ⟨.int (lo + (i : Nat)), by unfold rangeD; rw [List.getElem?_map, List.getElem?_range hi]; rfl, .inl ⟨rfl, .int _⟩⟩
  have e : (rangeD lo n).length = n := by unfold rangeD; simp
  unfold ItOk
  rw [e]
  exact w
def enumD (xs : List D) : List D := xs.zipIdx.map fun p => .tup [.int (p.2 : Nat), p.1]
theorem enumD_get (xs : List D) (i : Nat) : (enumD xs)[i]? = xs[i]?.map fun d => .tup [.int (i : Nat), d] := by
  unfold enumD
  rw [List.getElem?_map, List.getElem?_zipIdx]
  cases xs[i]? with
  | none => rfl
  | some d => simp
theorem it_enum {J : It} {vs : List V} {xs : List D} {P : Hp → Prop} (w : Walk J vs.length P (YPair (fun i => some (.int (i : Nat))) (fun i => vs[i]?))) (hp : ∀ H, Ex G H → P H) (h2 : Rps K G vs xs) : ItOk K G J (enumD xs) := by
  have w := w.mono (G' := fun H => Ex G H) (Y' := fun i H x H' => ∃ d, (enumD xs)[i]? = some d ∧ ItemY K G d H x H') hp fun i H x H' hi e y => by
    obtain ⟨T, a, b, rfl, h3, h4, h5, h6⟩ := y
    cases h5
    obtain ⟨d, e2, r⟩ := h2.getV h6
    exact ⟨.tup [.int (i : Nat), d], by rw [enumD_get, e2]; rfl, .inr ⟨T, _, _, rfl, rfl, h3, h4, .cons (.int _) (.one r)⟩⟩
  have e : (enumD xs).length = vs.length := by unfold enumD; simp [h2.len]
  unfold ItOk
  rw [e]
  exact w
end
/-- walked as it stands; from here on it stays -/
def iSeq (f : Fe) : Fi := fun ρ => match dFr f ρ with
  | some (.lst xs, ρ1) => some (xs, ρ1)
  | _ => none
def iTupD (f : Fe) : Fi := fun ρ => match dFr f ρ with
  | some (.tup xs, ρ1) => some (xs, ρ1)
  | _ => none
section
variable {X : Cx} {tg e : Expr} {f : Fe}
theorem di_list (h : DE X e f) : DI X tg e (iSeq f) := PI.weak (pi_list (de_fr h)) fun σ H R ⟨G, ρ, xs, ρ', g, q, k⟩ => by
  unfold iSeq at q
  split at q
  · rename_i ys ρ1 q1
    cases q
    refine ⟨G, ρ, _, _, g, q1, fun v G1 H1 A1 R1 => ?_⟩
    cases R1 with
    | lst h1 h2 => exact ⟨_, rfl, ⟨_, SqL.of (A1.good.ex _ _ h1)⟩, k _ G1 H1 A1 (it_list h1 h2)⟩
  · cases q
theorem di_tup (h : DE X e f) : DI X tg e (iTupD f) := PI.weak (pi_tup (de_fr h)) fun σ H R ⟨G, ρ, xs, ρ', g, q, k⟩ => by
  unfold iTupD at q
  split at q
  · rename_i ys ρ1 q1
    cases q
    refine ⟨G, ρ, _, _, g, q1, fun v G1 H1 A1 R1 => ?_⟩
    cases R1 with
    | tup h1 h2 => exact ⟨_, rfl, ⟨_, SqT.of (A1.good.ex _ _ h1)⟩, k _ G1 H1 A1 (it_tup h1 h2)⟩
  · cases q
/-- range(n), range(a, b) -/
def iRange1 (fa : Fa) : Fi := fun ρ => match fa ρ with
  | some ([.fz (.int n)], ρ1) => if n < 4000000000000000000 ∧ -4000000000000000000 ≤ n then some (rangeD 0 n.toNat, ρ1) else none
  | _ => none
def iRange2 (fa : Fa) : Fi := fun ρ => match fa ρ with
  | some ([.fz (.int m), .fz (.int n)], ρ1) => if n < 4000000000000000000 ∧ -4000000000000000000 ≤ n ∧ m < 4000000000000000000 ∧ -4000000000000000000 ≤ m then some (rangeD m (n - m).toNat, ρ1) else none
  | _ => none
theorem di_range1 {a : Expr} {fa : Fa} {p pos : Pos} (hg : Gl X "range") (hm : X.mg "range" = none) (ha : DA X [a] fa) (hs : starEach [a] X.env = [(false, eval a X.env)] := by rfl) : DI X tg (.Call (.Name "range" p) [a] [] pos) (iRange1 fa) :=
  PI.weak (pi_range1 hg hm ha hs) fun σ H R ⟨G, ρ, xs, ρ', g, q, k⟩ => by
    unfold iRange1 at q
    split at q
    · rename_i n ρ1 q1
      split at q
      · rename_i hl
        cases q
        refine ⟨G, ρ, _, _, g, q1, fun vs G1 H1 A1 R1 => ?_⟩
        cases R1 with
        | cons r1 r2 =>
          cases r2
          refine ⟨n, by rw [Rp.of_int r1], by omega, by omega, k _ G1 H1 A1 it_range⟩
      · cases q
    · cases q
theorem di_range2 {a b : Expr} {fa : Fa} {p pos : Pos} (hg : Gl X "range") (hm : X.mg "range" = none) (ha : DA X [a, b] fa) (hs : starEach [a, b] X.env = [(false, eval a X.env), (false, eval b X.env)] := by rfl) (hs2 : starEach [b] X.env = [(false, eval b X.env)] := by rfl) :
    DI X tg (.Call (.Name "range" p) [a, b] [] pos) (iRange2 fa) :=
  PI.weak (pi_range2 hg hm ha hs hs2) fun σ H R ⟨G, ρ, xs, ρ', g, q, k⟩ => by
    unfold iRange2 at q
    split at q
    · rename_i m n ρ1 q1
      split at q
      · rename_i hl
        cases q
        refine ⟨G, ρ, _, _, g, q1, fun vs G1 H1 A1 R1 => ?_⟩
        cases R1 with
        | cons r1 r2 =>
          cases r2 with
          | cons r2 r3 =>
            cases r3
            refine ⟨m, n, by rw [Rp.of_int r1, Rp.of_int r2], ⟨by omega, by omega, by omega, by omega⟩, k _ G1 H1 A1 it_range⟩
      · cases q
    · cases q
def iEnumD (fa : Fa) : Fi := fun ρ => match fa ρ with
  | some ([.fz (.lst xs)], ρ1) => some (enumD xs, ρ1)
  | some ([.fz (.tup xs)], ρ1) => some (enumD xs, ρ1)
  | _ => none
theorem di_enum {fa : Fa} {p pos tpos : Pos} {elts : List Expr} {kk : Nat} (hg : Gl X "enumerate") (hm : X.mg "enumerate" = none) (ha : DA X [e] fa) (hs : starEach [e] X.env = [(false, eval e X.env)] := by rfl) :
    DI X (.Tuple elts kk tpos) (.Call (.Name "enumerate" p) [e] [] pos) (iEnumD fa) := PI.weak (pi_enumA hg hm ha hs) fun σ H R ⟨G, ρ, xs, ρ', g, q, k⟩ => by
  unfold iEnumD at q
  split at q
  · rename_i ys ρ1 q1
    cases q
    refine ⟨G, ρ, _, _, g, q1, fun vs G1 H1 A1 R1 => ?_⟩
    cases R1 with
    | cons r1 r2 =>
      cases r2
      have r1' : Rp X.K G1 _ (.lst ys) := r1
      cases r1' with
      | lst h1 h2 => exact ⟨_, _, rfl, .inl ⟨SqL.of (A1.good.ex _ _ h1), k _ G1 H1 A1 (it_enum walk_enum (fun H e => SqL.of (e _ _ h1)) h2)⟩⟩
  · rename_i ys ρ1 q1
    cases q
    refine ⟨G, ρ, _, _, g, q1, fun vs G1 H1 A1 R1 => ?_⟩
    cases R1 with
    | cons r1 r2 =>
      cases r2
      have r1' : Rp X.K G1 _ (.tup ys) := r1
      cases r1' with
      | tup h1 h2 => exact ⟨_, _, rfl, .inr ⟨SqT.of (A1.good.ex _ _ h1), k _ G1 H1 A1 (it_enum walk_enumT (fun H e => SqT.of (e _ _ h1)) h2)⟩⟩
  · cases q
end
end DL
set_option Elab.async false
set_option linter.all false
set_option maxRecDepth 100000
set_option maxHeartbeats 2000000
namespace DL
open PySem PySem.Spec L2
/-! ### names of the module, -e -/
theorem de_gInt {X : Cx} {x : Str} {i : Int} {t : Tok} {pos : Pos} (hg : Gl X x) (hm : X.mg x = some (.int i t)) (hd : (x == ("__debug__" : Str)) = false := by decide) : DE X (.Name x pos) (eC (.int i)) := de_of_c (pe_glob (v := .int i) hg hm ⟨_, rfl⟩ hd) fun _ => .int i
theorem de_gStr {X : Cx} {x : Str} {i : Str} {t : Tok} {pos : Pos} (hg : Gl X x) (hm : X.mg x = some (.str i t)) (hd : (x == ("__debug__" : Str)) = false := by decide) : DE X (.Name x pos) (eC (.str i)) := de_of_c (pe_glob (v := .str i) hg hm ⟨_, rfl⟩ hd) fun _ => .str i
def dNeg (f : Fe) : Fe := fun ρ => match f ρ with
  | some (.fz (.int i), ρ1) => some (.fz (.int (-i)), ρ1)
  | _ => none
theorem de_neg {X : Cx} {a : Expr} {f : Fe} {pos : Pos} (ha : DE X a f) : DE X (.UnaryOp .USub a pos) (dNeg f) := PE.weak (pe_un un_neg ha) fun σ H Q ⟨G, ρ, z, ρ', g, q, k⟩ => by
  unfold dNeg at q
  split at q
  · rename_i i ρ1 q1
    cases q
    exact ⟨G, ρ, _, _, g, q1, fun v G1 H1 A1 R1 => ⟨i, Rp.of_int R1, k _ G1 H1 A1 (.int _)⟩⟩
  · cases q
/-! ### a list that a slot holds alone -/
def heldL : Option Sl → Option (List D)
  | some (.ow (.l xs)) => some xs
  | some (.rf (.l xs)) => some xs
  | _ => none
def putS (ρ : En) (i : Nat) (m : Mu) : En := match ρ[i]? with
  | some r => ρ.set i (r.put m)
  | none => ρ
theorem heldL_ok {o : Option Sl} {xs : List D} (h : heldL o = some xs) : ∃ r, o = some r ∧ Held r (.l xs) := by
  unfold heldL at h
  split at h
  · cases h; exact ⟨_, rfl, .ow _⟩
  · cases h; exact ⟨_, rfl, .rf _⟩
  · cases h
theorem held_at {K : PySem.W.Frag} {G H : Hp} {σ : L2.St} {ρ : En} {i : Nat} {xs : List D} (g : Good K G H σ ρ) (h : heldL ρ[i]? = some xs) : ∃ p vs, σ[i]? = some (some (.ref p)) ∧ H p = some (.lst vs) ∧ Rps K G vs xs ∧
    (∀ vs' ys, Rps K G vs' ys → Aft K G H σ ρ G (upd H p (.lst vs')) σ (putS ρ i (.l ys))) := by
  obtain ⟨r, e, hh⟩ := heldL_ok h
  have hi : i < σ.length := by
    rw [g.len]
    exact (List.getElem?_eq_some_iff.mp e).1
  have hs : σ[i]? = some σ[i] := List.getElem?_eq_getElem hi
  have s := g.sl i _ _ hs e
  have s' : ∃ p o, σ[i] = some (.ref p) ∧ G p = none ∧ H p = some o ∧ MuOk K G o (.l xs) := by
    cases hh with
    | ow => exact s
    | rf => exact s
  obtain ⟨p, o, e1, e2, e3, e4⟩ := s'
  cases e4 with
  | @l vs _ e4 =>
    rw [e1] at hs
    refine ⟨p, vs, hs, e3, e4, fun vs' ys r' => ?_⟩
    have := Aft.change (o := .lst vs') (m' := .l ys) g hs e hh (.l r')
    unfold putS
    rw [e]
    exact this
/-- by the list and the arguments: the answer, the list behind -/
abbrev Gm := List D → List D → Option (D × List D)
def MtL (K : PySem.W.Frag) (r : V → List V → Hp → VK → Prop) (g : Gm) : Prop := ∀ {G H : Hp} {p : Addr} {vs us : List V} {xs ds : List D} {d : D} {ys : List D} {Q : VK}, Ex G H → H p = some (.lst vs) → Rps K G vs xs → Rps K G us ds → g xs ds = some (d, ys) →
  (∀ v vs', Rp K G v d → Rps K G vs' ys → Q v (upd H p (.lst vs'))) → r (.ref p) us H Q
def dMt (i : Nat) (fa : Fa) (g : Gm) : Fe := fun ρ => match heldL ρ[i]? with
  | none => none
  | some _ => match fa ρ with
    | none => none
    | some (rs, ρ1) => match dsOf rs with
      | none => none
      | some ds => match heldL ρ1[i]? with
        | none => none
        | some xs => match g xs ds with
          | none => none
          | some (d, ys) => some (.fz d, putS ρ1 i (.l ys))
theorem dMt_inv {i : Nat} {fa : Fa} {g : Gm} {ρ ρ' : En} {z : Sl} (e : dMt i fa g ρ = some (z, ρ')) : ∃ xs0 rs ρ1 ds xs d ys, heldL ρ[i]? = some xs0 ∧ fa ρ = some (rs, ρ1) ∧ dsOf rs = some ds ∧ heldL ρ1[i]? = some xs ∧ g xs ds = some (d, ys) ∧ z = .fz d ∧ ρ' = putS ρ1 i (.l ys) := by
  unfold dMt at e
  cases q1 : heldL ρ[i]? with
  | none => simp only [q1] at e; cases e
  | some xs0 =>
    simp only [q1] at e
    cases q2 : fa ρ with
    | none => simp only [q2] at e; cases e
    | some y =>
      obtain ⟨rs, ρ1⟩ := y
      simp only [q2] at e
      cases q3 : dsOf rs with
      | none => simp only [q3] at e; cases e
      | some ds =>
        simp only [q3] at e
        cases q4 : heldL ρ1[i]? with
        | none => simp only [q4] at e; cases e
        | some xs =>
          simp only [q4] at e
          cases q5 : g xs ds with
          | none => simp only [q5] at e; cases e
          | some y =>
            obtain ⟨d, ys⟩ := y
            simp only [q5] at e
            cases e
            exact ⟨_, _, _, _, _, _, _, rfl, rfl, q3, q4, q5, rfl, rfl⟩
section
variable {X : Cx} {o e : Expr} {es : List Expr} {fa : Fa} {name : Str} {apos cpos : Pos} {id : String} {r : V → List V → Hp → VK → Prop} {g : Gm} {i : Nat}
theorem de_mt (slot : Slot "list" name id) (hty : typeOf (.builtin id) = pure (.type "method_descriptor")) (hm : MtR X id r) (hg : MtL X.K r g) (ho : PE X o (tVar i)) (ha : DA X (e :: es) fa)
    (hbase : attributeBase o name X.env (eval o X.env) = eval o X.env := by rfl)
    (hfew : ((backTo cpos (starEach (e :: es) X.env)).all (fun x => !x.1) && (backToKw cpos (keywordEach [] X.env)).all (fun x => x.1.isSome)
      && decide ((e :: es).length + ([] : List Keyword).length + (if ([] : List Keyword).isEmpty then 0 else 1) < 30)) = true := by rfl)
    (hline : (apos.endLine == cpos.line) = true := by rfl) (hs : starEach (e :: es) X.env = (false, eval e X.env) :: starEach es X.env := by rfl) (hplain : (backTo cpos (starEach es X.env)).any (·.1) = false := by rfl) :
    DE X (.Call (.Attribute o name apos) (e :: es) [] cpos) (dMt i fa g) :=
  PE.weak (pe_bm F.plainAttrs_list slot hty hm ho ha hbase hfew hline hs hplain) fun σ H Q ⟨G, ρ, z, ρ', gd, q, k⟩ => by
    obtain ⟨xs0, rs, ρ1, ds, xs, d, ys, q1, q2, q3, q4, q5, rfl, rfl⟩ := dMt_inv q
    obtain ⟨p, vs0, e1, e2, e3, _⟩ := held_at gd q1
    refine ⟨.ref p, e1, .inl ⟨rfl, _, SqL.of e2⟩, G, ρ, rs, ρ1, gd, q2, fun us G1 H1 A1 R1 => ?_⟩
    obtain ⟨p', vs, e4, e5, e6, A2⟩ := held_at A1.good q4
    rw [e1] at e4
    cases e4
    exact hg A1.good.ex e5 e6 (dsOf_ok R1 q3) q5 fun v vs' rv rvs => k v G1 _ (A1.trans (A2 vs' ys rvs)) rv
theorem de_mt0 (slot : Slot "list" name id) (hty : typeOf (.builtin id) = pure (.type "method_descriptor")) (hm : MtR X id r) (hg : MtL X.K r g) (ho : PE X o (tVar i))
    (hbase : attributeBase o name X.env (eval o X.env) = eval o X.env := by rfl) (hline : (apos.endLine == cpos.line) = true := by rfl) :
    DE X (.Call (.Attribute o name apos) [] [] cpos) (dMt i aNil g) :=
  PE.weak (pe_bm0 F.plainAttrs_list slot hty hm ho hbase hline) fun σ H Q ⟨G, ρ, z, ρ', gd, q, k⟩ => by
    obtain ⟨xs0, rs, ρ1, ds, xs, d, ys, q1, q2, q3, q4, q5, rfl, rfl⟩ := dMt_inv q
    cases q2
    cases q3
    obtain ⟨p, vs, e1, e2, e3, A2⟩ := held_at gd q4
    refine ⟨.ref p, e1, .inl ⟨rfl, _, SqL.of e2⟩, ?_⟩
    exact hg gd.ex e2 e3 .nil q5 fun v vs' rv rvs => k v G _ (A2 vs' ys rvs) rv
end
def gApp : Gm := fun xs ds => match ds with
  | [d] => if xs.length ≤ lim then some (.non, xs ++ [d]) else none
  | _ => none
theorem m_app {K : PySem.W.Frag} : MtL K rAppend gApp := fun {G H p vs us xs ds d ys Q} ex h1 h2 h3 e k => by
  unfold gApp at e
  split at e
  · split at e
    · rename_i hl
      cases e
      cases h3 with
      | cons a b =>
        cases b
        exact ⟨p, vs, _, rfl, rfl, h1, by rw [h2.len]; exact lim_lt hl, k _ _ .non (h2.app (.one a))⟩
    · cases e
  · cases e
def gPop : Gm := fun xs ds => match ds with
  | [] => match xs[xs.length - 1]? with
    | some d => some (d, xs.dropLast)
    | none => none
  | _ => none
theorem m_pop {K : PySem.W.Frag} : MtL K rPop gPop := fun {G H p vs us xs ds d ys Q} ex h1 h2 h3 e k => by
  unfold gPop at e
  split at e
  · split at e
    · rename_i d' q
      cases e
      cases h3
      obtain ⟨v, q', r⟩ := h2.get q
      exact ⟨p, vs, v, rfl, rfl, h1, by rw [h2.len]; exact q', k _ _ r h2.dropLast⟩
    · cases e
  · cases e
def gPopAt : Gm := fun xs ds => match ds with
  | [.int i] => if -(2 ^ 63) ≤ i ∧ i < 2 ^ 63 then (match seqIndex? i xs.length with
    | some k => match xs[k]? with
      | some d => some (d, xs.eraseIdx k)
      | none => none
    | none => none) else none
  | _ => none
theorem m_popAt {K : PySem.W.Frag} : MtL K rPopAt gPopAt := fun {G H p vs us xs ds d ys Q} ex h1 h2 h3 e k => by
  unfold gPopAt at e
  split at e
  · rename_i i
    split at e
    · rename_i hl
      cases q1 : seqIndex? i xs.length with
      | none => simp only [q1] at e; cases e
      | some j =>
        simp only [q1] at e
        cases q2 : xs[j]? with
        | none => simp only [q2] at e; cases e
        | some d' =>
          simp only [q2] at e
          cases e
          cases h3 with
          | cons a b =>
            cases b
            obtain ⟨v, q', r⟩ := h2.get q2
            exact ⟨p, vs, i, j, v, rfl, by rw [a.of_int], h1, hl.1, hl.2, by rw [h2.len]; exact q1, q', k _ _ r (h2.erase j)⟩
    · cases e
  · cases e
/-! ### xs[i] = e -/
def bSetIx (i : Nat) (fi fe : Fe) : Fs := fun ρ => match dFr fe ρ with
  | none => none
  | some (d, ρ1) => match heldL ρ1[i]? with
    | none => none
    | some _ => match fi ρ1 with
      | some (.fz (.int k), ρ2) => match heldL ρ2[i]? with
        | none => none
        | some xs => match ixN xs.length k with
          | none => none
          | some j => some (.nx, putS ρ2 i (.l (xs.set j d)))
      | _ => none
section
variable {X : Cx} {E : XK} {o e ix : Expr} {fi fe : Fe} {i : Nat} {pos spos : Pos}
theorem ds_setIx (he : DE X e fe) (ho : PE X o (tVar i)) (hi : DE X ix fi)
    (ha : ∀ v, assign (.Subscript o ix spos) X.env v = (do
      let ov ← holding [v] (eval o X.env)
      let iv ← holding [v, ov] (eval ix X.env)
      standAt spos
      holding [v, ov, iv] (setItem ov iv v)
      release [v, ov, iv] []) := by intro _; rfl)
    (hs : swapsWithSole [.Subscript o ix spos] e pos.line X.env = pure false := by rfl) (hw : swappedStores [.Subscript o ix spos] e X.env = pure none := by rfl)
    (h1 : (assignEach [.Subscript o ix spos] X.env).map (·.2) = [assign (.Subscript o ix spos) X.env] := by rfl) : DS X E (.Assign [.Subscript o ix spos] e pos) (bSetIx i fi fe) :=
  PS.weak (ps_asg (de_fr he) (pg_sub ho hi set_list ha) hs hw h1) fun D σ H ⟨G, ρ, fl, ρ', g, q, k⟩ => by
    unfold bSetIx at q
    cases q1 : dFr fe ρ with
    | none => simp only [q1] at q; cases q
    | some y =>
      obtain ⟨d, ρ1⟩ := y
      simp only [q1] at q
      cases q2 : heldL ρ1[i]? with
      | none => simp only [q2] at q; cases q
      | some xs0 =>
        simp only [q2] at q
        split at q
        · rename_i kk ρ2 q3
          cases q4 : heldL ρ2[i]? with
          | none => simp only [q4] at q; cases q
          | some xs =>
            simp only [q4] at q
            cases q5 : ixN xs.length kk with
            | none => simp only [q5] at q; cases q
            | some j =>
              simp only [q5] at q
              cases q
              refine ⟨G, ρ, d, ρ1, g, q1, fun v G1 H1 A1 R1 => ?_⟩
              obtain ⟨p, vs0, e1, e2, e3, _⟩ := held_at A1.good q2
              refine ⟨.ref p, e1, G1, ρ1, _, ρ2, A1.good, q3, fun u G2 H2 A2 R2 => ?_⟩
              obtain ⟨p', vs, e4, e5, e6, A3⟩ := held_at A2.good q4
              rw [e1] at e4
              cases e4
              refine ⟨p, vs, kk, j, rfl, Rp.of_int R2, e5, by rw [e6.len]; exact q5, ?_⟩
              have A := (A1.trans A2).trans (A3 (vs.set j v) (xs.set j d) (e6.set (R1.up A2.ex) j))
              exact k σ G2 _ A
        · cases q
end
/-! ### x += e of ints -/
def bAug (i : Nat) (h : Int → Int → Int) (f : Fe) : Fs := fun ρ => match ρ[i]? with
  | some (.fz (.int a)) => match f ρ with
    | some (.fz (.int b), ρ1) => if notRf ρ1 i then some (.nx, ρ1.set i (.fz (.int (h a b)))) else none
    | _ => none
  | _ => none
theorem ds_aug {X : Cx} {E : XK} {i : Nat} {x : Str} {e : Expr} {f : Fe} {op : Operator} {h : Int → Int → Int} {pos pos' : Pos} (hN : X.N.Nodup) (hi : X.N[i]? = some x) (hx : Loc X.env.scope x) (he : DE X e f) (ho : PIp X op (ipI h)) (hf : X.fn x = true ∨ X.env.scope.names.lookup x = some .local := by first | exact .inl rfl | exact .inr rfl | assumption)
    (ht : ∀ (t : TE) (pe : PE X e t), PS X (.AugAssign (.Name x pos') op e pos) (tAug i t (ipI h)) := by intro t pe; exact ps_aug (by assumption) (by assumption) (by assumption) pe (by assumption)) :
    DS X E (.AugAssign (.Name x pos') op e pos) (bAug i h f) := PS.weak (ht _ he) fun D σ H ⟨G, ρ, fl, ρ', g, q, k⟩ => by
  unfold bAug at q
  split at q
  · rename_i a q0
    split at q
    · rename_i b ρ1 q1
      split at q
      · rename_i n
        cases q
        have hi : i < σ.length := by
          rw [g.len]
          exact (List.getElem?_eq_some_iff.mp q0).1
        have hs : σ[i]? = some σ[i] := List.getElem?_eq_getElem hi
        obtain ⟨v, e1, e2⟩ := g.sl i _ _ hs q0
        refine ⟨.int a, by rw [hs, e1, e2.of_int], G, ρ, _, ρ1, g, q1, fun u G1 H1 A1 R1 => ?_⟩
        refine ⟨a, b, rfl, Rp.of_int R1, ?_⟩
        exact k _ G1 H1 (A1.store ⟨_, rfl, .int _⟩ (fun p h1 h2 => by cases h1) n)
      · cases q
    · cases q
  · cases q
/-! ### texts -/
def strsOf : List D → Option (List Str)
  | [] => some []
  | .str i :: r => (strsOf r).map (i :: ·)
  | _ => none
theorem strsOf_eq : ∀ {ds : List D} {ns : List Str}, strsOf ds = some ns → ds = ns.map .str
  | [], _, h => by cases h; rfl
  | d :: ds, ns, h => by
    cases d with
    | str i =>
      have h' : (strsOf ds).map (i :: ·) = some ns := h
      cases q : strsOf ds with
      | none => rw [q] at h'; cases h'
      | some ms =>
        rw [q] at h'
        cases h'
        rw [strsOf_eq q]
        rfl
    | _ => cases h
theorem strsOf_map (ns : List Str) : strsOf (ns.map .str) = some ns := by
  induction ns with
  | nil => rfl
  | cons n ns ih =>
    show (strsOf (ns.map .str)).map (n :: ·) = _
    rw [ih]
    rfl
def joinOk (a : Str) (ys : List Str) : Option Sl := if (ys.map (·.length)).sum + ys.length * a.length ≤ 1000000 then some (.fz (.str (Txt.join a ys))) else none
def gJoin : D → D → Option Sl
  | .str a, .lst xs => (strsOf xs).bind (joinOk a)
  | .str a, .tup xs => (strsOf xs).bind (joinOk a)
  | _, _ => none
def gSplit : D → D → Option Sl
  | .str a, .str b => if (b.length == 0) = false ∧ a.length ≤ lim then some (.ow (.l ((Txt.split a b).map .str))) else none
  | _, _ => none
def gPart : D → D → Option Sl
  | .str a, .str b => if (b.length == 0) = false ∧ a.length ≤ lim then some (.fz (.tup [.str (Txt.partition a b).1, .str (Txt.partition a b).2.1, .str (Txt.partition a b).2.2])) else none
  | _, _ => none
section
variable {X : Cx} {o e : Expr} {fo fe : Fe} {apos pos : Pos}
/-- a text's method of one argument -/
def dM1 (gg : D → D → Option Sl) (fo fe : Fe) : Fe := fun ρ => match fo ρ with
  | some (.fz (.str a), ρ1) => match fe ρ1 with
    | some (rb, ρ2) => match rd ρ2 rb with
      | some d => match gg (.str a) d with
        | some z => some (z, ρ2)
        | none => none
      | none => none
    | none => none
  | _ => none
theorem m1_of {K : PySem.W.Frag} {r : V → List V → Hp → VK → Prop} {gg : D → D → Option Sl}
    (hr : ∀ {G H : Hp} {σ : L2.St} {ρ : En} {a : Str} {y : V} {e : D} {z : Sl} {Q : VK}, Good K G H σ ρ → Vw K G H y e → gg (.str a) e = some z → (∀ v G' H', Aft K G H σ ρ G' H' σ ρ → ROk K H G' H' σ ρ v z → Q v H') → r (.str a) [y] H Q) :
    ∀ σ H Q, teOf K (dM1 gg fo fe) σ H Q → tM1 r (teOf K fo) (teOf K fe) σ H Q := fun σ H Q ⟨G, ρ, z, ρ', gd, q, k⟩ => by
  unfold dM1 at q
  split at q
  · rename_i a ρ1 q1
    cases q2 : fe ρ1 with
    | none => simp only [q2] at q; cases q
    | some y =>
      obtain ⟨rb, ρ2⟩ := y
      simp only [q2] at q
      cases q3 : rd ρ2 rb with
      | none => simp only [q3] at q; cases q
      | some d =>
        simp only [q3] at q
        cases q4 : gg (.str a) d with
        | none => simp only [q4] at q; cases q
        | some w =>
          simp only [q4] at q
          cases q
          refine ⟨G, ρ, _, ρ1, gd, q1, fun va G1 H1 A1 R1 => ?_⟩
          rw [Rp.of_str R1]
          refine ⟨⟨a, rfl⟩, G1, ρ1, rb, _, A1.good, q2, fun vb G2 H2 A2 R2 => ?_⟩
          refine hr A2.good (rd_ok A2.good R2 q3) q4 fun v G3 H3 A3 R3 => ?_
          exact k v G3 H3 ((A1.trans A2).trans A3) (R3.start (A1.trans A2).dom)
  · cases q
theorem de_join (ho : DE X o fo) (he : DE X e fe) (hs : starEach [e] X.env = [(false, eval e X.env)] := by rfl) (hbase : attributeBase o "join" X.env (eval o X.env) = eval o X.env := by rfl) (hline : (apos.endLine == pos.line) = true := by rfl) :
    DE X (.Call (.Attribute o "join" apos) [e] [] pos) (dM1 gJoin fo fe) := PE.weak (pe_join ho he hs hbase hline) (m1_of fun {G H σ ρ a y d z Q} g hy hg k => by
  unfold gJoin at hg
  split at hg
  · rename_i b xs e1
    cases e1
    cases q : strsOf xs with
    | none => rw [q] at hg; cases hg
    | some ys =>
      rw [q] at hg
      replace hg : joinOk a ys = some z := hg
      unfold joinOk at hg
      split at hg
      · rename_i hl
        cases hg
        have e := strsOf_eq q
        subst e
        obtain ⟨p, vs, rfl, h1, h2⟩ := hy.lst g.ex
        rw [h2.strs] at h1
        exact ⟨a, p, ys, rfl, rfl, .inl (SqL.of h1), by omega, give g (.str _) k⟩
      · cases hg
  · rename_i b xs e1
    cases e1
    cases q : strsOf xs with
    | none => rw [q] at hg; cases hg
    | some ys =>
      rw [q] at hg
      replace hg : joinOk a ys = some z := hg
      unfold joinOk at hg
      split at hg
      · rename_i hl
        cases hg
        have e := strsOf_eq q
        subst e
        obtain ⟨p, vs, rfl, h0, h1, h2⟩ := hy.tup g.ex
        rw [h2.strs] at h1
        exact ⟨a, p, ys, rfl, rfl, .inr (SqT.of h1), by omega, give g (.str _) k⟩
      · cases hg
  · cases hg)
theorem de_split (ho : DE X o fo) (he : DE X e fe) (hs : starEach [e] X.env = [(false, eval e X.env)] := by rfl) (hbase : attributeBase o "split" X.env (eval o X.env) = eval o X.env := by rfl) (hline : (apos.endLine == pos.line) = true := by rfl) :
    DE X (.Call (.Attribute o "split" apos) [e] [] pos) (dM1 gSplit fo fe) := PE.weak (pe_split ho he hs hbase hline) (m1_of fun {G H σ ρ a y d z Q} g hy hg k => by
  unfold gSplit at hg
  split at hg
  · rename_i b c e1
    cases e1
    split at hg
    · rename_i hl
      cases hg
      refine ⟨a, c, rfl, by rw [hy.str], hl.1, Nat.le_trans (Nat.add_le_add_right hl.2 2) (by decide), giveL g Rps.of_strs k⟩
    · cases hg
  · cases hg)
theorem de_part (ho : DE X o fo) (he : DE X e fe) (hs : starEach [e] X.env = [(false, eval e X.env)] := by rfl) (hbase : attributeBase o "partition" X.env (eval o X.env) = eval o X.env := by rfl) (hline : (apos.endLine == pos.line) = true := by rfl) :
    DE X (.Call (.Attribute o "partition" apos) [e] [] pos) (dM1 gPart fo fe) := PE.weak (pe_partition ho he hs hbase hline) (m1_of fun {G H σ ρ a y d z Q} g hy hg k => by
  unfold gPart at hg
  split at hg
  · rename_i b c e1
    cases e1
    split at hg
    · rename_i hl
      cases hg
      refine ⟨a, c, rfl, by rw [hy.str], hl.1, lim_le hl.2, giveT g (.cons (.str _) (.cons (.str _) (.one (.str _)))) k⟩
    · cases hg
  · cases hg)
end
end DL
set_option Elab.async false
set_option linter.all false
set_option maxRecDepth 100000
set_option maxHeartbeats 2000000
namespace DL
open PySem PySem.Spec L2
open PyProof.Rows (envOfC)
/-! ### a def's promise where no text of a value is under way -/
structure FnG (P : Program) (w : World) (K : PySem.W.Frag) (mg : Str → Option Value) (b0 : Heap) (k : Nat) (f : Addr) (fd : FuncData) (ps : List Str) (sp : Sp) : Prop where
  len : ∀ xs M R F, sp xs M R F → xs.length = ps.length
  go : ∀ (Z : Around) (up : List Env) (t : Shared) (M : Hp) (gv : Args) (us : List Value) (xs : List V) (R : VK) (F : XK), Z.guards = some [] → Room k Z → Env0 P w K mg b0 Z up t M →
    BindsTo t fd gv (ps.zip us) → Vals xs us → sp xs M R F → codeAny (model P w) Z (.call (.ref f) gv) (CR CX0 up P w M t R F) t
section
variable {P : Program} {w : World} {K : PySem.W.Frag} {mg : Str → Option Value} {b0 : Heap} {k : Nat} {f : Addr}
theorem FnG.imp {fd : FuncData} {ps : List Str} {sp sp' : Sp} (G : FnG P w K mg b0 k f fd ps sp) (h : ∀ xs M R F, sp' xs M R F → sp xs M R F) : FnG P w K mg b0 k f fd ps sp' :=
  ⟨fun xs M R F q => G.len xs M R F (h _ _ _ _ q), fun Z up t M gv us xs R F g r e b v q => G.go Z up t M gv us xs R F g r e b v (h _ _ _ _ q)⟩
/-- a def by its body -/
theorem fnG_of {nm qn : Str} {pr : Arguments} {bd : List Stmt} {sc : Scope} {dV kV doc pm cv ct oc : Value} {an od : Option Addr} {os : Array (Option Value)} {N ps : List Str} {sp : Sp}
    (look : K.lookup f = some ⟨oc, od, .func (PySem.W.fnOf nm qn pr bd sc dV kV doc pm an cv ct), os⟩) (code : PySem.W.codeIn K cv qn = true) (S : FnScope N ps sc) (len : ∀ xs M R F, sp xs M R F → xs.length = ps.length)
    (body : ∀ (Z : Around) (up : List Env) (t : Shared) (M : Hp) (xs : List V) (R : VK) (F : XK), Z.guards = some [] → Room k (Z.deeper (envOfC qn sc t.heap.objs.size f cv)) → sp xs M R F →
      ∃ T, PSs (cxOf CX0 P w K mg b0 N qn sc f cv Z up t M F) bd T ∧ T { nx := fun _ M' => R .non M', rt := R } (start N xs) M) :
    FnG P w K mg b0 (k + 1) f (PySem.W.fnOf nm qn pr bd sc dV kV doc pm an cv ct) ps sp := by
  constructor
  · exact len
  intro Z up t M gv us xs R F guard room e0 binds vals hsp
  have inHeap : K.In t.heap := e0.mod.kin.keeps fun a o q => (e0.bs a o q).1
  have noLim : t.heap.NoLimit := e0.mod.nolimit.keeps fun a o q => (e0.bs a o q).1
  have xl := len _ _ _ _ hsp
  have kinds : ∀ z ∈ ps.zip us, sc.names.lookup z.1 = some .local ∨ (sc.names.lookup z.1 = some .cell ∧ ((cellsFrom (t.heap.objs.size + 1) sc.names []).lookup z.1).isSome = true) := by
    rintro ⟨n, v⟩ hz
    rcases S.par n (List.of_mem_zip hz).1 with p | p
    · exact .inl p
    · exact .inr ⟨p, PySem.W.cellsFrom_some _ _ _ (.inl p)⟩
  apply codeAny_call_function room.depth (inHeap _ _ look) rfl S.co S.gen rfl (PySem.W.codeRec_of inHeap code)
  apply binds
  apply wpAny_newFunctionEnv_cells S.kind kinds
  rintro env rfl t1 x
  refine ⟨noLim.keeps x.toInCall.keep, codeAny_func ?_⟩
  obtain ⟨T, hT, hq⟩ := body Z up t M xs R F guard (room.deeper _) hsp
  have J : Inv (cxOf CX0 P w K mg b0 N qn sc f cv Z up t M F) [] (start N xs) M t1 := inv_start S room.hd e0 xl vals x
  apply wpAny_mono (hT.run [] t1 (start N xs) M _ J hq)
  · intro fl t2 hs
    cases fl with
    | brk => exact (hs.elim fun _ z => z.elim fun _ z => z.2.elim : False).elim
    | cont => exact (hs.elim fun _ z => z.elim fun _ z => z.2.elim : False).elim
    | next =>
      obtain ⟨s2, M2, J2, q⟩ := hs
      exact ⟨.non, M2, J2.os, J2.bare, J2.base, J2.hok, rfl, q⟩
    | ret u =>
      obtain ⟨v, s2, M2, J2, rv, q⟩ := hs
      exact ⟨v, M2, J2.os, J2.bare, J2.base, J2.hok, rv, q⟩
  · intro e t2 hs
    exact hs
end
section
variable {X : Cx} {k : Nat} {f : Addr} {fd : FuncData} {ps : List Str} {sp : Sp} {x : Str} {p pos : Pos} {e : Expr} {es : List Expr} {t : TA} {F : XK}
/-- a call of such a def, all its arguments by place -/
theorem pe_callG (G : FnG X.prog X.w X.K X.mg X.base k f fd ps sp) (gd : X.A.guards = some []) (hr : Room k X.A) (hg : Gl X x) (hm : X.mg x = some (.ref f)) (hk : PySem.W.keepIn X.K (.ref f) = true) (hb : Binds X.K fd ps []) (hx : Passes CX0 X F)
    (ha : PA X (e :: es) t) (hdb : (x == ("__debug__" : Str)) = false := by decide) (he : starEach (e :: es) X.env = (false, eval e X.env) :: starEach es X.env := by rfl) (hpl : (backTo pos (starEach es X.env)).any (·.1) = false := by rfl) :
    PE X (.Call (.Name x p) (e :: es) [] pos) (tCall sp [] F t) := by
  constructor
  intro pins s σ M R I q
  apply wpAny_Call_Name_kw (ld_glob I hg hm ?_ hdb)
  refine PySem.W.callWith_K (h₀ := X.base) I.ok.mod.kin hk (thn (ha.run pos pins s σ M _ I q) fun us s1 ⟨vs, M1, I1, r, q1⟩ => ⟨I1.kIn, ?_⟩) he hpl
  replace q1 : sp vs M1 R F := by simpa using q1
  have ln : us.length = ps.length := r.length.symm.trans (G.len _ _ _ _ q1)
  have bd := hb s1 us I1.kIn (by rw [List.append_nil]; exact ln)
  rw [List.append_nil] at bd
  apply wpAny_call
  apply codeAny_mono (G.go X.A X.stack s1 M1 ⟨us, []⟩ us vs R F gd hr I1.env0 bd r q1)
  intro res s2 h2
  cases res with
  | error er => exact hx pins σ M1 s1 er s2 I1 h2
  | ok fl =>
    cases fl with
    | next => cases h2
    | brk => cases h2
    | cont => cases h2
    | ret u => exact I1.after h2
end
/-! ### the law, called by the row -/
theorem law_go {P : Program} {w : World} {K : PySem.W.Frag} {mg mb : Str → Option Value} {k : Nat} {f a : Addr} {fd : FuncData} {x : Str} {sp : Sp} {t : Shared} {us : List Value} {ns : List Int}
    (inK : K.In t.heap) (gl : t.heap.Ns mainGlobals mg) (bl : t.heap.Ns builtinsNs mb) (bb : ∀ y : Str, y ≠ "__name__" → mb y = bootBuiltins y) (nl : t.heap.NoLimit) (gens : t.gens = #[])
    (obj : t.heap.get? a = some { cls := .type "list", data := .seq us.toArray }) (hints : PyProof.Rows.IntsAre us ns) (short : ns.length ≤ sizeLine) (room : Room k callerA)
    (G : ∀ b0 : Heap, K.In b0 → b0.Ns mainGlobals mg → FnG P w K mg b0 k f fd [x] sp) (binds : ∀ (s : Shared) (u : Value), BindsTo s fd ⟨[u], []⟩ [(x, u)])
    (keeps : ∀ M : Hp, Only M → SqL K M a (ns.map V.int) → sp [.ref a] M (fun v _ => v = .bl true) fun _ _ _ => False) :
    codeAny (model P w) callerA (.call (.ref f) ⟨[.ref a], []⟩) (fun r s => r = .ok (.ret (.bool true)) ∧ PySem.OldK t.heap s.heap ∧ s.os = t.os ∧ PyProof.Rows.AllBare s.gens) t := by
  have rv := vals_ints hints
  -- at most the script is tracked
  have main : ∀ M : Hp, Only M → SqL K M a (ns.map V.int) → HOk P w M t.heap → (∀ c, M c ≠ none → c = a) → (M a ≠ none → K.lookup a = none) →
      codeAny (model P w) callerA (.call (.ref f) ⟨[.ref a], []⟩) (fun r s => r = .ok (.ret (.bool true)) ∧ PySem.OldK t.heap s.heap ∧ s.os = t.os ∧ PyProof.Rows.AllBare s.gens) t := by
    intro M only sq hok onlyA noK
    have hide : ∀ {c : Addr} {o : Obj}, t.heap.get? c = some o → M c = none → (hidT t.heap M).get? c = some o := fun g n => hidT_get g n
    have free : ∀ {c : Addr} {o : Obj}, t.heap.get? c = some o → c ≠ a → M c = none := fun {c o} _ ne => by
      cases q : M c with
      | none => rfl
      | some u => exact absurd (onlyA c (by rw [q]; exact nofun)) ne
    have dictFree : ∀ {c : Addr} {o : Obj} {es : Array DictEntry} {n : Nat}, t.heap.get? c = some o → o.data = .dict es n → M c = none := fun {c o es n} g d => by
      refine free g fun e => ?_
      subst e
      rw [obj] at g
      cases g
      cases d
    have ns' : ∀ {c : Addr} {m : Str → Option Value}, t.heap.Ns c m → (hidT t.heap M).Ns c m := by
      rintro c m ⟨o, es, n, g, d, r⟩
      exact ⟨o, es, n, hide g (dictFree g d), d, r⟩
    have inK' : K.In (hidT t.heap M) := fun c o e => by
      refine hide (inK c o e) ?_
      by_cases ca : c = a
      · subst ca
        cases q : M c with
        | none => rfl
        | some u =>
          rw [noK (by rw [q]; exact nofun)] at e
          cases e
      · exact free (inK c o e) ca
    have mod : Mod K mg (hidT t.heap M) := ⟨inK', ns' gl, ⟨mb, ns' bl, bb⟩, nl.elim fun mc z => ⟨mc, ns' z.1, z.2⟩⟩
    have e0 : Env0 P w K mg (hidT t.heap M) callerA [] t M := ⟨rfl, mod, fun c o e => of_hidT e, Nat.le_of_eq (hidT_size _ _), trivial, fun c hc => (nomatch hc), hok, .of_eq gens⟩
    apply codeAny_mono ((G _ inK' (ns' gl)).go callerA [] t M ⟨[.ref a], []⟩ [.ref a] [.ref a] _ _ rfl room e0 (binds t (.ref a)) (.cons rfl .nil) (keeps M only sq))
    intro r s h
    cases r with
    | error e => exact (by simpa [CR, CX0] using h : False).elim
    | ok fl =>
      cases fl with
      | next => cases h
      | brk => cases h
      | cont => cases h
      | ret u =>
        obtain ⟨v, M', os, bare, un, hok', rel, q⟩ := h
        cases q
        cases rel
        refine ⟨rfl, OldK.of_keep fun c o e => ?_, os, bare⟩
        rcases only c with z | ⟨ob, zs, z⟩
        · exact un.keep c o e z (fun y => nomatch y) (fun y => nomatch y)
        · obtain ⟨g1, _⟩ := hok c _ z
          obtain ⟨g2, _⟩ := hok' c _ (un.frzs c ob _ z)
          rw [e] at g1
          cases g1
          exact g2
  cases hk : K.lookup a with
  | some o =>
    have g := inK a o hk
    rw [obj] at g
    cases g
    exact main (fun _ => none) (fun _ => .inl rfl) (.inr ⟨_, us.toArray, _, hk, rfl, rfl, rfl, by rw [List.size_toArray, hints.length]; exact short, by simpa using rv⟩) (fun c u z => nomatch z) (fun c z => absurd rfl z) fun z => absurd rfl z
  | none =>
    let ob : Obj := { cls := .type "list", data := .seq us.toArray }
    have at_ : ∀ {c : Addr} {u : HO}, (if c = a then some (HO.frz ob (.lst (ns.map V.int))) else none) = some u → c = a ∧ u = .frz ob (.lst (ns.map V.int)) := fun {c u} z => by
      split at z
      · rename_i h
        exact ⟨h, (Option.some.inj z).symm⟩
      · cases z
    refine main (fun c => if c = a then some (.frz ob (.lst (ns.map V.int))) else none) (fun c => ?_) (.inl (.inr ⟨ob, if_pos rfl⟩)) (fun c u z => ?_) (fun c z => ?_) fun _ => hk
    · show (if c = a then _ else none) = none ∨ ∃ o zs, (if c = a then _ else none) = _
      split
      · exact .inr ⟨_, _, rfl⟩
      · exact .inl rfl
    · obtain ⟨rfl, rfl⟩ := at_ z
      exact ⟨obj, by rw [List.length_map]; exact short, us, _, rv, obj⟩
    · cases q : (if c = a then some (HO.frz ob (.lst (ns.map V.int))) else none) with
      | none => exact absurd q z
      | some u => exact (at_ q).1
theorem walk_go {l : PySem.W.OpenLaw} {n k : Nat} {q : Program} {loose : List Str} {XP : (Str → Option Value) → Heap → Prop} {YP : World → Heap → Prop} {d : DefRec} {x : Str}
    (most : l.most = some n) (small : n ≤ sizeLine) (nodef : d.params.defaults = []) (room : Room k callerA)
    (facts : ∀ (w : World) (mg : Str → Option Value) (f : Addr) (h : Heap), YP w h → h.Ns mainGlobals mg → mg d.name = some (.ref f) →
      ∃ (K : PySem.W.Frag) (fd : FuncData) (sp : Sp), K.In h ∧ (∀ (s : Shared) (u : Value), BindsTo s fd ⟨[u], []⟩ [(x, u)]) ∧
        (∀ (M : Hp) (a : Addr) (ns : List Int), ns.length ≤ n → Only M → SqL K M a (ns.map V.int) → sp [.ref a] M (fun v _ => v = .bl true) fun _ _ _ => False) ∧
        ∀ b0 : Heap, K.In b0 → b0.Ns mainGlobals mg → FnG l.prog w K mg b0 k f fd [x] sp) :
    PySem.W.WalkO q loose XP YP l.row.toRowW d [] (fun f vs => PySem.call f vs) := by
  apply Att.attach_call most nodef
  intro w s0 s1 mg mb f o pm cd doc a us ns G Y ho hd code named obj hints len gens
  obtain ⟨K, fd, sp, inK, binds, keeps, fg⟩ := facts w mg f _ Y G.T.g named
  exact law_go inK G.T.g G.T.b G.T.builtins G.T.nolimit gens obj hints (Nat.le_trans len small) room fg binds fun M o sq => keeps M a ns len o sq
end DL
set_option Elab.async false
set_option linter.all false
set_option maxRecDepth 100000
set_option maxHeartbeats 2000000
namespace DL
open PySem PySem.Spec L2
open PyProof.Rows (envOfC)
/-! ### a op b op c -/
def dChain (g1 g2 : D → D → Option Sl) (fa fb fc : Fe) : Fe := fun ρ => match fa ρ with
  | none => none
  | some (ra, ρ1) => match fb ρ1 with
    | none => none
    | some (rb, ρ2) => match rd ρ2 ra, rd ρ2 rb with
      | some d, some e => match g1 d e with
        | some (.fz (.bl true)) => (match fc ρ2 with
          | none => none
          | some (rc, ρ3) => match rd ρ3 rb, rd ρ3 rc with
            | some e, some w => match g2 e w with
              | some z => some (z, ρ3)
              | none => none
            | _, _ => none)
        | some (.fz (.bl false)) => some (.fz (.bl false), ρ2)
        | _ => none
      | _, _ => none
section
variable {X : Cx} {a b c : Expr} {fa fb fc : Fe} {pos : Pos}
theorem tChain_of {K : PySem.W.Frag} {r r' : R2} {g1 g2 : D → D → Option Sl} (h1 : Op2 K r g1) (h2 : Op2 K r' g2) : ∀ σ H Q, teOf K (dChain g1 g2 fa fb fc) σ H Q → tChain r r' (teOf K fa) (teOf K fb) (teOf K fc) σ H Q := fun σ H Q ⟨G, ρ, z, ρ', gd, e, k⟩ => by
  unfold dChain at e
  split at e
  · cases e
  rename_i ra ρ1 q1
  split at e
  · cases e
  rename_i rb ρ2 q2
  split at e
  · rename_i da db q3 q4
    split at e
    · rename_i q5
      split at e
      · cases e
      rename_i rc ρ3 q6
      split at e
      · rename_i eb ec q7 q8
        split at e
        · rename_i y q9
          cases e
          refine ⟨G, ρ, ra, ρ1, gd, q1, fun va G1 H1 A1 R1 => ⟨G1, ρ1, rb, _, A1.good, q2, fun vb G2 H2 A2 R2 => ?_⟩⟩
          refine h1 A2.good (rd_ok A2.good (R1.aft A2) q3) (rd_ok A2.good R2 q4) q5 fun v G3 H3 A3 R3 => ⟨true, Rp.of_bl R3, iteT ⟨G3, ρ2, rc, _, A3.good, q6, fun vc G4 H4 A4 R4 => ?_⟩⟩
          refine h2 A4.good (rd_ok A4.good ((R2.aft A3).aft A4) q7) (rd_ok A4.good R4 q8) q9 fun v G5 H5 A5 R5 => ?_
          exact k v G5 H5 ((((A1.trans A2).trans A3).trans A4).trans A5) (R5.start (((A1.trans A2).trans A3).trans A4).dom)
        · cases e
      · cases e
    · rename_i q5
      cases e
      refine ⟨G, ρ, ra, ρ1, gd, q1, fun va G1 H1 A1 R1 => ⟨G1, ρ1, rb, _, A1.good, q2, fun vb G2 H2 A2 R2 => ?_⟩⟩
      refine h1 A2.good (rd_ok A2.good (R1.aft A2) q3) (rd_ok A2.good R2 q4) q5 fun v G3 H3 A3 R3 => ⟨false, Rp.of_bl R3, iteF ?_⟩
      exact k _ G3 H3 ((A1.trans A2).trans A3) (.bl false)
    · cases e
  · cases e
theorem de_chain {op op' : CmpOp} {r r' : R2} {g1 g2 : D → D → Option Sl} (o1 : OpR X (compareOp op) r) (h1 : Op2 X.K r g1) (o2 : OpR X (compareOp op') r') (h2 : Op2 X.K r' g2) (ha : DE X a fa) (hb : DE X b fb) (hc : DE X c fc)
    (hm : lastMarks [op, op'] [b, c] = false := by with_unfolding_all rfl) : DE X (.Compare a [op, op'] [b, c] pos) (dChain g1 g2 fa fb fc) := PE.weak (pe_chain o1 o2 ha hb hc hm) (tChain_of h1 h2)
theorem dt_chain {op op' : CmpOp} {r r' : R2} {g1 g2 : D → D → Option Sl} (o1 : OpR X (compareOp op) r) (h1 : Op2 X.K r g1) (o2 : OpR X (compareOp op') r') (h2 : Op2 X.K r' g2) (ha : DE X a fa) (hb : DE X b fb) (hc : DE X c fc)
    (hm : lastMarks [op, op'] [b, c] = false := by with_unfolding_all rfl) : DT X (.Compare a [op, op'] [b, c] pos) (dTst (dChain g1 g2 fa fb fc)) :=
  PT.weak (pt_chain o1 o2 ha hb hc hm) fun σ H Q q => tTest_mono (tChain_of h1 h2) (tTest_of σ H Q q)
end
/-! ### repr of a list or a tuple -/
def rRepr (K : PySem.W.Frag) (xs : List V) (H : Hp) (Q : VK) : Prop := ∃ a d, xs = [.ref a] ∧ Dp K H (.ref a) d ∧ d.showable = true ∧ d.hasDict = false ∧ d.depth ≤ 64 ∧ d.shown.length ≤ sizeLine ∧ Q (.str d.shown) H
theorem call_reprG {X : Cx} (gd : X.A.guards = some []) (hu : X.A.units + 65 < cLine) : CallR X (.builtin "repr") (rRepr X.K) := by
  intro pins s σ H xs us Q I r h
  obtain ⟨a, d, rfl, hd, h1, h2, h3, h4, q⟩ := h
  obtain ⟨u, rfl, hv⟩ := vals1 r
  cases hv
  obtain ⟨as, rr⟩ := Dp.reads I d _ _ hd rfl
  exact repr_of_reads' rr h1 (PyData.noDict_hsm h2) gd (by omega) (fun b o e => e) (fun h' u tk hk => ⟨.str d.shown, H, I.un (Un.kept hk) (I.hok.kept hk), ⟨_, rfl⟩, q⟩) h4
def D.rok (d : D) : Bool := d.plain && d.py.showable && !d.py.hasDict && decide (d.py.depth ≤ 64) && decide (d.py.shown.length ≤ 16000000)
def gRepr : List D → Option Sl
  | [.lst xs] => if (D.lst xs).rok = true then some (.fz (.str (D.lst xs).py.shown)) else none
  | [.tup xs] => if (D.tup xs).rok = true then some (.fz (.str (D.tup xs).py.shown)) else none
  | _ => none
theorem rok_parts {d : D} (h : d.rok = true) : d.plain = true ∧ d.py.showable = true ∧ d.py.hasDict = false ∧ d.py.depth ≤ 64 ∧ d.py.shown.length ≤ sizeLine := by
  unfold D.rok at h
  simp only [Bool.and_eq_true, Bool.not_eq_true', decide_eq_true_eq] at h
  obtain ⟨⟨⟨⟨h1, h2⟩, h3⟩, h4⟩, h5⟩ := h
  exact ⟨h1, h2, h3, h4, by rw [sizeLine_eq]; omega⟩
theorem c_repr {K : PySem.W.Frag} : Cl K (rRepr K) gRepr := fun {G H σ ρ xs ds z Q} g hx he k => by
  unfold gRepr at he
  split at he
  · split at he
    · rename_i hl
      cases he
      obtain ⟨v, rfl, h⟩ := hx.one
      obtain ⟨h1, h2, h3, h4, h5⟩ := rok_parts hl
      have hr := h.rp g.ex
      obtain ⟨p, vs, rfl, _⟩ := h.lst g.ex
      exact ⟨p, _, rfl, Rp.dp _ _ h1 hr, h2, h3, h4, h5, give g (.str _) k⟩
    · cases he
  · split at he
    · rename_i hl
      cases he
      obtain ⟨v, rfl, h⟩ := hx.one
      obtain ⟨h1, h2, h3, h4, h5⟩ := rok_parts hl
      have hr := h.rp g.ex
      obtain ⟨p, vs, rfl, _⟩ := h.tup g.ex
      exact ⟨p, _, rfl, Rp.dp _ _ h1 hr, h2, h3, h4, h5, give g (.str _) k⟩
    · cases he
  · cases he
end DL
set_option Elab.async false
set_option linter.all false
set_option maxRecDepth 100000
set_option maxHeartbeats 2000000
namespace DL
open PySem PySem.Spec L2
open PyProof.Rows (envOfC)
/-! ### a comprehension of two walks -/
theorem wipe_wipe {σ : L2.St} {vs vs1 : List Nat} (h : ∀ i ∈ vs1, i ∈ vs) : wipe (wipe σ vs1) vs = wipe σ vs :=
  wipe_eq (by rw [wipe_length, wipe_length]) fun i hi => by rw [wipe_out σ i vs hi, wipe_out σ i vs1 fun z => hi (h i z)]
theorem it_gen {J : It} {n : Nat} {G0 : Hp → Prop} {Y : Nat → Hp → V → Hp → Prop} (w : Walk J n G0 Y) {B : V → Hp → (Hp → Prop) → Prop} {H0 : Hp} {Qd : Hp → Prop} (Pv : Nat → Hp → Prop) (h0 : Pv 0 H0) (hG : ∀ i H, i ≤ n → Pv i H → G0 H)
    (hs : ∀ i x H H', i < n → Pv i H → Y i H x H' → B x H' (Pv (i + 1))) (hd : ∀ H, Pv n H → Qd H) :
    ∃ W : Nat → Nat → Hp → Prop, (∃ m, W 0 m H0) ∧ ∀ i m H, W i m H → (J.stop i H ∧ Qd H) ∨ (J.go i H ∧ ∃ Nx : Hp → Prop, (∀ H', Nx H' → ∃ m', m' < m ∧ W (i + 1) m' H') ∧ ∀ x H', J.yld i H x H' → B x H' Nx) := by
  refine ⟨fun i m H => i + m = n ∧ Pv i H, ⟨n, Nat.zero_add n, h0⟩, fun i m H z => ?_⟩
  obtain ⟨hm, p⟩ := z
  have q := hG i H (by omega) p
  rcases Nat.lt_or_ge i n with hlt | hge
  · exact .inr ⟨w.goes i H hlt q, Pv (i + 1), fun H' p' => ⟨m - 1, by omega, by omega, p'⟩, fun x H' y => hs i x H H' hlt p (w.yields i H x H' hlt q y)⟩
  · obtain rfl : i = n := by omega
    exact .inl ⟨w.stops H q, hd H p⟩
/-- the inner walk, from what the list at Dl has already -/
theorem lc_inner {K : PySem.W.Frag} {h : Fg} {ft : Ft} {fe : Fe} {vs S : List Nat} (hS : ∀ i ∈ S, i ∈ vs) {J : It} {xs : List D} {G1 H1 : Hp} {σ : L2.St} {ρ1 ρ2 : En} {Gb Hb : Hp} {σb : L2.St} {ρb : En} {accV0 : List V} {acc0 accE : List D} {Dl : Addr} (g1 : Good K G1 H1 σ ρ1) (hb : Hb Dl = none) (A0 : Aft K Gb Hb σb ρb G1 H1 (wipe σ vs) (wipeD ρ1 vs)) (hr : ∀ i m, i ∈ vs → ρb[i]? ≠ some (.rf m))
    (W : ItOk K G1 J xs) (d0 : G1 Dl = none) (n0 : ¬ OwnA σ ρ1 Dl) (h0 : H1 Dl = some (.lst accV0)) (r0 : Rps K G1 accV0 acc0) (e0 : lcL h ft fe vs xs acc0 (wipeD ρ1 vs) = some (accE, ρ2)) {Qd : Hp → Prop}
    (k : ∀ G2 H2 accV, Aft K Gb Hb σb ρb G2 H2 (wipe σ vs) ρ2 → Ex G1 G2 → G2 Dl = none → ¬ OwnA (wipe σ vs) ρ2 Dl → H2 Dl = some (.lst accV) → Rps K G2 accV accE → Qd H2) :
    ∃ W1 : Nat → Nat → Hp → Prop, (∃ m, W1 0 m H1) ∧ ∀ i m H, W1 i m H → (J.stop i H ∧ Qd H) ∨ (J.go i H ∧ ∃ Nx : Hp → Prop, (∀ H', Nx H' → ∃ m', m' < m ∧ W1 (i + 1) m' H') ∧
      ∀ x H', J.yld i H x H' → tgOf K h S x (wipe σ vs) H' fun σ3 H5 => wipe σ3 vs = wipe σ vs ∧ ttOf K ft σ3 H5 fun b H6 => if b = true then tdOf K (dFr fe) σ3 H6 fun y H7 => ∃ acc, H7 Dl = some (.lst acc) ∧ acc.length < sizeLine ∧ Nx (upd H7 Dl (.lst (acc ++ [y]))) else Nx H6) := by
  have nw0 : ¬ OwnA (wipe σ vs) (wipeD ρ1 vs) Dl := fun ⟨j, oj⟩ => n0 ⟨j, (own_wipe g1.len oj).2⟩
  refine it_gen W (B := fun x H' Nx => tgOf K h S x (wipe σ vs) H' fun σ3 H5 => wipe σ3 vs = wipe σ vs ∧ ttOf K ft σ3 H5 fun b H6 => if b = true then tdOf K (dFr fe) σ3 H6 fun y H7 => ∃ acc, H7 Dl = some (.lst acc) ∧ acc.length < sizeLine ∧ Nx (upd H7 Dl (.lst (acc ++ [y]))) else Nx H6)
    (fun i H2 => ∃ G2 ρ3 accV acc, Aft K Gb Hb σb ρb G2 H2 (wipe σ vs) ρ3 ∧ Ex G1 G2 ∧ G2 Dl = none ∧ ¬ OwnA (wipe σ vs) ρ3 Dl ∧ H2 Dl = some (.lst accV) ∧ Rps K G2 accV acc ∧ lcL h ft fe vs (xs.drop i) acc ρ3 = some (accE, ρ2))
    ⟨G1, wipeD ρ1 vs, accV0, acc0, A0, Same.refl _, d0, nw0, h0, r0, by rw [List.drop_zero]; exact e0⟩
    (fun i H2 _ ⟨G2, ρ3, accV, acc, A2, x2, _⟩ => x2.trans A2.good.ex) ?_ ?_
  · rintro i x H2 H3 hi ⟨G2, ρ3, accV, acc, A2, x2, d2, n2, h2, r2, e2⟩ ⟨d, hd, y⟩
    obtain ⟨G3, A3, R3⟩ := ItemY.take A2.good x2 y
    have hlt : i < xs.length := hi
    have hdr : xs.drop i = d :: xs.drop (i + 1) := by
      rw [List.drop_eq_getElem_cons hlt]
      rw [List.getElem?_eq_getElem hlt] at hd
      cases hd
      rfl
    rw [hdr] at e2
    unfold lcL at e2
    cases q3 : h d ρ3 with
    | none => simp only [q3] at e2; cases e2
    | some ρ4 =>
      simp only [q3] at e2
      obtain ⟨k3a, k3b⟩ := A3.keep Dl _ h2 n2
      refine ⟨G3, ρ3, d, ρ4, A3.good, R3, q3, fun σ4 A4 l4 s4 => ⟨wipe_eq l4 fun j hj => s4 j fun z => hj (hS j z), ?_⟩⟩
      obtain ⟨k4a, k4b⟩ := A4.keep Dl _ k3a (A3.nown h2 n2)
      have n4 := A4.nown k3a (A3.nown h2 n2)
      have ew : wipe σ4 vs = wipe σ vs := wipe_eq l4 fun j hj => s4 j fun z => hj (hS j z)
      cases q4 : ft ρ4 with
      | none => simp only [q4] at e2; cases e2
      | some y =>
        obtain ⟨b, ρ5⟩ := y
        simp only [q4] at e2
        refine ⟨G3, ρ4, b, ρ5, A4.good, q4, fun G5 H5 A5 => ?_⟩
        obtain ⟨k5a, k5b⟩ := A5.keep Dl _ k4a n4
        have n5 := A5.nown k4a n4
        have A25 := ((A2.trans A3).trans A4).trans A5
        cases b with
        | false =>
          refine iteF ⟨G5, wipeD ρ5 vs, accV, acc, ?_, (x2.trans A3.ex).trans A5.ex, k5b (k4b (k3b d2)), ?_, k5a, r2.up (A3.ex.trans A5.ex), e2⟩
          · have := A25.wipe (vs := vs) hr
            rw [ew] at this
            exact this
          · rw [← ew]
            exact fun ⟨j, oj⟩ => n5 ⟨j, (own_wipe A5.good.len oj).2⟩
        | true =>
          cases q5 : dFr fe ρ5 with
          | none => simp only [q5] at e2; cases e2
          | some y =>
            obtain ⟨y, ρ6⟩ := y
            simp only [q5] at e2
            split at e2
            · rename_i hsz
              refine iteT ⟨G5, ρ5, y, ρ6, A5.good, q5, fun v G6 H6 A6 R6 => ?_⟩
              obtain ⟨k6a, k6b⟩ := A6.keep Dl _ k5a n5
              have n6 := A6.nown k5a n5
              have A26 := A25.trans A6
              have x6 : Ex G2 G6 := (A3.ex.trans A5.ex).trans A6.ex
              have Aw : Aft K Gb Hb σb ρb G6 H6 (wipe σ vs) (wipeD ρ6 vs) := by
                have := A26.wipe (vs := vs) hr
                rw [ew] at this
                exact this
              have nw : ¬ OwnA (wipe σ vs) (wipeD ρ6 vs) Dl := by
                rw [← ew]
                exact fun ⟨j, oj⟩ => n6 ⟨j, (own_wipe A6.good.len oj).2⟩
              have g6 : G6 Dl = none := k6b (k5b (k4b (k3b d2)))
              refine ⟨accV, k6a, by rw [r2.len]; exact sz16 hsz, G6, wipeD ρ6 vs, accV ++ [v], acc ++ [y], Aw.mut hb g6 nw, x2.trans x6, g6, nw, upd_same, (r2.up x6).app (.one R6), e2⟩
            · cases e2
  · rintro H2 ⟨G2, ρ3, accV, acc, A2, x2, d2, n2, h2, r2, e2⟩
    rw [List.drop_eq_nil_of_le (Nat.le_refl _)] at e2
    cases e2
    exact k G2 H2 accV A2 x2 d2 n2 h2 r2
def lc2L (h : Fg) (ft : Ft) (fi1 : Fi) (h1 : Fg) (ft1 : Ft) (fe : Fe) (vs vs1 : List Nat) : List D → List D → En → Option (List D × En)
  | [], acc, ρ => some (acc, ρ)
  | d :: ds, acc, ρ => match h d ρ with
    | none => none
    | some ρ1 => match ft ρ1 with
      | none => none
      | some (false, ρ2) => lc2L h ft fi1 h1 ft1 fe vs vs1 ds acc (wipeD ρ2 vs)
      | some (true, ρ2) => match fi1 ρ2 with
        | none => none
        | some (ys, ρ3) => match lcL h1 ft1 fe vs1 ys acc (wipeD ρ3 vs1) with
          | none => none
          | some (acc', ρ4) => lc2L h ft fi1 h1 ft1 fe vs vs1 ds acc' (wipeD ρ4 vs)
def dLc2 (fi : Fi) (h : Fg) (ft : Ft) (fi1 : Fi) (h1 : Fg) (ft1 : Ft) (fe : Fe) (vs vs1 : List Nat) : Fe := fun ρ => match fi ρ with
  | some (xs, ρ1) => match lc2L h ft fi1 h1 ft1 fe vs vs1 xs [] (wipeD ρ1 vs) with
    | some (acc, ρ2) => some (.ow (.l acc), restD ρ1 ρ2 vs)
    | none => none
  | none => none
theorem tLc2_of {K : PySem.W.Frag} {fi fi1 : Fi} {h h1 : Fg} {ft ft1 : Ft} {fe : Fe} {vs S vs1 S1 : List Nat} (hS : ∀ i ∈ S, i ∈ vs) (hS1 : ∀ i ∈ S1, i ∈ vs1) (hv : ∀ i ∈ vs1, i ∈ vs) :
    ∀ σ H Q, teOf K (dLc2 fi h ft fi1 h1 ft1 fe vs vs1) σ H Q → tLc2 (tiOf K fi) (tgOf K h S) (ttOf K ft) (tiOf K fi1) (tgOf K h1 S1) (ttOf K ft1) (tdOf K (dFr fe)) vs vs1 σ H Q := fun σ H Q ⟨G, ρ, z, ρ', g, e, k⟩ => by
  unfold dLc2 at e
  cases q : fi ρ with
  | none => rw [q] at e; cases e
  | some y =>
    obtain ⟨xs, ρ1⟩ := y
    rw [q] at e
    cases q2 : lc2L h ft fi1 h1 ft1 fe vs vs1 xs [] (wipeD ρ1 vs) with
    | none => simp only [q2] at e; cases e
    | some y =>
      obtain ⟨accE, ρ2⟩ := y
      simp only [q2] at e
      cases e
      refine ⟨G, ρ, xs, ρ1, g, q, fun J G1 H1 A1 W Dl hD => ?_⟩
      have gw : Good K G1 H1 (wipe σ vs) (wipeD ρ1 vs) := A1.good.wipe
      have hr : ∀ i m, i ∈ vs → (wipeD ρ1 vs)[i]? ≠ some (.rf m) := fun i m hi z => by
        have l : i < ρ1.length := by
          have := (List.getElem?_eq_some_iff.mp z).1
          rw [wipeD_len] at this
          exact this
        rw [wipeD_in ρ1 i l vs hi] at z
        cases z
      refine it_gen W (B := fun x H' Nx => tgOf K h S x (wipe σ vs) H' fun σ2 H2 => wipe σ2 vs = wipe σ vs ∧ ttOf K ft σ2 H2 fun b H3 =>
          if b = true then tiOf K fi1 σ2 H3 fun J1 H4 => ∃ W1 : Nat → Nat → Hp → Prop, (∃ m, W1 0 m H4) ∧ ∀ j k H, W1 j k H →
            (J1.stop j H ∧ Nx H) ∨ (J1.go j H ∧ ∃ Nx1 : Hp → Prop, (∀ H', Nx1 H' → ∃ k', k' < k ∧ W1 (j + 1) k' H') ∧ ∀ x H', J1.yld j H x H' → tgOf K h1 S1 x (wipe σ2 vs1) H' fun σ3 H5 => wipe σ3 vs1 = wipe σ2 vs1 ∧ ttOf K ft1 σ3 H5 fun b H6 =>
              if b = true then tdOf K (dFr fe) σ3 H6 fun y H7 => ∃ acc, H7 Dl = some (.lst acc) ∧ acc.length < sizeLine ∧ Nx1 (upd H7 Dl (.lst (acc ++ [y]))) else Nx1 H6)
          else Nx H3)
        (fun i H2 => ∃ G2 ρ3 accV acc, Aft K G1 H1 (wipe σ vs) (wipeD ρ1 vs) G2 H2 (wipe σ vs) ρ3 ∧ Ex G1 G2 ∧ G2 Dl = none ∧ ¬ OwnA (wipe σ vs) ρ3 Dl ∧ H2 Dl = some (.lst accV) ∧ Rps K G2 accV acc ∧ lc2L h ft fi1 h1 ft1 fe vs vs1 (xs.drop i) acc ρ3 = some (accE, ρ2))
        ⟨G1, wipeD ρ1 vs, [], [], (Aft.refl gw).mut hD (gw.ex.free hD) (gw.notOwn hD), Same.refl _, gw.ex.free hD, gw.notOwn hD, upd_same, .nil, by rw [List.drop_zero]; exact q2⟩
        (fun i H2 _ ⟨G2, ρ3, accV, acc, A2, x2, _⟩ => x2.trans A2.good.ex) ?_ ?_
      · rintro i x H2 H3 hi ⟨G2, ρ3, accV, acc, A2, x2, d2, n2, h2, r2, e2⟩ ⟨d, hd, y⟩
        obtain ⟨G3, A3, R3⟩ := ItemY.take A2.good x2 y
        have hlt : i < xs.length := hi
        have hdr : xs.drop i = d :: xs.drop (i + 1) := by
          rw [List.drop_eq_getElem_cons hlt]
          rw [List.getElem?_eq_getElem hlt] at hd
          cases hd
          rfl
        rw [hdr] at e2
        unfold lc2L at e2
        cases q3 : h d ρ3 with
        | none => simp only [q3] at e2; cases e2
        | some ρ4 =>
          simp only [q3] at e2
          obtain ⟨k3a, k3b⟩ := A3.keep Dl _ h2 n2
          refine ⟨G3, ρ3, d, ρ4, A3.good, R3, q3, fun σ4 A4 l4 s4 => ⟨wipe_eq l4 fun j hj => s4 j fun z => hj (hS j z), ?_⟩⟩
          obtain ⟨k4a, k4b⟩ := A4.keep Dl _ k3a (A3.nown h2 n2)
          have n4 := A4.nown k3a (A3.nown h2 n2)
          have ew : wipe σ4 vs = wipe σ vs := wipe_eq l4 fun j hj => s4 j fun z => hj (hS j z)
          cases q4 : ft ρ4 with
          | none => simp only [q4] at e2; cases e2
          | some y =>
            obtain ⟨b, ρ5⟩ := y
            simp only [q4] at e2
            refine ⟨G3, ρ4, b, ρ5, A4.good, q4, fun G5 H5 A5 => ?_⟩
            obtain ⟨k5a, k5b⟩ := A5.keep Dl _ k4a n4
            have n5 := A5.nown k4a n4
            have A25 := ((A2.trans A3).trans A4).trans A5
            cases b with
            | false =>
              refine iteF ⟨G5, wipeD ρ5 vs, accV, acc, ?_, (x2.trans A3.ex).trans A5.ex, k5b (k4b (k3b d2)), ?_, k5a, r2.up (A3.ex.trans A5.ex), e2⟩
              · have := A25.wipe (vs := vs) hr
                rw [ew] at this
                exact this
              · rw [← ew]
                exact fun ⟨j, oj⟩ => n5 ⟨j, (own_wipe A5.good.len oj).2⟩
            | true =>
              cases q5 : fi1 ρ5 with
              | none => simp only [q5] at e2; cases e2
              | some y =>
                obtain ⟨ys, ρ6⟩ := y
                simp only [q5] at e2
                cases q6 : lcL h1 ft1 fe vs1 ys acc (wipeD ρ6 vs1) with
                | none => simp only [q6] at e2; cases e2
                | some y =>
                  obtain ⟨acc', ρ7⟩ := y
                  simp only [q6] at e2
                  refine iteT ⟨G5, ρ5, ys, ρ6, A5.good, q5, fun J1 G6 H6 A6 W1 => ?_⟩
                  obtain ⟨k6a, k6b⟩ := A6.keep Dl _ k5a n5
                  have n6 := A6.nown k5a n5
                  have A26 := A25.trans A6
                  have x6 : Ex G2 G6 := (A3.ex.trans A5.ex).trans A6.ex
                  have g6 : G6 Dl = none := k6b (k5b (k4b (k3b d2)))
                  have hr1 : ∀ i m, i ∈ vs1 → (wipeD ρ1 vs)[i]? ≠ some (.rf m) := fun i m hi => hr i m (hv i hi)
                  refine lc_inner hS1 A6.good hD (A26.wipe hr1) hr1 W1 g6 n6 k6a (r2.up x6) q6 fun G7 H7 accV7 A7 x7 d7 n7 h7 r7 => ?_
                  have ew2 : wipe (wipe σ4 vs1) vs = wipe σ vs := (wipe_wipe hv).trans ew
                  refine ⟨G7, wipeD ρ7 vs, accV7, acc', ?_, (x2.trans x6).trans x7, d7, ?_, h7, r7, e2⟩
                  · have := A7.wipe (vs := vs) hr
                    rw [ew2] at this
                    exact this
                  · rw [← ew2]
                    exact fun ⟨j, oj⟩ => n7 ⟨j, (own_wipe A7.good.len oj).2⟩
      · rintro H2 ⟨G2, ρ3, accV, acc, A2, x2, d2, n2, h2, r2, e2⟩
        rw [List.drop_eq_nil_of_le (Nat.le_refl _)] at e2
        cases e2
        have Ar := Aft.rest A1.good A2
        refine k (.ref Dl) G2 H2 (A1.trans Ar) ⟨Dl, _, rfl, A1.back hD, d2, h2, .l r2, fun ⟨j, oj1, oj2⟩ => ?_⟩
        have l2 : ρ2.length = ρ1.length := by
          have := A2.good.len
          rw [wipe_length] at this
          rw [← this]
          exact A1.good.len
        by_cases hv : j ∈ vs
        · have l : j < ρ2.length := by
            rw [l2, ← A1.good.len]
            exact (List.getElem?_eq_some_iff.mp oj1).1
          rw [restD_in ρ1 ρ2 j l l2.symm vs hv] at oj2
          obtain ⟨_, u, e⟩ := Own.there A1.good ⟨oj1, oj2⟩
          rw [hD] at e
          cases e
        · rw [restD_out ρ1 ρ2 j vs hv] at oj2
          exact n2 ⟨j, by rw [wipe_out σ j vs hv]; exact oj1, oj2⟩
section
variable {X : Cx} {elt tg iter tg1 iter1 : Expr} {ifs ifs1 : List Expr} {scope : Scope} {own : List (Str × Nat)} {vs1 : List Nat} {pos spos : Pos} {fi fi1 : Fi} {h h1 : Fg} {S S1 : List Nat} {ft ft1 : Ft} {fe : Fe}
theorem de_lc2 (hc : X.calm = true) (hN : X.N.Nodup) (hi : DI X tg iter fi) (ok : BlkOk X.N X.env.scope scope own)
    (hg : ∀ (s : Shared) (H : Hp) (C : Addr) (cl : List (Str × Addr)) (fp : List Addr), DG (X.blk s H scope (compEnvC scope cl C X.env) fp) tg h S) (ht : ∀ (s : Shared) (H : Hp) (C : Addr) (cl : List (Str × Addr)) (fp : List Addr), DTs (X.blk s H scope (compEnvC scope cl C X.env) fp) ifs ft)
    (hi1 : ∀ (s : Shared) (H : Hp) (C : Addr) (cl : List (Str × Addr)) (fp : List Addr), DI (X.blk s H scope (compEnvC scope cl C X.env) fp) tg1 iter1 fi1)
    (hg1 : ∀ (s : Shared) (H : Hp) (C : Addr) (cl : List (Str × Addr)) (fp : List Addr), DG (X.blk s H scope (compEnvC scope cl C X.env) fp) tg1 h1 S1) (ht1 : ∀ (s : Shared) (H : Hp) (C : Addr) (cl : List (Str × Addr)) (fp : List Addr), DTs (X.blk s H scope (compEnvC scope cl C X.env) fp) ifs1 ft1)
    (he : ∀ (s : Shared) (H : Hp) (C : Addr) (cl : List (Str × Addr)) (fp : List Addr), DE (X.blk s H scope (compEnvC scope cl C X.env) fp) elt fe)
    (hv : ∀ i ∈ vs1, i ∈ own.map (·.2) := by decide) (hS : ∀ i ∈ S, i ∈ own.map (·.2) := by decide) (hS1 : ∀ i ∈ S1, i ∈ vs1 := by decide) (hs : ∀ x, foldedSetIterable iter X.env x = pure x := by intro _; rfl) (hs1 : ∀ env x, foldedSetIterable iter1 env x = pure x := by intro _ _; rfl) :
    DE X (.ListComp elt [⟨tg, iter, ifs, 0⟩, ⟨tg1, iter1, ifs1, 0⟩] scope pos) (dLc2 fi h ft fi1 h1 ft1 fe (own.map (·.2)) vs1) :=
  PE.weak (pe_lc2 hc hN hi ok hv hg ht hi1 hg1 ht1 (fun s H C cl fp => de_fr (he s H C cl fp)) hs hs1) (tLc2_of hS hS1 hv)
theorem ds_setLc2 {E : XK} {i : Nat} {y : Str} {py : Pos} (hc : X.calm = true) (hN : X.N.Nodup) (hy : X.N[i]? = some y) (hyl : X.env.scope.names.lookup y = some .local)
    (hsw : swapsWith (.ListComp elt [⟨tg, iter, ifs, 0⟩, ⟨tg1, iter1, ifs1, 0⟩] scope pos) (some (.Name y py)) spos.line X.env = pure true) (hi : DI X tg iter fi) (ok : BlkOk X.N X.env.scope scope own)
    (hg : ∀ (s : Shared) (H : Hp) (C : Addr) (cl : List (Str × Addr)) (fp : List Addr), DG (X.blk s H scope (compEnvC scope cl C X.env) fp) tg h S) (ht : ∀ (s : Shared) (H : Hp) (C : Addr) (cl : List (Str × Addr)) (fp : List Addr), DTs (X.blk s H scope (compEnvC scope cl C X.env) fp) ifs ft)
    (hi1 : ∀ (s : Shared) (H : Hp) (C : Addr) (cl : List (Str × Addr)) (fp : List Addr), DI (X.blk s H scope (compEnvC scope cl C X.env) fp) tg1 iter1 fi1)
    (hg1 : ∀ (s : Shared) (H : Hp) (C : Addr) (cl : List (Str × Addr)) (fp : List Addr), DG (X.blk s H scope (compEnvC scope cl C X.env) fp) tg1 h1 S1) (ht1 : ∀ (s : Shared) (H : Hp) (C : Addr) (cl : List (Str × Addr)) (fp : List Addr), DTs (X.blk s H scope (compEnvC scope cl C X.env) fp) ifs1 ft1)
    (he : ∀ (s : Shared) (H : Hp) (C : Addr) (cl : List (Str × Addr)) (fp : List Addr), DE (X.blk s H scope (compEnvC scope cl C X.env) fp) elt fe)
    (hv : ∀ i ∈ vs1, i ∈ own.map (·.2) := by decide) (hS : ∀ i ∈ S, i ∈ own.map (·.2) := by decide) (hS1 : ∀ i ∈ S1, i ∈ vs1 := by decide) (hs : ∀ x, foldedSetIterable iter X.env x = pure x := by intro _; rfl) (hs1 : ∀ env x, foldedSetIterable iter1 env x = pure x := by intro _ _; rfl) :
    DS X E (.Assign [.Name y py] (.ListComp elt [⟨tg, iter, ifs, 0⟩, ⟨tg1, iter1, ifs1, 0⟩] scope pos) spos) (bAsg i (dLc2 fi h ft fi1 h1 ft1 fe (own.map (·.2)) vs1)) :=
  PS.weak (ps_setLc2 hc hN hy hyl hsw hi ok hv hg ht hi1 hg1 ht1 (fun s H C cl fp => de_fr (he s H C cl fp)) hs hs1) fun D σ H q => tLc2_of hS hS1 hv σ H _ (tAsg_of D σ H q)
end
end DL
set_option Elab.async false
set_option linter.all false
set_option maxRecDepth 100000
set_option maxHeartbeats 2000000
namespace DL
open PySem PySem.Spec L2
open PyProof.Rows (envOfC)
/-! ### list(range(..)) -/
theorem rps_map {α : Type} {K : PySem.W.Frag} {G : Hp} {f : α → V} {g : α → D} (h : ∀ x, Rp K G (f x) (g x)) : ∀ l : List α, Rps K G (l.map f) (l.map g)
  | [] => .nil
  | x :: l => .cons (h x) (rps_map h l)
theorem rps_rg {K : PySem.W.Frag} {G : Hp} (a b : Int) : Rps K G (rgV a b) (rangeD a (b - a).toNat) := rps_map (fun _ => .int _) _
def dLRg1 (f : Fe) : Fe := fun ρ => match f ρ with
  | some (.fz (.int n), ρ1) => if n ≤ 1000000 ∧ -1000000 ≤ n then some (.ow (.l (rangeD 0 n.toNat)), ρ1) else none
  | _ => none
def dLRg2 (fa fb : Fe) : Fe := fun ρ => match fa ρ with
  | some (.fz (.int m), ρ1) => (match fb ρ1 with
    | some (.fz (.int n), ρ2) => if n ≤ 1000000 ∧ -1000000 ≤ n ∧ m ≤ 1000000 ∧ -1000000 ≤ m then some (.ow (.l (rangeD m (n - m).toNat)), ρ2) else none
    | _ => none)
  | _ => none
section
variable {X : Cx} {a b : Expr} {fa fb : Fe} {p p2 pos pos2 : Pos}
theorem de_lrg1 (hc : X.calm = true) (hg : Gl X "list") (hm : X.mg "list" = none) (hg2 : Gl X "range") (hm2 : X.mg "range" = none) (ha : DE X a fa)
    (na : starEach [a] X.env = (false, eval a X.env) :: starEach [] X.env := by rfl) (nb : starEach [.Call (.Name "range" p2) [a] [] pos2] X.env = (false, eval (.Call (.Name "range" p2) [a] [] pos2) X.env) :: starEach [] X.env := by rfl) :
    DE X (.Call (.Name "list" p) [.Call (.Name "range" p2) [a] [] pos2] [] pos) (dLRg1 fa) := PE.weak (pe_listRg hc hg hm (prg_1 hg2 hm2 ha na) nb) fun σ H Q ⟨G, ρ, z, ρ', g, e, k⟩ => by
  unfold dLRg1 at e
  split at e
  · rename_i n ρ1 q
    split at e
    · rename_i hb
      cases e
      refine ⟨G, ρ, _, _, g, q, fun v G1 H1 A1 R1 => ⟨n, Rp.of_int R1, ⟨by omega, by omega, by omega, by omega, by omega⟩, ?_⟩⟩
      have r := rps_rg (K := X.K) (G := G1) 0 n
      rw [Int.sub_zero] at r
      exact giveL A1.good r fun v G' H' A R => k v G' H' (A1.trans A) (R.start A1.dom)
    · cases e
  · cases e
theorem de_lrg2 (hc : X.calm = true) (hg : Gl X "list") (hm : X.mg "list" = none) (hg2 : Gl X "range") (hm2 : X.mg "range" = none) (ha : DE X a fa) (hb : DE X b fb)
    (na : starEach [a, b] X.env = (false, eval a X.env) :: starEach [b] X.env := by rfl) (nb : starEach [b] X.env = (false, eval b X.env) :: starEach [] X.env := by rfl) (hp : (backTo pos2 (starEach [b] X.env)).any (·.1) = false := by rfl)
    (nc : starEach [.Call (.Name "range" p2) [a, b] [] pos2] X.env = (false, eval (.Call (.Name "range" p2) [a, b] [] pos2) X.env) :: starEach [] X.env := by rfl) :
    DE X (.Call (.Name "list" p) [.Call (.Name "range" p2) [a, b] [] pos2] [] pos) (dLRg2 fa fb) := PE.weak (pe_listRg hc hg hm (prg_2 hg2 hm2 ha hb na nb hp) nc) fun σ H Q ⟨G, ρ, z, ρ', g, e, k⟩ => by
  unfold dLRg2 at e
  split at e
  · rename_i m ρ1 q
    split at e
    · rename_i n ρ2 q2
      split at e
      · rename_i hb
        cases e
        refine ⟨G, ρ, _, _, g, q, fun v G1 H1 A1 R1 => ⟨G1, _, _, _, A1.good, q2, fun u G2 H2 A2 R2 => ⟨m, n, Rp.of_int R1, Rp.of_int R2, ⟨by omega, by omega, by omega, by omega, by omega⟩, ?_⟩⟩⟩
        exact giveL A2.good (rps_rg m n) fun v G' H' A R => k v G' H' ((A1.trans A2).trans A) (R.start (A1.trans A2).dom)
      · cases e
    · cases e
  · cases e
end
/-! ### dicts that a name holds -/
def kOf : D → Option Key
  | .int i => some (.inl i)
  | .str s => some (.inr s)
  | _ => none
def ksOf : List D → Option (List Key)
  | [] => some []
  | d :: ds => match kOf d, ksOf ds with
    | some k, some ks => some (k :: ks)
    | _, _ => none
section
variable {κ : Type} [DecidableEq κ]
def valD (xs : List (κ × D)) (k : κ) : Option D := (xs.find? fun p => decide (p.1 = k)).map (·.2)
def putD (xs : List (κ × D)) (k : κ) (v : D) : List (κ × D) := if (xs.any fun p => decide (p.1 = k)) = true then xs.map (fun p => if p.1 = k then (p.1, v) else p) else xs ++ [(k, v)]
variable {K : PySem.W.Frag} {G : Hp}
theorem RpKV.val {k : κ} : ∀ {vs : List (κ × V)} {ds : List (κ × D)}, RpKV K G vs ds → ∀ {d : D}, valD ds k = some d → ∃ v, valV vs k = some v ∧ Rp K G v d
  | _, _, .nil, _, e => by cases e
  | _, _, .cons (k := k1) (v := v) (d := d0) (vs := vs) (ds := ds) h t, d, e => by
    unfold valD at e
    unfold valV
    rw [List.find?_cons] at e ⊢
    by_cases c : k1 = k
    · simp only [decide_eq_true c] at e ⊢
      cases e
      exact ⟨v, rfl, h⟩
    · simp only [decide_eq_false c] at e ⊢
      exact RpKV.val t e
theorem RpKV.isSome {k : κ} : ∀ {vs : List (κ × V)} {ds : List (κ × D)}, RpKV K G vs ds → (valV vs k).isSome = (valD ds k).isSome
  | _, _, .nil => rfl
  | _, _, .cons (k := k1) (v := v) (d := d0) (vs := vs) (ds := ds) h t => by
    unfold valD valV
    rw [List.find?_cons, List.find?_cons]
    by_cases c : k1 = k
    · simp only [decide_eq_true c]
      rfl
    · simp only [decide_eq_false c]
      exact RpKV.isSome t
theorem RpKV.len : ∀ {vs : List (κ × V)} {ds : List (κ × D)}, RpKV K G vs ds → vs.length = ds.length
  | _, _, .nil => rfl
  | _, _, .cons h t => congrArg (· + 1) (RpKV.len t)
theorem RpKV.app : ∀ {vs : List (κ × V)} {ds : List (κ × D)} {vs' : List (κ × V)} {ds' : List (κ × D)}, RpKV K G vs ds → RpKV K G vs' ds' → RpKV K G (vs ++ vs') (ds ++ ds')
  | _, _, _, _, .nil, h => h
  | _, _, _, _, .cons h t, h' => .cons h (RpKV.app t h')
theorem RpKV.any {k : κ} : ∀ {vs : List (κ × V)} {ds : List (κ × D)}, RpKV K G vs ds → (vs.any fun p => decide (p.1 = k)) = (ds.any fun p => decide (p.1 = k))
  | _, _, .nil => rfl
  | _, _, .cons h t => by rw [List.any_cons, List.any_cons, RpKV.any t]
theorem RpKV.store {k : κ} {v : V} {d : D} (r : Rp K G v d) : ∀ {vs : List (κ × V)} {ds : List (κ × D)}, RpKV K G vs ds → RpKV K G (vs.map fun p => if p.1 = k then (p.1, v) else p) (ds.map fun p => if p.1 = k then (p.1, d) else p)
  | _, _, .nil => .nil
  | _, _, .cons (k := k1) h t => by
    rw [List.map_cons, List.map_cons]
    by_cases c : k1 = k
    · simp only [c, ↓reduceIte]
      exact .cons r (RpKV.store r t)
    · simp only [c, ↓reduceIte]
      exact .cons h (RpKV.store r t)
theorem RpKV.put {k : κ} {v : V} {d : D} {vs : List (κ × V)} {ds : List (κ × D)} (h : RpKV K G vs ds) (r : Rp K G v d) : RpKV K G (putK vs k v) (putD ds k d) := by
  unfold putK putD
  rw [RpKV.any h]
  split
  · exact RpKV.store r h
  · exact RpKV.app h (.cons r .nil)
end
theorem kOf_rp {K : PySem.W.Frag} {G : Hp} {v : V} {d : D} {k : Key} (r : Rp K G v d) (e : kOf d = some k) : v = kV k := by
  cases r <;> cases e <;> rfl
theorem kOf_vw {K : PySem.W.Frag} {G H : Hp} {v : V} {d : D} {k : Key} (r : Vw K G H v d) (e : kOf d = some k) : v = kV k := by
  unfold kOf at e
  split at e
  · cases e; exact r.int
  · cases e; exact r.str
  · cases e
theorem ksOf_rps {K : PySem.W.Frag} {G : Hp} : ∀ {vs : List V} {ds : List D} {ks : List Key}, Rps K G vs ds → ksOf ds = some ks → vs = ks.map kV
  | _, _, _, .nil, e => by cases e; rfl
  | _, _, _, .cons (d := d) (ds := ds) r t, e => by
    unfold ksOf at e
    split at e
    · rename_i k ks q1 q2
      cases e
      rw [kOf_rp r q1, ksOf_rps t q2]
      rfl
    · cases e
def heldM : Option Sl → Option Mu
  | some (.ow m) => some m
  | some (.rf m) => some m
  | _ => none
theorem heldM_ok {o : Option Sl} {m : Mu} (h : heldM o = some m) : ∃ r, o = some r ∧ Held r m := by
  unfold heldM at h
  split at h
  · cases h; exact ⟨_, rfl, .ow _⟩
  · cases h; exact ⟨_, rfl, .rf _⟩
  · cases h
theorem held_atM {K : PySem.W.Frag} {G H : Hp} {σ : L2.St} {ρ : En} {i : Nat} {m : Mu} (g : Good K G H σ ρ) (h : heldM ρ[i]? = some m) : ∃ p o, σ[i]? = some (some (.ref p)) ∧ H p = some o ∧ MuOk K G o m ∧
    (∀ o' m', MuOk K G o' m' → Aft K G H σ ρ G (upd H p o') σ (putS ρ i m')) := by
  obtain ⟨r, e, hh⟩ := heldM_ok h
  have hi : i < σ.length := by
    rw [g.len]
    exact (List.getElem?_eq_some_iff.mp e).1
  have hs : σ[i]? = some σ[i] := List.getElem?_eq_getElem hi
  have s := g.sl i _ _ hs e
  have s' : ∃ p o, σ[i] = some (.ref p) ∧ G p = none ∧ H p = some o ∧ MuOk K G o m := by
    cases hh with
    | ow => exact s
    | rf => exact s
  obtain ⟨p, o, e1, e2, e3, e4⟩ := s'
  rw [e1] at hs
  refine ⟨p, o, hs, e3, e4, fun o' m' r' => ?_⟩
  have := Aft.change (o := o') (m' := m') g hs e hh r'
  unfold putS
  rw [e]
  exact this
/-- what stands at a key -/
def mGet : Mu → D → Option (Option D)
  | .k xs, d => (kOf d).map fun k => valD xs k
  | .t xs, .tup ds => (ksOf ds).map fun k => valD xs k
  | _, _ => none
def mPut : Mu → D → D → Option Mu
  | .k xs, d, v => if xs.length ≤ lim then (kOf d).map fun k => .k (putD xs k v) else none
  | .t xs, .tup ds, v => if xs.length ≤ lim then (ksOf ds).map fun k => .t (putD xs k v) else none
  | _, _, _ => none
theorem mGet_ok {K : PySem.W.Frag} {G H : Hp} {p : Addr} {o : HO} {m : Mu} {y : V} {d : D} {r : Option D} (ex : Ex G H) (hp : H p = some o) (ok : MuOk K G o m) (hy : Vw K G H y d) (e : mGet m d = some r) :
    ∃ w, DGet H p y w ∧ w.isSome = r.isSome ∧ ∀ v, r = some v → ∃ u, w = some u ∧ Rp K G u v := by
  unfold mGet at e
  cases ok with
  | l h => cases e
  | @k vs xs h =>
    cases q : kOf d with
    | none => simp only [q, Option.map_none] at e; cases e
    | some k =>
      simp only [q, Option.map_some] at e
      cases e
      have ey : y = kV k := kOf_vw hy q
      exact ⟨_, .inl ⟨vs, k, .inl hp, ey, rfl⟩, RpKV.isSome h, fun v e => RpKV.val h e⟩
  | @t vs xs h =>
    cases d with
    | tup ds =>
      cases q : ksOf ds with
      | none => simp only [q, Option.map_none] at e; cases e
      | some k =>
        simp only [q, Option.map_some] at e
        cases e
        obtain ⟨b, us, rfl, h0, h1, h2⟩ := hy.tup ex
        exact ⟨_, .inr ⟨vs, k, b, .inl hp, rfl, by rw [h1, ksOf_rps h2 q], rfl⟩, RpKV.isSome h, fun v e => RpKV.val h e⟩
    | _ => cases e
theorem mPut_ok {K : PySem.W.Frag} {G H : Hp} {p : Addr} {o : HO} {m m' : Mu} {y u : V} {d v : D} (ex : Ex G H) (hp : H p = some o) (ok : MuOk K G o m) (hy : Vw K G H y d) (hu : Rp K G u v) (e : mPut m d v = some m') :
    ∃ o', DPut H p y u (upd H p o') ∧ MuOk K G o' m' := by
  cases ok with
  | l h => cases e
  | @k vs xs h =>
    replace e : (if xs.length ≤ lim then (kOf d).map fun k => Mu.k (putD xs k v) else none) = some m' := e
    split at e
    · rename_i hl
      cases q : kOf d with
      | none => simp only [q, Option.map_none] at e; cases e
      | some k =>
        simp only [q, Option.map_some] at e
        cases e
        exact ⟨_, .inl ⟨vs, k, hp, kOf_vw hy q, by rw [RpKV.len h, sizeLine_eq]; unfold lim at hl; omega, rfl⟩, .k (RpKV.put h hu)⟩
    · cases e
  | @t vs xs h =>
    cases d with
    | tup ds =>
      replace e : (if xs.length ≤ lim then (ksOf ds).map fun k => Mu.t (putD xs k v) else none) = some m' := e
      split at e
      · rename_i hl
        cases q : ksOf ds with
        | none => simp only [q, Option.map_none] at e; cases e
        | some k =>
          simp only [q, Option.map_some] at e
          cases e
          obtain ⟨b, us, rfl, h0, h1, h2⟩ := hy.tup ex
          exact ⟨_, .inr ⟨vs, k, b, hp, rfl, by rw [h1, ksOf_rps h2 q], by rw [RpKV.len h, sizeLine_eq]; unfold lim at hl; omega, rfl⟩, .t (RpKV.put h hu)⟩
      · cases e
    | _ => cases e
def dDGet (i : Nat) (fk : Fe) : Fe := fun ρ => match heldM ρ[i]? with
  | none => none
  | some _ => match fk ρ with
    | none => none
    | some (rk, ρ1) => match rd ρ1 rk, heldM ρ1[i]? with
      | some d, some m => match mGet m d with
        | some (some v) => some (.fz v, ρ1)
        | _ => none
      | _, _ => none
def dDIn (neg : Bool) (i : Nat) (fk : Fe) : Fe := fun ρ => match fk ρ with
    | none => none
    | some (rk, ρ1) => match rd ρ1 rk, heldM ρ1[i]? with
      | some d, some m => match mGet m d with
        | some o => some (.fz (.bl (neg ^^ o.isSome)), ρ1)
        | _ => none
      | _, _ => none
def bDPut (i : Nat) (fk fv : Fe) : Fs := fun ρ => match dFr fv ρ with
  | none => none
  | some (v, ρ1) => match heldM ρ1[i]? with
    | none => none
    | some _ => match fk ρ1 with
      | none => none
      | some (rk, ρ2) => match rd ρ2 rk, heldM ρ2[i]? with
        | some d, some m => match mPut m d v with
          | some m' => some (.nx, putS ρ2 i m')
          | none => none
        | _, _ => none
section
variable {X : Cx} {o i e : Expr} {fk fv : Fe} {n : Nat} {pos pos' : Pos}
theorem de_dget (hu : X.A.units + 65 < cLine) (ho : PE X o (tVar n)) (hi : DE X i fk) (hs : NoSl i := by intro _ _; rfl) : DE X (.Subscript o i pos) (dDGet n fk) := PE.weak (pe_dget (by omega) ho hi hs) fun σ H Q ⟨G, ρ, z, ρ', g, e, k⟩ => by
  unfold dDGet at e
  split at e
  · cases e
  rename_i m0 q0
  split at e
  · cases e
  rename_i rk ρ1 q1
  split at e
  · rename_i d m q2 q3
    split at e
    · rename_i v q4
      cases e
      obtain ⟨p, o, e1, e2, e3, _⟩ := held_atM g q0
      refine ⟨.ref p, e1, G, ρ, rk, _, g, q1, fun y G1 H1 A1 R1 => ?_⟩
      obtain ⟨p', o', e4, e5, e6, _⟩ := held_atM A1.good q3
      rw [e1] at e4
      cases e4
      obtain ⟨w, dg, _, hv⟩ := mGet_ok A1.good.ex e5 e6 (rd_ok A1.good R1 q2) q4
      obtain ⟨u, rfl, ru⟩ := hv v rfl
      exact ⟨p, u, rfl, dg, k u G1 H1 A1 ru⟩
    · cases e
  · cases e
theorem dDIn_of {K : PySem.W.Frag} {neg : Bool} : ∀ σ H Q, teOf K (dDIn neg n fk) σ H Q → (teOf K fk) σ H fun y H1 => tVar n σ H1 fun x H2 => ∃ a o, x = .ref a ∧ DGet H2 a y o ∧ Q (.bl (neg ^^ o.isSome)) H2 := fun σ H Q ⟨G, ρ, z, ρ', g, e, k⟩ => by
  unfold dDIn at e
  split at e
  · cases e
  rename_i rk ρ1 q1
  split at e
  · rename_i d m q2 q3
    split at e
    · rename_i r q4
      cases e
      refine ⟨G, ρ, rk, _, g, q1, fun y G1 H1 A1 R1 => ?_⟩
      obtain ⟨p, o, e1, e2, e3, _⟩ := held_atM A1.good q3
      obtain ⟨w, dg, hs, _⟩ := mGet_ok A1.good.ex e2 e3 (rd_ok A1.good R1 q2) q4
      refine ⟨.ref p, e1, p, w, rfl, dg, ?_⟩
      rw [hs]
      exact k _ G1 H1 A1 (.bl _)
    · cases e
  · cases e
theorem dc_in (hu : X.A.units + 65 < cLine) (hi : DE X i fk) (ho : PE X o (tVar n)) : PC X .In i o (teOf X.K (dDIn false n fk)) :=
  ⟨fun pins s σ H Q I h => (pc_din (by omega) hi ho).run pins s σ H Q I (by simpa [tDIn, Bool.false_xor] using dDIn_of σ H Q h)⟩
theorem dc_notin (hu : X.A.units + 65 < cLine) (hi : DE X i fk) (ho : PE X o (tVar n)) : PC X .NotIn i o (teOf X.K (dDIn true n fk)) :=
  ⟨fun pins s σ H Q I h => (pc_dnotin (by omega) hi ho).run pins s σ H Q I (by simpa [tDNotIn, Bool.true_xor] using dDIn_of σ H Q h)⟩
theorem de_din (hu : X.A.units + 65 < cLine) (hi : DE X i fk) (ho : PE X o (tVar n)) (hm : behindInMarks .In o = false := by rfl) : DE X (.Compare i [.In] [o] pos) (dDIn false n fk) := pe_cmp (dc_in hu hi ho) hm
theorem de_dnotin (hu : X.A.units + 65 < cLine) (hi : DE X i fk) (ho : PE X o (tVar n)) (hm : behindInMarks .NotIn o = false := by rfl) : DE X (.Compare i [.NotIn] [o] pos) (dDIn true n fk) := pe_cmp (dc_notin hu hi ho) hm
theorem dt_din (hu : X.A.units + 65 < cLine) (hi : DE X i fk) (ho : PE X o (tVar n)) (hm : behindInMarks .In o = false := by rfl) : DT X (.Compare i [.In] [o] pos) (dTst (dDIn false n fk)) := PT.weak (pt_cmp (dc_in hu hi ho) hm) fun σ H Q q => tTest_of σ H Q q
theorem dt_dnotin (hu : X.A.units + 65 < cLine) (hi : DE X i fk) (ho : PE X o (tVar n)) (hm : behindInMarks .NotIn o = false := by rfl) : DT X (.Compare i [.NotIn] [o] pos) (dTst (dDIn true n fk)) := PT.weak (pt_cmp (dc_notin hu hi ho) hm) fun σ H Q q => tTest_of σ H Q q
theorem ds_dput {E : XK} (hu : X.A.units + 65 < cLine) (ho : PE X o (tVar n)) (hi : DE X i fk) (hv : DE X e fv) (hs : swapsWith e (some (.Subscript o i pos')) pos.line X.env = pure false := by rfl) :
    DS X E (.Assign [.Subscript o i pos'] e pos) (bDPut n fk fv) := PS.weak (ps_dput (by omega) ho hi (de_fr hv) hs) fun D σ H ⟨G, ρ, fl, ρ', g, e, k⟩ => by
  unfold bDPut at e
  split at e
  · cases e
  rename_i v ρ1 q1
  split at e
  · cases e
  rename_i m0 q0
  split at e
  · cases e
  rename_i rk ρ2 q2
  split at e
  · rename_i d m q3 q4
    split at e
    · rename_i m' q5
      cases e
      refine ⟨G, ρ, v, ρ1, g, q1, fun u G1 H1 A1 R1 => ?_⟩
      obtain ⟨p, o, e1, e2, e3, _⟩ := held_atM A1.good q0
      refine ⟨.ref p, e1, G1, ρ1, rk, ρ2, A1.good, q2, fun y G2 H2 A2 R2 => ?_⟩
      obtain ⟨p', o', e4, e5, e6, ch⟩ := held_atM A2.good q4
      rw [e1] at e4
      cases e4
      obtain ⟨o2, dp, ok⟩ := mPut_ok A2.good.ex e5 e6 (rd_ok A2.good R2 q3) (R1.up A2.ex) q5
      exact ⟨p, _, rfl, dp, k σ G2 _ ((A1.trans A2).trans (ch o2 m' ok))⟩
    · cases e
  · cases e
end
def eDict (m : Mu) : Fe := fun ρ => some (.ow m, ρ)
theorem giveM {K : PySem.W.Frag} {G H : Hp} {σ : L2.St} {ρ : En} {Q : VK} {o : HO} {m : Mu} (g : Good K G H σ ρ) (r : MuOk K G o m) (k : ∀ v G' H', Aft K G H σ ρ G' H' σ ρ → ROk K H G' H' σ ρ v (.ow m) → Q v H') : ∀ p, H p = none → Q (.ref p) (upd H p o) := fun p hp => by
  have gp : G p = none := g.ex.free hp
  exact k (.ref p) G _ ((Aft.refl g).mut hp gp (g.notOwn hp)) ⟨p, _, rfl, hp, gp, upd_same, r, g.notOwn hp⟩
theorem de_dnewK {X : Cx} {pos : Pos} : DE X (.Dict [] [] pos) (eDict (.k [])) := PE.weak pe_dnewK fun σ H Q ⟨G, ρ, z, ρ', g, e, k⟩ => by
  cases e
  exact giveM g (.k .nil) k
theorem de_dnewT {X : Cx} {pos : Pos} : DE X (.Dict [] [] pos) (eDict (.t [])) := PE.weak pe_dnewT fun σ H Q ⟨G, ρ, z, ρ', g, e, k⟩ => by
  cases e
  exact giveM g (.t .nil) k
end DL
set_option Elab.async false
set_option linter.all false
set_option maxRecDepth 100000
set_option maxHeartbeats 2000000
namespace DL
open PySem PySem.Spec L2
open PyProof.Rows (envOfC)
/-! ### a written dict of ints -/
def mergeD (kvs more : List (Key × D)) : List (Key × D) := more.foldl (fun acc kv => putD acc kv.1 kv.2) kvs
theorem RpKV.merge {K : PySem.W.Frag} {G : Hp} : ∀ {vs : List (Key × V)} {ds : List (Key × D)}, RpKV K G vs ds → ∀ {vs0 : List (Key × V)} {ds0 : List (Key × D)}, RpKV K G vs0 ds0 → RpKV K G (mergeK vs0 vs) (mergeD ds0 ds)
  | _, _, .nil, _, _, h0 => h0
  | _, _, .cons h t, _, _, h0 => RpKV.merge t (RpKV.put h0 h)
theorem tPairs_c {σ : L2.St} {H : Hp} : ∀ (kvs : List (Key × Int)) {Q : List (V × V) → Hp → Prop}, Q (kvs.map fun p => (kV p.1, V.int p.2)) H → tPairs (kvs.map fun p => (tC (kV p.1), tC (.int p.2))) σ H Q
  | [], _, h => h
  | p :: kvs, Q, h => tPairs_c kvs (Q := fun ps H3 => Q ((kV p.1, V.int p.2) :: ps) H3) h
theorem rpkv_c {K : PySem.W.Frag} {G : Hp} : ∀ kvs : List (Key × Int), RpKV K G (kvs.map fun p => (p.1, V.int p.2)) (kvs.map fun p => (p.1, D.int p.2))
  | [] => .nil
  | p :: kvs => .cons (.int _) (rpkv_c kvs)
theorem de_dlit {X : Cx} {pos : Pos} {keys : List (Option Expr)} {values : List Expr} (kvs : List (Key × Int)) (h : PPs X pos keys values (kvs.map fun p => (tC (kV p.1), tC (.int p.2)))) (hn : kvs.length ≤ 15 := by decide)
    (hall : keys.all (·.isSome) = true := by rfl) (hl : keys.length = values.length := by rfl) (h0 : keys ≠ [] := by exact List.cons_ne_nil _ _) (h15 : keys.length ≤ 15 := by decide +kernel) :
    DE X (.Dict keys values pos) (eDict (.k (mergeD [] (kvs.map fun p => (p.1, .int p.2))))) := PE.weak (pe_disp h hall hl h0 h15) fun σ H Q ⟨G, ρ, z, ρ', g, e, k⟩ => by
  cases e
  intro p hp
  refine tPairs_c kvs ⟨upd_same, kvs.map fun p => (p.1, V.int p.2), by rw [List.map_map]; rfl, by rw [List.length_map]; exact hn, ?_⟩
  rw [upd_upd]
  exact giveM g (.k (RpKV.merge (rpkv_c kvs) .nil)) k p hp
/-! ### a, b = c, d -/
def bPar (i j : Nat) (fa : Fa) : Fs := fun ρ => match fa ρ with
  | some ([.fz d, .fz e], ρ1) => if notRf ρ1 i = true ∧ notRf ρ1 j = true then some (.nx, (ρ1.set i (.fz d)).set j (.fz e)) else none
  | _ => none
theorem ds_par {X : Cx} {E : XK} {i j : Nat} {x y : Str} {a b : Expr} {fa : Fa} {px py pt pos : Pos} {kt k2 pt2} (hc : X.calm = true) (hN : X.N.Nodup) (ha : DA X [a, b] fa) (hi : X.N[i]? = some x := by rfl) (hj : X.N[j]? = some y := by rfl) (hij : i ≠ j := by decide)
    (hx : X.env.scope.names.lookup x = some .local := by rfl) (hy : X.env.scope.names.lookup y = some .local := by rfl)
    (hw : swappedStores [.Tuple [.Name x px, .Name y py] kt pt] (.Tuple [a, b] k2 pt2) X.env = pure (some [x, y]) := by rfl)
    (hs : swapsWithSole [.Tuple [.Name x px, .Name y py] kt pt] (.Tuple [a, b] k2 pt2) pos.line X.env = pure false := by rfl) :
    DS X E (.Assign [.Tuple [.Name x px, .Name y py] kt pt] (.Tuple [a, b] k2 pt2) pos) (bPar i j fa) := PS.weak (ps_par hc hN hi hj hij hx hy ha hw hs) fun D σ H ⟨G, ρ, fl, ρ', g, e, k⟩ => by
  unfold bPar at e
  split at e
  · rename_i d1 d2 ρ1 q
    split at e
    · rename_i nr
      cases e
      refine ⟨G, ρ, _, ρ1, g, q, fun vs G1 H1 A1 R1 => ?_⟩
      obtain ⟨v, w, rfl, r1, r2⟩ : ∃ v w, vs = [v, w] ∧ Rp X.K G1 v d1 ∧ Rp X.K G1 w d2 := by
        cases R1 with
        | cons r1 t => cases t with
          | cons r2 t => cases t; exact ⟨_, _, rfl, r1, r2⟩
      refine ⟨v, w, rfl, k _ G1 H1 ?_⟩
      have A2 := A1.store (i := i) (s := some v) (r := .fz d1) ⟨v, rfl, r1⟩ (fun p h1 h2 => by rcases h2 with ⟨m, h2⟩ | ⟨m, h2⟩ <;> cases h2) nr.1
      refine A2.store (s := some w) (r := .fz d2) ⟨w, rfl, r2⟩ (fun p h1 h2 => by rcases h2 with ⟨m, h2⟩ | ⟨m, h2⟩ <;> cases h2) ?_
      have h2 := nr.2
      unfold notRf at h2 ⊢
      rw [List.getElem?_set_ne (by omega)]
      exact h2
    · cases e
  · cases e
/-! ### the least and the greatest of a list of ints -/
def leastI (n : Int) : List Int → Int
  | [] => n
  | m :: ms => leastI (if m < n then m else n) ms
theorem leastI_le : ∀ (ms : List Int) (n : Int), leastI n ms ≤ n ∧ ∀ m ∈ ms, leastI n ms ≤ m
  | [], n => ⟨Int.le_refl n, fun m hm => by cases hm⟩
  | m :: ms, n => by
    obtain ⟨h1, h2⟩ := leastI_le ms (if m < n then m else n)
    refine ⟨?_, fun k hk => ?_⟩
    · show leastI _ ms ≤ n
      split at h1 <;> rename_i c <;> simp only [c, ↓reduceIte] <;> omega
    · rcases List.mem_cons.mp hk with rfl | hk
      · show leastI _ ms ≤ _
        split at h1 <;> rename_i c <;> simp only [c, ↓reduceIte] <;> omega
      · exact h2 k hk
theorem leastI_mem : ∀ (ms : List Int) (n : Int), leastI n ms ∈ n :: ms
  | [], n => by simp [leastI]
  | m :: ms, n => by
    have h := leastI_mem ms (if m < n then m else n)
    show leastI (if m < n then m else n) ms ∈ _
    split at h <;> rename_i c <;> simp only [c, ↓reduceIte] at h ⊢
    · exact List.mem_cons_of_mem _ h
    · rcases List.mem_cons.mp h with h | h
      · rw [h]; exact List.mem_cons_self
      · exact List.mem_cons_of_mem _ (List.mem_cons_of_mem _ h)
def mostI (n : Int) (ms : List Int) : Int := -leastI (-n) (ms.map fun m => -m)
theorem mostI_ge (ms : List Int) (n : Int) : n ≤ mostI n ms ∧ ∀ m ∈ ms, m ≤ mostI n ms := by
  obtain ⟨h1, h2⟩ := leastI_le (ms.map fun m => -m) (-n)
  unfold mostI
  refine ⟨by omega, fun m hm => ?_⟩
  have := h2 (-m) (List.mem_map.mpr ⟨m, hm, rfl⟩)
  omega
theorem mostI_mem (ms : List Int) (n : Int) : mostI n ms ∈ n :: ms := by
  have h := leastI_mem (ms.map fun m => -m) (-n)
  unfold mostI
  rcases List.mem_cons.mp h with h | h
  · rw [h, Int.neg_neg]; exact List.mem_cons_self
  · obtain ⟨m, hm, e⟩ := List.mem_map.mp h
    rw [← e, Int.neg_neg]
    exact List.mem_cons_of_mem _ hm
def gMinL : List D → Option Sl
  | [.lst xs] => match intsOf xs with
    | some (n :: ns) => some (.fz (.int (leastI n ns)))
    | _ => none
  | _ => none
def gMaxL : List D → Option Sl
  | [.lst xs] => match intsOf xs with
    | some (n :: ns) => some (.fz (.int (mostI n ns)))
    | _ => none
  | _ => none
theorem c_minL {K : PySem.W.Frag} : Cl K (rMin K) gMinL := fun {G H σ ρ xs ds z Q} g hx he k => by
  unfold gMinL at he
  split at he
  · rename_i ys
    split at he
    · rename_i n ns q
      cases he
      have e := intsOf_eq q
      subst e
      obtain ⟨v, rfl, h⟩ := hx.one
      obtain ⟨p, vs, rfl, h1, h2⟩ := h.lst g.ex
      rw [h2.ints] at h1
      refine ⟨p, n :: ns, rfl, SqL.of h1, Nat.succ_pos _, fun m hm hle => ?_⟩
      obtain ⟨a1, a2⟩ := leastI_le ns n
      have b1 := hle _ (leastI_mem ns n)
      have b2 : leastI n ns ≤ m := by
        rcases List.mem_cons.mp hm with rfl | hm
        · exact a1
        · exact a2 m hm
      have e : m = leastI n ns := by omega
      rw [e]
      exact give g (.int _) k
    · cases he
  · cases he
theorem c_maxL {K : PySem.W.Frag} : Cl K (rMax K) gMaxL := fun {G H σ ρ xs ds z Q} g hx he k => by
  unfold gMaxL at he
  split at he
  · rename_i ys
    split at he
    · rename_i n ns q
      cases he
      have e := intsOf_eq q
      subst e
      obtain ⟨v, rfl, h⟩ := hx.one
      obtain ⟨p, vs, rfl, h1, h2⟩ := h.lst g.ex
      rw [h2.ints] at h1
      refine ⟨p, n :: ns, rfl, SqL.of h1, Nat.succ_pos _, fun m hm hle => ?_⟩
      obtain ⟨a1, a2⟩ := mostI_ge ns n
      have b1 := hle _ (mostI_mem ns n)
      have b2 : m ≤ mostI n ns := by
        rcases List.mem_cons.mp hm with rfl | hm
        · exact a1
        · exact a2 m hm
      have e : m = mostI n ns := by omega
      rw [e]
      exact give g (.int _) k
    · cases he
  · cases he
end DL
set_option Elab.async false
set_option linter.all false
set_option maxRecDepth 100000
set_option maxHeartbeats 2000000
namespace DL
open PySem PySem.Spec L2
open PyProof.Rows (envOfC)
/-! ### the def as the head tells it -/
def Df (P : Program) (w : World) (K : PySem.W.Frag) (mg : Str → Option Value) (base : Heap) (k : Nat) (x : Str) (ps : List Str) (F : FF) : Prop :=
  ∃ f fd, mg x = some (.ref f) ∧ PySem.W.keepIn K (.ref f) = true ∧ Binds K fd ps [] ∧ FnG P w K mg base k f fd ps (spD K ps.length F)
section
variable {P : Program} {w : World} {K : PySem.W.Frag} {mg : Str → Option Value} {base : Heap}
theorem okF {x qual : Str} {st : Stmt} {f : Addr} {fd : FuncData} {N ps : List Str} {k : Nat} {B : Fs} {dvs : List V} {kws : List (Str × V)} (F : FunD K x qual (defArgs st) (defBody st) (defScope st) dvs kws f fd) (S : FnScope N ps (defScope st))
    (hb : ∀ (cdv : Value) (A : Around) (outer : List Env) (s : Shared) (H : Hp), A.guards = some [] → Room k (A.deeper (envOfC qual (defScope st) s.heap.objs.size f cdv)) → DB (cxOf CX0 P w K mg base N qual (defScope st) f cdv A outer s H E0).nox E0 (defBody st) B) :
    FnG P w K mg base (k + 1) f fd ps (spD K ps.length (runF (N.length - ps.length) B)) := by
  obtain ⟨oc, od, dV, kV, doc, pm, an, cdv, ct, osl, rfl, lk, hcd, _, _⟩ := F.ex
  refine fnG_of lk hcd S (fun vs H Q E h => ?_) fun A outer s H vs Q E gd hr hsp => ?_
  · obtain ⟨G, ρ, r, ρ', h1, _⟩ := h
    exact h1
  · obtain ⟨G, ρ, r, ρ', h1, hA, g, e, k⟩ := hsp
    refine ⟨tsOf K E0 B, ?_, ?_⟩
    · have h0 := hb cdv A outer s H gd hr
      exact PSs.nox (X := cxOf CX0 P w K mg base N qual (defScope st) f cdv A outer s H E) (show PSs _ _ (tsOf K E0 B) from ⟨fun pins s1 σ H1 D I q => h0.run pins s1 σ H1 D I q⟩)
    · have e0 : L2.start N vs = vs.map some ++ List.replicate (N.length - ps.length) none := by
        unfold L2.start
        rw [h1]
      rw [e0]
      unfold runF at e
      cases q : B (ρ ++ List.replicate (N.length - ps.length) .un) with
      | none => rw [q] at e; cases e
      | some y =>
        obtain ⟨fl, ρe⟩ := y
        rw [q] at e
        refine ⟨G, _, fl, ρe, g.pad, q, fun σ' G' H' A' => ?_⟩
        have Ae := call_end g A'
        cases fl with
        | nx =>
          cases e
          exact k .non G' H' Ae .non
        | bk => cases e
        | ct => cases e
        | ex C ns ds => cases e
        | rt r1 =>
          intro v R
          replace e : (match resolve ρe r1 with | some z => some (z, fin ρ ρe) | none => none) = some (r, ρ') := e
          cases q2 : resolve ρe r1 with
          | none => rw [q2] at e; cases e
          | some z =>
            rw [q2] at e
            cases e
            exact k v G' H' Ae (res_ok hA g A' R q2)
theorem dfMk {x : Str} {st : Stmt} {fd : FuncData} {N ps : List Str} {k : Nat} {B : Fs} (F : FunD K x x (defArgs st) (defBody st) (defScope st) [] [] (He.fAd K (x, none)) fd) (gl : mg x = some (.ref (He.ga K x))) (S : FnScope N ps (defScope st))
    (hbind : ∀ (kV doc pm : Value) (an : Option Addr) (cdv ct : Value) (us : List Value), us.length = ps.length → bindArgs (PySem.W.fnOf x x (defArgs st) (defBody st) (defScope st) .none kV doc pm an cdv ct) ⟨us, []⟩ = pure (ps.zip us))
    (hb : ∀ (cdv : Value) (A : Around) (outer : List Env) (s : Shared) (H : Hp), A.guards = some [] → Room k (A.deeper (envOfC x (defScope st) s.heap.objs.size (He.fAd K (x, none)) cdv)) → DB (cxOf CX0 P w K mg base N x (defScope st) (He.fAd K (x, none)) cdv A outer s H E0).nox E0 (defBody st) B) :
    Df P w K mg base (k + 1) x ps (runF (N.length - ps.length) B) := ⟨_, fd, gl, F.kp, FunD.bindsN F hbind, okF F S hb⟩
end
theorem de_callD {X : Cx} {k : Nat} {ps : List Str} {F : FF} {x : Str} {p pos : Pos} {e : Expr} {es : List Expr} {fa : Fa} (D : Df X.prog X.w X.K X.mg X.base k x ps F) (gd : X.A.guards = some []) (hr : Room k X.A) (hg : Gl X x) (ha : DA X (e :: es) fa) (hc : Cnt fa ps.length)
    (hdb : (x == ("__debug__" : Str)) = false := by decide) (he : starEach (e :: es) X.env = (false, eval e X.env) :: starEach es X.env := by rfl) (hpl : (backTo pos (starEach es X.env)).any (·.1) = false := by rfl) :
    DE X (.Call (.Name x p) (e :: es) [] pos) (fCall F fa) := by
  obtain ⟨f, fd, h1, h2, h3, h4⟩ := D
  exact PE.weak (pe_callG (F := E0) h4 gd hr hg h1 h2 h3 pass0 ha hdb he hpl) (tCall_of hc.len)
/-! ### x = [.. for ..] where the list is made within the frame -/
theorem ds_setLc {X : Cx} {E : XK} {i : Nat} {y : Str} {py : Pos} {elt tg iter : Expr} {ifs : List Expr} {scope : Scope} {own : List (Str × Nat)} {pos spos : Pos} {fi : Fi} {h : Fg} {S : List Nat} {ft : Ft} {fe : Fe} (hc : X.calm = true) (hN : X.N.Nodup) (hy : X.N[i]? = some y) (hyl : X.env.scope.names.lookup y = some .local)
    (hsw : swapsWith (.ListComp elt [⟨tg, iter, ifs, 0⟩] scope pos) (some (.Name y py)) spos.line X.env = pure true) (hi : DI X tg iter fi) (ok : BlkOk X.N X.env.scope scope own)
    (hg : ∀ (s : Shared) (H : Hp) (C : Addr) (cl : List (Str × Addr)) (fp : List Addr), DG (X.blk s H scope (compEnvC scope cl C X.env) fp) tg h S) (ht : ∀ (s : Shared) (H : Hp) (C : Addr) (cl : List (Str × Addr)) (fp : List Addr), DTs (X.blk s H scope (compEnvC scope cl C X.env) fp) ifs ft)
    (he : ∀ (s : Shared) (H : Hp) (C : Addr) (cl : List (Str × Addr)) (fp : List Addr), DE (X.blk s H scope (compEnvC scope cl C X.env) fp) elt fe) (hS : ∀ i ∈ S, i ∈ own.map (·.2) := by decide) (hs : ∀ x, foldedSetIterable iter X.env x = pure x := by intro _; rfl) :
    DS X E (.Assign [.Name y py] (.ListComp elt [⟨tg, iter, ifs, 0⟩] scope pos) spos) (bAsg i (dLc fi h ft fe (own.map (·.2)))) :=
  PS.weak (ps_setLc hc hN hy hyl hsw hi ok hg ht (fun s H C cl fp => de_fr (he s H C cl fp)) hs) fun D σ H q => tLc_of hS σ H _ (tAsg_of D σ H q)
/-! ### a walk over a list, a tuple, a text -/
theorem PI.or {X : Cx} {tg it : Expr} {t t' : TI} (h : PI X tg it t) (h' : PI X tg it t') : PI X tg it (fun σ H R => t σ H R ∨ t' σ H R) := ⟨fun pins s σ H R I q => q.elim (h.run pins s σ H R I) (h'.run pins s σ H R I)⟩
def signsD (z : Str) : List D := z.cps.toList.map fun c => .str ⟨#[c]⟩
theorem it_str {K : PySem.W.Frag} {G : Hp} {z : Str} : ItOk K G (Its z) (signsD z) := by
  have w := (walk_str (z := z)).mono (G' := fun H => Ex G H) (Y' := fun i H x H' => ∃ d, (signsD z)[i]? = some d ∧ ItemY K G d H x H') (fun _ _ => trivial) fun i H x H' hi e y => by
    obtain ⟨rfl, c, h1, rfl⟩ := y
    exact ⟨.str ⟨#[c]⟩, by unfold signsD; rw [List.getElem?_map, Array.getElem?_toList, h1]; rfl, .inl ⟨rfl, .str _⟩⟩
  have e : (signsD z).length = z.cps.size := by unfold signsD; simp
  unfold ItOk
  rw [e]
  exact w
def iAny (f : Fe) : Fi := fun ρ => match dFr f ρ with
  | some (.lst xs, ρ1) => some (xs, ρ1)
  | some (.tup xs, ρ1) => some (xs, ρ1)
  | some (.str z, ρ1) => some (signsD z, ρ1)
  | _ => none
theorem di_any {X : Cx} {tg e : Expr} {f : Fe} (h : DE X e f) : DI X tg e (iAny f) := PI.weak (PI.or (pi_list (de_fr h)) (PI.or (pi_tup (de_fr h)) (pi_str (de_fr h)))) fun σ H R ⟨G, ρ, xs, ρ', g, q, k⟩ => by
  unfold iAny at q
  split at q
  · rename_i ys ρ1 q1
    cases q
    refine .inl ⟨G, ρ, _, _, g, q1, fun v G1 H1 A1 R1 => ?_⟩
    cases R1 with
    | lst h1 h2 => exact ⟨_, rfl, ⟨_, SqL.of (A1.good.ex _ _ h1)⟩, k _ G1 H1 A1 (it_list h1 h2)⟩
  · rename_i ys ρ1 q1
    cases q
    refine .inr (.inl ⟨G, ρ, _, _, g, q1, fun v G1 H1 A1 R1 => ?_⟩)
    cases R1 with
    | tup h1 h2 => exact ⟨_, rfl, ⟨_, SqT.of (A1.good.ex _ _ h1)⟩, k _ G1 H1 A1 (it_tup h1 h2)⟩
  · rename_i z ρ1 q1
    cases q
    refine .inr (.inr ⟨G, ρ, _, _, g, q1, fun v G1 H1 A1 R1 => ?_⟩)
    exact ⟨z, Rp.of_str R1, k _ G1 H1 A1 it_str⟩
  · cases q
theorem lawG_of {P : Program} {w : World} {K : PySem.W.Frag} {mg : Str → Option Value} {base : Heap} {k : Nat} {f : Addr} {fd : FuncData} {ps : List Str} {F : FF} (G : FnG P w K mg base k f fd ps (spD K 1 F))
    (h : ∀ ns : List Int, ns.length ≤ 63 → ∃ ρ', F [.fz (.scr ns)] = some (.fz (.bl true), ρ')) : FnG P w K mg base k f fd ps (spLaw K) :=
  G.imp fun vs H Q E z => spLaw_of h z
/-! ### what the top has written -/
structure Tx (fa : List He.Fa) (fn : List He.DefD) (K : PySem.W.Frag) (mg : Str → Option Value) : Prop where
  c : He.SaysD fa fn K
  gl : ∀ (i : Nat) {x : Str}, fa[i]? = some (.glo x) → mg x = some (.ref (He.ga K x))
  fr : ∀ (i : Nat) {x : Str}, fa[i]? = some (.free x) → mg x = none
  it : ∀ (i : Nat) {x : Str} {n : Int}, fa[i]? = some (.int x n) → ∃ t, mg x = some (.int n t)
  st : ∀ (i : Nat) {x z : Str}, fa[i]? = some (.str x z) → ∃ t, mg x = some (.str z t)
theorem txMk {fa : List He.Fa} {fn : List He.DefD} {K : PySem.W.Frag} {mg : Str → Option Value} {h : Heap} (X : K.In h) (G : h.Ns mainGlobals mg) (c : He.SaysD fa fn K) : Tx fa fn K mg :=
  ⟨c, fun i _ e => He.glo_ok X G (c.fact i e), fun i _ e => He.free_ok X G (c.fact i e), fun i _ _ e => He.int_ok X G (c.fact i e), fun i _ _ e => He.str_ok X G (c.fact i e)⟩
theorem de_gI {X : Cx} {x : Str} {i : Int} {pos : Pos} (hg : Gl X x) (hm : ∃ t, X.mg x = some (.int i t)) (hd : (x == ("__debug__" : Str)) = false := by decide) : DE X (.Name x pos) (eC (.int i)) := hm.elim fun _ h => de_gInt hg h hd
theorem de_gS {X : Cx} {x : Str} {i : Str} {pos : Pos} (hg : Gl X x) (hm : ∃ t, X.mg x = some (.str i t)) (hd : (x == ("__debug__" : Str)) = false := by decide) : DE X (.Name x pos) (eC (.str i)) := hm.elim fun _ h => de_gStr hg h hd
theorem hu64 {k : Nat} {A : Around} (h : Room k A) : A.units + 64 < cLine := by have := h.un; omega
theorem hu65 {k : Nat} {A : Around} (h : Room k A) : A.units + 65 < cLine := by have := h.un; omega
/-- storing in short -/
theorem sset {X : Cx} {E : XK} {f : Fe} {e : Expr} {pos pos' : Pos} {x : Str} (i : Nat) (hN : X.N.Nodup) (he : DE X e f) (hi : X.N[i]? = some x := by rfl) (hx : Loc X.env.scope x := by first | exact Or.inl rfl | exact Or.inr rfl) (hs : swapsWith e (some (.Name x pos')) pos.line X.env = pure false := by rfl) (hf : X.fn x = true ∨ X.env.scope.names.lookup x = some .local := by first | exact .inl rfl | exact .inr rfl) :
    DS X E (.Assign [.Name x pos'] e pos) (bAsg i f) := ds_set hN hi hx he hs hf
theorem gnm {X : Cx} {pos : Pos} {x : Str} (i : Nat) (hN : X.N.Nodup) (hi : X.N[i]? = some x := by rfl) (hx : Loc X.env.scope x := by first | exact Or.inl rfl | exact Or.inr rfl) (hf : X.fn x = true ∨ X.env.scope.names.lookup x = some .local := by first | exact .inl rfl | exact .inr rfl) : DG X (.Name x pos) (gNm i) [i] := dg_name hN hi hx hf
theorem saug {X : Cx} {E : XK} {x : Str} {e : Expr} {f : Fe} {op : Operator} {h : Int → Int → Int} {pos pos' : Pos} (i : Nat) (hN : X.N.Nodup) (ho : PIp X op (ipI h)) (he : DE X e f) (hi : X.N[i]? = some x := by rfl) (hx : Loc X.env.scope x := by first | exact Or.inl rfl | exact Or.inr rfl) (hf : X.fn x = true ∨ X.env.scope.names.lookup x = some .local := by first | exact .inl rfl | exact .inr rfl)
    (ht : ∀ (t : TE) (pe : PE X e t), PS X (.AugAssign (.Name x pos') op e pos) (tAug i t (ipI h)) := by intro t pe; exact ps_aug (by assumption) (by assumption) (by assumption) pe (by assumption) (by assumption)) :
    DS X E (.AugAssign (.Name x pos') op e pos) (bAug i h f) := ds_aug hN hi hx he ho hf ht
end DL
set_option Elab.async false
set_option linter.all false
set_option maxRecDepth 100000
set_option maxHeartbeats 1000000
namespace DL
open PySem PySem.Spec L2
/-! ### evaluation, a step at a time: each function's name is left only where what it waits for has come -/
section
variable {f fa fb fo fe : Fe} {t u : Ft} {g : Fa} {ρ ρ1 : En} {i n : Nat} {A B : Fs} {h : Fg} {gs : Fgs} {F : FF} {fi : Fe}
def kVar (o : Option Sl) (i : Nat) (ρ : En) : Option (Sl × En) := match o with
  | some (.fz d) => some (.fz d, ρ)
  | some (.ow _) => some (.bw i, ρ)
  | some (.rf _) => some (.bw i, ρ)
  | _ => none
theorem eVar_e : eVar i ρ = kVar ρ[i]? i ρ := id rfl
theorem eC_e {d : D} : eC d ρ = some (.fz d, ρ) := id rfl
def kRd (o : Option Sl) : Option D := match o with
  | some (.fz d) => some d
  | some (.ow (.l xs)) => some (.lst xs)
  | some (.rf (.l xs)) => some (.lst xs)
  | _ => none
theorem rd_fz {d : D} : rd ρ (.fz d) = some d := id rfl
theorem rd_ow {xs : List D} : rd ρ (.ow (.l xs)) = some (.lst xs) := id rfl
theorem rd_bw : rd ρ (.bw i) = kRd ρ[i]? := id rfl
def kFr (o : Option Sl) (i : Nat) (ρ : En) : Option (D × En) := match o with
  | some (.fz d) => some (d, ρ)
  | some (.ow (.l xs)) => some (.lst xs, ρ.set i (.fz (.lst xs)))
  | _ => none
theorem fr_fz {d : D} : fr ρ (.fz d) = some (d, ρ) := id rfl
theorem fr_ow {xs : List D} : fr ρ (.ow (.l xs)) = some (.lst xs, ρ) := id rfl
theorem fr_bw : fr ρ (.bw i) = kFr ρ[i]? i ρ := id rfl
def kDFr (o : Option (Sl × En)) : Option (D × En) := match o with
  | some (r, ρ1) => fr ρ1 r
  | none => none
theorem dFr_e : dFr f ρ = kDFr (f ρ) := id rfl
def kZ (o : Option Sl) (ρ : En) : Option (Sl × En) := match o with
  | some z => some (z, ρ)
  | none => none
def kOp3 (g : D → D → Option Sl) (d e : Option D) (ρ : En) : Option (Sl × En) := match d, e with
  | some d, some e => kZ (g d e) ρ
  | _, _ => none
def kOp2 (g : D → D → Option Sl) (ra : Sl) (o : Option (Sl × En)) : Option (Sl × En) := match o with
  | some (rb, ρ2) => kOp3 g (rd ρ2 ra) (rd ρ2 rb) ρ2
  | none => none
def kOp (g : D → D → Option Sl) (fb : Fe) (o : Option (Sl × En)) : Option (Sl × En) := match o with
  | some (ra, ρ1) => kOp2 g ra (fb ρ1)
  | none => none
theorem dOp2_e {g : D → D → Option Sl} : dOp2 g fa fb ρ = kOp g fb (fa ρ) := by
  unfold dOp2 kOp kOp2 kOp3 kZ
  rfl
def kTst (o : Option (Sl × En)) : Option (Bool × En) := match o with
  | some (.fz (.bl b), ρ1) => some (b, ρ1)
  | _ => none
theorem dTst_e : dTst f ρ = kTst (f ρ) := id rfl
def kAnd (o : Option (Bool × En)) (g : Ft) : Option (Bool × En) := match o with
  | some (true, ρ1) => g ρ1
  | some (false, ρ1) => some (false, ρ1)
  | none => none
theorem dAnd_e : dAnd t u ρ = kAnd (t ρ) u := id rfl
def kOr (o : Option (Bool × En)) (g : Ft) : Option (Bool × En) := match o with
  | some (false, ρ1) => g ρ1
  | some (true, ρ1) => some (true, ρ1)
  | none => none
theorem dOr_e : dOr t u ρ = kOr (t ρ) u := id rfl
def kNot (o : Option (Bool × En)) : Option (Bool × En) := match o with
  | some (b, ρ1) => some (!b, ρ1)
  | none => none
theorem dNot_e : dNot t ρ = kNot (t ρ) := id rfl
def kIfE (o : Option (Bool × En)) (f g : Fe) : Option (Sl × En) := match o with
  | some (true, ρ1) => f ρ1
  | some (false, ρ1) => g ρ1
  | none => none
theorem dIfE_e : dIfE t fa fb ρ = kIfE (t ρ) fa fb := id rfl
def kAndV (o : Option (Sl × En)) (g : Fe) : Option (Sl × En) := match o with
  | some (.fz (.bl true), ρ1) => g ρ1
  | some (.fz (.bl false), ρ1) => some (.fz (.bl false), ρ1)
  | _ => none
theorem dAndV_e : dAndV fa fb ρ = kAndV (fa ρ) fb := id rfl
def kOrV (o : Option (Sl × En)) (g : Fe) : Option (Sl × En) := match o with
  | some (.fz (.bl false), ρ1) => g ρ1
  | some (.fz (.bl true), ρ1) => some (.fz (.bl true), ρ1)
  | _ => none
theorem dOrV_e : dOrV fa fb ρ = kOrV (fa ρ) fb := id rfl
def kNotV (o : Option (Sl × En)) : Option (Sl × En) := match o with
  | some (.fz (.bl b), ρ1) => some (.fz (.bl (!b)), ρ1)
  | _ => none
theorem dNotV_e : dNotV f ρ = kNotV (f ρ) := id rfl
theorem dYes_e : dYes ρ = some (true, ρ) := id rfl
theorem aNil_e : aNil ρ = some ([], ρ) := id rfl
def kAC2 (r : Sl) (o : Option (List Sl × En)) : Option (List Sl × En) := match o with
  | some (rs, ρ2) => some (r :: rs, ρ2)
  | none => none
def kAC (o : Option (Sl × En)) (g : Fa) : Option (List Sl × En) := match o with
  | some (r, ρ1) => kAC2 r (g ρ1)
  | none => none
theorem aCons_e : aCons f g ρ = kAC (f ρ) g := id rfl
def kAF (o : Option (D × En)) (g : Fa) : Option (List Sl × En) := match o with
  | some (d, ρ1) => kAC2 (.fz d) (g ρ1)
  | none => none
theorem aFr_e : aFr f g ρ = kAF (dFr f ρ) g := id rfl
def kRds (o : Option D) (p : Option (List D)) : Option (List D) := match o, p with
  | some d, some ds => some (d :: ds)
  | _, _ => none
theorem rds_nil : rds ρ [] = some [] := id rfl
theorem rds_cons {r : Sl} {rs : List Sl} : rds ρ (r :: rs) = kRds (rd ρ r) (rds ρ rs) := by
  show (match rd ρ r with | some d => (match rds ρ rs with | some ds => some (d :: ds) | none => none) | none => none) = _
  unfold kRds
  cases rd ρ r with
  | none => rfl
  | some d => cases rds ρ rs <;> rfl
def kCall2 (g : List D → Option Sl) (o : Option (List D)) (ρ : En) : Option (Sl × En) := match o with
  | some ds => kZ (g ds) ρ
  | none => none
def kCall (g : List D → Option Sl) (o : Option (List Sl × En)) : Option (Sl × En) := match o with
  | some (rs, ρ1) => kCall2 g (rds ρ1 rs) ρ1
  | none => none
theorem dCall_e {gg : List D → Option Sl} : dCall gg g ρ = kCall gg (g ρ) := id rfl
def kTup2 (o : Option (List D)) (ρ : En) : Option (Sl × En) := match o with
  | some ds => if ds.length ≤ 1000000 then some (.fz (.tup ds), ρ) else none
  | none => none
def kTup (o : Option (List Sl × En)) : Option (Sl × En) := match o with
  | some (rs, ρ1) => kTup2 (dsOf rs) ρ1
  | none => none
theorem eTup_e : eTup g ρ = kTup (g ρ) := id rfl
def kLst2 (o : Option (List D)) (ρ : En) : Option (Sl × En) := match o with
  | some ds => if ds.length ≤ 1000000 then some (.ow (.l ds), ρ) else none
  | none => none
def kLst (o : Option (List Sl × En)) : Option (Sl × En) := match o with
  | some (rs, ρ1) => kLst2 (dsOf rs) ρ1
  | none => none
theorem eLst_e : eLst g ρ = kLst (g ρ) := id rfl
theorem dsOf_nil : dsOf [] = some [] := id rfl
theorem dsOf_fz {d : D} {rs : List Sl} : dsOf (.fz d :: rs) = (dsOf rs).map (d :: ·) := id rfl
def kFCo (o : Option (Sl × En)) (i : Nat) (ρ : En) : Option (Sl × En) := match o with
  | some (.fz d, .rf m' :: _) => some (.fz d, ρ.set i (.ow m'))
  | some (.ow m, .rf m' :: _) => some (.ow m, ρ.set i (.ow m'))
  | _ => none
def kFCr (o : Option (Sl × En)) (i : Nat) (ρ : En) : Option (Sl × En) := match o with
  | some (.fz d, .rf m' :: _) => some (.fz d, ρ.set i (.rf m'))
  | some (.ow m, .rf m' :: _) => some (.ow m, ρ.set i (.rf m'))
  | _ => none
def kFCf (o : Option (Sl × En)) (ρ : En) : Option (Sl × En) := match o with
  | some (.fz d, _) => some (.fz d, ρ)
  | some (.ow m, _) => some (.ow m, ρ)
  | _ => none
def kFC2 (F : FF) (b : Bool) (o : Option Sl) (i : Nat) (rest : List Sl) (ρ : En) : Option (Sl × En) := match b, o with
  | true, some (.ow m) => kFCo (F (.rf m :: rest)) i ρ
  | true, some (.rf m) => kFCr (F (.rf m :: rest)) i ρ
  | _, _ => none
def kFC3 (F : FF) (b : Bool) (rs : List Sl) (ρ : En) : Option (Sl × En) := match b with
  | true => kFCf (F rs) ρ
  | false => none
def kFC1 (F : FF) (rs : List Sl) (ρ : En) : Option (Sl × En) := match rs with
  | .bw i :: rss => kFC2 F (allFz rss) ρ[i]? i rss ρ
  | .fz d :: rss => kFC3 F (allFz rss) (.fz d :: rss) ρ
  | [] => kFC3 F true [] ρ
  | _ => none
def kFC (F : FF) (o : Option (List Sl × En)) : Option (Sl × En) := match o with
  | some (rs, ρ1) => kFC1 F rs ρ1
  | none => none
theorem fc_o (o : Option (Sl × En)) (i : Nat) (ρ : En) : (match o with
          | some (z, .rf m' :: _) => if isRes z = true then some (z, ρ.set i (.ow m')) else none
          | _ => none) = kFCo o i ρ := by
  unfold kFCo
  split
  · rename_i z m' more
    cases z <;> rfl
  · rename_i hn
    split
    · rename_i d m' more
      exact absurd rfl (hn _ _ _)
    · rename_i d m' more
      exact absurd rfl (hn _ _ _)
    · rfl
theorem fc_r (o : Option (Sl × En)) (i : Nat) (ρ : En) : (match o with
          | some (z, .rf m' :: _) => if isRes z = true then some (z, ρ.set i (.rf m')) else none
          | _ => none) = kFCr o i ρ := by
  unfold kFCr
  split
  · rename_i z m' more
    cases z <;> rfl
  · rename_i hn
    split
    · rename_i d m' more
      exact absurd rfl (hn _ _ _)
    · rename_i d m' more
      exact absurd rfl (hn _ _ _)
    · rfl
theorem fc_f (o : Option (Sl × En)) (ρ : En) : (match o with
        | some (z, _) => if isRes z = true then some (z, ρ) else none
        | none => none) = kFCf o ρ := by
  unfold kFCf
  cases o with
  | none => rfl
  | some y =>
    obtain ⟨z, _⟩ := y
    cases z <;> rfl
theorem fCall_e : fCall F g ρ = kFC F (g ρ) := by
  unfold fCall
  cases g ρ with
  | none => rfl
  | some y =>
    obtain ⟨rs, ρ1⟩ := y
    show _ = kFC1 F rs ρ1
    cases rs with
    | nil => exact fc_f _ _
    | cons r rest =>
      cases r with
      | un => rfl
      | ow m => rfl
      | rf m => rfl
      | fz d =>
        show (if allFz rest = true then _ else none) = kFC3 F (allFz rest) _ ρ1
        cases allFz rest with
        | false => rfl
        | true => exact fc_f _ _
      | bw i =>
        show (if allFz rest = true then _ else none) = kFC2 F (allFz rest) ρ1[i]? i rest ρ1
        cases allFz rest with
        | false => rfl
        | true =>
          cases ρ1[i]? with
          | none => rfl
          | some z =>
            cases z with
            | un => rfl
            | fz d => rfl
            | bw _ => rfl
            | ow m => exact fc_o _ _ _
            | rf m => exact fc_r _ _ _
/-! the rest -/
def kSeq (o : Option (Fl × En)) (B : Fs) : Option (Fl × En) := match o with
  | some (.nx, ρ1) => B ρ1
  | some (.rt r, ρ1) => some (.rt r, ρ1)
  | some (.bk, ρ1) => some (.bk, ρ1)
  | some (.ct, ρ1) => some (.ct, ρ1)
  | some (.ex C ns ds, ρ1) => some (.ex C ns ds, ρ1)
  | none => none
theorem bSeq_e : bSeq A B ρ = kSeq (A ρ) B := by
  unfold bSeq kSeq
  cases A ρ with
  | none => rfl
  | some y => obtain ⟨fl, ρ1⟩ := y; cases fl <;> rfl
theorem bNext_e : bNext ρ = some (.nx, ρ) := id rfl
theorem bBreak_e : bBreak ρ = some (.bk, ρ) := id rfl
theorem bCont_e : bCont ρ = some (.ct, ρ) := id rfl
theorem bRetN_e : bRetN ρ = some (.rt (.fz .non), ρ) := id rfl
def kDrop (o : Option (Sl × En)) : Option (Fl × En) := match o with
  | some (_, ρ1) => some (.nx, ρ1)
  | none => none
theorem bDrop_e : bDrop f ρ = kDrop (f ρ) := id rfl
def kRet (o : Option (Sl × En)) : Option (Fl × En) := match o with
  | some (r, ρ1) => some (.rt r, ρ1)
  | none => none
theorem bRet_e : bRet f ρ = kRet (f ρ) := id rfl
def kIf (o : Option (Bool × En)) (A B : Fs) : Option (Fl × En) := match o with
  | some (true, ρ1) => A ρ1
  | some (false, ρ1) => B ρ1
  | none => none
theorem bIf_e : bIf t A B ρ = kIf (t ρ) A B := id rfl
def kTo (o : Option (D × En)) : Option (Sl × En) := match o with
  | some (d, ρ1) => some (.fz d, ρ1)
  | none => none
theorem to_fz {d : D} : toSlot ρ (.fz d) = some (.fz d, ρ) := id rfl
theorem to_ow {m : Mu} : toSlot ρ (.ow m) = some (.ow m, ρ) := id rfl
theorem to_bw : toSlot ρ (.bw i) = kTo (kFr ρ[i]? i ρ) := id rfl
def kNR (o : Option Sl) : Bool := match o with
  | some (.rf _) => false
  | some (.fz _) => true
  | some (.ow _) => true
  | some .un => true
  | some (.bw _) => true
  | none => false
theorem notRf_e : notRf ρ i = kNR ρ[i]? := by
  unfold notRf kNR
  cases ρ[i]? with
  | none => rfl
  | some z => cases z <;> rfl
def kAsg3 (b : Bool) (i : Nat) (z : Sl) (ρ : En) : Option (Fl × En) := match b with
  | true => some (.nx, ρ.set i z)
  | false => none
def kAsg2 (i : Nat) (o : Option (Sl × En)) : Option (Fl × En) := match o with
  | some (z, ρ2) => kAsg3 (notRf ρ2 i) i z ρ2
  | none => none
def kAsg (i : Nat) (o : Option (Sl × En)) : Option (Fl × En) := match o with
  | some (r, ρ1) => kAsg2 i (toSlot ρ1 r)
  | none => none
theorem bAsg_e : bAsg i f ρ = kAsg i (f ρ) := by
  unfold bAsg kAsg
  cases f ρ with
  | none => rfl
  | some y =>
    obtain ⟨r, ρ1⟩ := y
    show _ = kAsg2 i (toSlot ρ1 r)
    unfold kAsg2
    cases q : toSlot ρ1 r with
    | none => simp only [q]
    | some y =>
      obtain ⟨z, ρ2⟩ := y
      simp only [q]
      unfold kAsg3
      cases notRf ρ2 i <;> rfl
def kGN (b : Bool) (i : Nat) (d : D) (ρ : En) : Option En := match b with
  | true => some (ρ.set i (.fz d))
  | false => none
theorem gNm_e {d : D} : gNm i d ρ = kGN (notRf ρ i) i d ρ := by
  unfold gNm kGN
  cases notRf ρ i <;> rfl
theorem gsNil_e : gsNil [] ρ = some ρ := id rfl
def kGC (t : Fgs) (ds : List D) (o : Option En) : Option En := match o with
  | some ρ1 => t ds ρ1
  | none => none
theorem gsCons_e {d : D} {ds : List D} : gsCons h gs (d :: ds) ρ = kGC gs ds (h d ρ) := id rfl
theorem gTp_e {ds : List D} : gTp n gs (.tup ds) ρ = if ds.length = n then gs ds ρ else none := id rfl
def kUn2 (o : Option En) : Option (Fl × En) := match o with
  | some ρ2 => some (.nx, ρ2)
  | none => none
def kUn (h : Fg) (o : Option (D × En)) : Option (Fl × En) := match o with
  | some (d, ρ1) => kUn2 (h d ρ1)
  | none => none
theorem bUnp_e : bUnp h f ρ = kUn h (dFr f ρ) := id rfl
def kMt4 (i : Nat) (ρ : En) (o : Option (D × List D)) : Option (Sl × En) := match o with
  | some (d, ys) => some (.fz d, putS ρ i (.l ys))
  | none => none
def kMt3 (i : Nat) (g : Gm) (ρ : En) (ods : Option (List D)) (o : Option (List D)) : Option (Sl × En) := match ods, o with
  | some ds, some xs => kMt4 i ρ (g xs ds)
  | _, _ => none
def kMt2 (i : Nat) (g : Gm) (o : Option (List Sl × En)) : Option (Sl × En) := match o with
  | some (rs, ρ1) => kMt3 i g ρ1 (dsOf rs) (heldL ρ1[i]?)
  | none => none
def kMt (i : Nat) (g : Gm) (o : Option (List D)) (a : Option (List Sl × En)) : Option (Sl × En) := match o with
  | some _ => kMt2 i g a
  | none => none
theorem dMt_e {gg : Gm} : dMt i g gg ρ = kMt i gg (heldL ρ[i]?) (g ρ) := by
  unfold dMt kMt kMt2 kMt3 kMt4
  (repeat' split) <;> simp_all
theorem held_ow {xs : List D} : heldL (some (.ow (.l xs))) = some xs := id rfl
theorem held_rf {xs : List D} : heldL (some (.rf (.l xs))) = some xs := id rfl
def kPut (o : Option Sl) (ρ : En) (i : Nat) (m : Mu) : En := match o with
  | some (.rf _) => ρ.set i (.rf m)
  | some (.ow _) => ρ.set i (.ow m)
  | some (.fz _) => ρ.set i (.ow m)
  | some .un => ρ.set i (.ow m)
  | some (.bw _) => ρ.set i (.ow m)
  | none => ρ
theorem putS_e {m : Mu} : putS ρ i m = kPut ρ[i]? ρ i m := by
  unfold putS kPut
  cases ρ[i]? with
  | none => rfl
  | some z => cases z <;> rfl
def kM12 (gg : D → D → Option Sl) (a : Str) (o : Option D) (ρ : En) : Option (Sl × En) := match o with
  | some d => kZ (gg (.str a) d) ρ
  | none => none
def kM11 (gg : D → D → Option Sl) (a : Str) (o : Option (Sl × En)) : Option (Sl × En) := match o with
  | some (rb, ρ2) => kM12 gg a (rd ρ2 rb) ρ2
  | none => none
def kM1 (gg : D → D → Option Sl) (fe : Fe) (o : Option (Sl × En)) : Option (Sl × En) := match o with
  | some (.fz (.str a), ρ1) => kM11 gg a (fe ρ1)
  | _ => none
theorem dM1_e {gg : D → D → Option Sl} : dM1 gg fo fe ρ = kM1 gg fe (fo ρ) := id rfl
def kIsi3 (o : Option Bool) (ρ : En) : Option (Sl × En) := match o with
  | some b => some (.fz (.bl b), ρ)
  | none => none
def kIsi2 (T : String) (o : Option D) (ρ : En) : Option (Sl × En) := match o with
  | some d => kIsi3 (isB T d) ρ
  | none => none
def kIsi (T : String) (o : Option (Sl × En)) : Option (Sl × En) := match o with
  | some (r, ρ1) => kIsi2 T (rd ρ1 r) ρ1
  | none => none
theorem dIsi_e {T : String} : dIsi T f ρ = kIsi T (f ρ) := by
  unfold dIsi kIsi kIsi2 kIsi3
  (repeat' split) <;> simp_all
def kOSo (o : Option (Sl × En)) : Option (Option Int × En) := match o with
  | some (.fz (.int i), ρ1) => some (some i, ρ1)
  | _ => none
theorem oSome_e : oSome f ρ = kOSo (f ρ) := id rfl
theorem oNo_e : oNo ρ = some (none, ρ) := id rfl
def kSl4 (o : Option D) (lo hi : Option Int) (ρ : En) : Option (Sl × En) := match o with
  | some d => kZ (gSl d lo hi) ρ
  | none => none
def kSl3 (r : Sl) (lo : Option Int) (o : Option (Option Int × En)) : Option (Sl × En) := match o with
  | some (hi, ρ3) => kSl4 (rd ρ3 r) lo hi ρ3
  | none => none
def kSl2 (r : Sl) (fh : Fo) (o : Option (Option Int × En)) : Option (Sl × En) := match o with
  | some (lo, ρ2) => kSl3 r lo (fh ρ2)
  | none => none
def kSl (fl fh : Fo) (o : Option (Sl × En)) : Option (Sl × En) := match o with
  | some (r, ρ1) => kSl2 r fh (fl ρ1)
  | none => none
theorem dSl_e {fl fh : Fo} : dSl f fl fh ρ = kSl fl fh (f ρ) := by
  unfold dSl kSl
  cases f ρ with
  | none => rfl
  | some y =>
    obtain ⟨r, ρ1⟩ := y
    show _ = kSl2 r fh (fl ρ1)
    unfold kSl2
    cases q : fl ρ1 with
    | none => simp only [q]
    | some y =>
      obtain ⟨lo, ρ2⟩ := y
      simp only [q]
      unfold kSl3
      cases q : fh ρ2 with
      | none => simp only [q]
      | some y =>
        obtain ⟨hi, ρ3⟩ := y
        simp only [q]
        unfold kSl4
        cases q : rd ρ3 r with
        | none => simp only [q]
        | some d =>
          simp only [q]
          unfold kZ
          cases gSl d lo hi <;> rfl
def kNeg (o : Option (Sl × En)) : Option (Sl × En) := match o with
  | some (.fz (.int i), ρ1) => some (.fz (.int (-i)), ρ1)
  | _ => none
theorem dNeg_e : dNeg f ρ = kNeg (f ρ) := id rfl
def kSX3 (i : Nat) (d : D) (xs : List D) (o : Option Nat) (ρ : En) : Option (Fl × En) := match o with
  | some j => some (.nx, putS ρ i (.l (xs.set j d)))
  | none => none
def kSX2 (i : Nat) (d : D) (k : Int) (o : Option (List D)) (ρ : En) : Option (Fl × En) := match o with
  | some xs => kSX3 i d xs (ixN xs.length k) ρ
  | none => none
def kSX1 (i : Nat) (d : D) (o : Option (Sl × En)) : Option (Fl × En) := match o with
  | some (.fz (.int k), ρ2) => kSX2 i d k (heldL ρ2[i]?) ρ2
  | _ => none
def kSX0 (i : Nat) (d : D) (o : Option (List D)) (p : Option (Sl × En)) : Option (Fl × En) := match o with
  | some _ => kSX1 i d p
  | none => none
def kSX (i : Nat) (fi : Fe) (o : Option (D × En)) : Option (Fl × En) := match o with
  | some (d, ρ1) => kSX0 i d (heldL ρ1[i]?) (fi ρ1)
  | none => none
theorem bSetIx_e : bSetIx i fi fe ρ = kSX i fi (dFr fe ρ) := by
  unfold bSetIx kSX kSX0 kSX1 kSX2 kSX3
  (repeat' split) <;> simp_all
def kAug3 (b : Bool) (i : Nat) (z : Int) (ρ : En) : Option (Fl × En) := match b with
  | true => some (.nx, ρ.set i (.fz (.int z)))
  | false => none
def kAug2 (i : Nat) (hh : Int → Int → Int) (a : Int) (o : Option (Sl × En)) : Option (Fl × En) := match o with
  | some (.fz (.int b), ρ1) => kAug3 (notRf ρ1 i) i (hh a b) ρ1
  | _ => none
def kAug (i : Nat) (hh : Int → Int → Int) (o : Option Sl) (p : Option (Sl × En)) : Option (Fl × En) := match o with
  | some (.fz (.int a)) => kAug2 i hh a p
  | _ => none
theorem bAug_e {hh : Int → Int → Int} : bAug i hh f ρ = kAug i hh ρ[i]? (f ρ) := by
  unfold bAug kAug kAug2 kAug3
  (repeat' split) <;> simp_all
def kRes (o : Option Sl) : Option Sl := match o with
  | some (.fz d) => some (.fz d)
  | some (.ow m) => some (.ow m)
  | _ => none
theorem res_fz {d : D} : resolve ρ (.fz d) = some (.fz d) := id rfl
theorem res_ow {m : Mu} : resolve ρ (.ow m) = some (.ow m) := id rfl
theorem res_bw : resolve ρ (.bw i) = kRes ρ[i]? := id rfl
def kEnd2 (o : Option Sl) (ρ : En) : Option (Sl × En) := match o with
  | some z => some (z, ρ)
  | none => none
def kEnd (ρ : En) (o : Option (Fl × En)) : Option (Sl × En) := match o with
  | some (.nx, ρe) => some (.fz .non, fin ρ ρe)
  | some (.rt r, ρe) => kEnd2 (resolve ρe r) (fin ρ ρe)
  | _ => none
theorem runF_e : runF n A ρ = kEnd ρ (A (ρ ++ List.replicate n .un)) := by
  unfold runF endF kEnd
  generalize A (ρ ++ List.replicate n .un) = o
  cases o with
  | none => rfl
  | some y =>
    obtain ⟨fl, ρe⟩ := y
    cases fl with
    | nx => rfl
    | bk => rfl
    | ct => rfl
    | ex C ns ds => rfl
    | rt r =>
      show (match resolve ρe r with | some z => some (z, fin ρ ρe) | none => none) = kEnd2 (resolve ρe r) _
      cases resolve ρe r <;> rfl
theorem fin_nil : fin [] [] = [] := id rfl
theorem fin_nil1 {l : En} : fin [] l = [] := id rfl
theorem fin_rf {m : Mu} {b : Sl} {l l' : En} : fin (.rf m :: l) (b :: l') = b :: fin l l' := id rfl
theorem fin_fz {d : D} {b : Sl} {l l' : En} : fin (.fz d :: l) (b :: l') = .fz d :: fin l l' := id rfl
def kAny (o : Option (D × En)) : Option (List D × En) := match o with
  | some (.lst xs, ρ1) => some (xs, ρ1)
  | some (.tup xs, ρ1) => some (xs, ρ1)
  | some (.str z, ρ1) => some (signsD z, ρ1)
  | _ => none
theorem iAny_e : iAny f ρ = kAny (dFr f ρ) := id rfl
def kR1 (o : Option (List Sl × En)) : Option (List D × En) := match o with
  | some ([.fz (.int n)], ρ1) => if n < 4000000000000000000 ∧ -4000000000000000000 ≤ n then some (rangeD 0 n.toNat, ρ1) else none
  | _ => none
theorem iRange1_e : iRange1 g ρ = kR1 (g ρ) := id rfl
def kR2 (o : Option (List Sl × En)) : Option (List D × En) := match o with
  | some ([.fz (.int m), .fz (.int n)], ρ1) => if n < 4000000000000000000 ∧ -4000000000000000000 ≤ n ∧ m < 4000000000000000000 ∧ -4000000000000000000 ≤ m then some (rangeD m (n - m).toNat, ρ1) else none
  | _ => none
theorem iRange2_e : iRange2 g ρ = kR2 (g ρ) := id rfl
def kEn (o : Option (List Sl × En)) : Option (List D × En) := match o with
  | some ([.fz (.lst xs)], ρ1) => some (enumD xs, ρ1)
  | some ([.fz (.tup xs)], ρ1) => some (enumD xs, ρ1)
  | _ => none
theorem iEnumD_e : iEnumD g ρ = kEn (g ρ) := id rfl
def kFor (h : Fg) (B : Fs) (o : Option (List D × En)) : Option (Fl × En) := match o with
  | some (xs, ρ1) => forL h B xs ρ1
  | none => none
theorem bFor_e {fi : Fi} : bFor fi h B ρ = kFor h B (fi ρ) := id rfl
def kLc2 (o : Option (List D × En)) (ρ1 : En) (vs : List Nat) : Option (Sl × En) := match o with
  | some (acc, ρ2) => some (.ow (.l acc), restD ρ1 ρ2 vs)
  | none => none
def kLc (h : Fg) (ft : Ft) (fe : Fe) (vs : List Nat) (o : Option (List D × En)) : Option (Sl × En) := match o with
  | some (xs, ρ1) => kLc2 (lcL h ft fe vs xs [] (wipeD ρ1 vs)) ρ1 vs
  | none => none
theorem dLc_e {fi : Fi} {ft : Ft} {vs : List Nat} : dLc fi h ft fe vs ρ = kLc h ft fe vs (fi ρ) := by
  unfold dLc kLc
  cases fi ρ with
  | none => rfl
  | some y =>
    obtain ⟨xs, ρ1⟩ := y
    simp only
    unfold kLc2
    rfl
def kGG (g : D → D → Option Sl) (d e : Option D) : Option Sl := match d, e with
  | some d, some e => g d e
  | _, _ => none
def kCh3 (g : D → D → Option Sl) (rb : Sl) (o : Option (Sl × En)) : Option (Sl × En) := match o with
  | some (rc, ρ3) => kOp3 g (rd ρ3 rb) (rd ρ3 rc) ρ3
  | none => none
def kCh2 (g : D → D → Option Sl) (fc : Fe) (rb : Sl) (ρ : En) (o : Option Sl) : Option (Sl × En) := match o with
  | some (.fz (.bl true)) => kCh3 g rb (fc ρ)
  | some (.fz (.bl false)) => some (.fz (.bl false), ρ)
  | _ => none
def kCh1 (g1 : D → D → Option Sl) (g2 : D → D → Option Sl) (fc : Fe) (ra : Sl) (o : Option (Sl × En)) : Option (Sl × En) := match o with
  | some (rb, ρ2) => kCh2 g2 fc rb ρ2 (kGG g1 (rd ρ2 ra) (rd ρ2 rb))
  | none => none
def kCh (g1 : D → D → Option Sl) (g2 : D → D → Option Sl) (fb : Fe) (fc : Fe) (o : Option (Sl × En)) : Option (Sl × En) := match o with
  | some (ra, ρ1) => kCh1 g1 g2 fc ra (fb ρ1)
  | none => none
theorem dChain_e {g1 g2 : D → D → Option Sl} {fc : Fe} : dChain g1 g2 fa fb fc ρ = kCh g1 g2 fb fc (fa ρ) := by
  unfold dChain kCh kCh1 kCh2 kCh3 kOp3 kZ kGG
  (repeat' split) <;> simp_all
def kLRg (o : Option (Sl × En)) : Option (Sl × En) := match o with
  | some (.fz (.int n), ρ1) => if n ≤ 1000000 ∧ -1000000 ≤ n then some (.ow (.l (rangeD 0 n.toNat)), ρ1) else none
  | _ => none
theorem dLRg1_e : dLRg1 f ρ = kLRg (f ρ) := id rfl
def kLRh (m : Int) (o : Option (Sl × En)) : Option (Sl × En) := match o with
  | some (.fz (.int n), ρ2) => if n ≤ 1000000 ∧ -1000000 ≤ n ∧ m ≤ 1000000 ∧ -1000000 ≤ m then some (.ow (.l (rangeD m (n - m).toNat)), ρ2) else none
  | _ => none
def kLRi (g : Fe) (o : Option (Sl × En)) : Option (Sl × En) := match o with
  | some (.fz (.int m), ρ1) => kLRh m (g ρ1)
  | _ => none
theorem dLRg2_e : dLRg2 fa fb ρ = kLRi fb (fa ρ) := id rfl
theorem heldM_ow {m : Mu} : heldM (some (.ow m)) = some m := id rfl
theorem heldM_rf {m : Mu} : heldM (some (.rf m)) = some m := id rfl
theorem eDict_e {m : Mu} : eDict m ρ = some (.ow m, ρ) := id rfl
def kMG (m : Option Mu) (d : Option D) : Option (Option D) := match m, d with
  | some m, some d => mGet m d
  | _, _ => none
def kDG2 (o : Option (Option D)) (ρ : En) : Option (Sl × En) := match o with
  | some (some v) => some (.fz v, ρ)
  | _ => none
def kDG1 (i : Nat) (o : Option (Sl × En)) : Option (Sl × En) := match o with
  | some (rk, ρ1) => kDG2 (kMG (heldM ρ1[i]?) (rd ρ1 rk)) ρ1
  | none => none
def kDG (i : Nat) (o : Option Mu) (p : Option (Sl × En)) : Option (Sl × En) := match o with
  | some _ => kDG1 i p
  | none => none
theorem dDGet_e : dDGet i f ρ = kDG i (heldM ρ[i]?) (f ρ) := by
  unfold dDGet kDG
  cases heldM ρ[i]? with
  | none => rfl
  | some m0 =>
    cases f ρ with
    | none => rfl
    | some y =>
      obtain ⟨rk, ρ1⟩ := y
      dsimp only [kDG1, kMG, kDG2]
      generalize rd ρ1 rk = a
      generalize heldM ρ1[i]? = b
      cases a <;> cases b <;> rfl
def kDI2 (neg : Bool) (o : Option (Option D)) (ρ : En) : Option (Sl × En) := match o with
  | some v => some (.fz (.bl (neg ^^ v.isSome)), ρ)
  | none => none
def kDI (neg : Bool) (i : Nat) (o : Option (Sl × En)) : Option (Sl × En) := match o with
  | some (rk, ρ1) => kDI2 neg (kMG (heldM ρ1[i]?) (rd ρ1 rk)) ρ1
  | none => none
theorem dDIn_e {neg : Bool} : dDIn neg i f ρ = kDI neg i (f ρ) := by
  unfold dDIn kDI
  cases f ρ with
  | none => rfl
  | some y =>
    obtain ⟨rk, ρ1⟩ := y
    dsimp only [kDI2, kMG]
    generalize rd ρ1 rk = a
    generalize heldM ρ1[i]? = b
    cases a <;> cases b <;> try rfl
    rename_i d m
    dsimp only
    cases mGet m d <;> rfl
def kMP (m : Option Mu) (d : Option D) (v : D) : Option Mu := match m, d with
  | some m, some d => mPut m d v
  | _, _ => none
def kDP3 (i : Nat) (o : Option Mu) (ρ : En) : Option (Fl × En) := match o with
  | some m => some (.nx, putS ρ i m)
  | none => none
def kDP2 (i : Nat) (v : D) (o : Option (Sl × En)) : Option (Fl × En) := match o with
  | some (rk, ρ2) => kDP3 i (kMP (heldM ρ2[i]?) (rd ρ2 rk) v) ρ2
  | none => none
def kDP1 (i : Nat) (v : D) (o : Option Mu) (p : Option (Sl × En)) : Option (Fl × En) := match o with
  | some _ => kDP2 i v p
  | none => none
def kDP (i : Nat) (fk : Fe) (o : Option (D × En)) : Option (Fl × En) := match o with
  | some (v, ρ1) => kDP1 i v (heldM ρ1[i]?) (fk ρ1)
  | none => none
theorem bDPut_e : bDPut i fa fb ρ = kDP i fa (dFr fb ρ) := by
  unfold bDPut kDP
  cases dFr fb ρ with
  | none => rfl
  | some y =>
    obtain ⟨v, ρ1⟩ := y
    show _ = kDP1 i v (heldM ρ1[i]?) (fa ρ1)
    unfold kDP1
    cases q : heldM ρ1[i]? with
    | none => simp only [q]
    | some m0 =>
      simp only [q]
      cases q2 : fa ρ1 with
      | none => simp only [kDP2]
      | some y =>
        obtain ⟨rk, ρ2⟩ := y
        dsimp only [kDP2, kDP3, kMP]
        generalize rd ρ2 rk = a
        generalize heldM ρ2[i]? = b
        cases a <;> cases b <;> rfl
def kPar2 (b : Bool) (i : Nat) (j : Nat) (d : D) (e : D) (ρ : En) : Option (Fl × En) := match b with
  | true => some (.nx, (ρ.set i (.fz d)).set j (.fz e))
  | false => none
def kPar (i : Nat) (j : Nat) (o : Option (List Sl × En)) : Option (Fl × En) := match o with
  | some ([.fz d, .fz e], ρ1) => kPar2 (notRf ρ1 i && notRf ρ1 j) i j d e ρ1
  | _ => none
theorem bPar_e {j : Nat} : bPar i j g ρ = kPar i j (g ρ) := by
  unfold bPar kPar kPar2
  (repeat' split) <;> simp_all
theorem nc0 : ((0 : Nat) : Int) = 0 := id rfl
theorem nc1 : ((1 : Nat) : Int) = 1 := id rfl
theorem nc2 : ((2 : Nat) : Int) = 2 := id rfl
theorem nc3 : ((3 : Nat) : Int) = 3 := id rfl
theorem nc4 : ((4 : Nat) : Int) = 4 := id rfl
theorem nc5 : ((5 : Nat) : Int) = 5 := id rfl
theorem nc6 : ((6 : Nat) : Int) = 6 := id rfl
theorem nc7 : ((7 : Nat) : Int) = 7 := id rfl
theorem nc8 : ((8 : Nat) : Int) = 8 := id rfl
theorem nc9 : ((9 : Nat) : Int) = 9 := id rfl
theorem nc36 : ((36 : Nat) : Int) = 36 := id rfl
end
end DL
/-! equations, printed -/
namespace DL
open PySem PySem.Spec L2
set_option autoImplicit true
set_option relaxedAutoImplicit true
theorem kVar_0 {i : Nat} {ρ : En} : kVar (some (.fz d)) i ρ = some (.fz d, ρ) := id rfl
theorem kVar_1 {i : Nat} {ρ : En} : kVar (some (.ow u1)) i ρ = some (.bw i, ρ) := id rfl
theorem kVar_2 {i : Nat} {ρ : En} : kVar (some (.rf u1)) i ρ = some (.bw i, ρ) := id rfl
theorem kRd_0 : kRd (some (.fz d)) = some d := id rfl
theorem kRd_1 : kRd (some (.ow (.l xs))) = some (.lst xs) := id rfl
theorem kRd_2 : kRd (some (.rf (.l xs))) = some (.lst xs) := id rfl
theorem kFr_0 {i : Nat} {ρ : En} : kFr (some (.fz d)) i ρ = some (d, ρ) := id rfl
theorem kFr_1 {i : Nat} {ρ : En} : kFr (some (.ow (.l xs))) i ρ = some (.lst xs, ρ.set i (.fz (.lst xs))) := id rfl
theorem kDFr_0 : kDFr (some (r, ρ1)) = fr ρ1 r := id rfl
theorem kDFr_1 : kDFr (none) = none := id rfl
theorem kZ_0 {ρ : En} : kZ (some z) ρ = some (z, ρ) := id rfl
theorem kZ_1 {ρ : En} : kZ (none) ρ = none := id rfl
theorem kOp3_0 {g : D → D → Option Sl} {ρ : En} : kOp3 g (some d) (some e) ρ = kZ (g d e) ρ := id rfl
theorem kOp2_0 {g : D → D → Option Sl} {ra : Sl} : kOp2 g ra (some (rb, ρ2)) = kOp3 g (rd ρ2 ra) (rd ρ2 rb) ρ2 := id rfl
theorem kOp2_1 {g : D → D → Option Sl} {ra : Sl} : kOp2 g ra (none) = none := id rfl
theorem kOp_0 {g : D → D → Option Sl} {fb : Fe} : kOp g fb (some (ra, ρ1)) = kOp2 g ra (fb ρ1) := id rfl
theorem kOp_1 {g : D → D → Option Sl} {fb : Fe} : kOp g fb (none) = none := id rfl
theorem kTst_0 : kTst (some (.fz (.bl b), ρ1)) = some (b, ρ1) := id rfl
theorem kAnd_0 {g : Ft} : kAnd (some (true, ρ1)) g = g ρ1 := id rfl
theorem kAnd_1 {g : Ft} : kAnd (some (false, ρ1)) g = some (false, ρ1) := id rfl
theorem kAnd_2 {g : Ft} : kAnd (none) g = none := id rfl
theorem kOr_0 {g : Ft} : kOr (some (false, ρ1)) g = g ρ1 := id rfl
theorem kOr_1 {g : Ft} : kOr (some (true, ρ1)) g = some (true, ρ1) := id rfl
theorem kOr_2 {g : Ft} : kOr (none) g = none := id rfl
theorem kNot_0 : kNot (some (b, ρ1)) = some (!b, ρ1) := id rfl
theorem kNot_1 : kNot (none) = none := id rfl
theorem kIfE_0 {f : Fe} {g : Fe} : kIfE (some (true, ρ1)) f g = f ρ1 := id rfl
theorem kIfE_1 {f : Fe} {g : Fe} : kIfE (some (false, ρ1)) f g = g ρ1 := id rfl
theorem kIfE_2 {f : Fe} {g : Fe} : kIfE (none) f g = none := id rfl
theorem kAndV_0 {g : Fe} : kAndV (some (.fz (.bl true), ρ1)) g = g ρ1 := id rfl
theorem kAndV_1 {g : Fe} : kAndV (some (.fz (.bl false), ρ1)) g = some (.fz (.bl false), ρ1) := id rfl
theorem kOrV_0 {g : Fe} : kOrV (some (.fz (.bl false), ρ1)) g = g ρ1 := id rfl
theorem kOrV_1 {g : Fe} : kOrV (some (.fz (.bl true), ρ1)) g = some (.fz (.bl true), ρ1) := id rfl
theorem kNotV_0 : kNotV (some (.fz (.bl b), ρ1)) = some (.fz (.bl (!b)), ρ1) := id rfl
theorem kAC2_0 {r : Sl} : kAC2 r (some (rs, ρ2)) = some (r :: rs, ρ2) := id rfl
theorem kAC2_1 {r : Sl} : kAC2 r (none) = none := id rfl
theorem kAC_0 {g : Fa} : kAC (some (r, ρ1)) g = kAC2 r (g ρ1) := id rfl
theorem kAC_1 {g : Fa} : kAC (none) g = none := id rfl
theorem kAF_0 {g : Fa} : kAF (some (d, ρ1)) g = kAC2 (.fz d) (g ρ1) := id rfl
theorem kAF_1 {g : Fa} : kAF (none) g = none := id rfl
theorem kRds_0 : kRds (some d) (some ds) = some (d :: ds) := id rfl
theorem kCall2_0 {g : List D → Option Sl} {ρ : En} : kCall2 g (some ds) ρ = kZ (g ds) ρ := id rfl
theorem kCall2_1 {g : List D → Option Sl} {ρ : En} : kCall2 g (none) ρ = none := id rfl
theorem kCall_0 {g : List D → Option Sl} : kCall g (some (rs, ρ1)) = kCall2 g (rds ρ1 rs) ρ1 := id rfl
theorem kCall_1 {g : List D → Option Sl} : kCall g (none) = none := id rfl
theorem kTup2_0 {ρ : En} : kTup2 (some ds) ρ = if ds.length ≤ 1000000 then some (.fz (.tup ds), ρ) else none := id rfl
theorem kTup2_1 {ρ : En} : kTup2 (none) ρ = none := id rfl
theorem kTup_0 : kTup (some (rs, ρ1)) = kTup2 (dsOf rs) ρ1 := id rfl
theorem kTup_1 : kTup (none) = none := id rfl
theorem kLst2_0 {ρ : En} : kLst2 (some ds) ρ = if ds.length ≤ 1000000 then some (.ow (.l ds), ρ) else none := id rfl
theorem kLst2_1 {ρ : En} : kLst2 (none) ρ = none := id rfl
theorem kLst_0 : kLst (some (rs, ρ1)) = kLst2 (dsOf rs) ρ1 := id rfl
theorem kLst_1 : kLst (none) = none := id rfl
theorem kFCo_0 {i : Nat} {ρ : En} : kFCo (some (.fz d, .rf m' :: u1)) i ρ = some (.fz d, ρ.set i (.ow m')) := id rfl
theorem kFCo_1 {i : Nat} {ρ : En} : kFCo (some (.ow m, .rf m' :: u1)) i ρ = some (.ow m, ρ.set i (.ow m')) := id rfl
theorem kFCr_0 {i : Nat} {ρ : En} : kFCr (some (.fz d, .rf m' :: u1)) i ρ = some (.fz d, ρ.set i (.rf m')) := id rfl
theorem kFCr_1 {i : Nat} {ρ : En} : kFCr (some (.ow m, .rf m' :: u1)) i ρ = some (.ow m, ρ.set i (.rf m')) := id rfl
theorem kFCf_0 {ρ : En} : kFCf (some (.fz d, u1)) ρ = some (.fz d, ρ) := id rfl
theorem kFCf_1 {ρ : En} : kFCf (some (.ow m, u1)) ρ = some (.ow m, ρ) := id rfl
theorem kFC2_0 {F : FF} {i : Nat} {rest : List Sl} {ρ : En} : kFC2 F (true) (some (.ow m)) i rest ρ = kFCo (F (.rf m :: rest)) i ρ := id rfl
theorem kFC2_1 {F : FF} {i : Nat} {rest : List Sl} {ρ : En} : kFC2 F (true) (some (.rf m)) i rest ρ = kFCr (F (.rf m :: rest)) i ρ := id rfl
theorem kFC3_0 {F : FF} {rs : List Sl} {ρ : En} : kFC3 F (true) rs ρ = kFCf (F rs) ρ := id rfl
theorem kFC3_1 {F : FF} {rs : List Sl} {ρ : En} : kFC3 F (false) rs ρ = none := id rfl
theorem kFC1_0 {F : FF} {ρ : En} : kFC1 F (.bw i :: rss) ρ = kFC2 F (allFz rss) ρ[i]? i rss ρ := id rfl
theorem kFC1_1 {F : FF} {ρ : En} : kFC1 F (.fz d :: rss) ρ = kFC3 F (allFz rss) (.fz d :: rss) ρ := id rfl
theorem kFC1_2 {F : FF} {ρ : En} : kFC1 F ([]) ρ = kFC3 F true [] ρ := id rfl
theorem kFC_0 {F : FF} : kFC F (some (rs, ρ1)) = kFC1 F rs ρ1 := id rfl
theorem kFC_1 {F : FF} : kFC F (none) = none := id rfl
theorem kSeq_0 {B : Fs} : kSeq (some (.nx, ρ1)) B = B ρ1 := id rfl
theorem kSeq_1 {B : Fs} : kSeq (some (.rt r, ρ1)) B = some (.rt r, ρ1) := id rfl
theorem kSeq_2 {B : Fs} : kSeq (some (.bk, ρ1)) B = some (.bk, ρ1) := id rfl
theorem kSeq_3 {B : Fs} : kSeq (some (.ct, ρ1)) B = some (.ct, ρ1) := id rfl
theorem kSeq_4 {B : Fs} : kSeq (some (.ex C ns ds, ρ1)) B = some (.ex C ns ds, ρ1) := id rfl
theorem kSeq_5 {B : Fs} : kSeq (none) B = none := id rfl
theorem kDrop_0 : kDrop (some (u1, ρ1)) = some (.nx, ρ1) := id rfl
theorem kDrop_1 : kDrop (none) = none := id rfl
theorem kRet_0 : kRet (some (r, ρ1)) = some (.rt r, ρ1) := id rfl
theorem kRet_1 : kRet (none) = none := id rfl
theorem kIf_0 {A : Fs} {B : Fs} : kIf (some (true, ρ1)) A B = A ρ1 := id rfl
theorem kIf_1 {A : Fs} {B : Fs} : kIf (some (false, ρ1)) A B = B ρ1 := id rfl
theorem kIf_2 {A : Fs} {B : Fs} : kIf (none) A B = none := id rfl
theorem kTo_0 : kTo (some (d, ρ1)) = some (.fz d, ρ1) := id rfl
theorem kTo_1 : kTo (none) = none := id rfl
theorem kNR_0 : kNR (some (.rf u1)) = false := id rfl
theorem kNR_1 : kNR (some (.fz u1)) = true := id rfl
theorem kNR_2 : kNR (some (.ow u1)) = true := id rfl
theorem kNR_3 : kNR (some .un) = true := id rfl
theorem kNR_4 : kNR (some (.bw u1)) = true := id rfl
theorem kNR_5 : kNR (none) = false := id rfl
theorem kAsg3_0 {i : Nat} {z : Sl} {ρ : En} : kAsg3 (true) i z ρ = some (.nx, ρ.set i z) := id rfl
theorem kAsg3_1 {i : Nat} {z : Sl} {ρ : En} : kAsg3 (false) i z ρ = none := id rfl
theorem kAsg2_0 {i : Nat} : kAsg2 i (some (z, ρ2)) = kAsg3 (notRf ρ2 i) i z ρ2 := id rfl
theorem kAsg2_1 {i : Nat} : kAsg2 i (none) = none := id rfl
theorem kAsg_0 {i : Nat} : kAsg i (some (r, ρ1)) = kAsg2 i (toSlot ρ1 r) := id rfl
theorem kAsg_1 {i : Nat} : kAsg i (none) = none := id rfl
theorem kGN_0 {i : Nat} {d : D} {ρ : En} : kGN (true) i d ρ = some (ρ.set i (.fz d)) := id rfl
theorem kGN_1 {i : Nat} {d : D} {ρ : En} : kGN (false) i d ρ = none := id rfl
theorem kGC_0 {t : Fgs} {ds : List D} : kGC t ds (some ρ1) = t ds ρ1 := id rfl
theorem kGC_1 {t : Fgs} {ds : List D} : kGC t ds (none) = none := id rfl
theorem kUn2_0 : kUn2 (some ρ2) = some (.nx, ρ2) := id rfl
theorem kUn2_1 : kUn2 (none) = none := id rfl
theorem kUn_0 {h : Fg} : kUn h (some (d, ρ1)) = kUn2 (h d ρ1) := id rfl
theorem kUn_1 {h : Fg} : kUn h (none) = none := id rfl
theorem kMt4_0 {i : Nat} {ρ : En} : kMt4 i ρ (some (d, ys)) = some (.fz d, putS ρ i (.l ys)) := id rfl
theorem kMt4_1 {i : Nat} {ρ : En} : kMt4 i ρ (none) = none := id rfl
theorem kMt3_0 {i : Nat} {g : Gm} {ρ : En} : kMt3 i g ρ (some ds) (some xs) = kMt4 i ρ (g xs ds) := id rfl
theorem kMt2_0 {i : Nat} {g : Gm} : kMt2 i g (some (rs, ρ1)) = kMt3 i g ρ1 (dsOf rs) (heldL ρ1[i]?) := id rfl
theorem kMt2_1 {i : Nat} {g : Gm} : kMt2 i g (none) = none := id rfl
theorem kMt_0 {i : Nat} {g : Gm} {a : Option (List Sl × En)} : kMt i g (some u1) a = kMt2 i g a := id rfl
theorem kMt_1 {i : Nat} {g : Gm} {a : Option (List Sl × En)} : kMt i g (none) a = none := id rfl
theorem kPut_0 {ρ : En} {i : Nat} {m : Mu} : kPut (some (.rf u1)) ρ i m = ρ.set i (.rf m) := id rfl
theorem kPut_1 {ρ : En} {i : Nat} {m : Mu} : kPut (some (.ow u1)) ρ i m = ρ.set i (.ow m) := id rfl
theorem kPut_2 {ρ : En} {i : Nat} {m : Mu} : kPut (some (.fz u1)) ρ i m = ρ.set i (.ow m) := id rfl
theorem kPut_3 {ρ : En} {i : Nat} {m : Mu} : kPut (some .un) ρ i m = ρ.set i (.ow m) := id rfl
theorem kPut_4 {ρ : En} {i : Nat} {m : Mu} : kPut (some (.bw u1)) ρ i m = ρ.set i (.ow m) := id rfl
theorem kPut_5 {ρ : En} {i : Nat} {m : Mu} : kPut (none) ρ i m = ρ := id rfl
theorem kM12_0 {gg : D → D → Option Sl} {a : Str} {ρ : En} : kM12 gg a (some d) ρ = kZ (gg (.str a) d) ρ := id rfl
theorem kM12_1 {gg : D → D → Option Sl} {a : Str} {ρ : En} : kM12 gg a (none) ρ = none := id rfl
theorem kM11_0 {gg : D → D → Option Sl} {a : Str} : kM11 gg a (some (rb, ρ2)) = kM12 gg a (rd ρ2 rb) ρ2 := id rfl
theorem kM11_1 {gg : D → D → Option Sl} {a : Str} : kM11 gg a (none) = none := id rfl
theorem kM1_0 {gg : D → D → Option Sl} {fe : Fe} : kM1 gg fe (some (.fz (.str a), ρ1)) = kM11 gg a (fe ρ1) := id rfl
theorem kIsi3_0 {ρ : En} : kIsi3 (some b) ρ = some (.fz (.bl b), ρ) := id rfl
theorem kIsi3_1 {ρ : En} : kIsi3 (none) ρ = none := id rfl
theorem kIsi2_0 {T : String} {ρ : En} : kIsi2 T (some d) ρ = kIsi3 (isB T d) ρ := id rfl
theorem kIsi2_1 {T : String} {ρ : En} : kIsi2 T (none) ρ = none := id rfl
theorem kIsi_0 {T : String} : kIsi T (some (r, ρ1)) = kIsi2 T (rd ρ1 r) ρ1 := id rfl
theorem kIsi_1 {T : String} : kIsi T (none) = none := id rfl
theorem kOSo_0 : kOSo (some (.fz (.int i), ρ1)) = some (some i, ρ1) := id rfl
theorem kSl4_0 {lo : Option Int} {hi : Option Int} {ρ : En} : kSl4 (some d) lo hi ρ = kZ (gSl d lo hi) ρ := id rfl
theorem kSl4_1 {lo : Option Int} {hi : Option Int} {ρ : En} : kSl4 (none) lo hi ρ = none := id rfl
theorem kSl3_0 {r : Sl} {lo : Option Int} : kSl3 r lo (some (hi, ρ3)) = kSl4 (rd ρ3 r) lo hi ρ3 := id rfl
theorem kSl3_1 {r : Sl} {lo : Option Int} : kSl3 r lo (none) = none := id rfl
theorem kSl2_0 {r : Sl} {fh : Fo} : kSl2 r fh (some (lo, ρ2)) = kSl3 r lo (fh ρ2) := id rfl
theorem kSl2_1 {r : Sl} {fh : Fo} : kSl2 r fh (none) = none := id rfl
theorem kSl_0 {fl : Fo} {fh : Fo} : kSl fl fh (some (r, ρ1)) = kSl2 r fh (fl ρ1) := id rfl
theorem kSl_1 {fl : Fo} {fh : Fo} : kSl fl fh (none) = none := id rfl
theorem kNeg_0 : kNeg (some (.fz (.int i), ρ1)) = some (.fz (.int (-i)), ρ1) := id rfl
theorem kSX3_0 {i : Nat} {d : D} {xs : List D} {ρ : En} : kSX3 i d xs (some j) ρ = some (.nx, putS ρ i (.l (xs.set j d))) := id rfl
theorem kSX3_1 {i : Nat} {d : D} {xs : List D} {ρ : En} : kSX3 i d xs (none) ρ = none := id rfl
theorem kSX2_0 {i : Nat} {d : D} {k : Int} {ρ : En} : kSX2 i d k (some xs) ρ = kSX3 i d xs (ixN xs.length k) ρ := id rfl
theorem kSX2_1 {i : Nat} {d : D} {k : Int} {ρ : En} : kSX2 i d k (none) ρ = none := id rfl
theorem kSX1_0 {i : Nat} {d : D} : kSX1 i d (some (.fz (.int k), ρ2)) = kSX2 i d k (heldL ρ2[i]?) ρ2 := id rfl
theorem kSX0_0 {i : Nat} {d : D} {p : Option (Sl × En)} : kSX0 i d (some u1) p = kSX1 i d p := id rfl
theorem kSX0_1 {i : Nat} {d : D} {p : Option (Sl × En)} : kSX0 i d (none) p = none := id rfl
theorem kSX_0 {i : Nat} {fi : Fe} : kSX i fi (some (d, ρ1)) = kSX0 i d (heldL ρ1[i]?) (fi ρ1) := id rfl
theorem kSX_1 {i : Nat} {fi : Fe} : kSX i fi (none) = none := id rfl
theorem kAug3_0 {i : Nat} {z : Int} {ρ : En} : kAug3 (true) i z ρ = some (.nx, ρ.set i (.fz (.int z))) := id rfl
theorem kAug3_1 {i : Nat} {z : Int} {ρ : En} : kAug3 (false) i z ρ = none := id rfl
theorem kAug2_0 {i : Nat} {hh : Int → Int → Int} {a : Int} : kAug2 i hh a (some (.fz (.int b), ρ1)) = kAug3 (notRf ρ1 i) i (hh a b) ρ1 := id rfl
theorem kAug_0 {i : Nat} {hh : Int → Int → Int} {p : Option (Sl × En)} : kAug i hh (some (.fz (.int a))) p = kAug2 i hh a p := id rfl
theorem kRes_0 : kRes (some (.fz d)) = some (.fz d) := id rfl
theorem kRes_1 : kRes (some (.ow m)) = some (.ow m) := id rfl
theorem kEnd2_0 {ρ : En} : kEnd2 (some z) ρ = some (z, ρ) := id rfl
theorem kEnd2_1 {ρ : En} : kEnd2 (none) ρ = none := id rfl
theorem kEnd_0 {ρ : En} : kEnd ρ (some (.nx, ρe)) = some (.fz .non, fin ρ ρe) := id rfl
theorem kEnd_1 {ρ : En} : kEnd ρ (some (.rt r, ρe)) = kEnd2 (resolve ρe r) (fin ρ ρe) := id rfl
theorem kAny_0 : kAny (some (.lst xs, ρ1)) = some (xs, ρ1) := id rfl
theorem kAny_1 : kAny (some (.tup xs, ρ1)) = some (xs, ρ1) := id rfl
theorem kAny_2 : kAny (some (.str z, ρ1)) = some (signsD z, ρ1) := id rfl
theorem kR1_0 : kR1 (some ([.fz (.int n)], ρ1)) = if n < 4000000000000000000 ∧ -4000000000000000000 ≤ n then some (rangeD 0 n.toNat, ρ1) else none := id rfl
theorem kR2_0 : kR2 (some ([.fz (.int m), .fz (.int n)], ρ1)) = if n < 4000000000000000000 ∧ -4000000000000000000 ≤ n ∧ m < 4000000000000000000 ∧ -4000000000000000000 ≤ m then some (rangeD m (n - m).toNat, ρ1) else none := id rfl
theorem kEn_0 : kEn (some ([.fz (.lst xs)], ρ1)) = some (enumD xs, ρ1) := id rfl
theorem kEn_1 : kEn (some ([.fz (.tup xs)], ρ1)) = some (enumD xs, ρ1) := id rfl
theorem kFor_0 {h : Fg} {B : Fs} : kFor h B (some (xs, ρ1)) = forL h B xs ρ1 := id rfl
theorem kFor_1 {h : Fg} {B : Fs} : kFor h B (none) = none := id rfl
theorem kLc2_0 {ρ1 : En} {vs : List Nat} : kLc2 (some (acc, ρ2)) ρ1 vs = some (.ow (.l acc), restD ρ1 ρ2 vs) := id rfl
theorem kLc2_1 {ρ1 : En} {vs : List Nat} : kLc2 (none) ρ1 vs = none := id rfl
theorem kLc_0 {h : Fg} {ft : Ft} {fe : Fe} {vs : List Nat} : kLc h ft fe vs (some (xs, ρ1)) = kLc2 (lcL h ft fe vs xs [] (wipeD ρ1 vs)) ρ1 vs := id rfl
theorem kLc_1 {h : Fg} {ft : Ft} {fe : Fe} {vs : List Nat} : kLc h ft fe vs (none) = none := id rfl
theorem kGG_0 {g : D → D → Option Sl} : kGG g (some d) (some e) = g d e := id rfl
theorem kCh3_0 {g : D → D → Option Sl} {rb : Sl} : kCh3 g rb (some (rc, ρ3)) = kOp3 g (rd ρ3 rb) (rd ρ3 rc) ρ3 := id rfl
theorem kCh3_1 {g : D → D → Option Sl} {rb : Sl} : kCh3 g rb (none) = none := id rfl
theorem kCh2_0 {g : D → D → Option Sl} {fc : Fe} {rb : Sl} {ρ : En} : kCh2 g fc rb ρ (some (.fz (.bl true))) = kCh3 g rb (fc ρ) := id rfl
theorem kCh2_1 {g : D → D → Option Sl} {fc : Fe} {rb : Sl} {ρ : En} : kCh2 g fc rb ρ (some (.fz (.bl false))) = some (.fz (.bl false), ρ) := id rfl
theorem kCh1_0 {g1 : D → D → Option Sl} {g2 : D → D → Option Sl} {fc : Fe} {ra : Sl} : kCh1 g1 g2 fc ra (some (rb, ρ2)) = kCh2 g2 fc rb ρ2 (kGG g1 (rd ρ2 ra) (rd ρ2 rb)) := id rfl
theorem kCh1_1 {g1 : D → D → Option Sl} {g2 : D → D → Option Sl} {fc : Fe} {ra : Sl} : kCh1 g1 g2 fc ra (none) = none := id rfl
theorem kCh_0 {g1 : D → D → Option Sl} {g2 : D → D → Option Sl} {fb : Fe} {fc : Fe} : kCh g1 g2 fb fc (some (ra, ρ1)) = kCh1 g1 g2 fc ra (fb ρ1) := id rfl
theorem kCh_1 {g1 : D → D → Option Sl} {g2 : D → D → Option Sl} {fb : Fe} {fc : Fe} : kCh g1 g2 fb fc (none) = none := id rfl
theorem kLRg_0 : kLRg (some (.fz (.int n), ρ1)) = if n ≤ 1000000 ∧ -1000000 ≤ n then some (.ow (.l (rangeD 0 n.toNat)), ρ1) else none := id rfl
theorem kLRh_0 {m : Int} : kLRh m (some (.fz (.int n), ρ2)) = if n ≤ 1000000 ∧ -1000000 ≤ n ∧ m ≤ 1000000 ∧ -1000000 ≤ m then some (.ow (.l (rangeD m (n - m).toNat)), ρ2) else none := id rfl
theorem kLRi_0 {g : Fe} : kLRi g (some (.fz (.int m), ρ1)) = kLRh m (g ρ1) := id rfl
theorem kMG_0 : kMG (some m) (some d) = mGet m d := id rfl
theorem kDG2_0 {ρ : En} : kDG2 (some (some v)) ρ = some (.fz v, ρ) := id rfl
theorem kDG1_0 {i : Nat} : kDG1 i (some (rk, ρ1)) = kDG2 (kMG (heldM ρ1[i]?) (rd ρ1 rk)) ρ1 := id rfl
theorem kDG1_1 {i : Nat} : kDG1 i (none) = none := id rfl
theorem kDG_0 {i : Nat} {p : Option (Sl × En)} : kDG i (some u1) p = kDG1 i p := id rfl
theorem kDG_1 {i : Nat} {p : Option (Sl × En)} : kDG i (none) p = none := id rfl
theorem kDI2_0 {neg : Bool} {ρ : En} : kDI2 neg (some v) ρ = some (.fz (.bl (neg ^^ v.isSome)), ρ) := id rfl
theorem kDI2_1 {neg : Bool} {ρ : En} : kDI2 neg (none) ρ = none := id rfl
theorem kDI_0 {neg : Bool} {i : Nat} : kDI neg i (some (rk, ρ1)) = kDI2 neg (kMG (heldM ρ1[i]?) (rd ρ1 rk)) ρ1 := id rfl
theorem kDI_1 {neg : Bool} {i : Nat} : kDI neg i (none) = none := id rfl
theorem kMP_0 {v : D} : kMP (some m) (some d) v = mPut m d v := id rfl
theorem kDP3_0 {i : Nat} {ρ : En} : kDP3 i (some m) ρ = some (.nx, putS ρ i m) := id rfl
theorem kDP3_1 {i : Nat} {ρ : En} : kDP3 i (none) ρ = none := id rfl
theorem kDP2_0 {i : Nat} {v : D} : kDP2 i v (some (rk, ρ2)) = kDP3 i (kMP (heldM ρ2[i]?) (rd ρ2 rk) v) ρ2 := id rfl
theorem kDP2_1 {i : Nat} {v : D} : kDP2 i v (none) = none := id rfl
theorem kDP1_0 {i : Nat} {v : D} {p : Option (Sl × En)} : kDP1 i v (some u1) p = kDP2 i v p := id rfl
theorem kDP1_1 {i : Nat} {v : D} {p : Option (Sl × En)} : kDP1 i v (none) p = none := id rfl
theorem kDP_0 {i : Nat} {fk : Fe} : kDP i fk (some (v, ρ1)) = kDP1 i v (heldM ρ1[i]?) (fk ρ1) := id rfl
theorem kDP_1 {i : Nat} {fk : Fe} : kDP i fk (none) = none := id rfl
theorem kPar2_0 {i : Nat} {j : Nat} {d : D} {e : D} {ρ : En} : kPar2 (true) i j d e ρ = some (.nx, (ρ.set i (.fz d)).set j (.fz e)) := id rfl
theorem kPar2_1 {i : Nat} {j : Nat} {d : D} {e : D} {ρ : En} : kPar2 (false) i j d e ρ = none := id rfl
theorem kPar_0 {i : Nat} {j : Nat} : kPar i j (some ([.fz d, .fz e], ρ1)) = kPar2 (notRf ρ1 i && notRf ρ1 j) i j d e ρ1 := id rfl
set_option autoImplicit false
end DL
set_option Elab.async false
set_option linter.all false
set_option maxRecDepth 100000
set_option maxHeartbeats 1000000
namespace DL
open PySem PySem.Spec L2
/-! ### evaluation of the layer's functions on plain data -/
theorem atI0 {α : Type} (a : α) (l : List α) : atI (a :: l) 0 = some a := atI_nat (j := 0) rfl
theorem atI1 {α : Type} (a b : α) (l : List α) : atI (a :: b :: l) 1 = some b := atI_nat (j := 1) rfl
theorem atI2 {α : Type} (a b c : α) (l : List α) : atI (a :: b :: c :: l) 2 = some c := atI_nat (j := 2) rfl
theorem atI3 {α : Type} (a b c d : α) (l : List α) : atI (a :: b :: c :: d :: l) 3 = some d := atI_nat (j := 3) rfl
theorem ix_l0 (a : D) (l : List D) : gIx (.lst (a :: l)) (.int 0) = some (.fz a) := by show (atI _ _).map Sl.fz = _; rw [atI0]; rfl
theorem ix_l1 (a b : D) (l : List D) : gIx (.lst (a :: b :: l)) (.int 1) = some (.fz b) := by show (atI _ _).map Sl.fz = _; rw [atI1]; rfl
theorem ix_l2 (a b c : D) (l : List D) : gIx (.lst (a :: b :: c :: l)) (.int 2) = some (.fz c) := by show (atI _ _).map Sl.fz = _; rw [atI2]; rfl
theorem ix_t0 (a : D) (l : List D) : gIx (.tup (a :: l)) (.int 0) = some (.fz a) := by show (atI _ _).map Sl.fz = _; rw [atI0]; rfl
theorem ix_t1 (a b : D) (l : List D) : gIx (.tup (a :: b :: l)) (.int 1) = some (.fz b) := by show (atI _ _).map Sl.fz = _; rw [atI1]; rfl
theorem ix_t2 (a b c : D) (l : List D) : gIx (.tup (a :: b :: c :: l)) (.int 2) = some (.fz c) := by show (atI _ _).map Sl.fz = _; rw [atI2]; rfl
theorem ix_t3 (a b c d : D) (l : List D) : gIx (.tup (a :: b :: c :: d :: l)) (.int 3) = some (.fz d) := by show (atI _ _).map Sl.fz = _; rw [atI3]; rfl
theorem ix_tm2 (a b : D) : gIx (.tup [a, b]) (.int (-1)) = some (.fz b) := rfl
theorem ix_tm3 (a b c : D) : gIx (.tup [a, b, c]) (.int (-1)) = some (.fz c) := rfl
theorem ix_tm4 (a b c d : D) : gIx (.tup [a, b, c, d]) (.int (-1)) = some (.fz d) := rfl
theorem ixN3_0 : ixN 3 0 = some 0 := rfl
theorem ixN3_1 : ixN 3 1 = some 1 := rfl
theorem ixN3_2 : ixN 3 2 = some 2 := rfl
theorem ix_lst {xs : List D} {i : Nat} {d : D} (h : xs[i]? = some d) : gIx (.lst xs) (.int (i : Nat)) = some (.fz d) := by show (atI _ _).map Sl.fz = _; rw [atI_nat h]; rfl
theorem ix_tup {xs : List D} {i : Nat} {d : D} (h : xs[i]? = some d) : gIx (.tup xs) (.int (i : Nat)) = some (.fz d) := by show (atI _ _).map Sl.fz = _; rw [atI_nat h]; rfl
/-- an index that is an int -/
theorem ix_lstI {xs : List D} {i : Int} {d : D} (h0 : 0 ≤ i) (h : xs[i.toNat]? = some d) : gIx (.lst xs) (.int i) = some (.fz d) := by
  have e : i = ((i.toNat : Nat) : Int) := by omega
  rw [e]
  exact ix_lst h
theorem ix_tupI {xs : List D} {i : Int} {d : D} (h0 : 0 ≤ i) (h : xs[i.toNat]? = some d) : gIx (.tup xs) (.int i) = some (.fz d) := by
  have e : i = ((i.toNat : Nat) : Int) := by omega
  rw [e]
  exact ix_tup h
theorem mul_ok {i j : Int} {a b : Nat} (ha : i.natAbs < 2 ^ a) (hb : j.natAbs < 2 ^ b) (h0 : 0 < a) (h1 : 0 < b) (h : a + b ≤ 1000000) : gMul (.int i) (.int j) = some (.fz (.int (i * j))) := by
  have := wide_mul ha hb h0 h1 h
  unfold CMulW at this
  unfold gMul
  simp only [this, ↓reduceIte]
theorem mul_small {i j : Int} (ha : i.natAbs < 2 ^ 64) (hb : j.natAbs < 2 ^ 64) : gMul (.int i) (.int j) = some (.fz (.int (i * j))) := mul_ok ha hb (by decide) (by decide) (by decide)
theorem div_ok {i j : Int} (h0 : 0 < j) (h : j.natAbs.log2 < 9000) : gDiv (.int i) (.int j) = some (.fz (.int (i / j))) := by
  unfold gDiv
  simp only [h0, h, and_self, ↓reduceIte]
theorem mod_ok {i j : Int} (h0 : 0 < j) : gMod (.int i) (.int j) = some (.fz (.int (i % j))) := by
  unfold gMod
  simp only [h0, ↓reduceIte]
theorem intBits_le {i : Int} {n : Nat} (h : i.natAbs < 2 ^ n) (h0 : 0 < n) : Builtin.Int.intBits i ≤ n := by
  unfold Builtin.Int.intBits
  split
  · exact Nat.zero_le _
  · rename_i hz
    have := PySem.Flt.log2_lt_of h0 h
    omega
theorem pow_ok {i j : Int} {n : Nat} (h0 : 0 ≤ j) (h : i.natAbs < 2 ^ n) (hn : 0 < n) (hb : (n : Int) * j ≤ 2 ^ 27) : gPow (.int i) (.int j) = some (.fz (.int (i ^ j.toNat))) := by
  have h1 := intBits_le h hn
  have h2 : (Builtin.Int.intBits i : Int) * j ≤ 2 ^ 27 := Int.le_trans (Int.mul_le_mul_of_nonneg_right (by omega) h0) hb
  unfold gPow
  simp only [h0, h2, and_self, ↓reduceIte]
/-! ### loops -/
theorem forL_inv {h : Fg} {B : Fs} {xs : List D} (I : Nat → En → Prop)
    (hs : ∀ i d ρ, xs[i]? = some d → I i ρ → ∃ ρ1 ρ2, h d ρ = some ρ1 ∧ (B ρ1 = some (.nx, ρ2) ∨ B ρ1 = some (.ct, ρ2)) ∧ I (i + 1) ρ2) : ∀ {ρ : En}, I 0 ρ → ∃ ρ', forL h B xs ρ = some (.nx, ρ') ∧ I xs.length ρ' := by
  have go : ∀ (n i : Nat) (ρ : En), n = xs.length - i → i ≤ xs.length → I i ρ → ∃ ρ', forL h B (xs.drop i) ρ = some (.nx, ρ') ∧ I xs.length ρ' := by
    intro n
    induction n with
    | zero =>
      intro i ρ hn hi h0
      have e : i = xs.length := by omega
      subst e
      rw [List.drop_eq_nil_of_le (Nat.le_refl _)]
      exact ⟨ρ, rfl, h0⟩
    | succ n ih =>
      intro i ρ hn hi h0
      have hlt : i < xs.length := by omega
      rw [List.drop_eq_getElem_cons hlt]
      obtain ⟨ρ1, ρ2, e1, e2, h2⟩ := hs i xs[i] ρ (List.getElem?_eq_getElem hlt) h0
      obtain ⟨ρ', e3, h3⟩ := ih (i + 1) ρ2 (by omega) hlt h2
      refine ⟨ρ', ?_, h3⟩
      unfold forL
      rcases e2 with e2 | e2
      · simp only [e1, e2, e3]
      · simp only [e1, e2, e3]
  intro ρ h0
  have := go xs.length 0 ρ (by omega) (Nat.zero_le _) h0
  rwa [List.drop_zero] at this
/-- a comprehension: an invariant over the turn, what is made so far, and the slots -/
theorem lcL_inv {h : Fg} {ft : Ft} {fe : Fe} {vs : List Nat} {xs : List D} (I : Nat → List D → En → Prop)
    (hs : ∀ i d acc ρ, xs[i]? = some d → I i acc ρ → ∃ ρ1 ρ2, h d ρ = some ρ1 ∧ ((ft ρ1 = some (false, ρ2) ∧ I (i + 1) acc (wipeD ρ2 vs)) ∨ ∃ y ρ3, ft ρ1 = some (true, ρ2) ∧ dFr fe ρ2 = some (y, ρ3) ∧ acc.length < 16000000 ∧ I (i + 1) (acc ++ [y]) (wipeD ρ3 vs))) :
    ∀ {ρ : En}, I 0 [] ρ → ∃ acc ρ', lcL h ft fe vs xs [] ρ = some (acc, ρ') ∧ I xs.length acc ρ' := by
  have go : ∀ (n i : Nat) (acc : List D) (ρ : En), n = xs.length - i → i ≤ xs.length → I i acc ρ → ∃ acc' ρ', lcL h ft fe vs (xs.drop i) acc ρ = some (acc', ρ') ∧ I xs.length acc' ρ' := by
    intro n
    induction n with
    | zero =>
      intro i acc ρ hn hi h0
      have e : i = xs.length := by omega
      subst e
      rw [List.drop_eq_nil_of_le (Nat.le_refl _)]
      exact ⟨acc, ρ, rfl, h0⟩
    | succ n ih =>
      intro i acc ρ hn hi h0
      have hlt : i < xs.length := by omega
      rw [List.drop_eq_getElem_cons hlt]
      obtain ⟨ρ1, ρ2, e1, e2⟩ := hs i xs[i] acc ρ (List.getElem?_eq_getElem hlt) h0
      rcases e2 with ⟨e2, h2⟩ | ⟨y, ρ3, e2, e3, hl, h2⟩
      · obtain ⟨acc', ρ', e4, h4⟩ := ih (i + 1) _ _ (by omega) hlt h2
        refine ⟨acc', ρ', ?_, h4⟩
        unfold lcL
        simp only [e1, e2, e4]
      · obtain ⟨acc', ρ', e4, h4⟩ := ih (i + 1) _ _ (by omega) hlt h2
        refine ⟨acc', ρ', ?_, h4⟩
        unfold lcL
        simp only [e1, e2, e3, hl, ↓reduceIte, e4]
  intro ρ h0
  have := go xs.length 0 [] ρ (by omega) (Nat.zero_le _) h0
  rwa [List.drop_zero] at this
/-- a comprehension without a test whose element is a function of the item, that changes nothing -/
theorem lcL_map {h : Fg} {fe : Fe} {vs : List Nat} {xs : List D} {ρ : En} (f : D → D) (hl : xs.length ≤ 1000000)
    (hs : ∀ d, d ∈ xs → ∃ ρ1 ρ2, h d ρ = some ρ1 ∧ dFr fe ρ1 = some (f d, ρ2) ∧ wipeD ρ2 vs = ρ) : lcL h dYes fe vs xs [] ρ = some (xs.map f, ρ) := by
  have := lcL_inv (h := h) (ft := dYes) (fe := fe) (vs := vs) (xs := xs) (fun i acc ρ' => acc = (xs.take i).map f ∧ ρ' = ρ ∧ i ≤ xs.length) (fun i d acc ρ' hd ⟨e1, e2, e3⟩ => by
    subst e1
    subst e2
    have hi := (List.getElem?_eq_some_iff.mp hd).1
    obtain ⟨ρ1, ρ2, h1, h2, h3⟩ := hs d (List.mem_of_getElem? hd)
    refine ⟨ρ1, ρ1, h1, .inr ⟨f d, ρ2, rfl, h2, ?_, ?_, h3, hi⟩⟩
    · rw [List.length_map, List.length_take]
      omega
    · rw [List.take_succ, hd, List.map_append]
      rfl) (ρ := ρ) ⟨rfl, rfl, Nat.zero_le _⟩
  obtain ⟨acc, ρ', e, h1, h2, _⟩ := this
  rw [e, h1, h2, List.take_length]
/-! ### data that may be compared -/
def StrGood (s : Str) : Prop := PyData.strOk s = true
instance (s : Str) : Decidable (StrGood s) := inferInstanceAs (Decidable (PyData.strOk s = true))
inductive Fit : Nat → D → Prop
  | non (n : Nat) : Fit n .non
  | bl (n : Nat) (b : Bool) : Fit n (.bl b)
  | int (n : Nat) (i : Int) : Fit n (.int i)
  | str {s : Str} (n : Nat) (h : StrGood s) : Fit n (.str s)
  | tup {n : Nat} {xs : List D} (h : ∀ d ∈ xs, Fit n d) : Fit (n + 1) (.tup xs)
  | lst {n : Nat} {xs : List D} (h : ∀ d ∈ xs, Fit n d) : Fit (n + 1) (.lst xs)
theorem pys_lay : ∀ (xs : List D), (∀ d ∈ xs, d.py.canLay0 = true) → PyData.canLayAll0 (D.pys xs) = true
  | [], _ => by rw [D.pys]; rfl
  | x :: xs, h => by
    rw [D.pys, PyData.canLayAll0, h x (by simp), pys_lay xs fun d hd => h d (by simp [hd])]
    rfl
theorem pys_depth {n : Nat} : ∀ (xs : List D), (∀ d ∈ xs, d.py.depth ≤ n) → PyData.depthAll (D.pys xs) ≤ n
  | [], _ => by rw [D.pys]; exact Nat.zero_le _
  | x :: xs, h => by
    rw [D.pys, PyData.depthAll]
    exact Nat.max_le.mpr ⟨h x (by simp), pys_depth xs fun d hd => h d (by simp [hd])⟩
theorem plains_of : ∀ (xs : List D), (∀ d ∈ xs, d.plain = true) → D.plains xs = true
  | [], _ => by rw [D.plains]
  | x :: xs, h => by
    rw [D.plains, h x (by simp), plains_of xs fun d hd => h d (by simp [hd])]
    rfl
theorem Fit.parts {n : Nat} {d : D} (h : Fit n d) : d.plain = true ∧ d.py.canLay0 = true ∧ d.py.depth ≤ n := by
  induction h with
  | non n => rw [D.plain, D.py] <;> simp [PyData.canLay0, PyData.depth]
  | bl n b => rw [D.plain, D.py] <;> simp [PyData.canLay0, PyData.depth]
  | int n i => rw [D.plain, D.py] <;> simp [PyData.canLay0, PyData.depth]
  | @str s n h =>
    refine ⟨by simp [D.plain], ?_, ?_⟩
    · rw [D.py, PyData.canLay0]
      exact h
    · rw [D.py, PyData.depth]
      exact Nat.zero_le _
  | @tup n xs h ih =>
    rw [D.plain, D.py, PyData.canLay0, PyData.depth]
    exact ⟨plains_of xs fun d hd => (ih d hd).1, pys_lay xs fun d hd => (ih d hd).2.1, Nat.succ_le_succ (pys_depth xs fun d hd => (ih d hd).2.2)⟩
  | @lst n xs h ih =>
    rw [D.plain, D.py, PyData.canLay0, PyData.depth]
    exact ⟨plains_of xs fun d hd => (ih d hd).1, pys_lay xs fun d hd => (ih d hd).2.1, Nat.succ_le_succ (pys_depth xs fun d hd => (ih d hd).2.2)⟩
theorem Fit.ok {n : Nat} {d : D} (h : Fit n d) (hn : n ≤ 64) : d.ok = true := by
  obtain ⟨h1, h2, h3⟩ := h.parts
  unfold D.ok SeqAt.shaped
  rw [h1, h2, decide_eq_true (Nat.le_trans h3 hn)]
  rfl
theorem eqv_self {d : D} (h : d.ok = true) : d.eqv d = true := SeqAt.eqv_refl d.py (SeqAt.canLay_of_shaped (ok_parts h).2)
theorem ok_int (i : Int) : (D.int i).ok = true := (Fit.int 0 i).ok (by decide)
theorem ok_bl (i : Bool) : (D.bl i).ok = true := (Fit.bl 0 i).ok (by decide)
theorem ok_str {s : Str} (h : StrGood s) : (D.str s).ok = true := (Fit.str 0 h).ok (by decide)
theorem eqv_int (i j : Int) : (D.int i).eqv (.int j) = decide (i = j) := by
  unfold D.eqv
  rw [D.py, D.py, PyData.eqv, Bool.beq_eq_decide_eq]
theorem eqv_str (i j : Str) : (D.str i).eqv (.str j) = decide (i = j) := by
  unfold D.eqv
  rw [D.py, D.py, PyData.eqv, Bool.beq_eq_decide_eq]
theorem eqv_bl (i j : Bool) : (D.bl i).eqv (.bl j) = decide (i = j) := by
  unfold D.eqv
  rw [D.py, D.py, PyData.eqv, Bool.beq_eq_decide_eq]
theorem eqvs_cons (x y : D) (xs ys : List D) : PyData.eqvAll (D.pys (x :: xs)) (D.pys (y :: ys)) = (x.eqv y && PyData.eqvAll (D.pys xs) (D.pys ys)) := by
  rw [D.pys, D.pys, PyData.eqvAll]
  rfl
def eqvs (xs ys : List D) : Bool := PyData.eqvAll (D.pys xs) (D.pys ys)
theorem eqv_tup (xs ys : List D) : (D.tup xs).eqv (.tup ys) = eqvs xs ys := by
  unfold D.eqv
  rw [D.py, D.py, PyData.eqv]
  rfl
theorem eqv_lst (xs ys : List D) : (D.lst xs).eqv (.lst ys) = eqvs xs ys := by
  unfold D.eqv
  rw [D.py, D.py, PyData.eqv]
  rfl
theorem eqvs_nil : eqvs [] [] = true := by unfold eqvs; rw [D.pys]; rfl
theorem eqvs_nil_cons (y : D) (ys : List D) : eqvs [] (y :: ys) = false := by unfold eqvs; rw [D.pys, D.pys]; rfl
theorem eqvs_cons_nil (y : D) (ys : List D) : eqvs (y :: ys) [] = false := by unfold eqvs; rw [D.pys, D.pys]; rfl
theorem eqvs_cc (x y : D) (xs ys : List D) : eqvs (x :: xs) (y :: ys) = (x.eqv y && eqvs xs ys) := eqvs_cons x y xs ys
theorem gEq_int (i j : Int) : gEq (.int i) (.int j) = some (.fz (.bl (decide (i = j)))) := id rfl
theorem gNe_int (i j : Int) : gNe (.int i) (.int j) = some (.fz (.bl (!decide (i = j)))) := id rfl
theorem gEq_str (i j : Str) : gEq (.str i) (.str j) = some (.fz (.bl (decide (i = j)))) := id rfl
theorem gNe_str (i j : Str) : gNe (.str i) (.str j) = some (.fz (.bl (!decide (i = j)))) := id rfl
theorem gEq_self {d : D} (h : d.ok = true) : gEq d d = some (.fz (.bl true)) := by
  unfold gEq
  split
  · rw [decide_eq_true rfl]
  · rw [decide_eq_true rfl]
  · rw [if_pos ⟨h, h⟩, eqv_self h]
theorem gNe_self {d : D} (h : d.ok = true) : gNe d d = some (.fz (.bl false)) := by
  unfold gNe
  split
  · rw [decide_eq_true rfl]; rfl
  · rw [decide_eq_true rfl]; rfl
  · rw [if_pos ⟨h, h⟩, eqv_self h]
    rfl
theorem gNe_str_self (s : Str) : gNe (.str s) (.str s) = some (.fz (.bl false)) := by rw [gNe_str, decide_eq_true rfl]; rfl
/-- the words of boards and rules -/
theorem good_lit : StrGood "row" ∧ StrGood "ring" ∧ StrGood "floor" ∧ StrGood "swap" ∧ StrGood "over" ∧ StrGood "under" ∧ StrGood "/" := by
  refine ⟨?_, ?_, ?_, ?_, ?_, ?_, ?_⟩ <;> decide +kernel
theorem eq_row_floor : gEq (.str "row") (.str "floor") = some (.fz (.bl false)) := by rw [gEq_str]; rfl
theorem eq_ring_floor : gEq (.str "ring") (.str "floor") = some (.fz (.bl false)) := by rw [gEq_str]; rfl
theorem eq_floor_floor : gEq (.str "floor") (.str "floor") = some (.fz (.bl true)) := by rw [gEq_str]; rfl
theorem eq_row_ring : gEq (.str "row") (.str "ring") = some (.fz (.bl false)) := by rw [gEq_str]; rfl
theorem eq_ring_ring : gEq (.str "ring") (.str "ring") = some (.fz (.bl true)) := by rw [gEq_str]; rfl
theorem eq_floor_ring : gEq (.str "floor") (.str "ring") = some (.fz (.bl false)) := by rw [gEq_str]; rfl
theorem eq_row_row : gEq (.str "row") (.str "row") = some (.fz (.bl true)) := by rw [gEq_str]; rfl
theorem eq_ring_row : gEq (.str "ring") (.str "row") = some (.fz (.bl false)) := by rw [gEq_str]; rfl
theorem eq_floor_row : gEq (.str "floor") (.str "row") = some (.fz (.bl false)) := by rw [gEq_str]; rfl
theorem ne_row_floor : gNe (.str "row") (.str "floor") = some (.fz (.bl true)) := by rw [gNe_str]; rfl
theorem ne_ring_floor : gNe (.str "ring") (.str "floor") = some (.fz (.bl true)) := by rw [gNe_str]; rfl
theorem ne_floor_floor : gNe (.str "floor") (.str "floor") = some (.fz (.bl false)) := by rw [gNe_str]; rfl
theorem mul_nat {a b : Nat} (ha : a ≤ 1000000) (hb : b ≤ 1000000) : gMul (.int (a : Nat)) (.int (b : Nat)) = some (.fz (.int ((a * b : Nat) : Int))) := by
  rw [mul_small (by omega) (by omega)]
  simp
theorem mul_str {a : Str} {j : Int} (h0 : 0 ≤ j) (h1 : j ≤ 1000) (h2 : a.length ≤ 1000) : gMul (.str a) (.int j) = some (.fz (.str (Txt.mul a j))) := by
  show (if _ then _ else none) = _
  rw [if_pos ⟨h0, h1, h2⟩]
theorem mul_lst {a : List D} {j : Int} (h0 : 0 ≤ j) (h1 : j ≤ 1000) (h2 : a.length ≤ 1000) : gMul (.lst a) (.int j) = some (.ow (.l (List.replicate j.toNat a).flatten)) := by
  show (if _ then _ else none) = _
  rw [if_pos ⟨h0, h1, h2⟩]
theorem dLc_eq {fi : Fi} {h : Fg} {ft : Ft} {fe : Fe} {vs : List Nat} {ρ ρ1 ρ2 : En} {xs acc : List D} (h1 : fi ρ = some (xs, ρ1)) (h2 : lcL h ft fe vs xs [] (wipeD ρ1 vs) = some (acc, ρ2)) : dLc fi h ft fe vs ρ = some (.ow (.l acc), restD ρ1 ρ2 vs) := by
  unfold dLc
  simp only [h1, h2]
theorem bFor_eq {fi : Fi} {h : Fg} {B : Fs} {ρ ρ1 : En} {xs : List D} {r : Fl × En} (h1 : fi ρ = some (xs, ρ1)) (h2 : forL h B xs ρ1 = some r) : bFor fi h B ρ = some r := by
  unfold bFor
  simp only [h1, h2]
theorem rangeD_len (lo : Int) (n : Nat) : (rangeD lo n).length = n := by simp [rangeD]
theorem rangeD_get {lo : Int} {n i : Nat} {d : D} (h : (rangeD lo n)[i]? = some d) : i < n ∧ d = .int (lo + (i : Nat)) := by
  have hi : i < n := by
    have := (List.getElem?_eq_some_iff.mp h).1
    rwa [rangeD_len] at this
  unfold rangeD at h
  rw [List.getElem?_map, List.getElem?_range hi] at h
  exact ⟨hi, (Option.some.inj h).symm⟩
theorem rangeD_get0 {n i : Nat} {d : D} (h : (rangeD 0 n)[i]? = some d) : i < n ∧ d = .int (i : Nat) := by
  obtain ⟨h1, h2⟩ := rangeD_get h
  exact ⟨h1, by rw [h2, Int.zero_add]⟩
end DL
set_option Elab.async false
set_option linter.all false
set_option maxRecDepth 100000
set_option maxHeartbeats 1000000
set_option pp.maxSteps 1500
namespace DL
open PySem PySem.Spec L2
/-! ### texts by their codes -/
def S (l : List Nat) : Str := ⟨l.toArray⟩
theorem S_len (l : List Nat) : (S l).length = l.length := by simp [S, Str.length]
theorem S_app (a b : List Nat) : S a ++ S b = S (a ++ b) := by
  show (⟨a.toArray ++ b.toArray⟩ : Str) = _
  simp [S]
theorem S_cps (l : List Nat) : (S l).cps.toList = l := by simp [S]
theorem S_inj {a b : List Nat} (h : S a = S b) : a = b := by
  have := congrArg (fun s : Str => s.cps.toList) h
  simpa [S_cps] using this
theorem S_of (s : Str) : s = S s.cps.toList := by simp [S]
theorem S_mul0 (l : List Nat) : Txt.mul (S l) 0 = S [] := by
  unfold Txt.mul
  rw [if_pos (by decide)]
  rfl
theorem S_mul1 (l : List Nat) : Txt.mul (S l) 1 = S l := by
  unfold Txt.mul
  rw [if_neg (by decide), if_pos (by simp)]
theorem S_mul2 {l : List Nat} (h : l ≠ []) : Txt.mul (S l) 2 = S (l ++ l) := by
  unfold Txt.mul
  rw [if_neg (by decide), if_neg]
  · simp [S, List.replicate]
  · simp [S_len, h]
theorem good_S {l : List Nat} (h : ∀ c ∈ l, c < 0x110000) : StrGood (S l) := by
  unfold StrGood PyData.strOk
  rw [← Array.all_toList, S_cps]
  simpa using h
theorem ix_l3 (a b c d : D) (l : List D) : gIx (.lst (a :: b :: c :: d :: l)) (.int 3) = some (.fz d) := by show (atI _ _).map Sl.fz = _; rw [atI3]; rfl
theorem atI4 {α : Type} (a b c d e : α) (l : List α) : atI (a :: b :: c :: d :: e :: l) 4 = some e := atI_nat (j := 4) rfl
theorem atI5 {α : Type} (a b c d e f : α) (l : List α) : atI (a :: b :: c :: d :: e :: f :: l) 5 = some f := atI_nat (j := 5) rfl
theorem ix_l4 (a b c d e : D) (l : List D) : gIx (.lst (a :: b :: c :: d :: e :: l)) (.int 4) = some (.fz e) := by show (atI _ _).map Sl.fz = _; rw [atI4]; rfl
theorem ix_l5 (a b c d e f : D) (l : List D) : gIx (.lst (a :: b :: c :: d :: e :: f :: l)) (.int 5) = some (.fz f) := by show (atI _ _).map Sl.fz = _; rw [atI5]; rfl
theorem letters_at : ∀ i, i < 26 → atI (Str.ofString "abcdefghijklmnopqrstuvwxyz").cps.toList ((i : Nat) : Int) = some (97 + i) := by decide +kernel
theorem letters_len : (Str.ofString "abcdefghijklmnopqrstuvwxyz").length = 26 := by decide +kernel
theorem ix_letter {i : Nat} (h : i < 26) : gIx (.str "abcdefghijklmnopqrstuvwxyz") (.int (i : Nat)) = some (.fz (.str (S [97 + i]))) := by
  show (if (Str.ofString "abcdefghijklmnopqrstuvwxyz").length ≤ lim then _ else none) = _
  rw [if_pos (by rw [letters_len]; decide), letters_at i h]
  rfl
theorem cut_letter : ∀ i, i < 26 → cutS (Str.ofString "abcdefghijklmnopqrstuvwxyz") (some ((i : Nat) : Int)) (some (((i : Nat) : Int) + 1)) = S [97 + i] := by decide +kernel
/-- a name: one to four small letters -/
def NameOk (s : Str) : Prop := 1 ≤ s.length ∧ s.length ≤ 4 ∧ ∀ c ∈ s.cps.toList, 97 ≤ c ∧ c ≤ 122
theorem NameOk.good {s : Str} (h : NameOk s) : StrGood s := by
  rw [S_of s]
  exact good_S fun c hc => by have := h.2.2 c hc; omega
theorem name_S {l : List Nat} (h1 : 1 ≤ l.length) (h2 : l.length ≤ 4) (h : ∀ c ∈ l, 97 ≤ c ∧ c ≤ 122) : NameOk (S l) := ⟨by rw [S_len]; exact h1, by rw [S_len]; exact h2, by rw [S_cps]; exact h⟩
theorem seqIx {i : Int} {n : Nat} (h0 : 0 ≤ i) (h1 : i < n) : seqIndex? i n = some i.toNat := by
  unfold seqIndex?
  simp only [show ¬ i < 0 by omega, show 0 ≤ i by omega, h1, decide_true, Bool.and_self, ↓reduceIte]
theorem pop_ok {xs : List D} {i : Int} {d : D} (h0 : 0 ≤ i) (h1 : i < 2 ^ 60) (h : xs[i.toNat]? = some d) : gPopAt xs [.int i] = some (d, xs.eraseIdx i.toNat) := by
  have hl : i.toNat < xs.length := (List.getElem?_eq_some_iff.mp h).1
  show (if _ then _ else none) = _
  rw [if_pos (by omega), seqIx h0 (by omega)]
  simp only [h]
theorem app_ok {xs : List D} {d : D} (h : xs.length ≤ lim) : gApp xs [d] = some (.non, xs ++ [d]) := by
  show (if _ then _ else none) = _
  rw [if_pos h]
theorem perm_pick {α : Type} {l : List α} {i : Nat} {x : α} (h : l[i]? = some x) : (x :: l.eraseIdx i).Perm l := by
  induction l generalizing i with
  | nil => cases h
  | cons y l ih =>
    cases i with
    | zero => cases h; exact List.Perm.refl _
    | succ i => exact (List.Perm.swap y x _).trans (.cons _ (ih h))
theorem good_iff {s : Str} : StrGood s ↔ ∀ c ∈ s.cps.toList, c < 0x110000 := by
  unfold StrGood PyData.strOk
  rw [← Array.all_toList, List.all_eq_true]
  simp only [decide_eq_true_eq]
theorem good_joinL {a : List Nat} (ha : ∀ c ∈ a, c < 0x110000) : ∀ (ys : List (List Nat)), (∀ y ∈ ys, ∀ c ∈ y, c < 0x110000) → ∀ c ∈ TL.joinL a ys, c < 0x110000
  | [], _, c, hc => by cases hc
  | [y], h, c, hc => h y (by simp) c hc
  | y :: z :: ys, h, c, hc => by
    have hc' : c ∈ y ++ a ++ TL.joinL a (z :: ys) := by simpa [TL.joinL] using hc
    rcases List.mem_append.mp hc' with hc' | hc'
    · rcases List.mem_append.mp hc' with hc' | hc'
      · exact h y (by simp) c hc'
      · exact ha c hc'
    · exact good_joinL ha (z :: ys) (fun y hy => h y (by simp [hy])) c hc'
theorem good_join {a : Str} {ys : List Str} (ha : StrGood a) (h : ∀ y ∈ ys, StrGood y) : StrGood (Txt.join a ys) := by
  rw [good_iff, show (Txt.join a ys).cps.toList = TL.joinL (TL.tl a) (ys.map TL.tl) from (congrArg TL.tl (TL.join_eq a ys)).trans (TL.tl_join a ys)]
  refine good_joinL (good_iff.mp ha) _ fun y hy => ?_
  obtain ⟨z, hz, rfl⟩ := List.mem_map.mp hy
  exact good_iff.mp (h z hz)
theorem good_app {a b : Str} (ha : StrGood a) (hb : StrGood b) : StrGood (a ++ b) := by
  rw [good_iff] at *
  intro c hc
  have : (a ++ b).cps.toList = a.cps.toList ++ b.cps.toList := by show (a.cps ++ b.cps).toList = _; simp
  rw [this] at hc
  rcases List.mem_append.mp hc with hc | hc
  · exact ha c hc
  · exact hb c hc
theorem app_len (a b : Str) : (a ++ b).length = a.length + b.length := by show (a.cps ++ b.cps).size = _; simp [Str.length]
theorem join_ok {a : Str} {ys : List Str} {m : Nat} (h : ∀ y ∈ ys, y.length ≤ m) (hb : ys.length * (m + a.length) ≤ 1000000) : gJoin (.str a) (.lst (ys.map .str)) = some (.fz (.str (Txt.join a ys))) := by
  show (strsOf _).bind _ = _
  rw [strsOf_map]
  show (if _ then _ else none) = _
  have : (ys.map (·.length)).sum ≤ ys.length * m := by
    clear hb
    induction ys with
    | nil => simp
    | cons y ys ih =>
      have h1 := h y (by simp)
      have h2 := ih fun z hz => h z (by simp [hz])
      simp only [List.map_cons, List.sum_cons, List.length_cons, Nat.add_mul, Nat.one_mul]
      omega
  rw [if_pos (by rw [Nat.mul_add] at hb; omega)]
theorem add_str {a b : Str} (h : a.length + b.length ≤ lim) : gAdd (.str a) (.str b) = some (.fz (.str (a ++ b))) := by
  show (if _ then _ else none) = _
  rw [if_pos h]
end DL
namespace G
open PySem PySem.Spec L2 DL
theorem mod_nat {i w : Nat} (h : 0 < w) : gMod (.int (i : Nat)) (.int (w : Nat)) = some (.fz (.int ((i % w : Nat) : Int))) := by
  rw [mod_ok (by omega)]
  simp
theorem enumD_at {xs : List D} {i : Nat} {d : D} (h : (enumD xs)[i]? = some d) : ∃ x, xs[i]? = some x ∧ d = .tup [.int (i : Nat), x] := by
  rw [enumD_get] at h
  cases q : xs[i]? with
  | none => rw [q] at h; cases h
  | some x => rw [q] at h; exact ⟨x, rfl, (Option.some.inj h).symm⟩
theorem isb_bi (i : Int) : isB "bool" (.int i) = some false := rfl
theorem isb_ii (i : Int) : isB "int" (.int i) = some true := rfl
theorem gNe_int_self (i : Int) : gNe (.int i) (.int i) = some (.fz (.bl false)) := gNe_self (ok_int i)
/-- how many turns: of as many cells of the script as there are, k at most and one at least -/
theorem script_range {ns : List Int} (h : ns.length ≤ 63) (k : Int) (hk : 1 ≤ k) (hk2 : k ≤ 60) (rest : En) :
    ∃ t : Nat, t ≤ 60 ∧ iRange1 (aFr (dCall gMax (aCons (eC (.int 1)) (aCons (dCall gMin (aCons (eC (.int k)) (aCons (dCall gLen (aCons (eVar 0) aNil)) aNil))) aNil))) aNil) (.fz (.scr ns) :: rest) = some (rangeD 0 t, .fz (.scr ns) :: rest) := by
  obtain ⟨t, ht, h1, h2⟩ : ∃ t : Nat, (if (if ((ns.length : Nat) : Int) < k then ((ns.length : Nat) : Int) else k) > 1 then (if ((ns.length : Nat) : Int) < k then ((ns.length : Nat) : Int) else k) else 1) = (t : Nat) ∧ 1 ≤ t ∧ t ≤ 60 := by
    by_cases c1 : ((ns.length : Nat) : Int) < k
    · rw [if_pos c1]
      by_cases c2 : ((ns.length : Nat) : Int) > 1
      · exact ⟨ns.length, by rw [if_pos c2], by omega, by omega⟩
      · exact ⟨1, by rw [if_neg c2]; rfl, by omega, by omega⟩
    · rw [if_neg c1]
      by_cases c2 : k > 1
      · exact ⟨k.toNat, by rw [if_pos c2]; omega, by omega, by omega⟩
      · exact ⟨1, by rw [if_neg c2]; rfl, by omega, by omega⟩
  refine ⟨t, h2, ?_⟩
  have c1 : (t : Int) < 4000000000000000000 ∧ -4000000000000000000 ≤ (t : Int) := by omega
  simp only [wipeD, restD, allFz, eVar_e, eC_e, rd_fz, rd_ow, rd_bw, fr_fz, fr_ow, fr_bw, dFr_e, dOp2_e, dTst_e, dAnd_e, dOr_e, dNot_e, dIfE_e, dAndV_e, dOrV_e, dNotV_e, dYes_e, aNil_e, aCons_e, aFr_e, rds_nil, rds_cons, dCall_e, eTup_e, eLst_e, dsOf_nil, dsOf_fz, fCall_e, bSeq_e, bNext_e, bBreak_e, bCont_e, bRetN_e, bDrop_e, bRet_e, bIf_e, to_fz, to_ow, to_bw, notRf_e, bAsg_e, gNm_e, gsNil_e, gsCons_e, gTp_e, bUnp_e, dMt_e, held_ow, held_rf, putS_e, dM1_e, dIsi_e, oSome_e, oNo_e, dSl_e, dNeg_e, bSetIx_e, bAug_e, res_fz, res_ow, res_bw, runF_e, fin_nil, fin_nil1, fin_rf, fin_fz, iAny_e, iRange1_e, iRange2_e, iEnumD_e, dChain_e, dLRg1_e, dLRg2_e, heldM_ow, heldM_rf, eDict_e, dDGet_e, dDIn_e, bDPut_e, bPar_e, nc0, nc1, nc2, nc3, nc4, nc5, nc6, nc7, nc8, nc9, nc36, kVar_0, kVar_1, kVar_2, kRd_0, kRd_1, kRd_2, kFr_0, kFr_1, kDFr_0, kDFr_1, kZ_0, kZ_1, kOp3_0, kOp2_0, kOp2_1, kOp_0, kOp_1, kTst_0, kAnd_0, kAnd_1, kAnd_2, kOr_0, kOr_1, kOr_2, kNot_0, kNot_1, kIfE_0, kIfE_1, kIfE_2, kAndV_0, kAndV_1, kOrV_0, kOrV_1, kNotV_0, kAC2_0, kAC2_1, kAC_0, kAC_1, kAF_0, kAF_1, kRds_0, kCall2_0, kCall2_1, kCall_0, kCall_1, kTup2_0, kTup2_1, kTup_0, kTup_1, kLst2_0, kLst2_1, kLst_0, kLst_1, kFCo_0, kFCo_1, kFCr_0, kFCr_1, kFCf_0, kFCf_1, kFC2_0, kFC2_1, kFC3_0, kFC3_1, kFC1_0, kFC1_1, kFC1_2, kFC_0, kFC_1, kSeq_0, kSeq_1, kSeq_2, kSeq_3, kSeq_4, kSeq_5, kDrop_0, kDrop_1, kRet_0, kRet_1, kIf_0, kIf_1, kIf_2, kTo_0, kTo_1, kNR_0, kNR_1, kNR_2, kNR_3, kNR_4, kNR_5, kAsg3_0, kAsg3_1, kAsg2_0, kAsg2_1, kAsg_0, kAsg_1, kGN_0, kGN_1, kGC_0, kGC_1, kUn2_0, kUn2_1, kUn_0, kUn_1, kMt4_0, kMt4_1, kMt3_0, kMt2_0, kMt2_1, kMt_0, kMt_1, kPut_0, kPut_1, kPut_2, kPut_3, kPut_4, kPut_5, kM12_0, kM12_1, kM11_0, kM11_1, kM1_0, kIsi3_0, kIsi3_1, kIsi2_0, kIsi2_1, kIsi_0, kIsi_1, kOSo_0, kSl4_0, kSl4_1, kSl3_0, kSl3_1, kSl2_0, kSl2_1, kSl_0, kSl_1, kNeg_0, kSX3_0, kSX3_1, kSX2_0, kSX2_1, kSX1_0, kSX0_0, kSX0_1, kSX_0, kSX_1, kAug3_0, kAug3_1, kAug2_0, kAug_0, kRes_0, kRes_1, kEnd2_0, kEnd2_1, kEnd_0, kEnd_1, kAny_0, kAny_1, kAny_2, kR1_0, kR2_0, kEn_0, kEn_1, kFor_0, kFor_1, kLc2_0, kLc2_1, kLc_0, kLc_1, kGG_0, kCh3_0, kCh3_1, kCh2_0, kCh2_1, kCh1_0, kCh1_1, kCh_0, kCh_1, kLRg_0, kLRh_0, kLRi_0, kMG_0, kDG2_0, kDG1_0, kDG1_1, kDG_0, kDG_1, kDI2_0, kDI2_1, kDI_0, kDI_1, kMP_0, kDP3_0, kDP3_1, kDP2_0, kDP2_1, kDP1_0, kDP1_1, kDP_0, kDP_1, kPar2_0, kPar2_1, kPar_0, gAdd, DL.gSub, gCmp, gLen, gMax, gMin, gInt, gList, gTuple, gApp, ix_l0, ix_l1, ix_l2, ix_t0, ix_t1, ix_t2, ix_t3, ix_tm2, ix_tm3, ix_tm4, gEq_int, gNe_int, eq_row_floor, eq_ring_floor, eq_floor_floor, eq_row_ring, eq_ring_ring, eq_floor_ring, eq_row_row, eq_ring_row, eq_floor_row, ne_row_floor, ne_ring_floor, ne_floor_floor, lim, ixN3_0, ixN3_1, ixN3_2, List.getElem?_cons_zero, List.getElem?_cons_succ, List.set_cons_zero, List.set_cons_succ, List.replicate_succ, List.replicate_zero, List.cons_append, List.nil_append, List.zipWith_cons_cons, List.zipWith_nil_left, List.zipWith_nil_right, List.length_cons, List.length_nil, Option.map_some, Option.map_none, Nat.reduceAdd, Nat.reduceSub, Nat.reduceLT, Nat.reduceLeDiff, Int.reduceAdd, Int.reduceLT, Int.reduceLE, Int.reduceNeg, Int.reduceSub, Int.reduceMul, Int.reduceEq, if_true, if_false, ite_true, ite_false, decide_true, decide_false, Bool.not_true, Bool.not_false, Bool.and_true, Bool.true_and, Bool.and_false, Bool.false_and, ↓reduceIte, ht, c1, and_self, Int.toNat_natCast]
end G
set_option Elab.async false
set_option linter.all false
set_option maxRecDepth 100000
set_option maxHeartbeats 1000000
set_option pp.maxSteps 1500
namespace DL
open PySem PySem.Spec L2
/-! ### data that may be written out: depth, weight -/
inductive Shw : Nat → Nat → D → Prop
  | non (n w : Nat) : Shw n w .non
  | bl (n w : Nat) (b : Bool) : Shw n w (.bl b)
  | int {n w : Nat} {i : Int} (h : i.natAbs < 10 ^ 12) (hw : 40 ≤ w) : Shw n w (.int i)
  | str {n w : Nat} {s : Str} (h : StrGood s) (hw : s.length ≤ w) : Shw n w (.str s)
  | tup {n w W : Nat} {xs : List D} (h : ∀ d ∈ xs, Shw n w d) (hw : xs.length * (w + 1) ≤ W) : Shw (n + 1) W (.tup xs)
  | lst {n w W : Nat} {xs : List D} (h : ∀ d ∈ xs, Shw n w d) (hw : xs.length * (w + 1) ≤ W) : Shw (n + 1) W (.lst xs)
theorem Shw.fit {n w : Nat} {d : D} (h : Shw n w d) : Fit n d := by
  induction h with
  | non n w => exact .non n
  | bl n w b => exact .bl n b
  | int h hw => exact .int _ _
  | str h hw => exact .str _ h
  | tup h hw ih => exact .tup ih
  | lst h hw ih => exact .lst ih
theorem pys_showable : ∀ (xs : List D), (∀ d ∈ xs, d.py.showable = true) → PyData.showableAll (D.pys xs) = true
  | [], _ => by rw [D.pys]; rfl
  | x :: xs, h => by
    rw [D.pys, PyData.showableAll, h x (by simp), pys_showable xs fun d hd => h d (by simp [hd])]
    rfl
theorem pys_noDict : ∀ (xs : List D), (∀ d ∈ xs, d.py.hasDict = false) → PyData.hasDictAll (D.pys xs) = false
  | [], _ => by rw [D.pys]; rfl
  | x :: xs, h => by
    rw [D.pys, PyData.hasDictAll, h x (by simp), pys_noDict xs fun d hd => h d (by simp [hd])]
    rfl
theorem pys_leaves : ∀ (xs : List D), (∀ d ∈ xs, d.py.leavesShort 13 = true) → PyData.leavesShortAll 13 (D.pys xs) = true
  | [], _ => by rw [D.pys]; rfl
  | x :: xs, h => by
    rw [D.pys, PyData.leavesShortAll, h x (by simp), pys_leaves xs fun d hd => h d (by simp [hd])]
    rfl
theorem pys_weight {w : Nat} : ∀ (xs : List D), (∀ d ∈ xs, d.py.weight ≤ w) → PyData.weightAll (D.pys xs) ≤ xs.length * (w + 1)
  | [], _ => by rw [D.pys]; exact Nat.zero_le _
  | x :: xs, h => by
    have h1 := h x (by simp)
    have h2 := pys_weight xs fun d hd => h d (by simp [hd])
    rw [D.pys, PyData.weightAll, List.length_cons, Nat.add_mul]
    omega
theorem Shw.parts {n w : Nat} {d : D} (h : Shw n w d) : d.py.showable = true ∧ d.py.hasDict = false ∧ d.py.leavesShort 13 = true ∧ d.py.weight ≤ w := by
  induction h with
  | non n w => rw [D.py]; exact ⟨rfl, rfl, rfl, Nat.zero_le _⟩
  | bl n w b => rw [D.py]; exact ⟨rfl, rfl, rfl, Nat.zero_le _⟩
  | @int n w i h hw =>
    have h40 : i.natAbs < 2 ^ 40 := Nat.lt_of_lt_of_le h (by decide)
    have hl : i.natAbs.log2 < 40 := PySem.Flt.log2_lt_of (by decide) h40
    rw [D.py]
    refine ⟨?_, rfl, ?_, ?_⟩
    · rw [PyData.showable]
      exact decide_eq_true (by omega)
    · rw [PyData.leavesShort]
      exact decide_eq_true (PyData.shown_int_le h)
    · rw [PyData.weight]
      split <;> omega
  | @str n w s h hw =>
    rw [D.py]
    refine ⟨rfl, rfl, ?_, ?_⟩
    · have h' : s.cps.all (· < 0x110000) = true := h
      rw [← Array.all_toList, List.all_eq_true] at h'
      simp only [decide_eq_true_eq] at h'
      rw [PyData.leavesShort, List.all_eq_true]
      intro c hc
      have := h' c hc
      exact decide_eq_true (by omega)
    · rw [PyData.weight]
      exact hw
  | @tup n w W xs h hw ih =>
    rw [D.py, PyData.showable, PyData.hasDict, PyData.leavesShort, PyData.weight]
    exact ⟨pys_showable xs fun d hd => (ih d hd).1, pys_noDict xs fun d hd => (ih d hd).2.1, pys_leaves xs fun d hd => (ih d hd).2.2.1, Nat.le_trans (pys_weight xs fun d hd => (ih d hd).2.2.2) hw⟩
  | @lst n w W xs h hw ih =>
    rw [D.py, PyData.showable, PyData.hasDict, PyData.leavesShort, PyData.weight]
    exact ⟨pys_showable xs fun d hd => (ih d hd).1, pys_noDict xs fun d hd => (ih d hd).2.1, pys_leaves xs fun d hd => (ih d hd).2.2.1, Nat.le_trans (pys_weight xs fun d hd => (ih d hd).2.2.2) hw⟩
theorem Shw.rok {n w : Nat} {d : D} (h : Shw n w d) (hn : n ≤ 64) (hw : w ≤ 1000000) : d.rok = true := by
  obtain ⟨h1, h2, h3, h4⟩ := h.parts
  obtain ⟨h5, _, h6⟩ := h.fit.parts
  have h7 := PyData.shown_le 13 (by decide) d.py h3
  unfold D.rok
  rw [h1, h2, h5, decide_eq_true (show d.py.depth ≤ 64 by omega), decide_eq_true (show d.py.shown.length ≤ 16000000 by omega)]
  rfl
theorem repr_tup {n w : Nat} {xs : List D} (h : Shw n w (.tup xs)) (hn : n ≤ 64) (hw : w ≤ 1000000) : gRepr [.tup xs] = some (.fz (.str (D.tup xs).py.shown)) := by
  show (if _ then _ else none) = _
  rw [if_pos (h.rok hn hw)]
theorem repr_lst {n w : Nat} {xs : List D} (h : Shw n w (.lst xs)) (hn : n ≤ 64) (hw : w ≤ 1000000) : gRepr [.lst xs] = some (.fz (.str (D.lst xs).py.shown)) := by
  show (if _ then _ else none) = _
  rw [if_pos (h.rok hn hw)]
end DL
namespace G
open PySem PySem.Spec L2 DL
def top (i : Nat) : Stmt := PySem.Challenge.pw_stridelots_k06_all_deeds.main.body.getD i (.Pass ⟨0, 0, 0, 0⟩)
abbrev s_cells_many : Stmt := top 1
abbrev N_cells_many : List Str := ["board"]
abbrev ps_cells_many : List Str := ["board"]
theorem sc_cells_many : FnScope N_cells_many ps_cells_many (defScope s_cells_many) := ⟨rfl, rfl, rfl, by decide +kernel, rfl, by decide +kernel, by decide +kernel⟩
def df_cells_many : He.DefD := ⟨("cells_many", none), "cells_many", "cells_many", defArgs s_cells_many, defBody s_cells_many, defScope s_cells_many, [], []⟩
abbrev s_is_rule : Stmt := top 7
abbrev N_is_rule : List Str := ["board", "rule", "many", "numbers", "number"]
abbrev ps_is_rule : List Str := ["board", "rule"]
theorem sc_is_rule : FnScope N_is_rule ps_is_rule (defScope s_is_rule) := ⟨rfl, rfl, rfl, by decide +kernel, rfl, by decide +kernel, by decide +kernel⟩
def df_is_rule : He.DefD := ⟨("is_rule", none), "is_rule", "is_rule", defArgs s_is_rule, defBody s_is_rule, defScope s_is_rule, [], []⟩
abbrev s_rule_fits : Stmt := top 8
abbrev N_rule_fits : List Str := ["board", "rule", "high", "wide"]
abbrev ps_rule_fits : List Str := ["board", "rule"]
theorem sc_rule_fits : FnScope N_rule_fits ps_rule_fits (defScope s_rule_fits) := ⟨rfl, rfl, rfl, by decide +kernel, rfl, by decide +kernel, by decide +kernel⟩
def df_rule_fits : He.DefD := ⟨("rule_fits", none), "rule_fits", "rule_fits", defArgs s_rule_fits, defBody s_rule_fits, defScope s_rule_fits, [], []⟩
abbrev s_need_book : Stmt := top 9
abbrev N_need_book : List Str := ["board", "rules", "at", "rule"]
abbrev ps_need_book : List Str := ["board", "rules"]
theorem sc_need_book : FnScope N_need_book ps_need_book (defScope s_need_book) := ⟨rfl, rfl, rfl, by decide +kernel, rfl, by decide +kernel, by decide +kernel⟩
def df_need_book : He.DefD := ⟨("need_book", none), "need_book", "need_book", defArgs s_need_book, defBody s_need_book, defScope s_need_book, [], []⟩
abbrev s_first_cells : Stmt := top 10
abbrev N_first_cells : List Str := ["board", "rule", "many", "high", "wide", "rows", "columns", "row", "column"]
abbrev ps_first_cells : List Str := ["board", "rule"]
theorem sc_first_cells : FnScope N_first_cells ps_first_cells (defScope s_first_cells) := ⟨rfl, rfl, rfl, by decide +kernel, rfl, by decide +kernel, by decide +kernel⟩
def df_first_cells : He.DefD := ⟨("first_cells", none), "first_cells", "first_cells", defArgs s_first_cells, defBody s_first_cells, defScope s_first_cells, [], []⟩
abbrev s_all_deeds : Stmt := top 11
abbrev N_all_deeds : List Str := ["board", "book", "number", "rule", "cell"]
abbrev ps_all_deeds : List Str := ["board", "book"]
theorem sc_all_deeds : FnScope N_all_deeds ps_all_deeds (defScope s_all_deeds) := ⟨rfl, rfl, rfl, by decide +kernel, rfl, by decide +kernel, by decide +kernel⟩
def df_all_deeds : He.DefD := ⟨("all_deeds", none), "all_deeds", "all_deeds", defArgs s_all_deeds, defBody s_all_deeds, defScope s_all_deeds, [], []⟩
abbrev s__law_pot : Stmt := top 13
abbrev N__law_pot : List Str := ["script", "at", "cell"]
abbrev ps__law_pot : List Str := ["script", "at"]
theorem sc__law_pot : FnScope N__law_pot ps__law_pot (defScope s__law_pot) := ⟨rfl, rfl, rfl, by decide +kernel, rfl, by decide +kernel, by decide +kernel⟩
def df__law_pot : He.DefD := ⟨("_law_pot", none), "_law_pot", "_law_pot", defArgs s__law_pot, defBody s__law_pot, defScope s__law_pot, [], []⟩
abbrev s__law_dip : Stmt := top 14
abbrev N__law_dip : List Str := ["pot", "many", "digit", "mixed"]
abbrev ps__law_dip : List Str := ["pot", "many"]
theorem sc__law_dip : FnScope N__law_dip ps__law_dip (defScope s__law_dip) := ⟨rfl, rfl, rfl, by decide +kernel, rfl, by decide +kernel, by decide +kernel⟩
def df__law_dip : He.DefD := ⟨("_law_dip", none), "_law_dip", "_law_dip", defArgs s__law_dip, defBody s__law_dip, defScope s__law_dip, [], []⟩
abbrev s__law_board : Stmt := top 15
abbrev N__law_board : List Str := ["pot", "most", "way", "short", "long"]
abbrev ps__law_board : List Str := ["pot", "most"]
theorem sc__law_board : FnScope N__law_board ps__law_board (defScope s__law_board) := ⟨rfl, rfl, rfl, by decide +kernel, rfl, by decide +kernel, by decide +kernel⟩
def df__law_board : He.DefD := ⟨("_law_board", none), "_law_board", "_law_board", defArgs s__law_board, defBody s__law_board, defScope s__law_board, [], []⟩
abbrev s__law_rules : Stmt := top 16
abbrev N__law_rules : List Str := ["board", "found", "k", "sort", "high", "wide", "h", "w"]
abbrev ps__law_rules : List Str := ["board"]
theorem sc__law_rules : FnScope N__law_rules ps__law_rules (defScope s__law_rules) := ⟨rfl, rfl, rfl, by decide +kernel, rfl, by decide +kernel, by decide +kernel⟩
def df__law_rules : He.DefD := ⟨("_law_rules", none), "_law_rules", "_law_rules", defArgs s__law_rules, defBody s__law_rules, defScope s__law_rules, [], []⟩
abbrev s__law_book : Stmt := top 17
abbrev N__law_book : List Str := ["pot", "board", "left", "found", "k"]
abbrev ps__law_book : List Str := ["pot", "board"]
theorem sc__law_book : FnScope N__law_book ps__law_book (defScope s__law_book) := ⟨rfl, rfl, rfl, by decide +kernel, rfl, by decide +kernel, by decide +kernel⟩
def df__law_book : He.DefD := ⟨("_law_book", none), "_law_book", "_law_book", defArgs s__law_book, defBody s__law_book, defScope s__law_book, [], []⟩
abbrev s__law_places : Stmt := top 18
abbrev N__law_places : List Str := ["board", "rule", "sort", "high", "wide", "found", "r", "c", "down", "right"]
abbrev ps__law_places : List Str := ["board", "rule"]
theorem sc__law_places : FnScope N__law_places ps__law_places (defScope s__law_places) := ⟨rfl, rfl, rfl, by decide +kernel, rfl, by decide +kernel, by decide +kernel⟩
def df__law_places : He.DefD := ⟨("_law_places", none), "_law_places", "_law_places", defArgs s__law_places, defBody s__law_places, defScope s__law_places, [], []⟩
abbrev s__law_deeds : Stmt := top 19
abbrev N__law_deeds : List Str := ["board", "book", "found", "number", "cell"]
abbrev ps__law_deeds : List Str := ["board", "book"]
theorem sc__law_deeds : FnScope N__law_deeds ps__law_deeds (defScope s__law_deeds) := ⟨rfl, rfl, rfl, by decide +kernel, rfl, by decide +kernel, by decide +kernel⟩
def df__law_deeds : He.DefD := ⟨("_law_deeds", none), "_law_deeds", "_law_deeds", defArgs s__law_deeds, defBody s__law_deeds, defScope s__law_deeds, [], []⟩
abbrev s_law : Stmt := top 20
abbrev N_law : List Str := ["script", "at", "pot", "board", "book", "due"]
abbrev ps_law : List Str := ["script"]
theorem sc_law : FnScope N_law ps_law (defScope s_law) := ⟨rfl, rfl, rfl, by decide +kernel, rfl, by decide +kernel, by decide +kernel⟩
def df_law : He.DefD := ⟨("law", none), "law", "law", defArgs s_law, defBody s_law, defScope s_law, [], []⟩
def fn : List He.DefD := [df_cells_many, df_is_rule, df_rule_fits, df_need_book, df_first_cells, df_all_deeds, df__law_pot, df__law_dip, df__law_board, df__law_rules, df__law_book, df__law_places, df__law_deeds, df_law]
def fa : List He.Fa := [.free "len", .free "list", .free "isinstance", .free "int", .free "all", .free "min", .int "MOST_RULES" 4, .free "enumerate", .free "range", .free "tuple", .free "max", .free "repr", .glo "cells_many", .glo "is_rule", .glo "rule_fits", .glo "need_book", .glo "first_cells", .glo "all_deeds", .glo "_law_pot", .glo "_law_dip", .glo "_law_board", .glo "_law_rules", .glo "_law_book", .glo "_law_places", .glo "_law_deeds", .glo "law"]
noncomputable def d_cells_many : Fs :=
  (bSeq (bIf (dTst (dOp2 gEq (dOp2 gIx (eVar 0) (eC (.int 0))) (eC (.str "floor")))) (bRet (dOp2 gMul (dOp2 gIx (eVar 0) (eC (.int 1))) (dOp2 gIx (eVar 0) (eC (.int 2))))) bNext)
  (bRet (dOp2 gIx (eVar 0) (eC (.int 1)))))
noncomputable def F_cells_many : FF := runF 0 d_cells_many
noncomputable def d_is_rule : Fs :=
  (bSeq (bAsg 2 (eDict (.k (mergeD [] (([(.inr "swap", 3), (.inr "over", 4), (.inr "under", 4)] : List (Key × Int)).map fun p => (p.1, D.int p.2))))))
  (bSeq (bIf (dOr (dTst (dOp2 gEq (dCall gLen (aCons (eVar 1) aNil)) (eC (.int 0)))) (dOr (dTst (dDIn true 2 (dOp2 gIx (eVar 1) (eC (.int 0))))) (dTst (dOp2 gNe (dCall gLen (aCons (eVar 1) aNil)) (dDGet 2 (dOp2 gIx (eVar 1) (eC (.int 0)))))))) (bRet (eC (.bl false))) bNext)
  (bSeq (bIf (dTst (dOp2 gEq (dOp2 gEq (dOp2 gIx (eVar 1) (eC (.int 0))) (eC (.str "swap"))) (dOp2 gEq (dOp2 gIx (eVar 0) (eC (.int 0))) (eC (.str "floor"))))) (bRet (eC (.bl false))) bNext)
  (bSeq (bAsg 3 (dCall gList (aCons (dSl (eVar 1) (oSome (eC (.int 1))) oNo) aNil)))
  (bSeq (bIf (dNot (dTst (dCall gAll (aCons (dLc (iAny (eVar 3)) (gNm 4) dYes (dIsi "int" (eVar 4)) [4]) aNil)))) (bRet (eC (.bl false))) bNext)
  (bRet (dAndV (dOp2 gGe (dCall gMinL (aCons (dSl (eVar 3) oNo (oSome (dNeg (eC (.int 1))))) aNil)) (eC (.int 1))) (dOp2 gIn (dOp2 gIx (eVar 3) (dNeg (eC (.int 1)))) (eTup (aFr (eC (.int 0)) (aFr (eC (.int 1)) aNil)))))))))))
noncomputable def F_is_rule : FF := runF 3 d_is_rule
noncomputable def d_rule_fits : Fs :=
  (bSeq (bIf (dTst (dOp2 gEq (dOp2 gIx (eVar 0) (eC (.int 0))) (eC (.str "row")))) (bRet (dOp2 gLe (dOp2 gMul (eC (.int 3)) (dOp2 gIx (eVar 1) (eC (.int 1)))) (dOp2 gIx (eVar 0) (eC (.int 1))))) bNext)
  (bSeq (bIf (dTst (dOp2 gEq (dOp2 gIx (eVar 0) (eC (.int 0))) (eC (.str "ring")))) (bRet (dOp2 gLe (dOp2 gMul (eC (.int 5)) (dOp2 gIx (eVar 1) (eC (.int 1)))) (dOp2 gIx (eVar 0) (eC (.int 1))))) bNext)
  (bSeq (bUnp (gTp 2 (gsCons (gNm 2) (gsCons (gNm 3) gsNil))) (dSl (eVar 0) (oSome (eC (.int 1))) oNo))
  (bSeq (bIf (dTst (dOp2 gEq (dOp2 gIx (eVar 1) (eC (.int 0))) (eC (.str "over")))) (bRet (dAndV (dOp2 gLe (dOp2 gMul (eC (.int 3)) (dOp2 gIx (eVar 1) (eC (.int 2)))) (eVar 3)) (dOp2 gLe (dOp2 DL.gSub (dOp2 gMul (eC (.int 2)) (dOp2 gIx (eVar 1) (eC (.int 1)))) (eC (.int 1))) (eVar 2)))) bNext)
  (bRet (dAndV (dOp2 gLe (dOp2 gMul (eC (.int 3)) (dOp2 gIx (eVar 1) (eC (.int 1)))) (eVar 2)) (dOp2 gLe (dOp2 DL.gSub (dOp2 gMul (eC (.int 2)) (dOp2 gIx (eVar 1) (eC (.int 2)))) (eC (.int 1))) (eVar 3))))))))
noncomputable def F_rule_fits : FF := runF 2 d_rule_fits
noncomputable def d_need_book : Fs :=
  (bSeq (bFor (iEnumD (aFr (dSl (eVar 1) oNo (oSome (eC (.int 4)))) aNil)) (gTp 2 (gsCons (gNm 2) (gsCons (gNm 3) gsNil)))
  (bIf (dOr (dNot (dTst (fCall F_is_rule (aFr (eVar 0) (aFr (eVar 3) aNil))))) (dOr (dNot (dTst (fCall F_rule_fits (aFr (eVar 0) (aFr (eVar 3) aNil))))) (dTst (dOp2 gIn (eVar 3) (dSl (eVar 1) oNo (oSome (eVar 2))))))) bNever bNext))
  (bSeq (bIf (dTst (dOp2 gEq (dCall gLen (aCons (eVar 1) aNil)) (eC (.int 0)))) bNever bNext)
  (bIf (dTst (dOp2 gGt (dCall gLen (aCons (eVar 1) aNil)) (eC (.int 4)))) bNever bNext)))
noncomputable def F_need_book : FF := runF 2 d_need_book
noncomputable def d_first_cells : Fs :=
  (bSeq (bAsg 2 (fCall F_cells_many (aFr (eVar 0) aNil)))
  (bSeq (bIf (dTst (dOp2 gEq (dOp2 gIx (eVar 0) (eC (.int 0))) (eC (.str "row")))) (bRet (dLRg1 (dOp2 gAdd (dOp2 DL.gSub (eVar 2) (dOp2 gMul (eC (.int 2)) (dOp2 gIx (eVar 1) (eC (.int 1))))) (eC (.int 1))))) bNext)
  (bSeq (bIf (dTst (dOp2 gEq (dOp2 gIx (eVar 0) (eC (.int 0))) (eC (.str "ring")))) (bRet (dLRg1 (eVar 2))) bNext)
  (bSeq (bUnp (gTp 2 (gsCons (gNm 3) (gsCons (gNm 4) gsNil))) (dSl (eVar 0) (oSome (eC (.int 1))) oNo))
  (bSeq (bAsg 5 (dOp2 gAdd (dOp2 DL.gSub (eVar 3) (dOp2 gMul (dOp2 gIx (eVar 1) (eC (.int 1))) (dOp2 gAdd (eC (.int 1)) (dCall gInt (aCons (dOp2 gEq (dOp2 gIx (eVar 1) (eC (.int 0))) (eC (.str "under"))) aNil))))) (eC (.int 1))))
  (bSeq (bAsg 6 (dOp2 gAdd (dOp2 DL.gSub (eVar 4) (dOp2 gMul (dOp2 gIx (eVar 1) (eC (.int 2))) (dOp2 gAdd (eC (.int 1)) (dCall gInt (aCons (dOp2 gEq (dOp2 gIx (eVar 1) (eC (.int 0))) (eC (.str "over"))) aNil))))) (eC (.int 1))))
  (bRet (dLc2 (iRange1 (aFr (eVar 5) aNil)) (gNm 7) dYes (iRange1 (aFr (eVar 6) aNil)) (gNm 8) dYes (dOp2 gAdd (dOp2 gMul (eVar 7) (eVar 4)) (eVar 8)) [7, 8] [8]))))))))
noncomputable def F_first_cells : FF := runF 7 d_first_cells
noncomputable def d_all_deeds : Fs :=
  (bRet (dCall gTuple (aCons (dLc2 (iEnumD (aFr (eVar 1) aNil)) (gTp 2 (gsCons (gNm 2) (gsCons (gNm 3) gsNil))) dYes (iAny (fCall F_first_cells (aFr (eVar 0) (aFr (eVar 3) aNil)))) (gNm 4) dYes (eTup (aFr (eVar 2) (aFr (eVar 4) aNil))) [2, 3, 4] [4]) aNil)))
noncomputable def F_all_deeds : FF := runF 3 d_all_deeds
noncomputable def d__law_pot : Fs :=
  (bSeq (bAsg 2 (eC (.int 0)))
  (bSeq (bIf (dTst (dOp2 gLt (eVar 1) (dCall gLen (aCons (eVar 0) aNil)))) (bAsg 2 (dOp2 gIx (eVar 0) (eVar 1))) bNext)
  (bRet (eLst (aFr (dCall gMax (aCons (eC (.int 0)) (aCons (dOp2 DL.gSub (eVar 2) (dOp2 gPow (eC (.int 10)) (eC (.int 18)))) aNil))) (aFr (dOp2 gAdd (dOp2 gMod (eVar 2) (dOp2 gAdd (dOp2 gPow (eC (.int 10)) (eC (.int 37))) (eC (.int 43)))) (dOp2 gMul (eC (.int 104729)) (eVar 1))) (aFr (eC (.int 0)) aNil)))))))
noncomputable def F__law_pot : FF := runF 1 d__law_pot
noncomputable def d__law_dip : Fs :=
  (bSeq (bIf (dTst (dOp2 gGt (dOp2 gIx (eVar 0) (eC (.int 0))) (eC (.int 0)))) (bSeq (bAsg 2 (dOp2 gMod (dOp2 gIx (eVar 0) (eC (.int 0))) (eVar 1)))
  (bSeq (bSetIx 0 (eC (.int 0)) (dOp2 gDiv (dOp2 gIx (eVar 0) (eC (.int 0))) (eVar 1)))
  (bRet (eVar 2)))) bNext)
  (bSeq (bSetIx 0 (eC (.int 2)) (dOp2 gAdd (dOp2 gIx (eVar 0) (eC (.int 2))) (eC (.int 1))))
  (bSeq (bAsg 3 (dOp2 gMod (dOp2 gPow (dOp2 gAdd (dOp2 gIx (eVar 0) (eC (.int 1))) (dOp2 gMul (eC (.int 9999991)) (dOp2 gIx (eVar 0) (eC (.int 2))))) (eC (.int 3))) (dOp2 gAdd (dOp2 gPow (eC (.int 10)) (eC (.int 36))) (eC (.int 67)))))
  (bSeq (bAsg 3 (dOp2 gMod (dOp2 gPow (dOp2 gAdd (eVar 3) (dOp2 gMul (eC (.int 7919)) (dOp2 gIx (eVar 0) (eC (.int 2))))) (eC (.int 3))) (dOp2 gAdd (dOp2 gPow (eC (.int 10)) (eC (.int 33))) (eC (.int 61)))))
  (bRet (dOp2 gMod (dOp2 gDiv (eVar 3) (eC (.int 4096))) (eVar 1)))))))
noncomputable def F__law_dip : FF := runF 2 d__law_dip
noncomputable def d__law_board : Fs :=
  (bSeq (bAsg 2 (fCall F__law_dip (aCons (eVar 0) (aFr (eC (.int 4)) aNil))))
  (bSeq (bIf (dTst (dOp2 gLt (eVar 2) (eC (.int 2)))) (bRet (eTup (aFr (eC (.str "row")) (aFr (dOp2 gAdd (eC (.int 3)) (fCall F__law_dip (aCons (eVar 0) (aFr (dOp2 DL.gSub (eVar 1) (eC (.int 2))) aNil)))) aNil)))) bNext)
  (bSeq (bIf (dTst (dOp2 gEq (eVar 2) (eC (.int 2)))) (bRet (eTup (aFr (eC (.str "ring")) (aFr (dOp2 gAdd (eC (.int 5)) (fCall F__law_dip (aCons (eVar 0) (aFr (dOp2 DL.gSub (eVar 1) (eC (.int 4))) aNil)))) aNil)))) bNext)
  (bSeq (bAsg 3 (dOp2 gAdd (eC (.int 1)) (fCall F__law_dip (aCons (eVar 0) (aFr (eC (.int 6)) aNil)))))
  (bSeq (bIf (dTst (dOp2 gGt (dOp2 gMul (eC (.int 3)) (eVar 3)) (eVar 1))) (bAsg 3 (dOp2 gDiv (eVar 1) (eC (.int 3)))) bNext)
  (bSeq (bAsg 4 (dOp2 gAdd (eC (.int 3)) (fCall F__law_dip (aCons (eVar 0) (aFr (dOp2 DL.gSub (dOp2 gDiv (eVar 1) (eVar 3)) (eC (.int 2))) aNil)))))
  (bRet (dOp2 gIx (eLst (aFr (eTup (aFr (eC (.str "floor")) (aFr (eVar 3) (aFr (eVar 4) aNil)))) (aFr (eTup (aFr (eC (.str "floor")) (aFr (eVar 4) (aFr (eVar 3) aNil)))) aNil))) (fCall F__law_dip (aCons (eVar 0) (aFr (eC (.int 2)) aNil)))))))))))
noncomputable def F__law_board : FF := runF 3 d__law_board
noncomputable def d__law_rules : Fs :=
  (bSeq (bAsg 1 (eLst aNil))
  (bSeq (bIf (dTst (dOp2 gNe (dOp2 gIx (eVar 0) (eC (.int 0))) (eC (.str "floor")))) (bSeq (bFor (iRange2 (aFr (eC (.int 1)) (aFr (dOp2 gAdd (dOp2 gDiv (dOp2 gIx (eVar 0) (eC (.int 1))) (dOp2 gIx (eLst (aFr (eC (.int 3)) (aFr (eC (.int 5)) aNil))) (dCall gInt (aCons (dOp2 gEq (dOp2 gIx (eVar 0) (eC (.int 0))) (eC (.str "ring"))) aNil)))) (eC (.int 1))) aNil))) (gNm 2)
  (bAsg 1 (dOp2 gAdd (eVar 1) (eLst (aFr (eTup (aFr (eC (.str "swap")) (aFr (eVar 2) (aFr (eC (.int 0)) aNil)))) (aFr (eTup (aFr (eC (.str "swap")) (aFr (eVar 2) (aFr (eC (.int 1)) aNil)))) aNil))))))
  (bRet (eVar 1))) bNext)
  (bSeq (bUnp (gTp 3 (gsCons (gNm 3) (gsCons (gNm 4) (gsCons (gNm 5) gsNil)))) (eVar 0))
  (bSeq (bFor (iRange2 (aFr (eC (.int 1)) (aFr (dOp2 gAdd (eVar 4) (eC (.int 1))) aNil))) (gNm 6)
  (bFor (iRange2 (aFr (eC (.int 1)) (aFr (dOp2 gAdd (eVar 5) (eC (.int 1))) aNil))) (gNm 7)
  (bSeq (bIf (dAnd (dTst (dOp2 gLe (dOp2 gMul (eC (.int 3)) (eVar 7)) (eVar 5))) (dTst (dOp2 gLe (dOp2 DL.gSub (dOp2 gMul (eC (.int 2)) (eVar 6)) (eC (.int 1))) (eVar 4)))) (bAsg 1 (dOp2 gAdd (eVar 1) (eLst (aFr (eTup (aFr (eC (.str "over")) (aFr (eVar 6) (aFr (eVar 7) (aFr (eC (.int 0)) aNil))))) (aFr (eTup (aFr (eC (.str "over")) (aFr (eVar 6) (aFr (eVar 7) (aFr (eC (.int 1)) aNil))))) aNil))))) bNext)
  (bIf (dAnd (dTst (dOp2 gLe (dOp2 gMul (eC (.int 3)) (eVar 6)) (eVar 4))) (dTst (dOp2 gLe (dOp2 DL.gSub (dOp2 gMul (eC (.int 2)) (eVar 7)) (eC (.int 1))) (eVar 5)))) (bAsg 1 (dOp2 gAdd (eVar 1) (eLst (aFr (eTup (aFr (eC (.str "under")) (aFr (eVar 6) (aFr (eVar 7) (aFr (eC (.int 0)) aNil))))) (aFr (eTup (aFr (eC (.str "under")) (aFr (eVar 6) (aFr (eVar 7) (aFr (eC (.int 1)) aNil))))) aNil))))) bNext))))
  (bRet (eVar 1))))))
noncomputable def F__law_rules : FF := runF 7 d__law_rules
noncomputable def d__law_book : Fs :=
  (bSeq (bAsg 2 (fCall F__law_rules (aFr (eVar 1) aNil)))
  (bSeq (bAsg 3 (eLst aNil))
  (bSeq (bFor (iRange1 (aFr (dCall gMin (aCons (dCall gLen (aCons (eVar 2) aNil)) (aCons (dOp2 gAdd (eC (.int 1)) (fCall F__law_dip (aCons (eVar 0) (aFr (eC (.int 4)) aNil)))) aNil))) aNil)) (gNm 4)
  (bDrop (dMt 3 (aFr (dMt 2 (aFr (fCall F__law_dip (aCons (eVar 0) (aFr (dCall gLen (aCons (eVar 2) aNil)) aNil))) aNil) gPopAt) aNil) gApp)))
  (bRet (dCall gTuple (aCons (eVar 3) aNil))))))
noncomputable def F__law_book : FF := runF 3 d__law_book
noncomputable def d__law_places : Fs :=
  (bSeq (bIf (dTst (dOp2 gEq (dOp2 gIx (eVar 0) (eC (.int 0))) (eC (.str "ring")))) (bRet (dLRg1 (dOp2 gIx (eVar 0) (eC (.int 1))))) bNext)
  (bSeq (bIf (dTst (dOp2 gEq (dOp2 gIx (eVar 0) (eC (.int 0))) (eC (.str "row")))) (bRet (dLRg1 (dOp2 gAdd (dOp2 DL.gSub (dOp2 gIx (eVar 0) (eC (.int 1))) (dOp2 gMul (eC (.int 2)) (dOp2 gIx (eVar 1) (eC (.int 1))))) (eC (.int 1))))) bNext)
  (bSeq (bUnp (gTp 3 (gsCons (gNm 2) (gsCons (gNm 3) (gsCons (gNm 4) gsNil)))) (eVar 0))
  (bSeq (bAsg 5 (eLst aNil))
  (bSeq (bFor (iRange1 (aFr (eVar 3) aNil)) (gNm 6)
  (bFor (iRange1 (aFr (eVar 4) aNil)) (gNm 7)
  (bSeq (bAsg 8 (dOp2 gAdd (eVar 6) (dOp2 gMul (dOp2 gIx (eVar 1) (eC (.int 1))) (dOp2 gIx (eLst (aFr (eC (.int 1)) (aFr (eC (.int 2)) aNil))) (dCall gInt (aCons (dOp2 gEq (dOp2 gIx (eVar 1) (eC (.int 0))) (eC (.str "under"))) aNil))))))
  (bSeq (bAsg 9 (dOp2 gAdd (eVar 7) (dOp2 gMul (dOp2 gIx (eVar 1) (eC (.int 2))) (dOp2 gIx (eLst (aFr (eC (.int 1)) (aFr (eC (.int 2)) aNil))) (dCall gInt (aCons (dOp2 gEq (dOp2 gIx (eVar 1) (eC (.int 0))) (eC (.str "over"))) aNil))))))
  (bIf (dAnd (dTst (dOp2 gLe (eVar 8) (eVar 3))) (dTst (dOp2 gLe (eVar 9) (eVar 4)))) (bDrop (dMt 5 (aFr (dOp2 gAdd (dOp2 gMul (eVar 6) (eVar 4)) (eVar 7)) aNil) gApp)) bNext)))))
  (bRet (eVar 5)))))))
noncomputable def F__law_places : FF := runF 8 d__law_places
noncomputable def d__law_deeds : Fs :=
  (bSeq (bAsg 2 (eLst aNil))
  (bSeq (bFor (iRange1 (aFr (dCall gLen (aCons (eVar 1) aNil)) aNil)) (gNm 3)
  (bAsg 2 (dOp2 gAdd (eVar 2) (dLc (iAny (fCall F__law_places (aFr (eVar 0) (aFr (dOp2 gIx (eVar 1) (eVar 3)) aNil)))) (gNm 4) dYes (eTup (aFr (eVar 3) (aFr (eVar 4) aNil))) [4]))))
  (bRet (eVar 2))))
noncomputable def F__law_deeds : FF := runF 3 d__law_deeds
noncomputable def d_law : Fs :=
  (bSeq (bFor (iRange1 (aFr (dCall gMax (aCons (eC (.int 1)) (aCons (dCall gMin (aCons (eC (.int 5)) (aCons (dCall gLen (aCons (eVar 0) aNil)) aNil))) aNil))) aNil)) (gNm 1)
  (bSeq (bAsg 2 (fCall F__law_pot (aFr (eVar 0) (aFr (eVar 1) aNil))))
  (bSeq (bAsg 3 (fCall F__law_board (aCons (eVar 2) (aFr (eC (.int 36)) aNil))))
  (bSeq (bAsg 4 (fCall F__law_book (aCons (eVar 2) (aFr (eVar 3) aNil))))
  (bSeq (bAsg 5 (dCall gTuple (aCons (fCall F__law_deeds (aFr (eVar 3) (aFr (eVar 4) aNil))) aNil)))
  (bSeq (bIf (dOr (dTst (dOp2 gIsNot (fCall F_need_book (aFr (eVar 3) (aFr (eVar 4) aNil))) (eC .non))) (dTst (dOp2 gNe (dCall gRepr (aCons (fCall F_all_deeds (aFr (eVar 3) (aFr (eVar 4) aNil))) aNil)) (dCall gRepr (aCons (eVar 5) aNil))))) (bRet (eC (.bl false))) bNext)
  (bIf (dTst (dOp2 gNe (dCall gRepr (aCons (fCall F_all_deeds (aFr (eVar 3) (aFr (eVar 4) aNil))) aNil)) (dCall gRepr (aCons (eVar 5) aNil)))) (bRet (eC (.bl false))) bNext)))))))
  (bRet (eC (.bl true))))
noncomputable def F_law : FF := runF 5 d_law
section
variable {P : Program} {w : World} {K : PySem.W.Frag} {mg : Str → Option Value} {base : Heap}
theorem ok_cells_many (T : Tx fa fn K mg)  : Df P w K mg base 1 "cells_many" ps_cells_many F_cells_many := by
  obtain ⟨fd, Fd⟩ := T.c.def_ 0 (d := df_cells_many) rfl
  refine dfMk (st := s_cells_many) (N := N_cells_many) Fd (T.gl 12 rfl) sc_cells_many (fun _ _ _ _ _ _ us hl => match us, hl with | [_], _ => rfl) fun cdv A outer s H gd hr => ?_
  have nd := sc_cells_many.nd
  exact (db_cons (ds_if (dt_cmp (OpR.or op_eq (op_eqD (hu64 hr))) g_eq (de_ix (dv 0) de_int) de_str (nomark _)) (db_one (ds_ret (de_op op_mulU g_mul (de_ix (dv 0) de_int) (de_ix (dv 0) de_int)))) db_nil)
    (db_one (ds_ret (de_ix (dv 0) de_int))))
theorem ok_is_rule (T : Tx fa fn K mg)  : Df P w K mg base 1 "is_rule" ps_is_rule F_is_rule := by
  obtain ⟨fd, Fd⟩ := T.c.def_ 1 (d := df_is_rule) rfl
  refine dfMk (st := s_is_rule) (N := N_is_rule) Fd (T.gl 13 rfl) sc_is_rule (fun _ _ _ _ _ _ us hl => match us, hl with | [_, _], _ => rfl) fun cdv A outer s H gd hr => ?_
  have nd := sc_is_rule.nd
  exact (db_cons (sset 2 nd (de_dlit [(.inr "swap", 3), (.inr "over", 4), (.inr "under", 4)] (pps_cons pe_str pe_int (pps_cons pe_str pe_int (pps_cons pe_str pe_int pps_nil)))))
    (db_cons (ds_if (dt_bool (dw_or (dt_cmp (OpR.or op_eq (op_eqD (hu64 hr))) g_eq (de_callB call_len c_len rfl (T.fr 0 rfl) PySem.boot_len (da_cons (dv 1) da_nil)) de_int (nomark _)) (dw_or (dt_dnotin (hu65 hr) (de_ix (dv 1) de_int) (pv 2)) (dw_or1 (dt_cmp (OpR.or op_ne (op_neD (hu64 hr))) g_ne (de_callB call_len c_len rfl (T.fr 0 rfl) PySem.boot_len (da_cons (dv 1) da_nil)) (de_dget (hu65 hr) (pv 2) (de_ix (dv 1) de_int)) (nomark _)))))) (db_one (ds_ret de_bl)) db_nil)
    (db_cons (ds_if (dt_cmp (OpR.or op_eq (op_eqD (hu64 hr))) g_eq (de_cmp (OpR.or op_eq (op_eqD (hu64 hr))) g_eq (de_ix (dv 1) de_int) de_str (nomark _)) (de_cmp (OpR.or op_eq (op_eqD (hu64 hr))) g_eq (de_ix (dv 0) de_int) de_str (nomark _)) (nomark _)) (db_one (ds_ret de_bl)) db_nil)
    (db_cons (sset 3 nd (de_callTy call_list_of c_list rfl (T.fr 1 rfl) (by decide +kernel) (da_cons (de_sl (dv 1) (do_some de_int) do_no) da_nil)))
    (db_cons (ds_if (dt_not (dt_val (de_callB (cr_all rfl) c_all rfl (T.fr 4 rfl) (by decide +kernel) (da_cons (de_lc (own := [("number", 4)]) rfl nd (di_any (dv 3)) (blkOk_by (own := [("number", 4)]) (N := N_is_rule) (sc := defScope s_is_rule) (by decide +kernel)) (fun _ _ _ _ _ => (gnm 4 nd)) (fun _ _ _ _ _ => dts_nil) (fun _ _ _ _ _ => (de_isi rfl (T.fr 2 rfl) (by decide +kernel) (dv 4) rfl (T.fr 3 rfl) (by decide +kernel)))) da_nil)))) (db_one (ds_ret de_bl)) db_nil)
    (db_one (ds_ret (de_and (de_cmp op_ge (g_cmp _) (de_callB (cr_min rfl) c_minL rfl (T.fr 5 rfl) (by decide +kernel) (da_cons (de_sl (dv 3) do_no (do_some (de_neg de_int))) da_nil)) de_int (nomark _)) (de_one (de_cmp (op_inU (hu65 hr)) g_in (de_ix (dv 3) (de_neg de_int)) (de_tup (da_fr de_int (da_fr de_int da_nil))) (by rfl)))))))))))
theorem ok_rule_fits (T : Tx fa fn K mg)  : Df P w K mg base 1 "rule_fits" ps_rule_fits F_rule_fits := by
  obtain ⟨fd, Fd⟩ := T.c.def_ 2 (d := df_rule_fits) rfl
  refine dfMk (st := s_rule_fits) (N := N_rule_fits) Fd (T.gl 14 rfl) sc_rule_fits (fun _ _ _ _ _ _ us hl => match us, hl with | [_, _], _ => rfl) fun cdv A outer s H gd hr => ?_
  have nd := sc_rule_fits.nd
  exact (db_cons (ds_if (dt_cmp (OpR.or op_eq (op_eqD (hu64 hr))) g_eq (de_ix (dv 0) de_int) de_str (nomark _)) (db_one (ds_ret (de_cmp op_le (g_cmp _) (de_op op_mulU g_mul de_int (de_ix (dv 1) de_int)) (de_ix (dv 0) de_int) (nomark _)))) db_nil)
    (db_cons (ds_if (dt_cmp (OpR.or op_eq (op_eqD (hu64 hr))) g_eq (de_ix (dv 0) de_int) de_str (nomark _)) (db_one (ds_ret (de_cmp op_le (g_cmp _) (de_op op_mulU g_mul de_int (de_ix (dv 1) de_int)) (de_ix (dv 0) de_int) (nomark _)))) db_nil)
    (db_cons (ds_unp (de_sl (dv 0) (do_some de_int) do_no) (dg_tup rfl (dgs_cons (gnm 2 nd) (dgs_cons (gnm 3 nd) dgs_nil))))
    (db_cons (ds_if (dt_cmp (OpR.or op_eq (op_eqD (hu64 hr))) g_eq (de_ix (dv 1) de_int) de_str (nomark _)) (db_one (ds_ret (de_and (de_cmp op_le (g_cmp _) (de_op op_mulU g_mul de_int (de_ix (dv 1) de_int)) (dv 3) (nomark _)) (de_one (de_cmp op_le (g_cmp _) (de_op op_sub g_sub (de_op op_mulU g_mul de_int (de_ix (dv 1) de_int)) de_int) (dv 2) (nomark _)))))) db_nil)
    (db_one (ds_ret (de_and (de_cmp op_le (g_cmp _) (de_op op_mulU g_mul de_int (de_ix (dv 1) de_int)) (dv 2) (nomark _)) (de_one (de_cmp op_le (g_cmp _) (de_op op_sub g_sub (de_op op_mulU g_mul de_int (de_ix (dv 1) de_int)) de_int) (dv 3) (nomark _))))))))))
theorem ok_need_book (T : Tx fa fn K mg) (D_is_rule : Df P w K mg base 1 "is_rule" ps_is_rule F_is_rule) (D_rule_fits : Df P w K mg base 1 "rule_fits" ps_rule_fits F_rule_fits) : Df P w K mg base 2 "need_book" ps_need_book F_need_book := by
  obtain ⟨fd, Fd⟩ := T.c.def_ 3 (d := df_need_book) rfl
  refine dfMk (st := s_need_book) (N := N_need_book) Fd (T.gl 15 rfl) sc_need_book (fun _ _ _ _ _ _ us hl => match us, hl with | [_, _], _ => rfl) fun cdv A outer s H gd hr => ?_
  have nd := sc_need_book.nd
  have hr_is_rule := hr.mono (show 1 ≤ 1 by decide)
  have hr_rule_fits := hr.mono (show 1 ≤ 1 by decide)
  exact (db_cons (ds_for PassesOwn.never rfl (di_enum rfl (T.fr 7 rfl) (da_fr (de_sl (dv 1) do_no (do_some (de_gI rfl (T.it 6 rfl)))) da_nil)) (dg_tup rfl (dgs_cons (gnm 2 nd) (dgs_cons (gnm 3 nd) dgs_nil)))
    (db_one (ds_if (dt_bool (dw_or (dt_not (dt_val (de_callD D_is_rule gd hr_is_rule rfl (da_fr (dv 0) (da_fr (dv 3) da_nil)) (.fr (.fr .nil))))) (dw_or (dt_not (dt_val (de_callD D_rule_fits gd hr_rule_fits rfl (da_fr (dv 0) (da_fr (dv 3) da_nil)) (.fr (.fr .nil))))) (dw_or1 (dt_cmp (op_inU (hu65 hr)) g_in (dv 3) (de_sl (dv 1) do_no (do_some (dv 2))) (by rfl)))))) (db_one ds_never) db_nil)))
    (db_cons (ds_if (dt_cmp (OpR.or op_eq (op_eqD (hu64 hr))) g_eq (de_callB call_len c_len rfl (T.fr 0 rfl) PySem.boot_len (da_cons (dv 1) da_nil)) de_int (nomark _)) (db_one ds_never) db_nil)
    (db_one (ds_if (dt_cmp op_gt (g_cmp _) (de_callB call_len c_len rfl (T.fr 0 rfl) PySem.boot_len (da_cons (dv 1) da_nil)) (de_gI rfl (T.it 6 rfl)) (nomark _)) (db_one ds_never) db_nil))))
theorem ok_first_cells (T : Tx fa fn K mg) (D_cells_many : Df P w K mg base 1 "cells_many" ps_cells_many F_cells_many) : Df P w K mg base 2 "first_cells" ps_first_cells F_first_cells := by
  obtain ⟨fd, Fd⟩ := T.c.def_ 4 (d := df_first_cells) rfl
  refine dfMk (st := s_first_cells) (N := N_first_cells) Fd (T.gl 16 rfl) sc_first_cells (fun _ _ _ _ _ _ us hl => match us, hl with | [_, _], _ => rfl) fun cdv A outer s H gd hr => ?_
  have nd := sc_first_cells.nd
  have hr_cells_many := hr.mono (show 1 ≤ 1 by decide)
  exact (db_cons (sset 2 nd (de_callD D_cells_many gd hr_cells_many rfl (da_fr (dv 0) da_nil) (.fr .nil)))
    (db_cons (ds_if (dt_cmp (OpR.or op_eq (op_eqD (hu64 hr))) g_eq (de_ix (dv 0) de_int) de_str (nomark _)) (db_one (ds_ret (de_lrg1 rfl rfl (T.fr 1 rfl) rfl (T.fr 8 rfl) (de_op op_addU g_add (de_op op_sub g_sub (dv 2) (de_op op_mulU g_mul de_int (de_ix (dv 1) de_int))) de_int)))) db_nil)
    (db_cons (ds_if (dt_cmp (OpR.or op_eq (op_eqD (hu64 hr))) g_eq (de_ix (dv 0) de_int) de_str (nomark _)) (db_one (ds_ret (de_lrg1 rfl rfl (T.fr 1 rfl) rfl (T.fr 8 rfl) (dv 2)))) db_nil)
    (db_cons (ds_unp (de_sl (dv 0) (do_some de_int) do_no) (dg_tup rfl (dgs_cons (gnm 3 nd) (dgs_cons (gnm 4 nd) dgs_nil))))
    (db_cons (sset 5 nd (de_op op_addU g_add (de_op op_sub g_sub (dv 3) (de_op op_mulU g_mul (de_ix (dv 1) de_int) (de_op op_addU g_add de_int (de_callTy call_int1 c_int rfl (T.fr 3 rfl) (by decide +kernel) (da_cons (de_cmp (OpR.or op_eq (op_eqD (hu64 hr))) g_eq (de_ix (dv 1) de_int) de_str (nomark _)) da_nil))))) de_int))
    (db_cons (sset 6 nd (de_op op_addU g_add (de_op op_sub g_sub (dv 4) (de_op op_mulU g_mul (de_ix (dv 1) de_int) (de_op op_addU g_add de_int (de_callTy call_int1 c_int rfl (T.fr 3 rfl) (by decide +kernel) (da_cons (de_cmp (OpR.or op_eq (op_eqD (hu64 hr))) g_eq (de_ix (dv 1) de_int) de_str (nomark _)) da_nil))))) de_int))
    (db_one (ds_ret (de_lc2 (own := [("row", 7), ("column", 8)]) (vs1 := [8]) rfl nd (di_range1 rfl (T.fr 8 rfl) (da_fr (dv 5) da_nil)) (blkOk_by (own := [("row", 7), ("column", 8)]) (N := N_first_cells) (sc := defScope s_first_cells) (by decide +kernel)) (fun _ _ _ _ _ => (gnm 7 nd)) (fun _ _ _ _ _ => dts_nil) (fun _ _ _ _ _ => (di_range1 rfl (T.fr 8 rfl) (da_fr (dv 6) da_nil))) (fun _ _ _ _ _ => (gnm 8 nd)) (fun _ _ _ _ _ => dts_nil) (fun _ _ _ _ _ => (de_op op_addU g_add (de_op op_mulU g_mul (dv 7) (dv 4)) (dv 8))))))))))))
theorem ok_all_deeds (T : Tx fa fn K mg) (D_first_cells : Df P w K mg base 2 "first_cells" ps_first_cells F_first_cells) : Df P w K mg base 3 "all_deeds" ps_all_deeds F_all_deeds := by
  obtain ⟨fd, Fd⟩ := T.c.def_ 5 (d := df_all_deeds) rfl
  refine dfMk (st := s_all_deeds) (N := N_all_deeds) Fd (T.gl 17 rfl) sc_all_deeds (fun _ _ _ _ _ _ us hl => match us, hl with | [_, _], _ => rfl) fun cdv A outer s H gd hr => ?_
  have nd := sc_all_deeds.nd
  have hr_first_cells := hr.mono (show 2 ≤ 2 by decide)
  exact (db_one (ds_ret (de_callTy call_tuple_of c_tuple rfl (T.fr 9 rfl) (by decide +kernel) (da_cons (de_lc2 (own := [("number", 2), ("rule", 3), ("cell", 4)]) (vs1 := [4]) rfl nd (di_enum rfl (T.fr 7 rfl) (da_fr (dv 1) da_nil)) (blkOk_by (own := [("number", 2), ("rule", 3), ("cell", 4)]) (N := N_all_deeds) (sc := defScope s_all_deeds) (by decide +kernel)) (fun _ _ _ _ _ => (dg_tup rfl (dgs_cons (gnm 2 nd) (dgs_cons (gnm 3 nd) dgs_nil)))) (fun _ _ _ _ _ => dts_nil) (fun _ _ _ _ _ => (di_any (de_callD D_first_cells gd hr_first_cells rfl (da_fr (dv 0) (da_fr (dv 3) da_nil)) (.fr (.fr .nil))))) (fun _ _ _ _ _ => (gnm 4 nd)) (fun _ _ _ _ _ => dts_nil) (fun _ _ _ _ _ => (de_tup (da_fr (dv 2) (da_fr (dv 4) da_nil))))) da_nil))))
theorem ok__law_pot (T : Tx fa fn K mg)  : Df P w K mg base 1 "_law_pot" ps__law_pot F__law_pot := by
  obtain ⟨fd, Fd⟩ := T.c.def_ 6 (d := df__law_pot) rfl
  refine dfMk (st := s__law_pot) (N := N__law_pot) Fd (T.gl 18 rfl) sc__law_pot (fun _ _ _ _ _ _ us hl => match us, hl with | [_, _], _ => rfl) fun cdv A outer s H gd hr => ?_
  have nd := sc__law_pot.nd
  exact (db_cons (sset 2 nd de_int)
    (db_cons (ds_if (dt_cmp op_lt (g_cmp _) (dv 1) (de_callB call_len c_len rfl (T.fr 0 rfl) PySem.boot_len (da_cons (dv 0) da_nil)) (nomark _)) (db_one (sset 2 nd (de_ix (dv 0) (dv 1)))) db_nil)
    (db_one (ds_ret (de_lst (da_fr (de_callB (call_max2 rfl) c_max rfl (T.fr 10 rfl) (by decide +kernel) (da_cons de_int (da_cons (de_op op_sub g_sub (dv 2) (de_op op_powW g_pow de_int de_int)) da_nil))) (da_fr (de_op op_addU g_add (de_op op_mod g_mod (dv 2) (de_op op_addU g_add (de_op op_powW g_pow de_int de_int) de_int)) (de_op op_mulU g_mul de_int (dv 1))) (da_fr de_int da_nil))))))))
theorem ok__law_dip (T : Tx fa fn K mg)  : Df P w K mg base 1 "_law_dip" ps__law_dip F__law_dip := by
  obtain ⟨fd, Fd⟩ := T.c.def_ 7 (d := df__law_dip) rfl
  refine dfMk (st := s__law_dip) (N := N__law_dip) Fd (T.gl 19 rfl) sc__law_dip (fun _ _ _ _ _ _ us hl => match us, hl with | [_, _], _ => rfl) fun cdv A outer s H gd hr => ?_
  have nd := sc__law_dip.nd
  exact (db_cons (ds_if (dt_cmp op_gt (g_cmp _) (de_ix (dv 0) de_int) de_int (nomark _)) (db_cons (sset 2 nd (de_op op_mod g_mod (de_ix (dv 0) de_int) (dv 1)))
    (db_cons (ds_setIx (i := 0) (de_op op_fdivW g_div (de_ix (dv 0) de_int) (dv 1)) (pv 0) de_int)
    (db_one (ds_ret (dv 2))))) db_nil)
    (db_cons (ds_setIx (i := 0) (de_op op_addU g_add (de_ix (dv 0) de_int) de_int) (pv 0) de_int)
    (db_cons (sset 3 nd (de_op op_mod g_mod (de_op op_powW g_pow (de_op op_addU g_add (de_ix (dv 0) de_int) (de_op op_mulU g_mul de_int (de_ix (dv 0) de_int))) de_int) (de_op op_addU g_add (de_op op_powW g_pow de_int de_int) de_int)))
    (db_cons (sset 3 nd (de_op op_mod g_mod (de_op op_powW g_pow (de_op op_addU g_add (dv 3) (de_op op_mulU g_mul de_int (de_ix (dv 0) de_int))) de_int) (de_op op_addU g_add (de_op op_powW g_pow de_int de_int) de_int)))
    (db_one (ds_ret (de_op op_mod g_mod (de_op op_fdivW g_div (dv 3) de_int) (dv 1))))))))
theorem ok__law_board (T : Tx fa fn K mg) (D__law_dip : Df P w K mg base 1 "_law_dip" ps__law_dip F__law_dip) : Df P w K mg base 2 "_law_board" ps__law_board F__law_board := by
  obtain ⟨fd, Fd⟩ := T.c.def_ 8 (d := df__law_board) rfl
  refine dfMk (st := s__law_board) (N := N__law_board) Fd (T.gl 20 rfl) sc__law_board (fun _ _ _ _ _ _ us hl => match us, hl with | [_, _], _ => rfl) fun cdv A outer s H gd hr => ?_
  have nd := sc__law_board.nd
  have hr__law_dip := hr.mono (show 1 ≤ 1 by decide)
  exact (db_cons (sset 2 nd (de_callD D__law_dip gd hr__law_dip rfl (da_cons (dv 0) (da_fr de_int da_nil)) (.cons (.fr .nil))))
    (db_cons (ds_if (dt_cmp op_lt (g_cmp _) (dv 2) de_int (nomark _)) (db_one (ds_ret (de_tup (da_fr de_str (da_fr (de_op op_addU g_add de_int (de_callD D__law_dip gd hr__law_dip rfl (da_cons (dv 0) (da_fr (de_op op_sub g_sub (dv 1) de_int) da_nil)) (.cons (.fr .nil)))) da_nil))))) db_nil)
    (db_cons (ds_if (dt_cmp (OpR.or op_eq (op_eqD (hu64 hr))) g_eq (dv 2) de_int (nomark _)) (db_one (ds_ret (de_tup (da_fr de_str (da_fr (de_op op_addU g_add de_int (de_callD D__law_dip gd hr__law_dip rfl (da_cons (dv 0) (da_fr (de_op op_sub g_sub (dv 1) de_int) da_nil)) (.cons (.fr .nil)))) da_nil))))) db_nil)
    (db_cons (sset 3 nd (de_op op_addU g_add de_int (de_callD D__law_dip gd hr__law_dip rfl (da_cons (dv 0) (da_fr de_int da_nil)) (.cons (.fr .nil)))))
    (db_cons (ds_if (dt_cmp op_gt (g_cmp _) (de_op op_mulU g_mul de_int (dv 3)) (dv 1) (nomark _)) (db_one (sset 3 nd (de_op op_fdivW g_div (dv 1) de_int))) db_nil)
    (db_cons (sset 4 nd (de_op op_addU g_add de_int (de_callD D__law_dip gd hr__law_dip rfl (da_cons (dv 0) (da_fr (de_op op_sub g_sub (de_op op_fdivW g_div (dv 1) (dv 3)) de_int) da_nil)) (.cons (.fr .nil)))))
    (db_one (ds_ret (de_ix (de_lst (da_fr (de_tup (da_fr de_str (da_fr (dv 3) (da_fr (dv 4) da_nil)))) (da_fr (de_tup (da_fr de_str (da_fr (dv 4) (da_fr (dv 3) da_nil)))) da_nil))) (de_callD D__law_dip gd hr__law_dip rfl (da_cons (dv 0) (da_fr de_int da_nil)) (.cons (.fr .nil))))))))))))
theorem ok__law_rules (T : Tx fa fn K mg)  : Df P w K mg base 1 "_law_rules" ps__law_rules F__law_rules := by
  obtain ⟨fd, Fd⟩ := T.c.def_ 9 (d := df__law_rules) rfl
  refine dfMk (st := s__law_rules) (N := N__law_rules) Fd (T.gl 21 rfl) sc__law_rules (fun _ _ _ _ _ _ us hl => match us, hl with | [_], _ => rfl) fun cdv A outer s H gd hr => ?_
  have nd := sc__law_rules.nd
  exact (db_cons (sset 1 nd (de_lst da_nil))
    (db_cons (ds_if (dt_cmp (OpR.or op_ne (op_neD (hu64 hr))) g_ne (de_ix (dv 0) de_int) de_str (nomark _)) (db_cons (ds_for PassesOwn.never rfl (di_range2 rfl (T.fr 8 rfl) (da_fr de_int (da_fr (de_op op_addU g_add (de_op op_fdivW g_div (de_ix (dv 0) de_int) (de_ix (de_lst (da_fr de_int (da_fr de_int da_nil))) (de_callTy call_int1 c_int rfl (T.fr 3 rfl) (by decide +kernel) (da_cons (de_cmp (OpR.or op_eq (op_eqD (hu64 hr))) g_eq (de_ix (dv 0) de_int) de_str (nomark _)) da_nil)))) de_int) da_nil))) (gnm 2 nd)
    (db_one (sset 1 nd (de_op op_addU g_add (dv 1) (de_lst (da_fr (de_tup (da_fr de_str (da_fr (dv 2) (da_fr de_int da_nil)))) (da_fr (de_tup (da_fr de_str (da_fr (dv 2) (da_fr de_int da_nil)))) da_nil)))))))
    (db_one (ds_ret (dv 1)))) db_nil)
    (db_cons (ds_unp (dv 0) (dg_tup rfl (dgs_cons (gnm 3 nd) (dgs_cons (gnm 4 nd) (dgs_cons (gnm 5 nd) dgs_nil)))))
    (db_cons (ds_for PassesOwn.never rfl (di_range2 rfl (T.fr 8 rfl) (da_fr de_int (da_fr (de_op op_addU g_add (dv 4) de_int) da_nil))) (gnm 6 nd)
    (db_one (ds_for PassesOwn.never rfl (di_range2 rfl (T.fr 8 rfl) (da_fr de_int (da_fr (de_op op_addU g_add (dv 5) de_int) da_nil))) (gnm 7 nd)
    (db_cons (ds_if (dt_bool (dw_and (dt_cmp op_le (g_cmp _) (de_op op_mulU g_mul de_int (dv 7)) (dv 5) (nomark _)) (dw_and1 (dt_cmp op_le (g_cmp _) (de_op op_sub g_sub (de_op op_mulU g_mul de_int (dv 6)) de_int) (dv 4) (nomark _))))) (db_one (sset 1 nd (de_op op_addU g_add (dv 1) (de_lst (da_fr (de_tup (da_fr de_str (da_fr (dv 6) (da_fr (dv 7) (da_fr de_int da_nil))))) (da_fr (de_tup (da_fr de_str (da_fr (dv 6) (da_fr (dv 7) (da_fr de_int da_nil))))) da_nil)))))) db_nil)
    (db_one (ds_if (dt_bool (dw_and (dt_cmp op_le (g_cmp _) (de_op op_mulU g_mul de_int (dv 6)) (dv 4) (nomark _)) (dw_and1 (dt_cmp op_le (g_cmp _) (de_op op_sub g_sub (de_op op_mulU g_mul de_int (dv 7)) de_int) (dv 5) (nomark _))))) (db_one (sset 1 nd (de_op op_addU g_add (dv 1) (de_lst (da_fr (de_tup (da_fr de_str (da_fr (dv 6) (da_fr (dv 7) (da_fr de_int da_nil))))) (da_fr (de_tup (da_fr de_str (da_fr (dv 6) (da_fr (dv 7) (da_fr de_int da_nil))))) da_nil)))))) db_nil))))))
    (db_one (ds_ret (dv 1)))))))
theorem ok__law_book (T : Tx fa fn K mg) (D__law_rules : Df P w K mg base 1 "_law_rules" ps__law_rules F__law_rules) (D__law_dip : Df P w K mg base 1 "_law_dip" ps__law_dip F__law_dip) : Df P w K mg base 2 "_law_book" ps__law_book F__law_book := by
  obtain ⟨fd, Fd⟩ := T.c.def_ 10 (d := df__law_book) rfl
  refine dfMk (st := s__law_book) (N := N__law_book) Fd (T.gl 22 rfl) sc__law_book (fun _ _ _ _ _ _ us hl => match us, hl with | [_, _], _ => rfl) fun cdv A outer s H gd hr => ?_
  have nd := sc__law_book.nd
  have hr__law_rules := hr.mono (show 1 ≤ 1 by decide)
  have hr__law_dip := hr.mono (show 1 ≤ 1 by decide)
  exact (db_cons (sset 2 nd (de_callD D__law_rules gd hr__law_rules rfl (da_fr (dv 1) da_nil) (.fr .nil)))
    (db_cons (sset 3 nd (de_lst da_nil))
    (db_cons (ds_for PassesOwn.never rfl (di_range1 rfl (T.fr 8 rfl) (da_fr (de_callB (call_min2 rfl) c_min rfl (T.fr 5 rfl) (by decide +kernel) (da_cons (de_callB call_len c_len rfl (T.fr 0 rfl) PySem.boot_len (da_cons (dv 2) da_nil)) (da_cons (de_op op_addU g_add de_int (de_callD D__law_dip gd hr__law_dip rfl (da_cons (dv 0) (da_fr de_int da_nil)) (.cons (.fr .nil)))) da_nil))) da_nil)) (gnm 4 nd)
    (db_one (ds_expr (de_mt PySem.F.slot_list_append PySem.F.type_list_append mt_append m_app (pv 3) (da_fr (de_mt PySem.F.slot_list_pop PySem.F.type_list_pop mt_popAt m_popAt (pv 2) (da_fr (de_callD D__law_dip gd hr__law_dip rfl (da_cons (dv 0) (da_fr (de_callB call_len c_len rfl (T.fr 0 rfl) PySem.boot_len (da_cons (dv 2) da_nil)) da_nil)) (.cons (.fr .nil))) da_nil)) da_nil)))))
    (db_one (ds_ret (de_callTy call_tuple_of c_tuple rfl (T.fr 9 rfl) (by decide +kernel) (da_cons (dv 3) da_nil)))))))
theorem ok__law_places (T : Tx fa fn K mg)  : Df P w K mg base 1 "_law_places" ps__law_places F__law_places := by
  obtain ⟨fd, Fd⟩ := T.c.def_ 11 (d := df__law_places) rfl
  refine dfMk (st := s__law_places) (N := N__law_places) Fd (T.gl 23 rfl) sc__law_places (fun _ _ _ _ _ _ us hl => match us, hl with | [_, _], _ => rfl) fun cdv A outer s H gd hr => ?_
  have nd := sc__law_places.nd
  exact (db_cons (ds_if (dt_cmp (OpR.or op_eq (op_eqD (hu64 hr))) g_eq (de_ix (dv 0) de_int) de_str (nomark _)) (db_one (ds_ret (de_lrg1 rfl rfl (T.fr 1 rfl) rfl (T.fr 8 rfl) (de_ix (dv 0) de_int)))) db_nil)
    (db_cons (ds_if (dt_cmp (OpR.or op_eq (op_eqD (hu64 hr))) g_eq (de_ix (dv 0) de_int) de_str (nomark _)) (db_one (ds_ret (de_lrg1 rfl rfl (T.fr 1 rfl) rfl (T.fr 8 rfl) (de_op op_addU g_add (de_op op_sub g_sub (de_ix (dv 0) de_int) (de_op op_mulU g_mul de_int (de_ix (dv 1) de_int))) de_int)))) db_nil)
    (db_cons (ds_unp (dv 0) (dg_tup rfl (dgs_cons (gnm 2 nd) (dgs_cons (gnm 3 nd) (dgs_cons (gnm 4 nd) dgs_nil)))))
    (db_cons (sset 5 nd (de_lst da_nil))
    (db_cons (ds_for PassesOwn.never rfl (di_range1 rfl (T.fr 8 rfl) (da_fr (dv 3) da_nil)) (gnm 6 nd)
    (db_one (ds_for PassesOwn.never rfl (di_range1 rfl (T.fr 8 rfl) (da_fr (dv 4) da_nil)) (gnm 7 nd)
    (db_cons (sset 8 nd (de_op op_addU g_add (dv 6) (de_op op_mulU g_mul (de_ix (dv 1) de_int) (de_ix (de_lst (da_fr de_int (da_fr de_int da_nil))) (de_callTy call_int1 c_int rfl (T.fr 3 rfl) (by decide +kernel) (da_cons (de_cmp (OpR.or op_eq (op_eqD (hu64 hr))) g_eq (de_ix (dv 1) de_int) de_str (nomark _)) da_nil))))))
    (db_cons (sset 9 nd (de_op op_addU g_add (dv 7) (de_op op_mulU g_mul (de_ix (dv 1) de_int) (de_ix (de_lst (da_fr de_int (da_fr de_int da_nil))) (de_callTy call_int1 c_int rfl (T.fr 3 rfl) (by decide +kernel) (da_cons (de_cmp (OpR.or op_eq (op_eqD (hu64 hr))) g_eq (de_ix (dv 1) de_int) de_str (nomark _)) da_nil))))))
    (db_one (ds_if (dt_bool (dw_and (dt_cmp op_le (g_cmp _) (dv 8) (dv 3) (nomark _)) (dw_and1 (dt_cmp op_le (g_cmp _) (dv 9) (dv 4) (nomark _))))) (db_one (ds_expr (de_mt PySem.F.slot_list_append PySem.F.type_list_append mt_append m_app (pv 5) (da_fr (de_op op_addU g_add (de_op op_mulU g_mul (dv 6) (dv 4)) (dv 7)) da_nil)))) db_nil)))))))
    (db_one (ds_ret (dv 5))))))))
theorem ok__law_deeds (T : Tx fa fn K mg) (D__law_places : Df P w K mg base 1 "_law_places" ps__law_places F__law_places) : Df P w K mg base 2 "_law_deeds" ps__law_deeds F__law_deeds := by
  obtain ⟨fd, Fd⟩ := T.c.def_ 12 (d := df__law_deeds) rfl
  refine dfMk (st := s__law_deeds) (N := N__law_deeds) Fd (T.gl 24 rfl) sc__law_deeds (fun _ _ _ _ _ _ us hl => match us, hl with | [_, _], _ => rfl) fun cdv A outer s H gd hr => ?_
  have nd := sc__law_deeds.nd
  have hr__law_places := hr.mono (show 1 ≤ 1 by decide)
  exact (db_cons (sset 2 nd (de_lst da_nil))
    (db_cons (ds_for PassesOwn.never rfl (di_range1 rfl (T.fr 8 rfl) (da_fr (de_callB call_len c_len rfl (T.fr 0 rfl) PySem.boot_len (da_cons (dv 1) da_nil)) da_nil)) (gnm 3 nd)
    (db_one (sset 2 nd (de_op op_addU g_add (dv 2) (de_lc (own := [("cell", 4)]) rfl nd (di_any (de_callD D__law_places gd hr__law_places rfl (da_fr (dv 0) (da_fr (de_ix (dv 1) (dv 3)) da_nil)) (.fr (.fr .nil)))) (blkOk_by (own := [("cell", 4)]) (N := N__law_deeds) (sc := defScope s__law_deeds) (by decide +kernel)) (fun _ _ _ _ _ => (gnm 4 nd)) (fun _ _ _ _ _ => dts_nil) (fun _ _ _ _ _ => (de_tup (da_fr (dv 3) (da_fr (dv 4) da_nil)))))))))
    (db_one (ds_ret (dv 2)))))
theorem okL_law (T : Tx fa fn K mg) {fd : FuncData} (Fd : FunD K "law" "law" (defArgs s_law) (defBody s_law) (defScope s_law) [] [] (He.fAd K ("law", none)) fd) (D__law_pot : Df P w K mg base 1 "_law_pot" ps__law_pot F__law_pot) (D__law_board : Df P w K mg base 2 "_law_board" ps__law_board F__law_board) (D__law_book : Df P w K mg base 2 "_law_book" ps__law_book F__law_book) (D__law_deeds : Df P w K mg base 2 "_law_deeds" ps__law_deeds F__law_deeds) (D_need_book : Df P w K mg base 2 "need_book" ps_need_book F_need_book) (D_all_deeds : Df P w K mg base 3 "all_deeds" ps_all_deeds F_all_deeds) : FnG P w K mg base 4 (He.fAd K ("law", none)) fd ["script"] (spD K 1 F_law) := by
  refine okF (st := s_law) (N := N_law) (ps := ["script"]) Fd sc_law fun cdv A outer s H gd hr => ?_
  have nd := sc_law.nd
  have hr__law_pot := hr.mono (show 1 ≤ 3 by decide)
  have hr__law_board := hr.mono (show 2 ≤ 3 by decide)
  have hr__law_book := hr.mono (show 2 ≤ 3 by decide)
  have hr__law_deeds := hr.mono (show 2 ≤ 3 by decide)
  have hr_need_book := hr.mono (show 2 ≤ 3 by decide)
  have hr_all_deeds := hr.mono (show 3 ≤ 3 by decide)
  exact (db_cons (ds_for PassesOwn.never rfl (di_range1 rfl (T.fr 8 rfl) (da_fr (de_callB (call_max2 rfl) c_max rfl (T.fr 10 rfl) (by decide +kernel) (da_cons de_int (da_cons (de_callB (call_min2 rfl) c_min rfl (T.fr 5 rfl) (by decide +kernel) (da_cons de_int (da_cons (de_callB call_len c_len rfl (T.fr 0 rfl) PySem.boot_len (da_cons (dv 0) da_nil)) da_nil))) da_nil))) da_nil)) (gnm 1 nd)
    (db_cons (sset 2 nd (de_callD D__law_pot gd hr__law_pot rfl (da_fr (dv 0) (da_fr (dv 1) da_nil)) (.fr (.fr .nil))))
    (db_cons (sset 3 nd (de_callD D__law_board gd hr__law_board rfl (da_cons (dv 2) (da_fr de_int da_nil)) (.cons (.fr .nil))))
    (db_cons (sset 4 nd (de_callD D__law_book gd hr__law_book rfl (da_cons (dv 2) (da_fr (dv 3) da_nil)) (.cons (.fr .nil))))
    (db_cons (sset 5 nd (de_callTy call_tuple_of c_tuple rfl (T.fr 9 rfl) (by decide +kernel) (da_cons (de_callD D__law_deeds gd hr__law_deeds rfl (da_fr (dv 3) (da_fr (dv 4) da_nil)) (.fr (.fr .nil))) da_nil)))
    (db_cons (ds_if (dt_bool (dw_or (dt_cmp op_notN g_isnot (de_callD D_need_book gd hr_need_book rfl (da_fr (dv 3) (da_fr (dv 4) da_nil)) (.fr (.fr .nil))) de_non (nomark _)) (dw_or1 (dt_cmp (OpR.or op_ne (op_neD (hu64 hr))) g_ne (de_callB (call_reprG gd (hu65 hr)) c_repr rfl (T.fr 11 rfl) (by decide +kernel) (da_cons (de_callD D_all_deeds gd hr_all_deeds rfl (da_fr (dv 3) (da_fr (dv 4) da_nil)) (.fr (.fr .nil))) da_nil)) (de_callB (call_reprG gd (hu65 hr)) c_repr rfl (T.fr 11 rfl) (by decide +kernel) (da_cons (dv 5) da_nil)) (nomark _))))) (db_one (ds_ret de_bl)) db_nil)
    (db_one (ds_if (dt_cmp (OpR.or op_ne (op_neD (hu64 hr))) g_ne (de_callB (call_reprG gd (hu65 hr)) c_repr rfl (T.fr 11 rfl) (by decide +kernel) (da_cons (de_callD D_all_deeds gd hr_all_deeds rfl (da_fr (dv 3) (da_fr (dv 4) da_nil)) (.fr (.fr .nil))) da_nil)) (de_callB (call_reprG gd (hu65 hr)) c_repr rfl (T.fr 11 rfl) (by decide +kernel) (da_cons (dv 5) da_nil)) (nomark _)) (db_one (ds_ret de_bl)) db_nil))))))))
    (db_one (ds_ret de_bl)))
end
end G
set_option Elab.async false
set_option linter.all false
set_option maxRecDepth 100000
set_option maxHeartbeats 1000000
set_option pp.maxSteps 1500
namespace G
open PySem PySem.Spec L2 DL
/-! ### the pot -/
def PotOk (n : Nat) (xs : List D) : Prop := ∃ a b c : Int, xs = [.int a, .int b, .int c] ∧ 0 ≤ b ∧ b < 2 ^ 200 ∧ 0 ≤ c ∧ c ≤ n
theorem PotOk.more {n m : Nat} {xs : List D} (h : PotOk n xs) (l : n ≤ m) : PotOk m xs := by
  obtain ⟨a, b, c, e, h1, h2, h3, h4⟩ := h
  exact ⟨a, b, c, e, h1, h2, h3, by omega⟩
theorem pow10 (n : Nat) (h : n ≤ 60) : gPow (.int 10) (.int (n : Nat)) = some (.fz (.int (10 ^ n))) := by
  have := pow_ok (i := 10) (j := (n : Nat)) (n := 4) (by omega) (by decide) (by decide) (by omega)
  simpa using this
theorem dip_ok {n : Nat} {pot : List D} {m : Int} (h : PotOk n pot) (hm : 0 < m) (hb : m < 2 ^ 8000) (hn : n ≤ 2 ^ 64) :
    ∃ r pot', F__law_dip [.rf (.l pot), .fz (.int m)] = some (.fz (.int r), [.rf (.l pot'), .fz (.int m)]) ∧ 0 ≤ r ∧ r < m ∧ PotOk (n + 1) pot' := by
  obtain ⟨a, b, c, rfl, hb0, hb1, hc0, hc1⟩ := h
  have hlog : m.natAbs.log2 < 9000 := by
    have : m.natAbs < 2 ^ 8000 := by omega
    exact Nat.lt_of_lt_of_le (PySem.Flt.log2_lt_of (by decide) this) (by decide)
  by_cases ha : 0 < a
  · refine ⟨a % m, [.int (a / m), .int b, .int c], ?_, Int.emod_nonneg _ (by omega), Int.emod_lt_of_pos _ hm, _, _, _, rfl, hb0, hb1, hc0, by omega⟩
    simp only [wipeD, restD, allFz, eVar_e, eC_e, rd_fz, rd_ow, rd_bw, fr_fz, fr_ow, fr_bw, dFr_e, dOp2_e, dTst_e, dAnd_e, dOr_e, dNot_e, dIfE_e, dAndV_e, dOrV_e, dNotV_e, dYes_e, aNil_e, aCons_e, aFr_e, rds_nil, rds_cons, dCall_e, eTup_e, eLst_e, dsOf_nil, dsOf_fz, fCall_e, bSeq_e, bNext_e, bBreak_e, bCont_e, bRetN_e, bDrop_e, bRet_e, bIf_e, to_fz, to_ow, to_bw, notRf_e, bAsg_e, gNm_e, gsNil_e, gsCons_e, gTp_e, bUnp_e, dMt_e, held_ow, held_rf, putS_e, dM1_e, dIsi_e, oSome_e, oNo_e, dSl_e, dNeg_e, bSetIx_e, bAug_e, res_fz, res_ow, res_bw, runF_e, fin_nil, fin_nil1, fin_rf, fin_fz, iAny_e, iRange1_e, iRange2_e, iEnumD_e, dChain_e, dLRg1_e, dLRg2_e, heldM_ow, heldM_rf, eDict_e, dDGet_e, dDIn_e, bDPut_e, bPar_e, nc0, nc1, nc2, nc3, nc4, nc5, nc6, nc7, nc8, nc9, nc36, kVar_0, kVar_1, kVar_2, kRd_0, kRd_1, kRd_2, kFr_0, kFr_1, kDFr_0, kDFr_1, kZ_0, kZ_1, kOp3_0, kOp2_0, kOp2_1, kOp_0, kOp_1, kTst_0, kAnd_0, kAnd_1, kAnd_2, kOr_0, kOr_1, kOr_2, kNot_0, kNot_1, kIfE_0, kIfE_1, kIfE_2, kAndV_0, kAndV_1, kOrV_0, kOrV_1, kNotV_0, kAC2_0, kAC2_1, kAC_0, kAC_1, kAF_0, kAF_1, kRds_0, kCall2_0, kCall2_1, kCall_0, kCall_1, kTup2_0, kTup2_1, kTup_0, kTup_1, kLst2_0, kLst2_1, kLst_0, kLst_1, kFCo_0, kFCo_1, kFCr_0, kFCr_1, kFCf_0, kFCf_1, kFC2_0, kFC2_1, kFC3_0, kFC3_1, kFC1_0, kFC1_1, kFC1_2, kFC_0, kFC_1, kSeq_0, kSeq_1, kSeq_2, kSeq_3, kSeq_4, kSeq_5, kDrop_0, kDrop_1, kRet_0, kRet_1, kIf_0, kIf_1, kIf_2, kTo_0, kTo_1, kNR_0, kNR_1, kNR_2, kNR_3, kNR_4, kNR_5, kAsg3_0, kAsg3_1, kAsg2_0, kAsg2_1, kAsg_0, kAsg_1, kGN_0, kGN_1, kGC_0, kGC_1, kUn2_0, kUn2_1, kUn_0, kUn_1, kMt4_0, kMt4_1, kMt3_0, kMt2_0, kMt2_1, kMt_0, kMt_1, kPut_0, kPut_1, kPut_2, kPut_3, kPut_4, kPut_5, kM12_0, kM12_1, kM11_0, kM11_1, kM1_0, kIsi3_0, kIsi3_1, kIsi2_0, kIsi2_1, kIsi_0, kIsi_1, kOSo_0, kSl4_0, kSl4_1, kSl3_0, kSl3_1, kSl2_0, kSl2_1, kSl_0, kSl_1, kNeg_0, kSX3_0, kSX3_1, kSX2_0, kSX2_1, kSX1_0, kSX0_0, kSX0_1, kSX_0, kSX_1, kAug3_0, kAug3_1, kAug2_0, kAug_0, kRes_0, kRes_1, kEnd2_0, kEnd2_1, kEnd_0, kEnd_1, kAny_0, kAny_1, kAny_2, kR1_0, kR2_0, kEn_0, kEn_1, kFor_0, kFor_1, kLc2_0, kLc2_1, kLc_0, kLc_1, kGG_0, kCh3_0, kCh3_1, kCh2_0, kCh2_1, kCh1_0, kCh1_1, kCh_0, kCh_1, kLRg_0, kLRh_0, kLRi_0, kMG_0, kDG2_0, kDG1_0, kDG1_1, kDG_0, kDG_1, kDI2_0, kDI2_1, kDI_0, kDI_1, kMP_0, kDP3_0, kDP3_1, kDP2_0, kDP2_1, kDP1_0, kDP1_1, kDP_0, kDP_1, kPar2_0, kPar2_1, kPar_0, gAdd, DL.gSub, gCmp, gLen, gMax, gMin, gInt, gList, gTuple, gApp, ix_l0, ix_l1, ix_l2, ix_t0, ix_t1, ix_t2, ix_t3, ix_tm2, ix_tm3, ix_tm4, gEq_int, gNe_int, eq_row_floor, eq_ring_floor, eq_floor_floor, eq_row_ring, eq_ring_ring, eq_floor_ring, eq_row_row, eq_ring_row, eq_floor_row, ne_row_floor, ne_ring_floor, ne_floor_floor, lim, ixN3_0, ixN3_1, ixN3_2, List.getElem?_cons_zero, List.getElem?_cons_succ, List.set_cons_zero, List.set_cons_succ, List.replicate_succ, List.replicate_zero, List.cons_append, List.nil_append, List.zipWith_cons_cons, List.zipWith_nil_left, List.zipWith_nil_right, List.length_cons, List.length_nil, Option.map_some, Option.map_none, Nat.reduceAdd, Nat.reduceSub, Nat.reduceLT, Nat.reduceLeDiff, Int.reduceAdd, Int.reduceLT, Int.reduceLE, Int.reduceNeg, Int.reduceSub, Int.reduceMul, Int.reduceEq, if_true, if_false, ite_true, ite_false, decide_true, decide_false, Bool.not_true, Bool.not_false, Bool.and_true, Bool.true_and, Bool.and_false, Bool.false_and, ↓reduceIte, F__law_dip, d__law_dip, ha, mod_ok hm, div_ok hm hlog]
  · have e1 : gMul (.int 9999991) (.int (c + 1)) = some (.fz (.int (9999991 * (c + 1)))) := mul_ok (a := 64) (b := 70) (by decide) (by omega) (by decide) (by decide) (by decide)
    have e2 : gPow (.int (b + 9999991 * (c + 1))) (.int 3) = some (.fz (.int ((b + 9999991 * (c + 1)) ^ 3))) := by
      have := pow_ok (i := b + 9999991 * (c + 1)) (j := 3) (n := 210) (by omega) (by omega) (by decide) (by omega)
      simpa using this
    have p36 : gPow (.int 10) (.int 36) = some (.fz (.int (10 ^ 36))) := pow10 36 (by decide)
    have p33 : gPow (.int 10) (.int 33) = some (.fz (.int (10 ^ 33))) := pow10 33 (by decide)
    have m1 : gMod (.int ((b + 9999991 * (c + 1)) ^ 3)) (.int (10 ^ 36 + 67)) = some (.fz (.int ((b + 9999991 * (c + 1)) ^ 3 % (10 ^ 36 + 67)))) := mod_ok (by decide)
    generalize hx : (b + 9999991 * (c + 1)) ^ 3 % (10 ^ 36 + 67) = x at m1
    have hx0 : 0 ≤ x := by rw [← hx]; exact Int.emod_nonneg _ (by decide)
    have hx1 : x < 10 ^ 36 + 67 := by rw [← hx]; exact Int.emod_lt_of_pos _ (by decide)
    have e3 : gMul (.int 7919) (.int (c + 1)) = some (.fz (.int (7919 * (c + 1)))) := mul_ok (a := 64) (b := 70) (by decide) (by omega) (by decide) (by decide) (by decide)
    have e4 : gPow (.int (x + 7919 * (c + 1))) (.int 3) = some (.fz (.int ((x + 7919 * (c + 1)) ^ 3))) := by
      have := pow_ok (i := x + 7919 * (c + 1)) (j := 3) (n := 210) (by omega) (by omega) (by decide) (by omega)
      simpa using this
    have m2 : gMod (.int ((x + 7919 * (c + 1)) ^ 3)) (.int (10 ^ 33 + 61)) = some (.fz (.int ((x + 7919 * (c + 1)) ^ 3 % (10 ^ 33 + 61)))) := mod_ok (by decide)
    have q1 : ∀ i, gDiv (.int i) (.int 4096) = some (.fz (.int (i / 4096))) := fun i => div_ok (by decide) (by decide)
    refine ⟨(x + 7919 * (c + 1)) ^ 3 % (10 ^ 33 + 61) / 4096 % m, [.int a, .int b, .int (c + 1)], ?_, Int.emod_nonneg _ (by omega), Int.emod_lt_of_pos _ hm, _, _, _, rfl, hb0, hb1, by omega, by omega⟩
    simp only [wipeD, restD, allFz, eVar_e, eC_e, rd_fz, rd_ow, rd_bw, fr_fz, fr_ow, fr_bw, dFr_e, dOp2_e, dTst_e, dAnd_e, dOr_e, dNot_e, dIfE_e, dAndV_e, dOrV_e, dNotV_e, dYes_e, aNil_e, aCons_e, aFr_e, rds_nil, rds_cons, dCall_e, eTup_e, eLst_e, dsOf_nil, dsOf_fz, fCall_e, bSeq_e, bNext_e, bBreak_e, bCont_e, bRetN_e, bDrop_e, bRet_e, bIf_e, to_fz, to_ow, to_bw, notRf_e, bAsg_e, gNm_e, gsNil_e, gsCons_e, gTp_e, bUnp_e, dMt_e, held_ow, held_rf, putS_e, dM1_e, dIsi_e, oSome_e, oNo_e, dSl_e, dNeg_e, bSetIx_e, bAug_e, res_fz, res_ow, res_bw, runF_e, fin_nil, fin_nil1, fin_rf, fin_fz, iAny_e, iRange1_e, iRange2_e, iEnumD_e, dChain_e, dLRg1_e, dLRg2_e, heldM_ow, heldM_rf, eDict_e, dDGet_e, dDIn_e, bDPut_e, bPar_e, nc0, nc1, nc2, nc3, nc4, nc5, nc6, nc7, nc8, nc9, nc36, kVar_0, kVar_1, kVar_2, kRd_0, kRd_1, kRd_2, kFr_0, kFr_1, kDFr_0, kDFr_1, kZ_0, kZ_1, kOp3_0, kOp2_0, kOp2_1, kOp_0, kOp_1, kTst_0, kAnd_0, kAnd_1, kAnd_2, kOr_0, kOr_1, kOr_2, kNot_0, kNot_1, kIfE_0, kIfE_1, kIfE_2, kAndV_0, kAndV_1, kOrV_0, kOrV_1, kNotV_0, kAC2_0, kAC2_1, kAC_0, kAC_1, kAF_0, kAF_1, kRds_0, kCall2_0, kCall2_1, kCall_0, kCall_1, kTup2_0, kTup2_1, kTup_0, kTup_1, kLst2_0, kLst2_1, kLst_0, kLst_1, kFCo_0, kFCo_1, kFCr_0, kFCr_1, kFCf_0, kFCf_1, kFC2_0, kFC2_1, kFC3_0, kFC3_1, kFC1_0, kFC1_1, kFC1_2, kFC_0, kFC_1, kSeq_0, kSeq_1, kSeq_2, kSeq_3, kSeq_4, kSeq_5, kDrop_0, kDrop_1, kRet_0, kRet_1, kIf_0, kIf_1, kIf_2, kTo_0, kTo_1, kNR_0, kNR_1, kNR_2, kNR_3, kNR_4, kNR_5, kAsg3_0, kAsg3_1, kAsg2_0, kAsg2_1, kAsg_0, kAsg_1, kGN_0, kGN_1, kGC_0, kGC_1, kUn2_0, kUn2_1, kUn_0, kUn_1, kMt4_0, kMt4_1, kMt3_0, kMt2_0, kMt2_1, kMt_0, kMt_1, kPut_0, kPut_1, kPut_2, kPut_3, kPut_4, kPut_5, kM12_0, kM12_1, kM11_0, kM11_1, kM1_0, kIsi3_0, kIsi3_1, kIsi2_0, kIsi2_1, kIsi_0, kIsi_1, kOSo_0, kSl4_0, kSl4_1, kSl3_0, kSl3_1, kSl2_0, kSl2_1, kSl_0, kSl_1, kNeg_0, kSX3_0, kSX3_1, kSX2_0, kSX2_1, kSX1_0, kSX0_0, kSX0_1, kSX_0, kSX_1, kAug3_0, kAug3_1, kAug2_0, kAug_0, kRes_0, kRes_1, kEnd2_0, kEnd2_1, kEnd_0, kEnd_1, kAny_0, kAny_1, kAny_2, kR1_0, kR2_0, kEn_0, kEn_1, kFor_0, kFor_1, kLc2_0, kLc2_1, kLc_0, kLc_1, kGG_0, kCh3_0, kCh3_1, kCh2_0, kCh2_1, kCh1_0, kCh1_1, kCh_0, kCh_1, kLRg_0, kLRh_0, kLRi_0, kMG_0, kDG2_0, kDG1_0, kDG1_1, kDG_0, kDG_1, kDI2_0, kDI2_1, kDI_0, kDI_1, kMP_0, kDP3_0, kDP3_1, kDP2_0, kDP2_1, kDP1_0, kDP1_1, kDP_0, kDP_1, kPar2_0, kPar2_1, kPar_0, gAdd, DL.gSub, gCmp, gLen, gMax, gMin, gInt, gList, gTuple, gApp, ix_l0, ix_l1, ix_l2, ix_t0, ix_t1, ix_t2, ix_t3, ix_tm2, ix_tm3, ix_tm4, gEq_int, gNe_int, eq_row_floor, eq_ring_floor, eq_floor_floor, eq_row_ring, eq_ring_ring, eq_floor_ring, eq_row_row, eq_ring_row, eq_floor_row, ne_row_floor, ne_ring_floor, ne_floor_floor, lim, ixN3_0, ixN3_1, ixN3_2, List.getElem?_cons_zero, List.getElem?_cons_succ, List.set_cons_zero, List.set_cons_succ, List.replicate_succ, List.replicate_zero, List.cons_append, List.nil_append, List.zipWith_cons_cons, List.zipWith_nil_left, List.zipWith_nil_right, List.length_cons, List.length_nil, Option.map_some, Option.map_none, Nat.reduceAdd, Nat.reduceSub, Nat.reduceLT, Nat.reduceLeDiff, Int.reduceAdd, Int.reduceLT, Int.reduceLE, Int.reduceNeg, Int.reduceSub, Int.reduceMul, Int.reduceEq, if_true, if_false, ite_true, ite_false, decide_true, decide_false, Bool.not_true, Bool.not_false, Bool.and_true, Bool.true_and, Bool.and_false, Bool.false_and, ↓reduceIte, F__law_dip, d__law_dip, ha, e1, e2, p36, p33, m1, e3, e4, m2, q1, mod_ok hm]
theorem pot_ok (ns : List Int) (at_ : Nat) (h : at_ ≤ 100) : ∃ pot, F__law_pot [.fz (.scr ns), .fz (.int (at_ : Nat))] = some (.ow (.l pot), [.fz (.scr ns), .fz (.int (at_ : Nat))]) ∧ PotOk 0 pot := by
  have p18 : gPow (.int 10) (.int 18) = some (.fz (.int (10 ^ 18))) := pow10 18 (by decide)
  have p37 : gPow (.int 10) (.int 37) = some (.fz (.int (10 ^ 37))) := pow10 37 (by decide)
  have m1 : ∀ i, gMod (.int i) (.int (10 ^ 37 + 43)) = some (.fz (.int (i % (10 ^ 37 + 43)))) := fun i => mod_ok (by decide)
  have e1 : gMul (.int 104729) (.int (at_ : Nat)) = some (.fz (.int (104729 * (at_ : Nat)))) := mul_small (by decide) (by omega)
  have hlim : 3 ≤ lim := by decide
  have key : ∀ cell : Int, PotOk 0 [.int (if cell - 10 ^ 18 > 0 then cell - 10 ^ 18 else 0), .int (cell % (10 ^ 37 + 43) + 104729 * (at_ : Nat)), .int 0] := fun cell => by
    have h1 : 0 ≤ cell % (10 ^ 37 + 43) := Int.emod_nonneg _ (by decide)
    have h2 : cell % (10 ^ 37 + 43) < 10 ^ 37 + 43 := Int.emod_lt_of_pos _ (by decide)
    exact ⟨_, _, _, rfl, by omega, by omega, by omega, by omega⟩
  by_cases hc : (at_ : Int) < ((ns.length : Nat) : Int)
  · have hat : at_ < ns.length := by omega
    have i1 : gIx (.scr ns) (.int (at_ : Nat)) = some (.fz (.int ns[at_])) := by
      show (atI ns _).map _ = _
      rw [atI_nat (List.getElem?_eq_getElem hat)]
      rfl
    refine ⟨_, ?_, key ns[at_]⟩
    simp only [wipeD, restD, allFz, eVar_e, eC_e, rd_fz, rd_ow, rd_bw, fr_fz, fr_ow, fr_bw, dFr_e, dOp2_e, dTst_e, dAnd_e, dOr_e, dNot_e, dIfE_e, dAndV_e, dOrV_e, dNotV_e, dYes_e, aNil_e, aCons_e, aFr_e, rds_nil, rds_cons, dCall_e, eTup_e, eLst_e, dsOf_nil, dsOf_fz, fCall_e, bSeq_e, bNext_e, bBreak_e, bCont_e, bRetN_e, bDrop_e, bRet_e, bIf_e, to_fz, to_ow, to_bw, notRf_e, bAsg_e, gNm_e, gsNil_e, gsCons_e, gTp_e, bUnp_e, dMt_e, held_ow, held_rf, putS_e, dM1_e, dIsi_e, oSome_e, oNo_e, dSl_e, dNeg_e, bSetIx_e, bAug_e, res_fz, res_ow, res_bw, runF_e, fin_nil, fin_nil1, fin_rf, fin_fz, iAny_e, iRange1_e, iRange2_e, iEnumD_e, dChain_e, dLRg1_e, dLRg2_e, heldM_ow, heldM_rf, eDict_e, dDGet_e, dDIn_e, bDPut_e, bPar_e, nc0, nc1, nc2, nc3, nc4, nc5, nc6, nc7, nc8, nc9, nc36, kVar_0, kVar_1, kVar_2, kRd_0, kRd_1, kRd_2, kFr_0, kFr_1, kDFr_0, kDFr_1, kZ_0, kZ_1, kOp3_0, kOp2_0, kOp2_1, kOp_0, kOp_1, kTst_0, kAnd_0, kAnd_1, kAnd_2, kOr_0, kOr_1, kOr_2, kNot_0, kNot_1, kIfE_0, kIfE_1, kIfE_2, kAndV_0, kAndV_1, kOrV_0, kOrV_1, kNotV_0, kAC2_0, kAC2_1, kAC_0, kAC_1, kAF_0, kAF_1, kRds_0, kCall2_0, kCall2_1, kCall_0, kCall_1, kTup2_0, kTup2_1, kTup_0, kTup_1, kLst2_0, kLst2_1, kLst_0, kLst_1, kFCo_0, kFCo_1, kFCr_0, kFCr_1, kFCf_0, kFCf_1, kFC2_0, kFC2_1, kFC3_0, kFC3_1, kFC1_0, kFC1_1, kFC1_2, kFC_0, kFC_1, kSeq_0, kSeq_1, kSeq_2, kSeq_3, kSeq_4, kSeq_5, kDrop_0, kDrop_1, kRet_0, kRet_1, kIf_0, kIf_1, kIf_2, kTo_0, kTo_1, kNR_0, kNR_1, kNR_2, kNR_3, kNR_4, kNR_5, kAsg3_0, kAsg3_1, kAsg2_0, kAsg2_1, kAsg_0, kAsg_1, kGN_0, kGN_1, kGC_0, kGC_1, kUn2_0, kUn2_1, kUn_0, kUn_1, kMt4_0, kMt4_1, kMt3_0, kMt2_0, kMt2_1, kMt_0, kMt_1, kPut_0, kPut_1, kPut_2, kPut_3, kPut_4, kPut_5, kM12_0, kM12_1, kM11_0, kM11_1, kM1_0, kIsi3_0, kIsi3_1, kIsi2_0, kIsi2_1, kIsi_0, kIsi_1, kOSo_0, kSl4_0, kSl4_1, kSl3_0, kSl3_1, kSl2_0, kSl2_1, kSl_0, kSl_1, kNeg_0, kSX3_0, kSX3_1, kSX2_0, kSX2_1, kSX1_0, kSX0_0, kSX0_1, kSX_0, kSX_1, kAug3_0, kAug3_1, kAug2_0, kAug_0, kRes_0, kRes_1, kEnd2_0, kEnd2_1, kEnd_0, kEnd_1, kAny_0, kAny_1, kAny_2, kR1_0, kR2_0, kEn_0, kEn_1, kFor_0, kFor_1, kLc2_0, kLc2_1, kLc_0, kLc_1, kGG_0, kCh3_0, kCh3_1, kCh2_0, kCh2_1, kCh1_0, kCh1_1, kCh_0, kCh_1, kLRg_0, kLRh_0, kLRi_0, kMG_0, kDG2_0, kDG1_0, kDG1_1, kDG_0, kDG_1, kDI2_0, kDI2_1, kDI_0, kDI_1, kMP_0, kDP3_0, kDP3_1, kDP2_0, kDP2_1, kDP1_0, kDP1_1, kDP_0, kDP_1, kPar2_0, kPar2_1, kPar_0, gAdd, DL.gSub, gCmp, gLen, gMax, gMin, gInt, gList, gTuple, gApp, ix_l0, ix_l1, ix_l2, ix_t0, ix_t1, ix_t2, ix_t3, ix_tm2, ix_tm3, ix_tm4, gEq_int, gNe_int, eq_row_floor, eq_ring_floor, eq_floor_floor, eq_row_ring, eq_ring_ring, eq_floor_ring, eq_row_row, eq_ring_row, eq_floor_row, ne_row_floor, ne_ring_floor, ne_floor_floor, lim, ixN3_0, ixN3_1, ixN3_2, List.getElem?_cons_zero, List.getElem?_cons_succ, List.set_cons_zero, List.set_cons_succ, List.replicate_succ, List.replicate_zero, List.cons_append, List.nil_append, List.zipWith_cons_cons, List.zipWith_nil_left, List.zipWith_nil_right, List.length_cons, List.length_nil, Option.map_some, Option.map_none, Nat.reduceAdd, Nat.reduceSub, Nat.reduceLT, Nat.reduceLeDiff, Int.reduceAdd, Int.reduceLT, Int.reduceLE, Int.reduceNeg, Int.reduceSub, Int.reduceMul, Int.reduceEq, if_true, if_false, ite_true, ite_false, decide_true, decide_false, Bool.not_true, Bool.not_false, Bool.and_true, Bool.true_and, Bool.and_false, Bool.false_and, ↓reduceIte, F__law_pot, d__law_pot, hc, i1, p18, p37, m1, e1, hlim]
  · refine ⟨_, ?_, key 0⟩
    simp only [wipeD, restD, allFz, eVar_e, eC_e, rd_fz, rd_ow, rd_bw, fr_fz, fr_ow, fr_bw, dFr_e, dOp2_e, dTst_e, dAnd_e, dOr_e, dNot_e, dIfE_e, dAndV_e, dOrV_e, dNotV_e, dYes_e, aNil_e, aCons_e, aFr_e, rds_nil, rds_cons, dCall_e, eTup_e, eLst_e, dsOf_nil, dsOf_fz, fCall_e, bSeq_e, bNext_e, bBreak_e, bCont_e, bRetN_e, bDrop_e, bRet_e, bIf_e, to_fz, to_ow, to_bw, notRf_e, bAsg_e, gNm_e, gsNil_e, gsCons_e, gTp_e, bUnp_e, dMt_e, held_ow, held_rf, putS_e, dM1_e, dIsi_e, oSome_e, oNo_e, dSl_e, dNeg_e, bSetIx_e, bAug_e, res_fz, res_ow, res_bw, runF_e, fin_nil, fin_nil1, fin_rf, fin_fz, iAny_e, iRange1_e, iRange2_e, iEnumD_e, dChain_e, dLRg1_e, dLRg2_e, heldM_ow, heldM_rf, eDict_e, dDGet_e, dDIn_e, bDPut_e, bPar_e, nc0, nc1, nc2, nc3, nc4, nc5, nc6, nc7, nc8, nc9, nc36, kVar_0, kVar_1, kVar_2, kRd_0, kRd_1, kRd_2, kFr_0, kFr_1, kDFr_0, kDFr_1, kZ_0, kZ_1, kOp3_0, kOp2_0, kOp2_1, kOp_0, kOp_1, kTst_0, kAnd_0, kAnd_1, kAnd_2, kOr_0, kOr_1, kOr_2, kNot_0, kNot_1, kIfE_0, kIfE_1, kIfE_2, kAndV_0, kAndV_1, kOrV_0, kOrV_1, kNotV_0, kAC2_0, kAC2_1, kAC_0, kAC_1, kAF_0, kAF_1, kRds_0, kCall2_0, kCall2_1, kCall_0, kCall_1, kTup2_0, kTup2_1, kTup_0, kTup_1, kLst2_0, kLst2_1, kLst_0, kLst_1, kFCo_0, kFCo_1, kFCr_0, kFCr_1, kFCf_0, kFCf_1, kFC2_0, kFC2_1, kFC3_0, kFC3_1, kFC1_0, kFC1_1, kFC1_2, kFC_0, kFC_1, kSeq_0, kSeq_1, kSeq_2, kSeq_3, kSeq_4, kSeq_5, kDrop_0, kDrop_1, kRet_0, kRet_1, kIf_0, kIf_1, kIf_2, kTo_0, kTo_1, kNR_0, kNR_1, kNR_2, kNR_3, kNR_4, kNR_5, kAsg3_0, kAsg3_1, kAsg2_0, kAsg2_1, kAsg_0, kAsg_1, kGN_0, kGN_1, kGC_0, kGC_1, kUn2_0, kUn2_1, kUn_0, kUn_1, kMt4_0, kMt4_1, kMt3_0, kMt2_0, kMt2_1, kMt_0, kMt_1, kPut_0, kPut_1, kPut_2, kPut_3, kPut_4, kPut_5, kM12_0, kM12_1, kM11_0, kM11_1, kM1_0, kIsi3_0, kIsi3_1, kIsi2_0, kIsi2_1, kIsi_0, kIsi_1, kOSo_0, kSl4_0, kSl4_1, kSl3_0, kSl3_1, kSl2_0, kSl2_1, kSl_0, kSl_1, kNeg_0, kSX3_0, kSX3_1, kSX2_0, kSX2_1, kSX1_0, kSX0_0, kSX0_1, kSX_0, kSX_1, kAug3_0, kAug3_1, kAug2_0, kAug_0, kRes_0, kRes_1, kEnd2_0, kEnd2_1, kEnd_0, kEnd_1, kAny_0, kAny_1, kAny_2, kR1_0, kR2_0, kEn_0, kEn_1, kFor_0, kFor_1, kLc2_0, kLc2_1, kLc_0, kLc_1, kGG_0, kCh3_0, kCh3_1, kCh2_0, kCh2_1, kCh1_0, kCh1_1, kCh_0, kCh_1, kLRg_0, kLRh_0, kLRi_0, kMG_0, kDG2_0, kDG1_0, kDG1_1, kDG_0, kDG_1, kDI2_0, kDI2_1, kDI_0, kDI_1, kMP_0, kDP3_0, kDP3_1, kDP2_0, kDP2_1, kDP1_0, kDP1_1, kDP_0, kDP_1, kPar2_0, kPar2_1, kPar_0, gAdd, DL.gSub, gCmp, gLen, gMax, gMin, gInt, gList, gTuple, gApp, ix_l0, ix_l1, ix_l2, ix_t0, ix_t1, ix_t2, ix_t3, ix_tm2, ix_tm3, ix_tm4, gEq_int, gNe_int, eq_row_floor, eq_ring_floor, eq_floor_floor, eq_row_ring, eq_ring_ring, eq_floor_ring, eq_row_row, eq_ring_row, eq_floor_row, ne_row_floor, ne_ring_floor, ne_floor_floor, lim, ixN3_0, ixN3_1, ixN3_2, List.getElem?_cons_zero, List.getElem?_cons_succ, List.set_cons_zero, List.set_cons_succ, List.replicate_succ, List.replicate_zero, List.cons_append, List.nil_append, List.zipWith_cons_cons, List.zipWith_nil_left, List.zipWith_nil_right, List.length_cons, List.length_nil, Option.map_some, Option.map_none, Nat.reduceAdd, Nat.reduceSub, Nat.reduceLT, Nat.reduceLeDiff, Int.reduceAdd, Int.reduceLT, Int.reduceLE, Int.reduceNeg, Int.reduceSub, Int.reduceMul, Int.reduceEq, if_true, if_false, ite_true, ite_false, decide_true, decide_false, Bool.not_true, Bool.not_false, Bool.and_true, Bool.true_and, Bool.and_false, Bool.false_and, ↓reduceIte, F__law_pot, d__law_pot, hc, p18, p37, m1, e1, hlim]
/-! ### boards -/
inductive Bd where
  | row (n : Nat) | ring (n : Nat) | floor (h w : Nat)
def Bd.d : Bd → D
  | .row n => .tup [.str "row", .int (n : Nat)]
  | .ring n => .tup [.str "ring", .int (n : Nat)]
  | .floor h w => .tup [.str "floor", .int (h : Nat), .int (w : Nat)]
def Bd.cells : Bd → Nat
  | .row n => n
  | .ring n => n
  | .floor h w => h * w
def Bd.ok (m : Nat) : Bd → Prop
  | .row n => 3 ≤ n ∧ n ≤ m
  | .ring n => 5 ≤ n ∧ n ≤ m
  | .floor h w => 1 ≤ h ∧ 1 ≤ w ∧ h * w ≤ m ∧ (3 ≤ h ∨ 3 ≤ w)
theorem board_ok {n : Nat} {pot : List D} {m : Nat} (h : PotOk n pot) (hm0 : 10 ≤ m) (hm : m ≤ 36) (hn : n ≤ 2 ^ 60) :
    ∃ b pot', F__law_board [.rf (.l pot), .fz (.int (m : Nat))] = some (.fz (Bd.d b), [.rf (.l pot'), .fz (.int (m : Nat))]) ∧ b.ok m ∧ PotOk (n + 4) pot' := by
  obtain ⟨r1, p1, e1, a1, b1, k1⟩ := dip_ok (m := 4) h (by decide) (by decide) (by omega)
  by_cases c1 : r1 < 2
  · obtain ⟨r2, p2, e2, a2, b2, k2⟩ := dip_ok (m := (m : Int) - 2) k1 (by omega) (by omega) (by omega)
    obtain ⟨q, hq⟩ : ∃ q : Nat, 3 + r2 = (q : Nat) := ⟨(3 + r2).toNat, by omega⟩
    refine ⟨.row q, p2, ?_, ⟨by omega, by omega⟩, k2.more (by omega)⟩
    simp only [wipeD, restD, allFz, eVar_e, eC_e, rd_fz, rd_ow, rd_bw, fr_fz, fr_ow, fr_bw, dFr_e, dOp2_e, dTst_e, dAnd_e, dOr_e, dNot_e, dIfE_e, dAndV_e, dOrV_e, dNotV_e, dYes_e, aNil_e, aCons_e, aFr_e, rds_nil, rds_cons, dCall_e, eTup_e, eLst_e, dsOf_nil, dsOf_fz, fCall_e, bSeq_e, bNext_e, bBreak_e, bCont_e, bRetN_e, bDrop_e, bRet_e, bIf_e, to_fz, to_ow, to_bw, notRf_e, bAsg_e, gNm_e, gsNil_e, gsCons_e, gTp_e, bUnp_e, dMt_e, held_ow, held_rf, putS_e, dM1_e, dIsi_e, oSome_e, oNo_e, dSl_e, dNeg_e, bSetIx_e, bAug_e, res_fz, res_ow, res_bw, runF_e, fin_nil, fin_nil1, fin_rf, fin_fz, iAny_e, iRange1_e, iRange2_e, iEnumD_e, dChain_e, dLRg1_e, dLRg2_e, heldM_ow, heldM_rf, eDict_e, dDGet_e, dDIn_e, bDPut_e, bPar_e, nc0, nc1, nc2, nc3, nc4, nc5, nc6, nc7, nc8, nc9, nc36, kVar_0, kVar_1, kVar_2, kRd_0, kRd_1, kRd_2, kFr_0, kFr_1, kDFr_0, kDFr_1, kZ_0, kZ_1, kOp3_0, kOp2_0, kOp2_1, kOp_0, kOp_1, kTst_0, kAnd_0, kAnd_1, kAnd_2, kOr_0, kOr_1, kOr_2, kNot_0, kNot_1, kIfE_0, kIfE_1, kIfE_2, kAndV_0, kAndV_1, kOrV_0, kOrV_1, kNotV_0, kAC2_0, kAC2_1, kAC_0, kAC_1, kAF_0, kAF_1, kRds_0, kCall2_0, kCall2_1, kCall_0, kCall_1, kTup2_0, kTup2_1, kTup_0, kTup_1, kLst2_0, kLst2_1, kLst_0, kLst_1, kFCo_0, kFCo_1, kFCr_0, kFCr_1, kFCf_0, kFCf_1, kFC2_0, kFC2_1, kFC3_0, kFC3_1, kFC1_0, kFC1_1, kFC1_2, kFC_0, kFC_1, kSeq_0, kSeq_1, kSeq_2, kSeq_3, kSeq_4, kSeq_5, kDrop_0, kDrop_1, kRet_0, kRet_1, kIf_0, kIf_1, kIf_2, kTo_0, kTo_1, kNR_0, kNR_1, kNR_2, kNR_3, kNR_4, kNR_5, kAsg3_0, kAsg3_1, kAsg2_0, kAsg2_1, kAsg_0, kAsg_1, kGN_0, kGN_1, kGC_0, kGC_1, kUn2_0, kUn2_1, kUn_0, kUn_1, kMt4_0, kMt4_1, kMt3_0, kMt2_0, kMt2_1, kMt_0, kMt_1, kPut_0, kPut_1, kPut_2, kPut_3, kPut_4, kPut_5, kM12_0, kM12_1, kM11_0, kM11_1, kM1_0, kIsi3_0, kIsi3_1, kIsi2_0, kIsi2_1, kIsi_0, kIsi_1, kOSo_0, kSl4_0, kSl4_1, kSl3_0, kSl3_1, kSl2_0, kSl2_1, kSl_0, kSl_1, kNeg_0, kSX3_0, kSX3_1, kSX2_0, kSX2_1, kSX1_0, kSX0_0, kSX0_1, kSX_0, kSX_1, kAug3_0, kAug3_1, kAug2_0, kAug_0, kRes_0, kRes_1, kEnd2_0, kEnd2_1, kEnd_0, kEnd_1, kAny_0, kAny_1, kAny_2, kR1_0, kR2_0, kEn_0, kEn_1, kFor_0, kFor_1, kLc2_0, kLc2_1, kLc_0, kLc_1, kGG_0, kCh3_0, kCh3_1, kCh2_0, kCh2_1, kCh1_0, kCh1_1, kCh_0, kCh_1, kLRg_0, kLRh_0, kLRi_0, kMG_0, kDG2_0, kDG1_0, kDG1_1, kDG_0, kDG_1, kDI2_0, kDI2_1, kDI_0, kDI_1, kMP_0, kDP3_0, kDP3_1, kDP2_0, kDP2_1, kDP1_0, kDP1_1, kDP_0, kDP_1, kPar2_0, kPar2_1, kPar_0, gAdd, DL.gSub, gCmp, gLen, gMax, gMin, gInt, gList, gTuple, gApp, ix_l0, ix_l1, ix_l2, ix_t0, ix_t1, ix_t2, ix_t3, ix_tm2, ix_tm3, ix_tm4, gEq_int, gNe_int, eq_row_floor, eq_ring_floor, eq_floor_floor, eq_row_ring, eq_ring_ring, eq_floor_ring, eq_row_row, eq_ring_row, eq_floor_row, ne_row_floor, ne_ring_floor, ne_floor_floor, lim, ixN3_0, ixN3_1, ixN3_2, List.getElem?_cons_zero, List.getElem?_cons_succ, List.set_cons_zero, List.set_cons_succ, List.replicate_succ, List.replicate_zero, List.cons_append, List.nil_append, List.zipWith_cons_cons, List.zipWith_nil_left, List.zipWith_nil_right, List.length_cons, List.length_nil, Option.map_some, Option.map_none, Nat.reduceAdd, Nat.reduceSub, Nat.reduceLT, Nat.reduceLeDiff, Int.reduceAdd, Int.reduceLT, Int.reduceLE, Int.reduceNeg, Int.reduceSub, Int.reduceMul, Int.reduceEq, if_true, if_false, ite_true, ite_false, decide_true, decide_false, Bool.not_true, Bool.not_false, Bool.and_true, Bool.true_and, Bool.and_false, Bool.false_and, ↓reduceIte, F__law_board, d__law_board, e1, c1, e2, eTup, hq, Bd.d]
  · by_cases c2 : r1 = 2
    · obtain ⟨r2, p2, e2, a2, b2, k2⟩ := dip_ok (m := (m : Int) - 4) k1 (by omega) (by omega) (by omega)
      obtain ⟨q, hq⟩ : ∃ q : Nat, 5 + r2 = (q : Nat) := ⟨(5 + r2).toNat, by omega⟩
      refine ⟨.ring q, p2, ?_, ⟨by omega, by omega⟩, k2.more (by omega)⟩
      simp only [wipeD, restD, allFz, eVar_e, eC_e, rd_fz, rd_ow, rd_bw, fr_fz, fr_ow, fr_bw, dFr_e, dOp2_e, dTst_e, dAnd_e, dOr_e, dNot_e, dIfE_e, dAndV_e, dOrV_e, dNotV_e, dYes_e, aNil_e, aCons_e, aFr_e, rds_nil, rds_cons, dCall_e, eTup_e, eLst_e, dsOf_nil, dsOf_fz, fCall_e, bSeq_e, bNext_e, bBreak_e, bCont_e, bRetN_e, bDrop_e, bRet_e, bIf_e, to_fz, to_ow, to_bw, notRf_e, bAsg_e, gNm_e, gsNil_e, gsCons_e, gTp_e, bUnp_e, dMt_e, held_ow, held_rf, putS_e, dM1_e, dIsi_e, oSome_e, oNo_e, dSl_e, dNeg_e, bSetIx_e, bAug_e, res_fz, res_ow, res_bw, runF_e, fin_nil, fin_nil1, fin_rf, fin_fz, iAny_e, iRange1_e, iRange2_e, iEnumD_e, dChain_e, dLRg1_e, dLRg2_e, heldM_ow, heldM_rf, eDict_e, dDGet_e, dDIn_e, bDPut_e, bPar_e, nc0, nc1, nc2, nc3, nc4, nc5, nc6, nc7, nc8, nc9, nc36, kVar_0, kVar_1, kVar_2, kRd_0, kRd_1, kRd_2, kFr_0, kFr_1, kDFr_0, kDFr_1, kZ_0, kZ_1, kOp3_0, kOp2_0, kOp2_1, kOp_0, kOp_1, kTst_0, kAnd_0, kAnd_1, kAnd_2, kOr_0, kOr_1, kOr_2, kNot_0, kNot_1, kIfE_0, kIfE_1, kIfE_2, kAndV_0, kAndV_1, kOrV_0, kOrV_1, kNotV_0, kAC2_0, kAC2_1, kAC_0, kAC_1, kAF_0, kAF_1, kRds_0, kCall2_0, kCall2_1, kCall_0, kCall_1, kTup2_0, kTup2_1, kTup_0, kTup_1, kLst2_0, kLst2_1, kLst_0, kLst_1, kFCo_0, kFCo_1, kFCr_0, kFCr_1, kFCf_0, kFCf_1, kFC2_0, kFC2_1, kFC3_0, kFC3_1, kFC1_0, kFC1_1, kFC1_2, kFC_0, kFC_1, kSeq_0, kSeq_1, kSeq_2, kSeq_3, kSeq_4, kSeq_5, kDrop_0, kDrop_1, kRet_0, kRet_1, kIf_0, kIf_1, kIf_2, kTo_0, kTo_1, kNR_0, kNR_1, kNR_2, kNR_3, kNR_4, kNR_5, kAsg3_0, kAsg3_1, kAsg2_0, kAsg2_1, kAsg_0, kAsg_1, kGN_0, kGN_1, kGC_0, kGC_1, kUn2_0, kUn2_1, kUn_0, kUn_1, kMt4_0, kMt4_1, kMt3_0, kMt2_0, kMt2_1, kMt_0, kMt_1, kPut_0, kPut_1, kPut_2, kPut_3, kPut_4, kPut_5, kM12_0, kM12_1, kM11_0, kM11_1, kM1_0, kIsi3_0, kIsi3_1, kIsi2_0, kIsi2_1, kIsi_0, kIsi_1, kOSo_0, kSl4_0, kSl4_1, kSl3_0, kSl3_1, kSl2_0, kSl2_1, kSl_0, kSl_1, kNeg_0, kSX3_0, kSX3_1, kSX2_0, kSX2_1, kSX1_0, kSX0_0, kSX0_1, kSX_0, kSX_1, kAug3_0, kAug3_1, kAug2_0, kAug_0, kRes_0, kRes_1, kEnd2_0, kEnd2_1, kEnd_0, kEnd_1, kAny_0, kAny_1, kAny_2, kR1_0, kR2_0, kEn_0, kEn_1, kFor_0, kFor_1, kLc2_0, kLc2_1, kLc_0, kLc_1, kGG_0, kCh3_0, kCh3_1, kCh2_0, kCh2_1, kCh1_0, kCh1_1, kCh_0, kCh_1, kLRg_0, kLRh_0, kLRi_0, kMG_0, kDG2_0, kDG1_0, kDG1_1, kDG_0, kDG_1, kDI2_0, kDI2_1, kDI_0, kDI_1, kMP_0, kDP3_0, kDP3_1, kDP2_0, kDP2_1, kDP1_0, kDP1_1, kDP_0, kDP_1, kPar2_0, kPar2_1, kPar_0, gAdd, DL.gSub, gCmp, gLen, gMax, gMin, gInt, gList, gTuple, gApp, ix_l0, ix_l1, ix_l2, ix_t0, ix_t1, ix_t2, ix_t3, ix_tm2, ix_tm3, ix_tm4, gEq_int, gNe_int, eq_row_floor, eq_ring_floor, eq_floor_floor, eq_row_ring, eq_ring_ring, eq_floor_ring, eq_row_row, eq_ring_row, eq_floor_row, ne_row_floor, ne_ring_floor, ne_floor_floor, lim, ixN3_0, ixN3_1, ixN3_2, List.getElem?_cons_zero, List.getElem?_cons_succ, List.set_cons_zero, List.set_cons_succ, List.replicate_succ, List.replicate_zero, List.cons_append, List.nil_append, List.zipWith_cons_cons, List.zipWith_nil_left, List.zipWith_nil_right, List.length_cons, List.length_nil, Option.map_some, Option.map_none, Nat.reduceAdd, Nat.reduceSub, Nat.reduceLT, Nat.reduceLeDiff, Int.reduceAdd, Int.reduceLT, Int.reduceLE, Int.reduceNeg, Int.reduceSub, Int.reduceMul, Int.reduceEq, if_true, if_false, ite_true, ite_false, decide_true, decide_false, Bool.not_true, Bool.not_false, Bool.and_true, Bool.true_and, Bool.and_false, Bool.false_and, ↓reduceIte, F__law_board, d__law_board, e1, c1, c2, e2, eTup, hq, Bd.d]
    · obtain ⟨r2, p2, e2, a2, b2, k2⟩ := dip_ok (m := 6) k1 (by omega) (by omega) (by omega)
      obtain ⟨s, hs⟩ : ∃ s : Nat, 1 + r2 = (s : Nat) := ⟨(1 + r2).toNat, by omega⟩
      have q3 : gMul (.int 3) (.int (s : Nat)) = some (.fz (.int (3 * (s : Nat)))) := mul_small (by decide) (by omega)
      have d3 : gDiv (.int (m : Nat)) (.int 3) = some (.fz (.int ((m : Nat) / 3 : Int))) := div_ok (by decide) (by decide)
      -- the short side
      obtain ⟨t, ht, ht1, ht2⟩ : ∃ t : Nat, (if (m : Int) < 3 * (s : Nat) then ((m : Nat) / 3 : Int) else ((s : Nat) : Int)) = ((t : Nat) : Int) ∧ 1 ≤ t ∧ 3 * t ≤ m := by
        by_cases c3 : (m : Int) < 3 * (s : Nat)
        · rw [if_pos c3]
          exact ⟨m / 3, by omega, by omega, by omega⟩
        · rw [if_neg c3]
          exact ⟨s, rfl, by omega, by omega⟩
      have dt : gDiv (.int (m : Nat)) (.int (t : Nat)) = some (.fz (.int ((m / t : Nat) : Int))) := by
        rw [div_ok (by omega) (Nat.lt_of_lt_of_le (PySem.Flt.log2_lt_of (k := 64) (by decide) (by omega)) (by decide))]
        simp
      have hmt : 3 ≤ m / t := (Nat.le_div_iff_mul_le (by omega)).mpr ht2
      have hmt2 : m / t ≤ 36 := Nat.le_trans (Nat.div_le_self _ _) hm
      obtain ⟨r3, p3, e3, a3, b3, k3⟩ := dip_ok (m := ((m / t : Nat) : Int) - 2) k2 (by omega) (by omega) (by omega)
      obtain ⟨u, hu⟩ : ∃ u : Nat, 3 + r3 = (u : Nat) := ⟨(3 + r3).toNat, by omega⟩
      obtain ⟨r4, p4, e4, a4, b4, k4⟩ := dip_ok (m := 2) k3 (by omega) (by omega) (by omega)
      have hu1 : 3 ≤ u := by omega
      have hu2 : t * u ≤ m := Nat.le_trans (Nat.mul_le_mul_left t (show u ≤ m / t by omega)) (Nat.mul_div_le m t)
      have last : ∀ b : Bd, b = (if r4 = 0 then Bd.floor t u else Bd.floor u t) → b.ok m := fun b hb => by
        subst hb
        split
        · exact ⟨ht1, by omega, hu2, .inr hu1⟩
        · exact ⟨by omega, ht1, by rw [Nat.mul_comm]; exact hu2, .inl hu1⟩
      refine ⟨_, p4, ?_, last _ rfl, k4.more (by omega)⟩
      by_cases c3 : (m : Int) < 3 * (s : Nat)
      · rw [if_pos c3] at ht
        rw [ht] at d3
        have hr4 : r4 = 0 ∨ r4 = 1 := by omega
        rcases hr4 with rfl | rfl
        · simp only [wipeD, restD, allFz, eVar_e, eC_e, rd_fz, rd_ow, rd_bw, fr_fz, fr_ow, fr_bw, dFr_e, dOp2_e, dTst_e, dAnd_e, dOr_e, dNot_e, dIfE_e, dAndV_e, dOrV_e, dNotV_e, dYes_e, aNil_e, aCons_e, aFr_e, rds_nil, rds_cons, dCall_e, eTup_e, eLst_e, dsOf_nil, dsOf_fz, fCall_e, bSeq_e, bNext_e, bBreak_e, bCont_e, bRetN_e, bDrop_e, bRet_e, bIf_e, to_fz, to_ow, to_bw, notRf_e, bAsg_e, gNm_e, gsNil_e, gsCons_e, gTp_e, bUnp_e, dMt_e, held_ow, held_rf, putS_e, dM1_e, dIsi_e, oSome_e, oNo_e, dSl_e, dNeg_e, bSetIx_e, bAug_e, res_fz, res_ow, res_bw, runF_e, fin_nil, fin_nil1, fin_rf, fin_fz, iAny_e, iRange1_e, iRange2_e, iEnumD_e, dChain_e, dLRg1_e, dLRg2_e, heldM_ow, heldM_rf, eDict_e, dDGet_e, dDIn_e, bDPut_e, bPar_e, nc0, nc1, nc2, nc3, nc4, nc5, nc6, nc7, nc8, nc9, nc36, kVar_0, kVar_1, kVar_2, kRd_0, kRd_1, kRd_2, kFr_0, kFr_1, kDFr_0, kDFr_1, kZ_0, kZ_1, kOp3_0, kOp2_0, kOp2_1, kOp_0, kOp_1, kTst_0, kAnd_0, kAnd_1, kAnd_2, kOr_0, kOr_1, kOr_2, kNot_0, kNot_1, kIfE_0, kIfE_1, kIfE_2, kAndV_0, kAndV_1, kOrV_0, kOrV_1, kNotV_0, kAC2_0, kAC2_1, kAC_0, kAC_1, kAF_0, kAF_1, kRds_0, kCall2_0, kCall2_1, kCall_0, kCall_1, kTup2_0, kTup2_1, kTup_0, kTup_1, kLst2_0, kLst2_1, kLst_0, kLst_1, kFCo_0, kFCo_1, kFCr_0, kFCr_1, kFCf_0, kFCf_1, kFC2_0, kFC2_1, kFC3_0, kFC3_1, kFC1_0, kFC1_1, kFC1_2, kFC_0, kFC_1, kSeq_0, kSeq_1, kSeq_2, kSeq_3, kSeq_4, kSeq_5, kDrop_0, kDrop_1, kRet_0, kRet_1, kIf_0, kIf_1, kIf_2, kTo_0, kTo_1, kNR_0, kNR_1, kNR_2, kNR_3, kNR_4, kNR_5, kAsg3_0, kAsg3_1, kAsg2_0, kAsg2_1, kAsg_0, kAsg_1, kGN_0, kGN_1, kGC_0, kGC_1, kUn2_0, kUn2_1, kUn_0, kUn_1, kMt4_0, kMt4_1, kMt3_0, kMt2_0, kMt2_1, kMt_0, kMt_1, kPut_0, kPut_1, kPut_2, kPut_3, kPut_4, kPut_5, kM12_0, kM12_1, kM11_0, kM11_1, kM1_0, kIsi3_0, kIsi3_1, kIsi2_0, kIsi2_1, kIsi_0, kIsi_1, kOSo_0, kSl4_0, kSl4_1, kSl3_0, kSl3_1, kSl2_0, kSl2_1, kSl_0, kSl_1, kNeg_0, kSX3_0, kSX3_1, kSX2_0, kSX2_1, kSX1_0, kSX0_0, kSX0_1, kSX_0, kSX_1, kAug3_0, kAug3_1, kAug2_0, kAug_0, kRes_0, kRes_1, kEnd2_0, kEnd2_1, kEnd_0, kEnd_1, kAny_0, kAny_1, kAny_2, kR1_0, kR2_0, kEn_0, kEn_1, kFor_0, kFor_1, kLc2_0, kLc2_1, kLc_0, kLc_1, kGG_0, kCh3_0, kCh3_1, kCh2_0, kCh2_1, kCh1_0, kCh1_1, kCh_0, kCh_1, kLRg_0, kLRh_0, kLRi_0, kMG_0, kDG2_0, kDG1_0, kDG1_1, kDG_0, kDG_1, kDI2_0, kDI2_1, kDI_0, kDI_1, kMP_0, kDP3_0, kDP3_1, kDP2_0, kDP2_1, kDP1_0, kDP1_1, kDP_0, kDP_1, kPar2_0, kPar2_1, kPar_0, gAdd, DL.gSub, gCmp, gLen, gMax, gMin, gInt, gList, gTuple, gApp, ix_l0, ix_l1, ix_l2, ix_t0, ix_t1, ix_t2, ix_t3, ix_tm2, ix_tm3, ix_tm4, gEq_int, gNe_int, eq_row_floor, eq_ring_floor, eq_floor_floor, eq_row_ring, eq_ring_ring, eq_floor_ring, eq_row_row, eq_ring_row, eq_floor_row, ne_row_floor, ne_ring_floor, ne_floor_floor, lim, ixN3_0, ixN3_1, ixN3_2, List.getElem?_cons_zero, List.getElem?_cons_succ, List.set_cons_zero, List.set_cons_succ, List.replicate_succ, List.replicate_zero, List.cons_append, List.nil_append, List.zipWith_cons_cons, List.zipWith_nil_left, List.zipWith_nil_right, List.length_cons, List.length_nil, Option.map_some, Option.map_none, Nat.reduceAdd, Nat.reduceSub, Nat.reduceLT, Nat.reduceLeDiff, Int.reduceAdd, Int.reduceLT, Int.reduceLE, Int.reduceNeg, Int.reduceSub, Int.reduceMul, Int.reduceEq, if_true, if_false, ite_true, ite_false, decide_true, decide_false, Bool.not_true, Bool.not_false, Bool.and_true, Bool.true_and, Bool.and_false, Bool.false_and, ↓reduceIte, F__law_board, d__law_board, e1, c1, c2, e2, hs, q3, c3, d3, dt, e3, hu, e4, eLst, Bd.d]
        · simp only [wipeD, restD, allFz, eVar_e, eC_e, rd_fz, rd_ow, rd_bw, fr_fz, fr_ow, fr_bw, dFr_e, dOp2_e, dTst_e, dAnd_e, dOr_e, dNot_e, dIfE_e, dAndV_e, dOrV_e, dNotV_e, dYes_e, aNil_e, aCons_e, aFr_e, rds_nil, rds_cons, dCall_e, eTup_e, eLst_e, dsOf_nil, dsOf_fz, fCall_e, bSeq_e, bNext_e, bBreak_e, bCont_e, bRetN_e, bDrop_e, bRet_e, bIf_e, to_fz, to_ow, to_bw, notRf_e, bAsg_e, gNm_e, gsNil_e, gsCons_e, gTp_e, bUnp_e, dMt_e, held_ow, held_rf, putS_e, dM1_e, dIsi_e, oSome_e, oNo_e, dSl_e, dNeg_e, bSetIx_e, bAug_e, res_fz, res_ow, res_bw, runF_e, fin_nil, fin_nil1, fin_rf, fin_fz, iAny_e, iRange1_e, iRange2_e, iEnumD_e, dChain_e, dLRg1_e, dLRg2_e, heldM_ow, heldM_rf, eDict_e, dDGet_e, dDIn_e, bDPut_e, bPar_e, nc0, nc1, nc2, nc3, nc4, nc5, nc6, nc7, nc8, nc9, nc36, kVar_0, kVar_1, kVar_2, kRd_0, kRd_1, kRd_2, kFr_0, kFr_1, kDFr_0, kDFr_1, kZ_0, kZ_1, kOp3_0, kOp2_0, kOp2_1, kOp_0, kOp_1, kTst_0, kAnd_0, kAnd_1, kAnd_2, kOr_0, kOr_1, kOr_2, kNot_0, kNot_1, kIfE_0, kIfE_1, kIfE_2, kAndV_0, kAndV_1, kOrV_0, kOrV_1, kNotV_0, kAC2_0, kAC2_1, kAC_0, kAC_1, kAF_0, kAF_1, kRds_0, kCall2_0, kCall2_1, kCall_0, kCall_1, kTup2_0, kTup2_1, kTup_0, kTup_1, kLst2_0, kLst2_1, kLst_0, kLst_1, kFCo_0, kFCo_1, kFCr_0, kFCr_1, kFCf_0, kFCf_1, kFC2_0, kFC2_1, kFC3_0, kFC3_1, kFC1_0, kFC1_1, kFC1_2, kFC_0, kFC_1, kSeq_0, kSeq_1, kSeq_2, kSeq_3, kSeq_4, kSeq_5, kDrop_0, kDrop_1, kRet_0, kRet_1, kIf_0, kIf_1, kIf_2, kTo_0, kTo_1, kNR_0, kNR_1, kNR_2, kNR_3, kNR_4, kNR_5, kAsg3_0, kAsg3_1, kAsg2_0, kAsg2_1, kAsg_0, kAsg_1, kGN_0, kGN_1, kGC_0, kGC_1, kUn2_0, kUn2_1, kUn_0, kUn_1, kMt4_0, kMt4_1, kMt3_0, kMt2_0, kMt2_1, kMt_0, kMt_1, kPut_0, kPut_1, kPut_2, kPut_3, kPut_4, kPut_5, kM12_0, kM12_1, kM11_0, kM11_1, kM1_0, kIsi3_0, kIsi3_1, kIsi2_0, kIsi2_1, kIsi_0, kIsi_1, kOSo_0, kSl4_0, kSl4_1, kSl3_0, kSl3_1, kSl2_0, kSl2_1, kSl_0, kSl_1, kNeg_0, kSX3_0, kSX3_1, kSX2_0, kSX2_1, kSX1_0, kSX0_0, kSX0_1, kSX_0, kSX_1, kAug3_0, kAug3_1, kAug2_0, kAug_0, kRes_0, kRes_1, kEnd2_0, kEnd2_1, kEnd_0, kEnd_1, kAny_0, kAny_1, kAny_2, kR1_0, kR2_0, kEn_0, kEn_1, kFor_0, kFor_1, kLc2_0, kLc2_1, kLc_0, kLc_1, kGG_0, kCh3_0, kCh3_1, kCh2_0, kCh2_1, kCh1_0, kCh1_1, kCh_0, kCh_1, kLRg_0, kLRh_0, kLRi_0, kMG_0, kDG2_0, kDG1_0, kDG1_1, kDG_0, kDG_1, kDI2_0, kDI2_1, kDI_0, kDI_1, kMP_0, kDP3_0, kDP3_1, kDP2_0, kDP2_1, kDP1_0, kDP1_1, kDP_0, kDP_1, kPar2_0, kPar2_1, kPar_0, gAdd, DL.gSub, gCmp, gLen, gMax, gMin, gInt, gList, gTuple, gApp, ix_l0, ix_l1, ix_l2, ix_t0, ix_t1, ix_t2, ix_t3, ix_tm2, ix_tm3, ix_tm4, gEq_int, gNe_int, eq_row_floor, eq_ring_floor, eq_floor_floor, eq_row_ring, eq_ring_ring, eq_floor_ring, eq_row_row, eq_ring_row, eq_floor_row, ne_row_floor, ne_ring_floor, ne_floor_floor, lim, ixN3_0, ixN3_1, ixN3_2, List.getElem?_cons_zero, List.getElem?_cons_succ, List.set_cons_zero, List.set_cons_succ, List.replicate_succ, List.replicate_zero, List.cons_append, List.nil_append, List.zipWith_cons_cons, List.zipWith_nil_left, List.zipWith_nil_right, List.length_cons, List.length_nil, Option.map_some, Option.map_none, Nat.reduceAdd, Nat.reduceSub, Nat.reduceLT, Nat.reduceLeDiff, Int.reduceAdd, Int.reduceLT, Int.reduceLE, Int.reduceNeg, Int.reduceSub, Int.reduceMul, Int.reduceEq, if_true, if_false, ite_true, ite_false, decide_true, decide_false, Bool.not_true, Bool.not_false, Bool.and_true, Bool.true_and, Bool.and_false, Bool.false_and, ↓reduceIte, F__law_board, d__law_board, e1, c1, c2, e2, hs, q3, c3, d3, dt, e3, hu, e4, eLst, Bd.d, Int.reduceEq, Int.one_ne_zero]
      · rw [if_neg c3] at ht
        have est : s = t := by omega
        subst est
        have hr4 : r4 = 0 ∨ r4 = 1 := by omega
        rcases hr4 with rfl | rfl
        · simp only [wipeD, restD, allFz, eVar_e, eC_e, rd_fz, rd_ow, rd_bw, fr_fz, fr_ow, fr_bw, dFr_e, dOp2_e, dTst_e, dAnd_e, dOr_e, dNot_e, dIfE_e, dAndV_e, dOrV_e, dNotV_e, dYes_e, aNil_e, aCons_e, aFr_e, rds_nil, rds_cons, dCall_e, eTup_e, eLst_e, dsOf_nil, dsOf_fz, fCall_e, bSeq_e, bNext_e, bBreak_e, bCont_e, bRetN_e, bDrop_e, bRet_e, bIf_e, to_fz, to_ow, to_bw, notRf_e, bAsg_e, gNm_e, gsNil_e, gsCons_e, gTp_e, bUnp_e, dMt_e, held_ow, held_rf, putS_e, dM1_e, dIsi_e, oSome_e, oNo_e, dSl_e, dNeg_e, bSetIx_e, bAug_e, res_fz, res_ow, res_bw, runF_e, fin_nil, fin_nil1, fin_rf, fin_fz, iAny_e, iRange1_e, iRange2_e, iEnumD_e, dChain_e, dLRg1_e, dLRg2_e, heldM_ow, heldM_rf, eDict_e, dDGet_e, dDIn_e, bDPut_e, bPar_e, nc0, nc1, nc2, nc3, nc4, nc5, nc6, nc7, nc8, nc9, nc36, kVar_0, kVar_1, kVar_2, kRd_0, kRd_1, kRd_2, kFr_0, kFr_1, kDFr_0, kDFr_1, kZ_0, kZ_1, kOp3_0, kOp2_0, kOp2_1, kOp_0, kOp_1, kTst_0, kAnd_0, kAnd_1, kAnd_2, kOr_0, kOr_1, kOr_2, kNot_0, kNot_1, kIfE_0, kIfE_1, kIfE_2, kAndV_0, kAndV_1, kOrV_0, kOrV_1, kNotV_0, kAC2_0, kAC2_1, kAC_0, kAC_1, kAF_0, kAF_1, kRds_0, kCall2_0, kCall2_1, kCall_0, kCall_1, kTup2_0, kTup2_1, kTup_0, kTup_1, kLst2_0, kLst2_1, kLst_0, kLst_1, kFCo_0, kFCo_1, kFCr_0, kFCr_1, kFCf_0, kFCf_1, kFC2_0, kFC2_1, kFC3_0, kFC3_1, kFC1_0, kFC1_1, kFC1_2, kFC_0, kFC_1, kSeq_0, kSeq_1, kSeq_2, kSeq_3, kSeq_4, kSeq_5, kDrop_0, kDrop_1, kRet_0, kRet_1, kIf_0, kIf_1, kIf_2, kTo_0, kTo_1, kNR_0, kNR_1, kNR_2, kNR_3, kNR_4, kNR_5, kAsg3_0, kAsg3_1, kAsg2_0, kAsg2_1, kAsg_0, kAsg_1, kGN_0, kGN_1, kGC_0, kGC_1, kUn2_0, kUn2_1, kUn_0, kUn_1, kMt4_0, kMt4_1, kMt3_0, kMt2_0, kMt2_1, kMt_0, kMt_1, kPut_0, kPut_1, kPut_2, kPut_3, kPut_4, kPut_5, kM12_0, kM12_1, kM11_0, kM11_1, kM1_0, kIsi3_0, kIsi3_1, kIsi2_0, kIsi2_1, kIsi_0, kIsi_1, kOSo_0, kSl4_0, kSl4_1, kSl3_0, kSl3_1, kSl2_0, kSl2_1, kSl_0, kSl_1, kNeg_0, kSX3_0, kSX3_1, kSX2_0, kSX2_1, kSX1_0, kSX0_0, kSX0_1, kSX_0, kSX_1, kAug3_0, kAug3_1, kAug2_0, kAug_0, kRes_0, kRes_1, kEnd2_0, kEnd2_1, kEnd_0, kEnd_1, kAny_0, kAny_1, kAny_2, kR1_0, kR2_0, kEn_0, kEn_1, kFor_0, kFor_1, kLc2_0, kLc2_1, kLc_0, kLc_1, kGG_0, kCh3_0, kCh3_1, kCh2_0, kCh2_1, kCh1_0, kCh1_1, kCh_0, kCh_1, kLRg_0, kLRh_0, kLRi_0, kMG_0, kDG2_0, kDG1_0, kDG1_1, kDG_0, kDG_1, kDI2_0, kDI2_1, kDI_0, kDI_1, kMP_0, kDP3_0, kDP3_1, kDP2_0, kDP2_1, kDP1_0, kDP1_1, kDP_0, kDP_1, kPar2_0, kPar2_1, kPar_0, gAdd, DL.gSub, gCmp, gLen, gMax, gMin, gInt, gList, gTuple, gApp, ix_l0, ix_l1, ix_l2, ix_t0, ix_t1, ix_t2, ix_t3, ix_tm2, ix_tm3, ix_tm4, gEq_int, gNe_int, eq_row_floor, eq_ring_floor, eq_floor_floor, eq_row_ring, eq_ring_ring, eq_floor_ring, eq_row_row, eq_ring_row, eq_floor_row, ne_row_floor, ne_ring_floor, ne_floor_floor, lim, ixN3_0, ixN3_1, ixN3_2, List.getElem?_cons_zero, List.getElem?_cons_succ, List.set_cons_zero, List.set_cons_succ, List.replicate_succ, List.replicate_zero, List.cons_append, List.nil_append, List.zipWith_cons_cons, List.zipWith_nil_left, List.zipWith_nil_right, List.length_cons, List.length_nil, Option.map_some, Option.map_none, Nat.reduceAdd, Nat.reduceSub, Nat.reduceLT, Nat.reduceLeDiff, Int.reduceAdd, Int.reduceLT, Int.reduceLE, Int.reduceNeg, Int.reduceSub, Int.reduceMul, Int.reduceEq, if_true, if_false, ite_true, ite_false, decide_true, decide_false, Bool.not_true, Bool.not_false, Bool.and_true, Bool.true_and, Bool.and_false, Bool.false_and, ↓reduceIte, F__law_board, d__law_board, e1, c1, c2, e2, hs, q3, c3, dt, e3, hu, e4, eLst, Bd.d]
        · simp only [wipeD, restD, allFz, eVar_e, eC_e, rd_fz, rd_ow, rd_bw, fr_fz, fr_ow, fr_bw, dFr_e, dOp2_e, dTst_e, dAnd_e, dOr_e, dNot_e, dIfE_e, dAndV_e, dOrV_e, dNotV_e, dYes_e, aNil_e, aCons_e, aFr_e, rds_nil, rds_cons, dCall_e, eTup_e, eLst_e, dsOf_nil, dsOf_fz, fCall_e, bSeq_e, bNext_e, bBreak_e, bCont_e, bRetN_e, bDrop_e, bRet_e, bIf_e, to_fz, to_ow, to_bw, notRf_e, bAsg_e, gNm_e, gsNil_e, gsCons_e, gTp_e, bUnp_e, dMt_e, held_ow, held_rf, putS_e, dM1_e, dIsi_e, oSome_e, oNo_e, dSl_e, dNeg_e, bSetIx_e, bAug_e, res_fz, res_ow, res_bw, runF_e, fin_nil, fin_nil1, fin_rf, fin_fz, iAny_e, iRange1_e, iRange2_e, iEnumD_e, dChain_e, dLRg1_e, dLRg2_e, heldM_ow, heldM_rf, eDict_e, dDGet_e, dDIn_e, bDPut_e, bPar_e, nc0, nc1, nc2, nc3, nc4, nc5, nc6, nc7, nc8, nc9, nc36, kVar_0, kVar_1, kVar_2, kRd_0, kRd_1, kRd_2, kFr_0, kFr_1, kDFr_0, kDFr_1, kZ_0, kZ_1, kOp3_0, kOp2_0, kOp2_1, kOp_0, kOp_1, kTst_0, kAnd_0, kAnd_1, kAnd_2, kOr_0, kOr_1, kOr_2, kNot_0, kNot_1, kIfE_0, kIfE_1, kIfE_2, kAndV_0, kAndV_1, kOrV_0, kOrV_1, kNotV_0, kAC2_0, kAC2_1, kAC_0, kAC_1, kAF_0, kAF_1, kRds_0, kCall2_0, kCall2_1, kCall_0, kCall_1, kTup2_0, kTup2_1, kTup_0, kTup_1, kLst2_0, kLst2_1, kLst_0, kLst_1, kFCo_0, kFCo_1, kFCr_0, kFCr_1, kFCf_0, kFCf_1, kFC2_0, kFC2_1, kFC3_0, kFC3_1, kFC1_0, kFC1_1, kFC1_2, kFC_0, kFC_1, kSeq_0, kSeq_1, kSeq_2, kSeq_3, kSeq_4, kSeq_5, kDrop_0, kDrop_1, kRet_0, kRet_1, kIf_0, kIf_1, kIf_2, kTo_0, kTo_1, kNR_0, kNR_1, kNR_2, kNR_3, kNR_4, kNR_5, kAsg3_0, kAsg3_1, kAsg2_0, kAsg2_1, kAsg_0, kAsg_1, kGN_0, kGN_1, kGC_0, kGC_1, kUn2_0, kUn2_1, kUn_0, kUn_1, kMt4_0, kMt4_1, kMt3_0, kMt2_0, kMt2_1, kMt_0, kMt_1, kPut_0, kPut_1, kPut_2, kPut_3, kPut_4, kPut_5, kM12_0, kM12_1, kM11_0, kM11_1, kM1_0, kIsi3_0, kIsi3_1, kIsi2_0, kIsi2_1, kIsi_0, kIsi_1, kOSo_0, kSl4_0, kSl4_1, kSl3_0, kSl3_1, kSl2_0, kSl2_1, kSl_0, kSl_1, kNeg_0, kSX3_0, kSX3_1, kSX2_0, kSX2_1, kSX1_0, kSX0_0, kSX0_1, kSX_0, kSX_1, kAug3_0, kAug3_1, kAug2_0, kAug_0, kRes_0, kRes_1, kEnd2_0, kEnd2_1, kEnd_0, kEnd_1, kAny_0, kAny_1, kAny_2, kR1_0, kR2_0, kEn_0, kEn_1, kFor_0, kFor_1, kLc2_0, kLc2_1, kLc_0, kLc_1, kGG_0, kCh3_0, kCh3_1, kCh2_0, kCh2_1, kCh1_0, kCh1_1, kCh_0, kCh_1, kLRg_0, kLRh_0, kLRi_0, kMG_0, kDG2_0, kDG1_0, kDG1_1, kDG_0, kDG_1, kDI2_0, kDI2_1, kDI_0, kDI_1, kMP_0, kDP3_0, kDP3_1, kDP2_0, kDP2_1, kDP1_0, kDP1_1, kDP_0, kDP_1, kPar2_0, kPar2_1, kPar_0, gAdd, DL.gSub, gCmp, gLen, gMax, gMin, gInt, gList, gTuple, gApp, ix_l0, ix_l1, ix_l2, ix_t0, ix_t1, ix_t2, ix_t3, ix_tm2, ix_tm3, ix_tm4, gEq_int, gNe_int, eq_row_floor, eq_ring_floor, eq_floor_floor, eq_row_ring, eq_ring_ring, eq_floor_ring, eq_row_row, eq_ring_row, eq_floor_row, ne_row_floor, ne_ring_floor, ne_floor_floor, lim, ixN3_0, ixN3_1, ixN3_2, List.getElem?_cons_zero, List.getElem?_cons_succ, List.set_cons_zero, List.set_cons_succ, List.replicate_succ, List.replicate_zero, List.cons_append, List.nil_append, List.zipWith_cons_cons, List.zipWith_nil_left, List.zipWith_nil_right, List.length_cons, List.length_nil, Option.map_some, Option.map_none, Nat.reduceAdd, Nat.reduceSub, Nat.reduceLT, Nat.reduceLeDiff, Int.reduceAdd, Int.reduceLT, Int.reduceLE, Int.reduceNeg, Int.reduceSub, Int.reduceMul, Int.reduceEq, if_true, if_false, ite_true, ite_false, decide_true, decide_false, Bool.not_true, Bool.not_false, Bool.and_true, Bool.true_and, Bool.and_false, Bool.false_and, ↓reduceIte, F__law_board, d__law_board, e1, c1, c2, e2, hs, q3, c3, dt, e3, hu, e4, eLst, Bd.d, Int.reduceEq, Int.one_ne_zero]
theorem cells_le {b : Bd} {m : Nat} (h : b.ok m) : b.cells ≤ m ∧ 3 ≤ b.cells := by
  cases b with
  | row n => exact ⟨h.2, h.1⟩
  | ring n => exact ⟨h.2, Nat.le_trans (by decide) h.1⟩
  | floor a w =>
    obtain ⟨h1, h2, h3, h4⟩ := h
    refine ⟨h3, ?_⟩
    rcases h4 with h4 | h4
    · exact Nat.le_trans h4 (Nat.le_mul_of_pos_right a h2)
    · exact Nat.le_trans h4 (Nat.le_mul_of_pos_left w h1)
/-- the width by which edges are put -/
def Bd.wide : Bd → Nat
  | .row n => n
  | .ring n => n
  | .floor _ w => w
theorem wide_pos {b : Bd} {m : Nat} (h : b.ok m) : 0 < b.wide := by
  cases b with
  | row n => exact Nat.lt_of_lt_of_le (by decide) h.1
  | ring n => exact Nat.lt_of_lt_of_le (by decide) h.1
  | floor a w => exact h.2.1
end G
set_option Elab.async false
set_option linter.all false
set_option maxRecDepth 100000
set_option maxHeartbeats 1000000
set_option pp.maxSteps 1500
namespace G
open PySem PySem.Spec L2 DL
theorem many_ok {b : Bd} {m : Nat} (h : b.ok m) (hm : m ≤ 36) : F_cells_many [.fz b.d] = some (.fz (.int (b.cells : Nat)), [.fz b.d]) := by
  cases b with
  | row n => simp only [wipeD, restD, allFz, eVar_e, eC_e, rd_fz, rd_ow, rd_bw, fr_fz, fr_ow, fr_bw, dFr_e, dOp2_e, dTst_e, dAnd_e, dOr_e, dNot_e, dIfE_e, dAndV_e, dOrV_e, dNotV_e, dYes_e, aNil_e, aCons_e, aFr_e, rds_nil, rds_cons, dCall_e, eTup_e, eLst_e, dsOf_nil, dsOf_fz, fCall_e, bSeq_e, bNext_e, bBreak_e, bCont_e, bRetN_e, bDrop_e, bRet_e, bIf_e, to_fz, to_ow, to_bw, notRf_e, bAsg_e, gNm_e, gsNil_e, gsCons_e, gTp_e, bUnp_e, dMt_e, held_ow, held_rf, putS_e, dM1_e, dIsi_e, oSome_e, oNo_e, dSl_e, dNeg_e, bSetIx_e, bAug_e, res_fz, res_ow, res_bw, runF_e, fin_nil, fin_nil1, fin_rf, fin_fz, iAny_e, iRange1_e, iRange2_e, iEnumD_e, dChain_e, dLRg1_e, dLRg2_e, heldM_ow, heldM_rf, eDict_e, dDGet_e, dDIn_e, bDPut_e, bPar_e, nc0, nc1, nc2, nc3, nc4, nc5, nc6, nc7, nc8, nc9, nc36, kVar_0, kVar_1, kVar_2, kRd_0, kRd_1, kRd_2, kFr_0, kFr_1, kDFr_0, kDFr_1, kZ_0, kZ_1, kOp3_0, kOp2_0, kOp2_1, kOp_0, kOp_1, kTst_0, kAnd_0, kAnd_1, kAnd_2, kOr_0, kOr_1, kOr_2, kNot_0, kNot_1, kIfE_0, kIfE_1, kIfE_2, kAndV_0, kAndV_1, kOrV_0, kOrV_1, kNotV_0, kAC2_0, kAC2_1, kAC_0, kAC_1, kAF_0, kAF_1, kRds_0, kCall2_0, kCall2_1, kCall_0, kCall_1, kTup2_0, kTup2_1, kTup_0, kTup_1, kLst2_0, kLst2_1, kLst_0, kLst_1, kFCo_0, kFCo_1, kFCr_0, kFCr_1, kFCf_0, kFCf_1, kFC2_0, kFC2_1, kFC3_0, kFC3_1, kFC1_0, kFC1_1, kFC1_2, kFC_0, kFC_1, kSeq_0, kSeq_1, kSeq_2, kSeq_3, kSeq_4, kSeq_5, kDrop_0, kDrop_1, kRet_0, kRet_1, kIf_0, kIf_1, kIf_2, kTo_0, kTo_1, kNR_0, kNR_1, kNR_2, kNR_3, kNR_4, kNR_5, kAsg3_0, kAsg3_1, kAsg2_0, kAsg2_1, kAsg_0, kAsg_1, kGN_0, kGN_1, kGC_0, kGC_1, kUn2_0, kUn2_1, kUn_0, kUn_1, kMt4_0, kMt4_1, kMt3_0, kMt2_0, kMt2_1, kMt_0, kMt_1, kPut_0, kPut_1, kPut_2, kPut_3, kPut_4, kPut_5, kM12_0, kM12_1, kM11_0, kM11_1, kM1_0, kIsi3_0, kIsi3_1, kIsi2_0, kIsi2_1, kIsi_0, kIsi_1, kOSo_0, kSl4_0, kSl4_1, kSl3_0, kSl3_1, kSl2_0, kSl2_1, kSl_0, kSl_1, kNeg_0, kSX3_0, kSX3_1, kSX2_0, kSX2_1, kSX1_0, kSX0_0, kSX0_1, kSX_0, kSX_1, kAug3_0, kAug3_1, kAug2_0, kAug_0, kRes_0, kRes_1, kEnd2_0, kEnd2_1, kEnd_0, kEnd_1, kAny_0, kAny_1, kAny_2, kR1_0, kR2_0, kEn_0, kEn_1, kFor_0, kFor_1, kLc2_0, kLc2_1, kLc_0, kLc_1, kGG_0, kCh3_0, kCh3_1, kCh2_0, kCh2_1, kCh1_0, kCh1_1, kCh_0, kCh_1, kLRg_0, kLRh_0, kLRi_0, kMG_0, kDG2_0, kDG1_0, kDG1_1, kDG_0, kDG_1, kDI2_0, kDI2_1, kDI_0, kDI_1, kMP_0, kDP3_0, kDP3_1, kDP2_0, kDP2_1, kDP1_0, kDP1_1, kDP_0, kDP_1, kPar2_0, kPar2_1, kPar_0, gAdd, DL.gSub, gCmp, gLen, gMax, gMin, gInt, gList, gTuple, gApp, ix_l0, ix_l1, ix_l2, ix_t0, ix_t1, ix_t2, ix_t3, ix_tm2, ix_tm3, ix_tm4, gEq_int, gNe_int, eq_row_floor, eq_ring_floor, eq_floor_floor, eq_row_ring, eq_ring_ring, eq_floor_ring, eq_row_row, eq_ring_row, eq_floor_row, ne_row_floor, ne_ring_floor, ne_floor_floor, lim, ixN3_0, ixN3_1, ixN3_2, List.getElem?_cons_zero, List.getElem?_cons_succ, List.set_cons_zero, List.set_cons_succ, List.replicate_succ, List.replicate_zero, List.cons_append, List.nil_append, List.zipWith_cons_cons, List.zipWith_nil_left, List.zipWith_nil_right, List.length_cons, List.length_nil, Option.map_some, Option.map_none, Nat.reduceAdd, Nat.reduceSub, Nat.reduceLT, Nat.reduceLeDiff, Int.reduceAdd, Int.reduceLT, Int.reduceLE, Int.reduceNeg, Int.reduceSub, Int.reduceMul, Int.reduceEq, if_true, if_false, ite_true, ite_false, decide_true, decide_false, Bool.not_true, Bool.not_false, Bool.and_true, Bool.true_and, Bool.and_false, Bool.false_and, ↓reduceIte, F_cells_many, d_cells_many, Bd.d, Bd.cells]
  | ring n => simp only [wipeD, restD, allFz, eVar_e, eC_e, rd_fz, rd_ow, rd_bw, fr_fz, fr_ow, fr_bw, dFr_e, dOp2_e, dTst_e, dAnd_e, dOr_e, dNot_e, dIfE_e, dAndV_e, dOrV_e, dNotV_e, dYes_e, aNil_e, aCons_e, aFr_e, rds_nil, rds_cons, dCall_e, eTup_e, eLst_e, dsOf_nil, dsOf_fz, fCall_e, bSeq_e, bNext_e, bBreak_e, bCont_e, bRetN_e, bDrop_e, bRet_e, bIf_e, to_fz, to_ow, to_bw, notRf_e, bAsg_e, gNm_e, gsNil_e, gsCons_e, gTp_e, bUnp_e, dMt_e, held_ow, held_rf, putS_e, dM1_e, dIsi_e, oSome_e, oNo_e, dSl_e, dNeg_e, bSetIx_e, bAug_e, res_fz, res_ow, res_bw, runF_e, fin_nil, fin_nil1, fin_rf, fin_fz, iAny_e, iRange1_e, iRange2_e, iEnumD_e, dChain_e, dLRg1_e, dLRg2_e, heldM_ow, heldM_rf, eDict_e, dDGet_e, dDIn_e, bDPut_e, bPar_e, nc0, nc1, nc2, nc3, nc4, nc5, nc6, nc7, nc8, nc9, nc36, kVar_0, kVar_1, kVar_2, kRd_0, kRd_1, kRd_2, kFr_0, kFr_1, kDFr_0, kDFr_1, kZ_0, kZ_1, kOp3_0, kOp2_0, kOp2_1, kOp_0, kOp_1, kTst_0, kAnd_0, kAnd_1, kAnd_2, kOr_0, kOr_1, kOr_2, kNot_0, kNot_1, kIfE_0, kIfE_1, kIfE_2, kAndV_0, kAndV_1, kOrV_0, kOrV_1, kNotV_0, kAC2_0, kAC2_1, kAC_0, kAC_1, kAF_0, kAF_1, kRds_0, kCall2_0, kCall2_1, kCall_0, kCall_1, kTup2_0, kTup2_1, kTup_0, kTup_1, kLst2_0, kLst2_1, kLst_0, kLst_1, kFCo_0, kFCo_1, kFCr_0, kFCr_1, kFCf_0, kFCf_1, kFC2_0, kFC2_1, kFC3_0, kFC3_1, kFC1_0, kFC1_1, kFC1_2, kFC_0, kFC_1, kSeq_0, kSeq_1, kSeq_2, kSeq_3, kSeq_4, kSeq_5, kDrop_0, kDrop_1, kRet_0, kRet_1, kIf_0, kIf_1, kIf_2, kTo_0, kTo_1, kNR_0, kNR_1, kNR_2, kNR_3, kNR_4, kNR_5, kAsg3_0, kAsg3_1, kAsg2_0, kAsg2_1, kAsg_0, kAsg_1, kGN_0, kGN_1, kGC_0, kGC_1, kUn2_0, kUn2_1, kUn_0, kUn_1, kMt4_0, kMt4_1, kMt3_0, kMt2_0, kMt2_1, kMt_0, kMt_1, kPut_0, kPut_1, kPut_2, kPut_3, kPut_4, kPut_5, kM12_0, kM12_1, kM11_0, kM11_1, kM1_0, kIsi3_0, kIsi3_1, kIsi2_0, kIsi2_1, kIsi_0, kIsi_1, kOSo_0, kSl4_0, kSl4_1, kSl3_0, kSl3_1, kSl2_0, kSl2_1, kSl_0, kSl_1, kNeg_0, kSX3_0, kSX3_1, kSX2_0, kSX2_1, kSX1_0, kSX0_0, kSX0_1, kSX_0, kSX_1, kAug3_0, kAug3_1, kAug2_0, kAug_0, kRes_0, kRes_1, kEnd2_0, kEnd2_1, kEnd_0, kEnd_1, kAny_0, kAny_1, kAny_2, kR1_0, kR2_0, kEn_0, kEn_1, kFor_0, kFor_1, kLc2_0, kLc2_1, kLc_0, kLc_1, kGG_0, kCh3_0, kCh3_1, kCh2_0, kCh2_1, kCh1_0, kCh1_1, kCh_0, kCh_1, kLRg_0, kLRh_0, kLRi_0, kMG_0, kDG2_0, kDG1_0, kDG1_1, kDG_0, kDG_1, kDI2_0, kDI2_1, kDI_0, kDI_1, kMP_0, kDP3_0, kDP3_1, kDP2_0, kDP2_1, kDP1_0, kDP1_1, kDP_0, kDP_1, kPar2_0, kPar2_1, kPar_0, gAdd, DL.gSub, gCmp, gLen, gMax, gMin, gInt, gList, gTuple, gApp, ix_l0, ix_l1, ix_l2, ix_t0, ix_t1, ix_t2, ix_t3, ix_tm2, ix_tm3, ix_tm4, gEq_int, gNe_int, eq_row_floor, eq_ring_floor, eq_floor_floor, eq_row_ring, eq_ring_ring, eq_floor_ring, eq_row_row, eq_ring_row, eq_floor_row, ne_row_floor, ne_ring_floor, ne_floor_floor, lim, ixN3_0, ixN3_1, ixN3_2, List.getElem?_cons_zero, List.getElem?_cons_succ, List.set_cons_zero, List.set_cons_succ, List.replicate_succ, List.replicate_zero, List.cons_append, List.nil_append, List.zipWith_cons_cons, List.zipWith_nil_left, List.zipWith_nil_right, List.length_cons, List.length_nil, Option.map_some, Option.map_none, Nat.reduceAdd, Nat.reduceSub, Nat.reduceLT, Nat.reduceLeDiff, Int.reduceAdd, Int.reduceLT, Int.reduceLE, Int.reduceNeg, Int.reduceSub, Int.reduceMul, Int.reduceEq, if_true, if_false, ite_true, ite_false, decide_true, decide_false, Bool.not_true, Bool.not_false, Bool.and_true, Bool.true_and, Bool.and_false, Bool.false_and, ↓reduceIte, F_cells_many, d_cells_many, Bd.d, Bd.cells]
  | floor a c =>
    obtain ⟨h1, h2, h3, h4⟩ := h
    have ha : a ≤ 36 := Nat.le_trans (Nat.le_mul_of_pos_right a h2) (by omega)
    have hc : c ≤ 36 := Nat.le_trans (Nat.le_mul_of_pos_left c h1) (by omega)
    simp only [wipeD, restD, allFz, eVar_e, eC_e, rd_fz, rd_ow, rd_bw, fr_fz, fr_ow, fr_bw, dFr_e, dOp2_e, dTst_e, dAnd_e, dOr_e, dNot_e, dIfE_e, dAndV_e, dOrV_e, dNotV_e, dYes_e, aNil_e, aCons_e, aFr_e, rds_nil, rds_cons, dCall_e, eTup_e, eLst_e, dsOf_nil, dsOf_fz, fCall_e, bSeq_e, bNext_e, bBreak_e, bCont_e, bRetN_e, bDrop_e, bRet_e, bIf_e, to_fz, to_ow, to_bw, notRf_e, bAsg_e, gNm_e, gsNil_e, gsCons_e, gTp_e, bUnp_e, dMt_e, held_ow, held_rf, putS_e, dM1_e, dIsi_e, oSome_e, oNo_e, dSl_e, dNeg_e, bSetIx_e, bAug_e, res_fz, res_ow, res_bw, runF_e, fin_nil, fin_nil1, fin_rf, fin_fz, iAny_e, iRange1_e, iRange2_e, iEnumD_e, dChain_e, dLRg1_e, dLRg2_e, heldM_ow, heldM_rf, eDict_e, dDGet_e, dDIn_e, bDPut_e, bPar_e, nc0, nc1, nc2, nc3, nc4, nc5, nc6, nc7, nc8, nc9, nc36, kVar_0, kVar_1, kVar_2, kRd_0, kRd_1, kRd_2, kFr_0, kFr_1, kDFr_0, kDFr_1, kZ_0, kZ_1, kOp3_0, kOp2_0, kOp2_1, kOp_0, kOp_1, kTst_0, kAnd_0, kAnd_1, kAnd_2, kOr_0, kOr_1, kOr_2, kNot_0, kNot_1, kIfE_0, kIfE_1, kIfE_2, kAndV_0, kAndV_1, kOrV_0, kOrV_1, kNotV_0, kAC2_0, kAC2_1, kAC_0, kAC_1, kAF_0, kAF_1, kRds_0, kCall2_0, kCall2_1, kCall_0, kCall_1, kTup2_0, kTup2_1, kTup_0, kTup_1, kLst2_0, kLst2_1, kLst_0, kLst_1, kFCo_0, kFCo_1, kFCr_0, kFCr_1, kFCf_0, kFCf_1, kFC2_0, kFC2_1, kFC3_0, kFC3_1, kFC1_0, kFC1_1, kFC1_2, kFC_0, kFC_1, kSeq_0, kSeq_1, kSeq_2, kSeq_3, kSeq_4, kSeq_5, kDrop_0, kDrop_1, kRet_0, kRet_1, kIf_0, kIf_1, kIf_2, kTo_0, kTo_1, kNR_0, kNR_1, kNR_2, kNR_3, kNR_4, kNR_5, kAsg3_0, kAsg3_1, kAsg2_0, kAsg2_1, kAsg_0, kAsg_1, kGN_0, kGN_1, kGC_0, kGC_1, kUn2_0, kUn2_1, kUn_0, kUn_1, kMt4_0, kMt4_1, kMt3_0, kMt2_0, kMt2_1, kMt_0, kMt_1, kPut_0, kPut_1, kPut_2, kPut_3, kPut_4, kPut_5, kM12_0, kM12_1, kM11_0, kM11_1, kM1_0, kIsi3_0, kIsi3_1, kIsi2_0, kIsi2_1, kIsi_0, kIsi_1, kOSo_0, kSl4_0, kSl4_1, kSl3_0, kSl3_1, kSl2_0, kSl2_1, kSl_0, kSl_1, kNeg_0, kSX3_0, kSX3_1, kSX2_0, kSX2_1, kSX1_0, kSX0_0, kSX0_1, kSX_0, kSX_1, kAug3_0, kAug3_1, kAug2_0, kAug_0, kRes_0, kRes_1, kEnd2_0, kEnd2_1, kEnd_0, kEnd_1, kAny_0, kAny_1, kAny_2, kR1_0, kR2_0, kEn_0, kEn_1, kFor_0, kFor_1, kLc2_0, kLc2_1, kLc_0, kLc_1, kGG_0, kCh3_0, kCh3_1, kCh2_0, kCh2_1, kCh1_0, kCh1_1, kCh_0, kCh_1, kLRg_0, kLRh_0, kLRi_0, kMG_0, kDG2_0, kDG1_0, kDG1_1, kDG_0, kDG_1, kDI2_0, kDI2_1, kDI_0, kDI_1, kMP_0, kDP3_0, kDP3_1, kDP2_0, kDP2_1, kDP1_0, kDP1_1, kDP_0, kDP_1, kPar2_0, kPar2_1, kPar_0, gAdd, DL.gSub, gCmp, gLen, gMax, gMin, gInt, gList, gTuple, gApp, ix_l0, ix_l1, ix_l2, ix_t0, ix_t1, ix_t2, ix_t3, ix_tm2, ix_tm3, ix_tm4, gEq_int, gNe_int, eq_row_floor, eq_ring_floor, eq_floor_floor, eq_row_ring, eq_ring_ring, eq_floor_ring, eq_row_row, eq_ring_row, eq_floor_row, ne_row_floor, ne_ring_floor, ne_floor_floor, lim, ixN3_0, ixN3_1, ixN3_2, List.getElem?_cons_zero, List.getElem?_cons_succ, List.set_cons_zero, List.set_cons_succ, List.replicate_succ, List.replicate_zero, List.cons_append, List.nil_append, List.zipWith_cons_cons, List.zipWith_nil_left, List.zipWith_nil_right, List.length_cons, List.length_nil, Option.map_some, Option.map_none, Nat.reduceAdd, Nat.reduceSub, Nat.reduceLT, Nat.reduceLeDiff, Int.reduceAdd, Int.reduceLT, Int.reduceLE, Int.reduceNeg, Int.reduceSub, Int.reduceMul, Int.reduceEq, if_true, if_false, ite_true, ite_false, decide_true, decide_false, Bool.not_true, Bool.not_false, Bool.and_true, Bool.true_and, Bool.and_false, Bool.false_and, ↓reduceIte, F_cells_many, d_cells_many, Bd.d, Bd.cells, mul_nat (show a ≤ 1000000 by omega) (show c ≤ 1000000 by omega)]
end G
set_option Elab.async false
set_option linter.all false
set_option maxRecDepth 100000
set_option maxHeartbeats 1000000
set_option pp.maxSteps 1500
namespace G
open PySem PySem.Spec L2 DL
/-! ### rules and books -/
inductive Ru where
  | swap (k c : Nat) | over (h w c : Nat) | under (h w c : Nat)
deriving DecidableEq
def Ru.d : Ru → D
  | .swap k c => .tup [.str "swap", .int (k : Nat), .int (c : Nat)]
  | .over h w c => .tup [.str "over", .int (h : Nat), .int (w : Nat), .int (c : Nat)]
  | .under h w c => .tup [.str "under", .int (h : Nat), .int (w : Nat), .int (c : Nat)]
def Ru.fits : Bd → Ru → Prop
  | .row n, .swap k c => 1 ≤ k ∧ 3 * k ≤ n ∧ c ≤ 1
  | .ring n, .swap k c => 1 ≤ k ∧ 5 * k ≤ n ∧ c ≤ 1
  | .floor H W, .over h w c => 1 ≤ h ∧ 1 ≤ w ∧ 3 * w ≤ W ∧ 2 * h ≤ H + 1 ∧ c ≤ 1
  | .floor H W, .under h w c => 1 ≤ h ∧ 1 ≤ w ∧ 3 * h ≤ H ∧ 2 * w ≤ W + 1 ∧ c ≤ 1
  | _, _ => False
def swaps (k : Nat) : List Ru := [.swap k 0, .swap k 1]
def overs (H W h w : Nat) : List Ru := if 3 * w ≤ W ∧ 2 * h ≤ H + 1 then [.over h w 0, .over h w 1] else []
def unders (H W h w : Nat) : List Ru := if 3 * h ≤ H ∧ 2 * w ≤ W + 1 then [.under h w 0, .under h w 1] else []
def lineRules (m : Nat) : List Ru := (List.range m).flatMap fun i => swaps (i + 1)
def rowRules (H W i m : Nat) : List Ru := (List.range m).flatMap fun j => overs H W (i + 1) (j + 1) ++ unders H W (i + 1) (j + 1)
def floorRules (H W m : Nat) : List Ru := (List.range m).flatMap fun i => rowRules H W i W
def rulesOf : Bd → List Ru
  | .row n => lineRules (n / 3)
  | .ring n => lineRules (n / 5)
  | .floor H W => floorRules H W H
theorem flat_succ {α : Type} (f : Nat → List α) (m : Nat) : (List.range (m + 1)).flatMap f = (List.range m).flatMap f ++ f m := by
  rw [List.range_succ, List.flatMap_append, List.flatMap_cons, List.flatMap_nil, List.append_nil]
theorem flat_len {α : Type} {f : Nat → List α} {b : Nat} (h : ∀ i, (f i).length ≤ b) (m : Nat) : ((List.range m).flatMap f).length ≤ m * b := by
  induction m with
  | zero => simp
  | succ m ih =>
    have := h m
    rw [flat_succ, List.length_append, Nat.add_mul]
    omega
theorem over_len (H W h w : Nat) : (overs H W h w).length ≤ 2 := by unfold overs; split <;> simp
theorem under_len (H W h w : Nat) : (unders H W h w).length ≤ 2 := by unfold unders; split <;> simp
theorem row_len (H W i m : Nat) : (rowRules H W i m).length ≤ m * 4 := flat_len (fun j => by
  have h1 := over_len H W (i + 1) (j + 1)
  have h2 := under_len H W (i + 1) (j + 1)
  rw [List.length_append]
  omega) m
theorem floor_len (H W m : Nat) : (floorRules H W m).length ≤ m * (W * 4) := flat_len (fun i => row_len H W i W) m
theorem line_len (m : Nat) : (lineRules m).length ≤ m * 2 := flat_len (f := fun i => swaps (i + 1)) (fun i => Nat.le_refl 2) m
theorem mem_rules {b : Bd} {r : Ru} (h : r ∈ rulesOf b) : r.fits b := by
  cases b with
  | row n =>
    obtain ⟨i, hi, hr⟩ := List.mem_flatMap.mp (show r ∈ lineRules (n / 3) from h)
    rw [List.mem_range] at hi
    rcases List.mem_cons.mp hr with rfl | hr
    · exact ⟨by omega, by omega, by omega⟩
    · rw [List.mem_singleton.mp hr]
      exact ⟨by omega, by omega, by omega⟩
  | ring n =>
    obtain ⟨i, hi, hr⟩ := List.mem_flatMap.mp (show r ∈ lineRules (n / 5) from h)
    rw [List.mem_range] at hi
    rcases List.mem_cons.mp hr with rfl | hr
    · exact ⟨by omega, by omega, by omega⟩
    · rw [List.mem_singleton.mp hr]
      exact ⟨by omega, by omega, by omega⟩
  | floor H W =>
    obtain ⟨i, hi, hr⟩ := List.mem_flatMap.mp (show r ∈ floorRules H W H from h)
    obtain ⟨j, hj, hr⟩ := List.mem_flatMap.mp (show r ∈ rowRules H W i W from hr)
    rw [List.mem_range] at hi hj
    rcases List.mem_append.mp hr with hr | hr
    · unfold overs at hr
      split at hr
      · rename_i c
        rcases List.mem_cons.mp hr with rfl | hr
        · exact ⟨by omega, by omega, c.1, c.2, by omega⟩
        · rw [List.mem_singleton.mp hr]
          exact ⟨by omega, by omega, c.1, c.2, by omega⟩
      · cases hr
    · unfold unders at hr
      split at hr
      · rename_i c
        rcases List.mem_cons.mp hr with rfl | hr
        · exact ⟨by omega, by omega, c.1, c.2, by omega⟩
        · rw [List.mem_singleton.mp hr]
          exact ⟨by omega, by omega, c.1, c.2, by omega⟩
      · cases hr
theorem rules_nodup (b : Bd) : (rulesOf b).Nodup := by
  have line : ∀ m, (lineRules m).Nodup := fun m => by
    unfold lineRules List.Nodup
    rw [List.pairwise_flatMap]
    refine ⟨fun i _ => by simp [swaps], List.pairwise_lt_range.imp fun {i j} hij x hx y hy => ?_⟩
    simp only [swaps, List.mem_cons, List.not_mem_nil, or_false] at hx hy
    rcases hx with rfl | rfl <;> rcases hy with rfl | rfl <;> simp <;> omega
  cases b with
  | row n => exact line _
  | ring n => exact line _
  | floor H W =>
    have key : ∀ i j x, x ∈ overs H W (i + 1) (j + 1) ++ unders H W (i + 1) (j + 1) → (∃ c, x = .over (i + 1) (j + 1) c) ∨ ∃ c, x = .under (i + 1) (j + 1) c := fun i j x hx => by
      rcases List.mem_append.mp hx with hx | hx
      · unfold overs at hx
        split at hx
        · simp only [List.mem_cons, List.not_mem_nil, or_false] at hx
          rcases hx with rfl | rfl <;> exact .inl ⟨_, rfl⟩
        · cases hx
      · unfold unders at hx
        split at hx
        · simp only [List.mem_cons, List.not_mem_nil, or_false] at hx
          rcases hx with rfl | rfl <;> exact .inr ⟨_, rfl⟩
        · cases hx
    show (floorRules H W H).Nodup
    unfold floorRules List.Nodup
    rw [List.pairwise_flatMap]
    refine ⟨fun i _ => ?_, List.pairwise_lt_range.imp fun {i j} hij x hx y hy => ?_⟩
    · unfold rowRules
      rw [List.pairwise_flatMap]
      refine ⟨fun j _ => ?_, List.pairwise_lt_range.imp fun {j k} hjk x hx y hy => ?_⟩
      · unfold overs unders
        repeat' split
        all_goals simp
      · rcases key _ _ _ hx with ⟨c, rfl⟩ | ⟨c, rfl⟩ <;> rcases key _ _ _ hy with ⟨e, rfl⟩ | ⟨e, rfl⟩ <;> simp <;> omega
    · obtain ⟨a, _, hx⟩ := List.mem_flatMap.mp hx
      obtain ⟨e, _, hy⟩ := List.mem_flatMap.mp hy
      rcases key _ _ _ hx with ⟨c, rfl⟩ | ⟨c, rfl⟩ <;> rcases key _ _ _ hy with ⟨f, rfl⟩ | ⟨f, rfl⟩ <;> simp <;> omega
theorem rules_some {b : Bd} {m : Nat} (h : b.ok m) : rulesOf b ≠ [] := by
  have line : ∀ m, 1 ≤ m → lineRules m ≠ [] := fun m hm e => by
    obtain ⟨k, rfl⟩ : ∃ k, m = k + 1 := ⟨m - 1, by omega⟩
    unfold lineRules at e
    rw [flat_succ] at e
    simp [swaps] at e
  cases b with
  | row n => exact line _ (by have := h.1; omega)
  | ring n => exact line _ (by have := h.1; omega)
  | floor H W =>
    obtain ⟨h1, h2, _, h4⟩ := h
    intro e
    have : ∀ r : Ru, r ∉ floorRules H W H := fun r hr => by
      rw [show floorRules H W H = [] from e] at hr
      cases hr
    rcases h4 with h4 | h4
    · refine this (.under 1 1 0) (List.mem_flatMap.mpr ⟨0, List.mem_range.mpr (by omega), List.mem_flatMap.mpr ⟨0, List.mem_range.mpr (by omega), List.mem_append.mpr (.inr ?_)⟩⟩)
      unfold unders
      rw [if_pos ⟨by omega, by omega⟩]
      simp
    · refine this (.over 1 1 0) (List.mem_flatMap.mpr ⟨0, List.mem_range.mpr (by omega), List.mem_flatMap.mpr ⟨0, List.mem_range.mpr (by omega), List.mem_append.mpr (.inl ?_)⟩⟩)
      unfold overs
      rw [if_pos ⟨by omega, by omega⟩]
      simp
end G
set_option Elab.async false
set_option linter.all false
set_option maxRecDepth 100000
set_option maxHeartbeats 1000000
set_option pp.maxSteps 1500
namespace DL
open PySem PySem.Spec L2
theorem div_nat {a b : Nat} (h : 0 < b) (hb : b ≤ 1000000) : gDiv (.int (a : Nat)) (.int (b : Nat)) = some (.fz (.int ((a / b : Nat) : Int))) := by
  rw [div_ok (by omega) (Nat.lt_of_lt_of_le (PySem.Flt.log2_lt_of (k := 64) (by decide) (by omega)) (by decide))]
  simp
theorem rangeD_get1 {n i : Nat} {d : D} (h : (rangeD 1 n)[i]? = some d) : i < n ∧ d = .int ((i + 1 : Nat) : Int) := by
  obtain ⟨h1, h2⟩ := rangeD_get h
  exact ⟨h1, by rw [h2]; congr 1; omega⟩
theorem mul3 {w : Nat} (h : w ≤ 1000000) : gMul (.int 3) (.int (w : Nat)) = some (.fz (.int (3 * (w : Nat)))) := mul_small (by decide) (by omega)
theorem mul2 {w : Nat} (h : w ≤ 1000000) : gMul (.int 2) (.int (w : Nat)) = some (.fz (.int (2 * (w : Nat)))) := mul_small (by decide) (by omega)
theorem mul5 {w : Nat} (h : w ≤ 1000000) : gMul (.int 5) (.int (w : Nat)) = some (.fz (.int (5 * (w : Nat)))) := mul_small (by decide) (by omega)
theorem range1_ok {fa : Fa} {n : Nat} {ρ ρ1 : En} (h : fa ρ = some ([.fz (.int (n : Nat))], ρ1)) (hn : n ≤ 1000000) : iRange1 fa ρ = some (rangeD 0 n, ρ1) := by
  unfold iRange1
  rw [h]
  show (if _ then _ else none) = _
  rw [if_pos (by omega), Int.toNat_natCast]
/-- range(1, n + 1) -/
theorem range2_ok {fa : Fa} {n : Nat} {ρ ρ1 : En} (h : fa ρ = some ([.fz (.int 1), .fz (.int ((n : Nat) + 1))], ρ1)) (hn : n ≤ 1000000) : iRange2 fa ρ = some (rangeD 1 n, ρ1) := by
  unfold iRange2
  rw [h]
  show (if _ then _ else none) = _
  rw [if_pos (by omega), show ((n : Int) + 1 - 1).toNat = n by omega]
end DL
namespace G
open PySem PySem.Spec L2 DL
theorem lineRules_ok {b : Bd} {n m q : Nat} (hb : b = .row n ∧ m = n / 3 ∨ b = .ring n ∧ m = n / 5) (hn : n ≤ 36) : F__law_rules [.fz b.d] = some (.ow (.l ((lineRules m).map Ru.d)), [.fz b.d]) := by
  have hm : m ≤ 36 := by rcases hb with ⟨_, rfl⟩ | ⟨_, rfl⟩ <;> omega
  have lp := forL_inv (h := gNm 2) (B := bAsg 1 (dOp2 gAdd (eVar 1) (eLst (aFr (eTup (aFr (eC (.str "swap")) (aFr (eVar 2) (aFr (eC (.int 0)) aNil)))) (aFr (eTup (aFr (eC (.str "swap")) (aFr (eVar 2) (aFr (eC (.int 1)) aNil)))) aNil))))) (xs := rangeD 1 m)
    (fun i ρ => ∃ x, ρ = [.fz b.d, .ow (.l ((lineRules i).map Ru.d)), x, .un, .un, .un, .un, .un] ∧ kNR (some x) = true)
    (fun i d ρ hd ⟨x, hρ, n1⟩ => by
      obtain ⟨hi, rfl⟩ := rangeD_get1 hd
      subst hρ
      have w1 := line_len i
      have a1 : ((lineRules i).map Ru.d).length + 2 ≤ 1000000 := by rw [List.length_map]; omega
      refine ⟨[.fz b.d, .ow (.l ((lineRules i).map Ru.d)), .fz (.int ((i + 1 : Nat) : Int)), .un, .un, .un, .un, .un], [.fz b.d, .ow (.l ((lineRules (i + 1)).map Ru.d)), .fz (.int ((i + 1 : Nat) : Int)), .un, .un, .un, .un, .un], by simp only [wipeD, restD, allFz, eVar_e, eC_e, rd_fz, rd_ow, rd_bw, fr_fz, fr_ow, fr_bw, dFr_e, dOp2_e, dTst_e, dAnd_e, dOr_e, dNot_e, dIfE_e, dAndV_e, dOrV_e, dNotV_e, dYes_e, aNil_e, aCons_e, aFr_e, rds_nil, rds_cons, dCall_e, eTup_e, eLst_e, dsOf_nil, dsOf_fz, fCall_e, bSeq_e, bNext_e, bBreak_e, bCont_e, bRetN_e, bDrop_e, bRet_e, bIf_e, to_fz, to_ow, to_bw, notRf_e, bAsg_e, gNm_e, gsNil_e, gsCons_e, gTp_e, bUnp_e, dMt_e, held_ow, held_rf, putS_e, dM1_e, dIsi_e, oSome_e, oNo_e, dSl_e, dNeg_e, bSetIx_e, bAug_e, res_fz, res_ow, res_bw, runF_e, fin_nil, fin_nil1, fin_rf, fin_fz, iAny_e, iRange1_e, iRange2_e, iEnumD_e, dChain_e, dLRg1_e, dLRg2_e, heldM_ow, heldM_rf, eDict_e, dDGet_e, dDIn_e, bDPut_e, bPar_e, nc0, nc1, nc2, nc3, nc4, nc5, nc6, nc7, nc8, nc9, nc36, kVar_0, kVar_1, kVar_2, kRd_0, kRd_1, kRd_2, kFr_0, kFr_1, kDFr_0, kDFr_1, kZ_0, kZ_1, kOp3_0, kOp2_0, kOp2_1, kOp_0, kOp_1, kTst_0, kAnd_0, kAnd_1, kAnd_2, kOr_0, kOr_1, kOr_2, kNot_0, kNot_1, kIfE_0, kIfE_1, kIfE_2, kAndV_0, kAndV_1, kOrV_0, kOrV_1, kNotV_0, kAC2_0, kAC2_1, kAC_0, kAC_1, kAF_0, kAF_1, kRds_0, kCall2_0, kCall2_1, kCall_0, kCall_1, kTup2_0, kTup2_1, kTup_0, kTup_1, kLst2_0, kLst2_1, kLst_0, kLst_1, kFCo_0, kFCo_1, kFCr_0, kFCr_1, kFCf_0, kFCf_1, kFC2_0, kFC2_1, kFC3_0, kFC3_1, kFC1_0, kFC1_1, kFC1_2, kFC_0, kFC_1, kSeq_0, kSeq_1, kSeq_2, kSeq_3, kSeq_4, kSeq_5, kDrop_0, kDrop_1, kRet_0, kRet_1, kIf_0, kIf_1, kIf_2, kTo_0, kTo_1, kNR_0, kNR_1, kNR_2, kNR_3, kNR_4, kNR_5, kAsg3_0, kAsg3_1, kAsg2_0, kAsg2_1, kAsg_0, kAsg_1, kGN_0, kGN_1, kGC_0, kGC_1, kUn2_0, kUn2_1, kUn_0, kUn_1, kMt4_0, kMt4_1, kMt3_0, kMt2_0, kMt2_1, kMt_0, kMt_1, kPut_0, kPut_1, kPut_2, kPut_3, kPut_4, kPut_5, kM12_0, kM12_1, kM11_0, kM11_1, kM1_0, kIsi3_0, kIsi3_1, kIsi2_0, kIsi2_1, kIsi_0, kIsi_1, kOSo_0, kSl4_0, kSl4_1, kSl3_0, kSl3_1, kSl2_0, kSl2_1, kSl_0, kSl_1, kNeg_0, kSX3_0, kSX3_1, kSX2_0, kSX2_1, kSX1_0, kSX0_0, kSX0_1, kSX_0, kSX_1, kAug3_0, kAug3_1, kAug2_0, kAug_0, kRes_0, kRes_1, kEnd2_0, kEnd2_1, kEnd_0, kEnd_1, kAny_0, kAny_1, kAny_2, kR1_0, kR2_0, kEn_0, kEn_1, kFor_0, kFor_1, kLc2_0, kLc2_1, kLc_0, kLc_1, kGG_0, kCh3_0, kCh3_1, kCh2_0, kCh2_1, kCh1_0, kCh1_1, kCh_0, kCh_1, kLRg_0, kLRh_0, kLRi_0, kMG_0, kDG2_0, kDG1_0, kDG1_1, kDG_0, kDG_1, kDI2_0, kDI2_1, kDI_0, kDI_1, kMP_0, kDP3_0, kDP3_1, kDP2_0, kDP2_1, kDP1_0, kDP1_1, kDP_0, kDP_1, kPar2_0, kPar2_1, kPar_0, gAdd, DL.gSub, gCmp, gLen, gMax, gMin, gInt, gList, gTuple, gApp, ix_l0, ix_l1, ix_l2, ix_t0, ix_t1, ix_t2, ix_t3, ix_tm2, ix_tm3, ix_tm4, gEq_int, gNe_int, eq_row_floor, eq_ring_floor, eq_floor_floor, eq_row_ring, eq_ring_ring, eq_floor_ring, eq_row_row, eq_ring_row, eq_floor_row, ne_row_floor, ne_ring_floor, ne_floor_floor, lim, ixN3_0, ixN3_1, ixN3_2, List.getElem?_cons_zero, List.getElem?_cons_succ, List.set_cons_zero, List.set_cons_succ, List.replicate_succ, List.replicate_zero, List.cons_append, List.nil_append, List.zipWith_cons_cons, List.zipWith_nil_left, List.zipWith_nil_right, List.length_cons, List.length_nil, Option.map_some, Option.map_none, Nat.reduceAdd, Nat.reduceSub, Nat.reduceLT, Nat.reduceLeDiff, Int.reduceAdd, Int.reduceLT, Int.reduceLE, Int.reduceNeg, Int.reduceSub, Int.reduceMul, Int.reduceEq, if_true, if_false, ite_true, ite_false, decide_true, decide_false, Bool.not_true, Bool.not_false, Bool.and_true, Bool.true_and, Bool.and_false, Bool.false_and, ↓reduceIte, n1], .inl ?_, _, rfl, rfl⟩
      have e : lineRules (i + 1) = lineRules i ++ swaps (i + 1) := flat_succ _ i
      rw [e]
      simp only [wipeD, restD, allFz, eVar_e, eC_e, rd_fz, rd_ow, rd_bw, fr_fz, fr_ow, fr_bw, dFr_e, dOp2_e, dTst_e, dAnd_e, dOr_e, dNot_e, dIfE_e, dAndV_e, dOrV_e, dNotV_e, dYes_e, aNil_e, aCons_e, aFr_e, rds_nil, rds_cons, dCall_e, eTup_e, eLst_e, dsOf_nil, dsOf_fz, fCall_e, bSeq_e, bNext_e, bBreak_e, bCont_e, bRetN_e, bDrop_e, bRet_e, bIf_e, to_fz, to_ow, to_bw, notRf_e, bAsg_e, gNm_e, gsNil_e, gsCons_e, gTp_e, bUnp_e, dMt_e, held_ow, held_rf, putS_e, dM1_e, dIsi_e, oSome_e, oNo_e, dSl_e, dNeg_e, bSetIx_e, bAug_e, res_fz, res_ow, res_bw, runF_e, fin_nil, fin_nil1, fin_rf, fin_fz, iAny_e, iRange1_e, iRange2_e, iEnumD_e, dChain_e, dLRg1_e, dLRg2_e, heldM_ow, heldM_rf, eDict_e, dDGet_e, dDIn_e, bDPut_e, bPar_e, nc0, nc1, nc2, nc3, nc4, nc5, nc6, nc7, nc8, nc9, nc36, kVar_0, kVar_1, kVar_2, kRd_0, kRd_1, kRd_2, kFr_0, kFr_1, kDFr_0, kDFr_1, kZ_0, kZ_1, kOp3_0, kOp2_0, kOp2_1, kOp_0, kOp_1, kTst_0, kAnd_0, kAnd_1, kAnd_2, kOr_0, kOr_1, kOr_2, kNot_0, kNot_1, kIfE_0, kIfE_1, kIfE_2, kAndV_0, kAndV_1, kOrV_0, kOrV_1, kNotV_0, kAC2_0, kAC2_1, kAC_0, kAC_1, kAF_0, kAF_1, kRds_0, kCall2_0, kCall2_1, kCall_0, kCall_1, kTup2_0, kTup2_1, kTup_0, kTup_1, kLst2_0, kLst2_1, kLst_0, kLst_1, kFCo_0, kFCo_1, kFCr_0, kFCr_1, kFCf_0, kFCf_1, kFC2_0, kFC2_1, kFC3_0, kFC3_1, kFC1_0, kFC1_1, kFC1_2, kFC_0, kFC_1, kSeq_0, kSeq_1, kSeq_2, kSeq_3, kSeq_4, kSeq_5, kDrop_0, kDrop_1, kRet_0, kRet_1, kIf_0, kIf_1, kIf_2, kTo_0, kTo_1, kNR_0, kNR_1, kNR_2, kNR_3, kNR_4, kNR_5, kAsg3_0, kAsg3_1, kAsg2_0, kAsg2_1, kAsg_0, kAsg_1, kGN_0, kGN_1, kGC_0, kGC_1, kUn2_0, kUn2_1, kUn_0, kUn_1, kMt4_0, kMt4_1, kMt3_0, kMt2_0, kMt2_1, kMt_0, kMt_1, kPut_0, kPut_1, kPut_2, kPut_3, kPut_4, kPut_5, kM12_0, kM12_1, kM11_0, kM11_1, kM1_0, kIsi3_0, kIsi3_1, kIsi2_0, kIsi2_1, kIsi_0, kIsi_1, kOSo_0, kSl4_0, kSl4_1, kSl3_0, kSl3_1, kSl2_0, kSl2_1, kSl_0, kSl_1, kNeg_0, kSX3_0, kSX3_1, kSX2_0, kSX2_1, kSX1_0, kSX0_0, kSX0_1, kSX_0, kSX_1, kAug3_0, kAug3_1, kAug2_0, kAug_0, kRes_0, kRes_1, kEnd2_0, kEnd2_1, kEnd_0, kEnd_1, kAny_0, kAny_1, kAny_2, kR1_0, kR2_0, kEn_0, kEn_1, kFor_0, kFor_1, kLc2_0, kLc2_1, kLc_0, kLc_1, kGG_0, kCh3_0, kCh3_1, kCh2_0, kCh2_1, kCh1_0, kCh1_1, kCh_0, kCh_1, kLRg_0, kLRh_0, kLRi_0, kMG_0, kDG2_0, kDG1_0, kDG1_1, kDG_0, kDG_1, kDI2_0, kDI2_1, kDI_0, kDI_1, kMP_0, kDP3_0, kDP3_1, kDP2_0, kDP2_1, kDP1_0, kDP1_1, kDP_0, kDP_1, kPar2_0, kPar2_1, kPar_0, gAdd, DL.gSub, gCmp, gLen, gMax, gMin, gInt, gList, gTuple, gApp, ix_l0, ix_l1, ix_l2, ix_t0, ix_t1, ix_t2, ix_t3, ix_tm2, ix_tm3, ix_tm4, gEq_int, gNe_int, eq_row_floor, eq_ring_floor, eq_floor_floor, eq_row_ring, eq_ring_ring, eq_floor_ring, eq_row_row, eq_ring_row, eq_floor_row, ne_row_floor, ne_ring_floor, ne_floor_floor, lim, ixN3_0, ixN3_1, ixN3_2, List.getElem?_cons_zero, List.getElem?_cons_succ, List.set_cons_zero, List.set_cons_succ, List.replicate_succ, List.replicate_zero, List.cons_append, List.nil_append, List.zipWith_cons_cons, List.zipWith_nil_left, List.zipWith_nil_right, List.length_cons, List.length_nil, Option.map_some, Option.map_none, Nat.reduceAdd, Nat.reduceSub, Nat.reduceLT, Nat.reduceLeDiff, Int.reduceAdd, Int.reduceLT, Int.reduceLE, Int.reduceNeg, Int.reduceSub, Int.reduceMul, Int.reduceEq, if_true, if_false, ite_true, ite_false, decide_true, decide_false, Bool.not_true, Bool.not_false, Bool.and_true, Bool.true_and, Bool.and_false, Bool.false_and, ↓reduceIte, a1, List.map_append, swaps, List.map_cons, List.map_nil, Ru.d]
      all_goals rfl) (ρ := [.fz b.d, .ow (.l []), .un, .un, .un, .un, .un, .un]) ⟨_, rfl, rfl⟩
  obtain ⟨ρ', hf, x, rfl, _⟩ := lp
  rw [rangeD_len] at hf
  rcases hb with ⟨rfl, rfl⟩ | ⟨rfl, rfl⟩
  · have d3 : gDiv (.int (n : Nat)) (.int 3) = some (.fz (.int ((n / 3 : Nat) : Int))) := div_nat (b := 3) (by decide) (by decide)
    have hr := range2_ok (fa := (aFr (eC (.int 1)) (aFr (dOp2 gAdd (dOp2 gDiv (dOp2 gIx (eVar 0) (eC (.int 1))) (dOp2 gIx (eLst (aFr (eC (.int 3)) (aFr (eC (.int 5)) aNil))) (dCall gInt (aCons (dOp2 gEq (dOp2 gIx (eVar 0) (eC (.int 0))) (eC (.str "ring"))) aNil)))) (eC (.int 1))) aNil))) (n := n / 3) (ρ := [.fz (Bd.d (.row n)), .ow (.l []), .un, .un, .un, .un, .un, .un]) (ρ1 := [.fz (Bd.d (.row n)), .ow (.l []), .un, .un, .un, .un, .un, .un]) (by simp only [wipeD, restD, allFz, eVar_e, eC_e, rd_fz, rd_ow, rd_bw, fr_fz, fr_ow, fr_bw, dFr_e, dOp2_e, dTst_e, dAnd_e, dOr_e, dNot_e, dIfE_e, dAndV_e, dOrV_e, dNotV_e, dYes_e, aNil_e, aCons_e, aFr_e, rds_nil, rds_cons, dCall_e, eTup_e, eLst_e, dsOf_nil, dsOf_fz, fCall_e, bSeq_e, bNext_e, bBreak_e, bCont_e, bRetN_e, bDrop_e, bRet_e, bIf_e, to_fz, to_ow, to_bw, notRf_e, bAsg_e, gNm_e, gsNil_e, gsCons_e, gTp_e, bUnp_e, dMt_e, held_ow, held_rf, putS_e, dM1_e, dIsi_e, oSome_e, oNo_e, dSl_e, dNeg_e, bSetIx_e, bAug_e, res_fz, res_ow, res_bw, runF_e, fin_nil, fin_nil1, fin_rf, fin_fz, iAny_e, iRange1_e, iRange2_e, iEnumD_e, dChain_e, dLRg1_e, dLRg2_e, heldM_ow, heldM_rf, eDict_e, dDGet_e, dDIn_e, bDPut_e, bPar_e, nc0, nc1, nc2, nc3, nc4, nc5, nc6, nc7, nc8, nc9, nc36, kVar_0, kVar_1, kVar_2, kRd_0, kRd_1, kRd_2, kFr_0, kFr_1, kDFr_0, kDFr_1, kZ_0, kZ_1, kOp3_0, kOp2_0, kOp2_1, kOp_0, kOp_1, kTst_0, kAnd_0, kAnd_1, kAnd_2, kOr_0, kOr_1, kOr_2, kNot_0, kNot_1, kIfE_0, kIfE_1, kIfE_2, kAndV_0, kAndV_1, kOrV_0, kOrV_1, kNotV_0, kAC2_0, kAC2_1, kAC_0, kAC_1, kAF_0, kAF_1, kRds_0, kCall2_0, kCall2_1, kCall_0, kCall_1, kTup2_0, kTup2_1, kTup_0, kTup_1, kLst2_0, kLst2_1, kLst_0, kLst_1, kFCo_0, kFCo_1, kFCr_0, kFCr_1, kFCf_0, kFCf_1, kFC2_0, kFC2_1, kFC3_0, kFC3_1, kFC1_0, kFC1_1, kFC1_2, kFC_0, kFC_1, kSeq_0, kSeq_1, kSeq_2, kSeq_3, kSeq_4, kSeq_5, kDrop_0, kDrop_1, kRet_0, kRet_1, kIf_0, kIf_1, kIf_2, kTo_0, kTo_1, kNR_0, kNR_1, kNR_2, kNR_3, kNR_4, kNR_5, kAsg3_0, kAsg3_1, kAsg2_0, kAsg2_1, kAsg_0, kAsg_1, kGN_0, kGN_1, kGC_0, kGC_1, kUn2_0, kUn2_1, kUn_0, kUn_1, kMt4_0, kMt4_1, kMt3_0, kMt2_0, kMt2_1, kMt_0, kMt_1, kPut_0, kPut_1, kPut_2, kPut_3, kPut_4, kPut_5, kM12_0, kM12_1, kM11_0, kM11_1, kM1_0, kIsi3_0, kIsi3_1, kIsi2_0, kIsi2_1, kIsi_0, kIsi_1, kOSo_0, kSl4_0, kSl4_1, kSl3_0, kSl3_1, kSl2_0, kSl2_1, kSl_0, kSl_1, kNeg_0, kSX3_0, kSX3_1, kSX2_0, kSX2_1, kSX1_0, kSX0_0, kSX0_1, kSX_0, kSX_1, kAug3_0, kAug3_1, kAug2_0, kAug_0, kRes_0, kRes_1, kEnd2_0, kEnd2_1, kEnd_0, kEnd_1, kAny_0, kAny_1, kAny_2, kR1_0, kR2_0, kEn_0, kEn_1, kFor_0, kFor_1, kLc2_0, kLc2_1, kLc_0, kLc_1, kGG_0, kCh3_0, kCh3_1, kCh2_0, kCh2_1, kCh1_0, kCh1_1, kCh_0, kCh_1, kLRg_0, kLRh_0, kLRi_0, kMG_0, kDG2_0, kDG1_0, kDG1_1, kDG_0, kDG_1, kDI2_0, kDI2_1, kDI_0, kDI_1, kMP_0, kDP3_0, kDP3_1, kDP2_0, kDP2_1, kDP1_0, kDP1_1, kDP_0, kDP_1, kPar2_0, kPar2_1, kPar_0, gAdd, DL.gSub, gCmp, gLen, gMax, gMin, gInt, gList, gTuple, gApp, ix_l0, ix_l1, ix_l2, ix_t0, ix_t1, ix_t2, ix_t3, ix_tm2, ix_tm3, ix_tm4, gEq_int, gNe_int, eq_row_floor, eq_ring_floor, eq_floor_floor, eq_row_ring, eq_ring_ring, eq_floor_ring, eq_row_row, eq_ring_row, eq_floor_row, ne_row_floor, ne_ring_floor, ne_floor_floor, lim, ixN3_0, ixN3_1, ixN3_2, List.getElem?_cons_zero, List.getElem?_cons_succ, List.set_cons_zero, List.set_cons_succ, List.replicate_succ, List.replicate_zero, List.cons_append, List.nil_append, List.zipWith_cons_cons, List.zipWith_nil_left, List.zipWith_nil_right, List.length_cons, List.length_nil, Option.map_some, Option.map_none, Nat.reduceAdd, Nat.reduceSub, Nat.reduceLT, Nat.reduceLeDiff, Int.reduceAdd, Int.reduceLT, Int.reduceLE, Int.reduceNeg, Int.reduceSub, Int.reduceMul, Int.reduceEq, if_true, if_false, ite_true, ite_false, decide_true, decide_false, Bool.not_true, Bool.not_false, Bool.and_true, Bool.true_and, Bool.and_false, Bool.false_and, ↓reduceIte, Bd.d, d3, Bool.false_eq_true]) (by omega)
    have hF := bFor_eq hr hf
    simp only [wipeD, restD, allFz, eVar_e, eC_e, rd_fz, rd_ow, rd_bw, fr_fz, fr_ow, fr_bw, dFr_e, dOp2_e, dTst_e, dAnd_e, dOr_e, dNot_e, dIfE_e, dAndV_e, dOrV_e, dNotV_e, dYes_e, aNil_e, aCons_e, aFr_e, rds_nil, rds_cons, dCall_e, eTup_e, eLst_e, dsOf_nil, dsOf_fz, fCall_e, bSeq_e, bNext_e, bBreak_e, bCont_e, bRetN_e, bDrop_e, bRet_e, bIf_e, to_fz, to_ow, to_bw, notRf_e, bAsg_e, gNm_e, gsNil_e, gsCons_e, gTp_e, bUnp_e, dMt_e, held_ow, held_rf, putS_e, dM1_e, dIsi_e, oSome_e, oNo_e, dSl_e, dNeg_e, bSetIx_e, bAug_e, res_fz, res_ow, res_bw, runF_e, fin_nil, fin_nil1, fin_rf, fin_fz, iAny_e, iRange1_e, iRange2_e, iEnumD_e, dChain_e, dLRg1_e, dLRg2_e, heldM_ow, heldM_rf, eDict_e, dDGet_e, dDIn_e, bDPut_e, bPar_e, nc0, nc1, nc2, nc3, nc4, nc5, nc6, nc7, nc8, nc9, nc36, kVar_0, kVar_1, kVar_2, kRd_0, kRd_1, kRd_2, kFr_0, kFr_1, kDFr_0, kDFr_1, kZ_0, kZ_1, kOp3_0, kOp2_0, kOp2_1, kOp_0, kOp_1, kTst_0, kAnd_0, kAnd_1, kAnd_2, kOr_0, kOr_1, kOr_2, kNot_0, kNot_1, kIfE_0, kIfE_1, kIfE_2, kAndV_0, kAndV_1, kOrV_0, kOrV_1, kNotV_0, kAC2_0, kAC2_1, kAC_0, kAC_1, kAF_0, kAF_1, kRds_0, kCall2_0, kCall2_1, kCall_0, kCall_1, kTup2_0, kTup2_1, kTup_0, kTup_1, kLst2_0, kLst2_1, kLst_0, kLst_1, kFCo_0, kFCo_1, kFCr_0, kFCr_1, kFCf_0, kFCf_1, kFC2_0, kFC2_1, kFC3_0, kFC3_1, kFC1_0, kFC1_1, kFC1_2, kFC_0, kFC_1, kSeq_0, kSeq_1, kSeq_2, kSeq_3, kSeq_4, kSeq_5, kDrop_0, kDrop_1, kRet_0, kRet_1, kIf_0, kIf_1, kIf_2, kTo_0, kTo_1, kNR_0, kNR_1, kNR_2, kNR_3, kNR_4, kNR_5, kAsg3_0, kAsg3_1, kAsg2_0, kAsg2_1, kAsg_0, kAsg_1, kGN_0, kGN_1, kGC_0, kGC_1, kUn2_0, kUn2_1, kUn_0, kUn_1, kMt4_0, kMt4_1, kMt3_0, kMt2_0, kMt2_1, kMt_0, kMt_1, kPut_0, kPut_1, kPut_2, kPut_3, kPut_4, kPut_5, kM12_0, kM12_1, kM11_0, kM11_1, kM1_0, kIsi3_0, kIsi3_1, kIsi2_0, kIsi2_1, kIsi_0, kIsi_1, kOSo_0, kSl4_0, kSl4_1, kSl3_0, kSl3_1, kSl2_0, kSl2_1, kSl_0, kSl_1, kNeg_0, kSX3_0, kSX3_1, kSX2_0, kSX2_1, kSX1_0, kSX0_0, kSX0_1, kSX_0, kSX_1, kAug3_0, kAug3_1, kAug2_0, kAug_0, kRes_0, kRes_1, kEnd2_0, kEnd2_1, kEnd_0, kEnd_1, kAny_0, kAny_1, kAny_2, kR1_0, kR2_0, kEn_0, kEn_1, kFor_0, kFor_1, kLc2_0, kLc2_1, kLc_0, kLc_1, kGG_0, kCh3_0, kCh3_1, kCh2_0, kCh2_1, kCh1_0, kCh1_1, kCh_0, kCh_1, kLRg_0, kLRh_0, kLRi_0, kMG_0, kDG2_0, kDG1_0, kDG1_1, kDG_0, kDG_1, kDI2_0, kDI2_1, kDI_0, kDI_1, kMP_0, kDP3_0, kDP3_1, kDP2_0, kDP2_1, kDP1_0, kDP1_1, kDP_0, kDP_1, kPar2_0, kPar2_1, kPar_0, gAdd, DL.gSub, gCmp, gLen, gMax, gMin, gInt, gList, gTuple, gApp, ix_l0, ix_l1, ix_l2, ix_t0, ix_t1, ix_t2, ix_t3, ix_tm2, ix_tm3, ix_tm4, gEq_int, gNe_int, eq_row_floor, eq_ring_floor, eq_floor_floor, eq_row_ring, eq_ring_ring, eq_floor_ring, eq_row_row, eq_ring_row, eq_floor_row, ne_row_floor, ne_ring_floor, ne_floor_floor, lim, ixN3_0, ixN3_1, ixN3_2, List.getElem?_cons_zero, List.getElem?_cons_succ, List.set_cons_zero, List.set_cons_succ, List.replicate_succ, List.replicate_zero, List.cons_append, List.nil_append, List.zipWith_cons_cons, List.zipWith_nil_left, List.zipWith_nil_right, List.length_cons, List.length_nil, Option.map_some, Option.map_none, Nat.reduceAdd, Nat.reduceSub, Nat.reduceLT, Nat.reduceLeDiff, Int.reduceAdd, Int.reduceLT, Int.reduceLE, Int.reduceNeg, Int.reduceSub, Int.reduceMul, Int.reduceEq, if_true, if_false, ite_true, ite_false, decide_true, decide_false, Bool.not_true, Bool.not_false, Bool.and_true, Bool.true_and, Bool.and_false, Bool.false_and, ↓reduceIte, F__law_rules, d__law_rules, Bd.d] at hF ⊢
    simp only [wipeD, restD, allFz, eVar_e, eC_e, rd_fz, rd_ow, rd_bw, fr_fz, fr_ow, fr_bw, dFr_e, dOp2_e, dTst_e, dAnd_e, dOr_e, dNot_e, dIfE_e, dAndV_e, dOrV_e, dNotV_e, dYes_e, aNil_e, aCons_e, aFr_e, rds_nil, rds_cons, dCall_e, eTup_e, eLst_e, dsOf_nil, dsOf_fz, fCall_e, bSeq_e, bNext_e, bBreak_e, bCont_e, bRetN_e, bDrop_e, bRet_e, bIf_e, to_fz, to_ow, to_bw, notRf_e, bAsg_e, gNm_e, gsNil_e, gsCons_e, gTp_e, bUnp_e, dMt_e, held_ow, held_rf, putS_e, dM1_e, dIsi_e, oSome_e, oNo_e, dSl_e, dNeg_e, bSetIx_e, bAug_e, res_fz, res_ow, res_bw, runF_e, fin_nil, fin_nil1, fin_rf, fin_fz, iAny_e, iRange1_e, iRange2_e, iEnumD_e, dChain_e, dLRg1_e, dLRg2_e, heldM_ow, heldM_rf, eDict_e, dDGet_e, dDIn_e, bDPut_e, bPar_e, nc0, nc1, nc2, nc3, nc4, nc5, nc6, nc7, nc8, nc9, nc36, kVar_0, kVar_1, kVar_2, kRd_0, kRd_1, kRd_2, kFr_0, kFr_1, kDFr_0, kDFr_1, kZ_0, kZ_1, kOp3_0, kOp2_0, kOp2_1, kOp_0, kOp_1, kTst_0, kAnd_0, kAnd_1, kAnd_2, kOr_0, kOr_1, kOr_2, kNot_0, kNot_1, kIfE_0, kIfE_1, kIfE_2, kAndV_0, kAndV_1, kOrV_0, kOrV_1, kNotV_0, kAC2_0, kAC2_1, kAC_0, kAC_1, kAF_0, kAF_1, kRds_0, kCall2_0, kCall2_1, kCall_0, kCall_1, kTup2_0, kTup2_1, kTup_0, kTup_1, kLst2_0, kLst2_1, kLst_0, kLst_1, kFCo_0, kFCo_1, kFCr_0, kFCr_1, kFCf_0, kFCf_1, kFC2_0, kFC2_1, kFC3_0, kFC3_1, kFC1_0, kFC1_1, kFC1_2, kFC_0, kFC_1, kSeq_0, kSeq_1, kSeq_2, kSeq_3, kSeq_4, kSeq_5, kDrop_0, kDrop_1, kRet_0, kRet_1, kIf_0, kIf_1, kIf_2, kTo_0, kTo_1, kNR_0, kNR_1, kNR_2, kNR_3, kNR_4, kNR_5, kAsg3_0, kAsg3_1, kAsg2_0, kAsg2_1, kAsg_0, kAsg_1, kGN_0, kGN_1, kGC_0, kGC_1, kUn2_0, kUn2_1, kUn_0, kUn_1, kMt4_0, kMt4_1, kMt3_0, kMt2_0, kMt2_1, kMt_0, kMt_1, kPut_0, kPut_1, kPut_2, kPut_3, kPut_4, kPut_5, kM12_0, kM12_1, kM11_0, kM11_1, kM1_0, kIsi3_0, kIsi3_1, kIsi2_0, kIsi2_1, kIsi_0, kIsi_1, kOSo_0, kSl4_0, kSl4_1, kSl3_0, kSl3_1, kSl2_0, kSl2_1, kSl_0, kSl_1, kNeg_0, kSX3_0, kSX3_1, kSX2_0, kSX2_1, kSX1_0, kSX0_0, kSX0_1, kSX_0, kSX_1, kAug3_0, kAug3_1, kAug2_0, kAug_0, kRes_0, kRes_1, kEnd2_0, kEnd2_1, kEnd_0, kEnd_1, kAny_0, kAny_1, kAny_2, kR1_0, kR2_0, kEn_0, kEn_1, kFor_0, kFor_1, kLc2_0, kLc2_1, kLc_0, kLc_1, kGG_0, kCh3_0, kCh3_1, kCh2_0, kCh2_1, kCh1_0, kCh1_1, kCh_0, kCh_1, kLRg_0, kLRh_0, kLRi_0, kMG_0, kDG2_0, kDG1_0, kDG1_1, kDG_0, kDG_1, kDI2_0, kDI2_1, kDI_0, kDI_1, kMP_0, kDP3_0, kDP3_1, kDP2_0, kDP2_1, kDP1_0, kDP1_1, kDP_0, kDP_1, kPar2_0, kPar2_1, kPar_0, gAdd, DL.gSub, gCmp, gLen, gMax, gMin, gInt, gList, gTuple, gApp, ix_l0, ix_l1, ix_l2, ix_t0, ix_t1, ix_t2, ix_t3, ix_tm2, ix_tm3, ix_tm4, gEq_int, gNe_int, eq_row_floor, eq_ring_floor, eq_floor_floor, eq_row_ring, eq_ring_ring, eq_floor_ring, eq_row_row, eq_ring_row, eq_floor_row, ne_row_floor, ne_ring_floor, ne_floor_floor, lim, ixN3_0, ixN3_1, ixN3_2, List.getElem?_cons_zero, List.getElem?_cons_succ, List.set_cons_zero, List.set_cons_succ, List.replicate_succ, List.replicate_zero, List.cons_append, List.nil_append, List.zipWith_cons_cons, List.zipWith_nil_left, List.zipWith_nil_right, List.length_cons, List.length_nil, Option.map_some, Option.map_none, Nat.reduceAdd, Nat.reduceSub, Nat.reduceLT, Nat.reduceLeDiff, Int.reduceAdd, Int.reduceLT, Int.reduceLE, Int.reduceNeg, Int.reduceSub, Int.reduceMul, Int.reduceEq, if_true, if_false, ite_true, ite_false, decide_true, decide_false, Bool.not_true, Bool.not_false, Bool.and_true, Bool.true_and, Bool.and_false, Bool.false_and, ↓reduceIte, hF]
  · have d3 : gDiv (.int (n : Nat)) (.int 5) = some (.fz (.int ((n / 5 : Nat) : Int))) := div_nat (b := 5) (by decide) (by decide)
    have hr := range2_ok (fa := (aFr (eC (.int 1)) (aFr (dOp2 gAdd (dOp2 gDiv (dOp2 gIx (eVar 0) (eC (.int 1))) (dOp2 gIx (eLst (aFr (eC (.int 3)) (aFr (eC (.int 5)) aNil))) (dCall gInt (aCons (dOp2 gEq (dOp2 gIx (eVar 0) (eC (.int 0))) (eC (.str "ring"))) aNil)))) (eC (.int 1))) aNil))) (n := n / 5) (ρ := [.fz (Bd.d (.ring n)), .ow (.l []), .un, .un, .un, .un, .un, .un]) (ρ1 := [.fz (Bd.d (.ring n)), .ow (.l []), .un, .un, .un, .un, .un, .un]) (by simp only [wipeD, restD, allFz, eVar_e, eC_e, rd_fz, rd_ow, rd_bw, fr_fz, fr_ow, fr_bw, dFr_e, dOp2_e, dTst_e, dAnd_e, dOr_e, dNot_e, dIfE_e, dAndV_e, dOrV_e, dNotV_e, dYes_e, aNil_e, aCons_e, aFr_e, rds_nil, rds_cons, dCall_e, eTup_e, eLst_e, dsOf_nil, dsOf_fz, fCall_e, bSeq_e, bNext_e, bBreak_e, bCont_e, bRetN_e, bDrop_e, bRet_e, bIf_e, to_fz, to_ow, to_bw, notRf_e, bAsg_e, gNm_e, gsNil_e, gsCons_e, gTp_e, bUnp_e, dMt_e, held_ow, held_rf, putS_e, dM1_e, dIsi_e, oSome_e, oNo_e, dSl_e, dNeg_e, bSetIx_e, bAug_e, res_fz, res_ow, res_bw, runF_e, fin_nil, fin_nil1, fin_rf, fin_fz, iAny_e, iRange1_e, iRange2_e, iEnumD_e, dChain_e, dLRg1_e, dLRg2_e, heldM_ow, heldM_rf, eDict_e, dDGet_e, dDIn_e, bDPut_e, bPar_e, nc0, nc1, nc2, nc3, nc4, nc5, nc6, nc7, nc8, nc9, nc36, kVar_0, kVar_1, kVar_2, kRd_0, kRd_1, kRd_2, kFr_0, kFr_1, kDFr_0, kDFr_1, kZ_0, kZ_1, kOp3_0, kOp2_0, kOp2_1, kOp_0, kOp_1, kTst_0, kAnd_0, kAnd_1, kAnd_2, kOr_0, kOr_1, kOr_2, kNot_0, kNot_1, kIfE_0, kIfE_1, kIfE_2, kAndV_0, kAndV_1, kOrV_0, kOrV_1, kNotV_0, kAC2_0, kAC2_1, kAC_0, kAC_1, kAF_0, kAF_1, kRds_0, kCall2_0, kCall2_1, kCall_0, kCall_1, kTup2_0, kTup2_1, kTup_0, kTup_1, kLst2_0, kLst2_1, kLst_0, kLst_1, kFCo_0, kFCo_1, kFCr_0, kFCr_1, kFCf_0, kFCf_1, kFC2_0, kFC2_1, kFC3_0, kFC3_1, kFC1_0, kFC1_1, kFC1_2, kFC_0, kFC_1, kSeq_0, kSeq_1, kSeq_2, kSeq_3, kSeq_4, kSeq_5, kDrop_0, kDrop_1, kRet_0, kRet_1, kIf_0, kIf_1, kIf_2, kTo_0, kTo_1, kNR_0, kNR_1, kNR_2, kNR_3, kNR_4, kNR_5, kAsg3_0, kAsg3_1, kAsg2_0, kAsg2_1, kAsg_0, kAsg_1, kGN_0, kGN_1, kGC_0, kGC_1, kUn2_0, kUn2_1, kUn_0, kUn_1, kMt4_0, kMt4_1, kMt3_0, kMt2_0, kMt2_1, kMt_0, kMt_1, kPut_0, kPut_1, kPut_2, kPut_3, kPut_4, kPut_5, kM12_0, kM12_1, kM11_0, kM11_1, kM1_0, kIsi3_0, kIsi3_1, kIsi2_0, kIsi2_1, kIsi_0, kIsi_1, kOSo_0, kSl4_0, kSl4_1, kSl3_0, kSl3_1, kSl2_0, kSl2_1, kSl_0, kSl_1, kNeg_0, kSX3_0, kSX3_1, kSX2_0, kSX2_1, kSX1_0, kSX0_0, kSX0_1, kSX_0, kSX_1, kAug3_0, kAug3_1, kAug2_0, kAug_0, kRes_0, kRes_1, kEnd2_0, kEnd2_1, kEnd_0, kEnd_1, kAny_0, kAny_1, kAny_2, kR1_0, kR2_0, kEn_0, kEn_1, kFor_0, kFor_1, kLc2_0, kLc2_1, kLc_0, kLc_1, kGG_0, kCh3_0, kCh3_1, kCh2_0, kCh2_1, kCh1_0, kCh1_1, kCh_0, kCh_1, kLRg_0, kLRh_0, kLRi_0, kMG_0, kDG2_0, kDG1_0, kDG1_1, kDG_0, kDG_1, kDI2_0, kDI2_1, kDI_0, kDI_1, kMP_0, kDP3_0, kDP3_1, kDP2_0, kDP2_1, kDP1_0, kDP1_1, kDP_0, kDP_1, kPar2_0, kPar2_1, kPar_0, gAdd, DL.gSub, gCmp, gLen, gMax, gMin, gInt, gList, gTuple, gApp, ix_l0, ix_l1, ix_l2, ix_t0, ix_t1, ix_t2, ix_t3, ix_tm2, ix_tm3, ix_tm4, gEq_int, gNe_int, eq_row_floor, eq_ring_floor, eq_floor_floor, eq_row_ring, eq_ring_ring, eq_floor_ring, eq_row_row, eq_ring_row, eq_floor_row, ne_row_floor, ne_ring_floor, ne_floor_floor, lim, ixN3_0, ixN3_1, ixN3_2, List.getElem?_cons_zero, List.getElem?_cons_succ, List.set_cons_zero, List.set_cons_succ, List.replicate_succ, List.replicate_zero, List.cons_append, List.nil_append, List.zipWith_cons_cons, List.zipWith_nil_left, List.zipWith_nil_right, List.length_cons, List.length_nil, Option.map_some, Option.map_none, Nat.reduceAdd, Nat.reduceSub, Nat.reduceLT, Nat.reduceLeDiff, Int.reduceAdd, Int.reduceLT, Int.reduceLE, Int.reduceNeg, Int.reduceSub, Int.reduceMul, Int.reduceEq, if_true, if_false, ite_true, ite_false, decide_true, decide_false, Bool.not_true, Bool.not_false, Bool.and_true, Bool.true_and, Bool.and_false, Bool.false_and, ↓reduceIte, Bd.d, d3]) (by omega)
    have hF := bFor_eq hr hf
    simp only [wipeD, restD, allFz, eVar_e, eC_e, rd_fz, rd_ow, rd_bw, fr_fz, fr_ow, fr_bw, dFr_e, dOp2_e, dTst_e, dAnd_e, dOr_e, dNot_e, dIfE_e, dAndV_e, dOrV_e, dNotV_e, dYes_e, aNil_e, aCons_e, aFr_e, rds_nil, rds_cons, dCall_e, eTup_e, eLst_e, dsOf_nil, dsOf_fz, fCall_e, bSeq_e, bNext_e, bBreak_e, bCont_e, bRetN_e, bDrop_e, bRet_e, bIf_e, to_fz, to_ow, to_bw, notRf_e, bAsg_e, gNm_e, gsNil_e, gsCons_e, gTp_e, bUnp_e, dMt_e, held_ow, held_rf, putS_e, dM1_e, dIsi_e, oSome_e, oNo_e, dSl_e, dNeg_e, bSetIx_e, bAug_e, res_fz, res_ow, res_bw, runF_e, fin_nil, fin_nil1, fin_rf, fin_fz, iAny_e, iRange1_e, iRange2_e, iEnumD_e, dChain_e, dLRg1_e, dLRg2_e, heldM_ow, heldM_rf, eDict_e, dDGet_e, dDIn_e, bDPut_e, bPar_e, nc0, nc1, nc2, nc3, nc4, nc5, nc6, nc7, nc8, nc9, nc36, kVar_0, kVar_1, kVar_2, kRd_0, kRd_1, kRd_2, kFr_0, kFr_1, kDFr_0, kDFr_1, kZ_0, kZ_1, kOp3_0, kOp2_0, kOp2_1, kOp_0, kOp_1, kTst_0, kAnd_0, kAnd_1, kAnd_2, kOr_0, kOr_1, kOr_2, kNot_0, kNot_1, kIfE_0, kIfE_1, kIfE_2, kAndV_0, kAndV_1, kOrV_0, kOrV_1, kNotV_0, kAC2_0, kAC2_1, kAC_0, kAC_1, kAF_0, kAF_1, kRds_0, kCall2_0, kCall2_1, kCall_0, kCall_1, kTup2_0, kTup2_1, kTup_0, kTup_1, kLst2_0, kLst2_1, kLst_0, kLst_1, kFCo_0, kFCo_1, kFCr_0, kFCr_1, kFCf_0, kFCf_1, kFC2_0, kFC2_1, kFC3_0, kFC3_1, kFC1_0, kFC1_1, kFC1_2, kFC_0, kFC_1, kSeq_0, kSeq_1, kSeq_2, kSeq_3, kSeq_4, kSeq_5, kDrop_0, kDrop_1, kRet_0, kRet_1, kIf_0, kIf_1, kIf_2, kTo_0, kTo_1, kNR_0, kNR_1, kNR_2, kNR_3, kNR_4, kNR_5, kAsg3_0, kAsg3_1, kAsg2_0, kAsg2_1, kAsg_0, kAsg_1, kGN_0, kGN_1, kGC_0, kGC_1, kUn2_0, kUn2_1, kUn_0, kUn_1, kMt4_0, kMt4_1, kMt3_0, kMt2_0, kMt2_1, kMt_0, kMt_1, kPut_0, kPut_1, kPut_2, kPut_3, kPut_4, kPut_5, kM12_0, kM12_1, kM11_0, kM11_1, kM1_0, kIsi3_0, kIsi3_1, kIsi2_0, kIsi2_1, kIsi_0, kIsi_1, kOSo_0, kSl4_0, kSl4_1, kSl3_0, kSl3_1, kSl2_0, kSl2_1, kSl_0, kSl_1, kNeg_0, kSX3_0, kSX3_1, kSX2_0, kSX2_1, kSX1_0, kSX0_0, kSX0_1, kSX_0, kSX_1, kAug3_0, kAug3_1, kAug2_0, kAug_0, kRes_0, kRes_1, kEnd2_0, kEnd2_1, kEnd_0, kEnd_1, kAny_0, kAny_1, kAny_2, kR1_0, kR2_0, kEn_0, kEn_1, kFor_0, kFor_1, kLc2_0, kLc2_1, kLc_0, kLc_1, kGG_0, kCh3_0, kCh3_1, kCh2_0, kCh2_1, kCh1_0, kCh1_1, kCh_0, kCh_1, kLRg_0, kLRh_0, kLRi_0, kMG_0, kDG2_0, kDG1_0, kDG1_1, kDG_0, kDG_1, kDI2_0, kDI2_1, kDI_0, kDI_1, kMP_0, kDP3_0, kDP3_1, kDP2_0, kDP2_1, kDP1_0, kDP1_1, kDP_0, kDP_1, kPar2_0, kPar2_1, kPar_0, gAdd, DL.gSub, gCmp, gLen, gMax, gMin, gInt, gList, gTuple, gApp, ix_l0, ix_l1, ix_l2, ix_t0, ix_t1, ix_t2, ix_t3, ix_tm2, ix_tm3, ix_tm4, gEq_int, gNe_int, eq_row_floor, eq_ring_floor, eq_floor_floor, eq_row_ring, eq_ring_ring, eq_floor_ring, eq_row_row, eq_ring_row, eq_floor_row, ne_row_floor, ne_ring_floor, ne_floor_floor, lim, ixN3_0, ixN3_1, ixN3_2, List.getElem?_cons_zero, List.getElem?_cons_succ, List.set_cons_zero, List.set_cons_succ, List.replicate_succ, List.replicate_zero, List.cons_append, List.nil_append, List.zipWith_cons_cons, List.zipWith_nil_left, List.zipWith_nil_right, List.length_cons, List.length_nil, Option.map_some, Option.map_none, Nat.reduceAdd, Nat.reduceSub, Nat.reduceLT, Nat.reduceLeDiff, Int.reduceAdd, Int.reduceLT, Int.reduceLE, Int.reduceNeg, Int.reduceSub, Int.reduceMul, Int.reduceEq, if_true, if_false, ite_true, ite_false, decide_true, decide_false, Bool.not_true, Bool.not_false, Bool.and_true, Bool.true_and, Bool.and_false, Bool.false_and, ↓reduceIte, F__law_rules, d__law_rules, Bd.d] at hF ⊢
    simp only [wipeD, restD, allFz, eVar_e, eC_e, rd_fz, rd_ow, rd_bw, fr_fz, fr_ow, fr_bw, dFr_e, dOp2_e, dTst_e, dAnd_e, dOr_e, dNot_e, dIfE_e, dAndV_e, dOrV_e, dNotV_e, dYes_e, aNil_e, aCons_e, aFr_e, rds_nil, rds_cons, dCall_e, eTup_e, eLst_e, dsOf_nil, dsOf_fz, fCall_e, bSeq_e, bNext_e, bBreak_e, bCont_e, bRetN_e, bDrop_e, bRet_e, bIf_e, to_fz, to_ow, to_bw, notRf_e, bAsg_e, gNm_e, gsNil_e, gsCons_e, gTp_e, bUnp_e, dMt_e, held_ow, held_rf, putS_e, dM1_e, dIsi_e, oSome_e, oNo_e, dSl_e, dNeg_e, bSetIx_e, bAug_e, res_fz, res_ow, res_bw, runF_e, fin_nil, fin_nil1, fin_rf, fin_fz, iAny_e, iRange1_e, iRange2_e, iEnumD_e, dChain_e, dLRg1_e, dLRg2_e, heldM_ow, heldM_rf, eDict_e, dDGet_e, dDIn_e, bDPut_e, bPar_e, nc0, nc1, nc2, nc3, nc4, nc5, nc6, nc7, nc8, nc9, nc36, kVar_0, kVar_1, kVar_2, kRd_0, kRd_1, kRd_2, kFr_0, kFr_1, kDFr_0, kDFr_1, kZ_0, kZ_1, kOp3_0, kOp2_0, kOp2_1, kOp_0, kOp_1, kTst_0, kAnd_0, kAnd_1, kAnd_2, kOr_0, kOr_1, kOr_2, kNot_0, kNot_1, kIfE_0, kIfE_1, kIfE_2, kAndV_0, kAndV_1, kOrV_0, kOrV_1, kNotV_0, kAC2_0, kAC2_1, kAC_0, kAC_1, kAF_0, kAF_1, kRds_0, kCall2_0, kCall2_1, kCall_0, kCall_1, kTup2_0, kTup2_1, kTup_0, kTup_1, kLst2_0, kLst2_1, kLst_0, kLst_1, kFCo_0, kFCo_1, kFCr_0, kFCr_1, kFCf_0, kFCf_1, kFC2_0, kFC2_1, kFC3_0, kFC3_1, kFC1_0, kFC1_1, kFC1_2, kFC_0, kFC_1, kSeq_0, kSeq_1, kSeq_2, kSeq_3, kSeq_4, kSeq_5, kDrop_0, kDrop_1, kRet_0, kRet_1, kIf_0, kIf_1, kIf_2, kTo_0, kTo_1, kNR_0, kNR_1, kNR_2, kNR_3, kNR_4, kNR_5, kAsg3_0, kAsg3_1, kAsg2_0, kAsg2_1, kAsg_0, kAsg_1, kGN_0, kGN_1, kGC_0, kGC_1, kUn2_0, kUn2_1, kUn_0, kUn_1, kMt4_0, kMt4_1, kMt3_0, kMt2_0, kMt2_1, kMt_0, kMt_1, kPut_0, kPut_1, kPut_2, kPut_3, kPut_4, kPut_5, kM12_0, kM12_1, kM11_0, kM11_1, kM1_0, kIsi3_0, kIsi3_1, kIsi2_0, kIsi2_1, kIsi_0, kIsi_1, kOSo_0, kSl4_0, kSl4_1, kSl3_0, kSl3_1, kSl2_0, kSl2_1, kSl_0, kSl_1, kNeg_0, kSX3_0, kSX3_1, kSX2_0, kSX2_1, kSX1_0, kSX0_0, kSX0_1, kSX_0, kSX_1, kAug3_0, kAug3_1, kAug2_0, kAug_0, kRes_0, kRes_1, kEnd2_0, kEnd2_1, kEnd_0, kEnd_1, kAny_0, kAny_1, kAny_2, kR1_0, kR2_0, kEn_0, kEn_1, kFor_0, kFor_1, kLc2_0, kLc2_1, kLc_0, kLc_1, kGG_0, kCh3_0, kCh3_1, kCh2_0, kCh2_1, kCh1_0, kCh1_1, kCh_0, kCh_1, kLRg_0, kLRh_0, kLRi_0, kMG_0, kDG2_0, kDG1_0, kDG1_1, kDG_0, kDG_1, kDI2_0, kDI2_1, kDI_0, kDI_1, kMP_0, kDP3_0, kDP3_1, kDP2_0, kDP2_1, kDP1_0, kDP1_1, kDP_0, kDP_1, kPar2_0, kPar2_1, kPar_0, gAdd, DL.gSub, gCmp, gLen, gMax, gMin, gInt, gList, gTuple, gApp, ix_l0, ix_l1, ix_l2, ix_t0, ix_t1, ix_t2, ix_t3, ix_tm2, ix_tm3, ix_tm4, gEq_int, gNe_int, eq_row_floor, eq_ring_floor, eq_floor_floor, eq_row_ring, eq_ring_ring, eq_floor_ring, eq_row_row, eq_ring_row, eq_floor_row, ne_row_floor, ne_ring_floor, ne_floor_floor, lim, ixN3_0, ixN3_1, ixN3_2, List.getElem?_cons_zero, List.getElem?_cons_succ, List.set_cons_zero, List.set_cons_succ, List.replicate_succ, List.replicate_zero, List.cons_append, List.nil_append, List.zipWith_cons_cons, List.zipWith_nil_left, List.zipWith_nil_right, List.length_cons, List.length_nil, Option.map_some, Option.map_none, Nat.reduceAdd, Nat.reduceSub, Nat.reduceLT, Nat.reduceLeDiff, Int.reduceAdd, Int.reduceLT, Int.reduceLE, Int.reduceNeg, Int.reduceSub, Int.reduceMul, Int.reduceEq, if_true, if_false, ite_true, ite_false, decide_true, decide_false, Bool.not_true, Bool.not_false, Bool.and_true, Bool.true_and, Bool.and_false, Bool.false_and, ↓reduceIte, hF]
end G
set_option Elab.async false
set_option linter.all false
set_option maxRecDepth 100000
set_option maxHeartbeats 1000000
set_option pp.maxSteps 1500
namespace G
open PySem PySem.Spec L2 DL
theorem erase_map {α β : Type} (f : α → β) : ∀ (l : List α) (i : Nat), (l.map f).eraseIdx i = (l.eraseIdx i).map f
  | [], _ => rfl
  | x :: l, 0 => rfl
  | x :: l, i + 1 => congrArg (f x :: ·) (erase_map f l i)
theorem floorRules_ok {H W : Nat} (hH : H ≤ 36) (hW : W ≤ 36) : F__law_rules [.fz (Bd.d (.floor H W))] = some (.ow (.l ((floorRules H W H).map Ru.d)), [.fz (Bd.d (.floor H W))]) := by
  let E : List Ru → Sl → Sl → En := fun rs x y => [.fz (Bd.d (.floor H W)), .ow (.l (rs.map Ru.d)), .un, .fz (.str "floor"), .fz (.int (H : Nat)), .fz (.int (W : Nat)), x, y]
  have inner : ∀ (i : Nat) (rs : List Ru) (y : Sl), i < H → rs.length ≤ 100000 → kNR (some y) = true → ∃ y', forL (gNm 7) (bSeq (bIf (dAnd (dTst (dOp2 gLe (dOp2 gMul (eC (.int 3)) (eVar 7)) (eVar 5))) (dTst (dOp2 gLe (dOp2 DL.gSub (dOp2 gMul (eC (.int 2)) (eVar 6)) (eC (.int 1))) (eVar 4)))) (bAsg 1 (dOp2 gAdd (eVar 1) (eLst (aFr (eTup (aFr (eC (.str "over")) (aFr (eVar 6) (aFr (eVar 7) (aFr (eC (.int 0)) aNil))))) (aFr (eTup (aFr (eC (.str "over")) (aFr (eVar 6) (aFr (eVar 7) (aFr (eC (.int 1)) aNil))))) aNil))))) bNext)
  (bIf (dAnd (dTst (dOp2 gLe (dOp2 gMul (eC (.int 3)) (eVar 6)) (eVar 4))) (dTst (dOp2 gLe (dOp2 DL.gSub (dOp2 gMul (eC (.int 2)) (eVar 7)) (eC (.int 1))) (eVar 5)))) (bAsg 1 (dOp2 gAdd (eVar 1) (eLst (aFr (eTup (aFr (eC (.str "under")) (aFr (eVar 6) (aFr (eVar 7) (aFr (eC (.int 0)) aNil))))) (aFr (eTup (aFr (eC (.str "under")) (aFr (eVar 6) (aFr (eVar 7) (aFr (eC (.int 1)) aNil))))) aNil))))) bNext)) (rangeD 1 W) (E rs (.fz (.int ((i + 1 : Nat) : Int))) y) = some (.nx, E (rs ++ rowRules H W i W) (.fz (.int ((i + 1 : Nat) : Int))) y') ∧ kNR (some y') = true := by
    intro i rs y hi hrs hy
    have lp := forL_inv (h := gNm 7) (B := (bSeq (bIf (dAnd (dTst (dOp2 gLe (dOp2 gMul (eC (.int 3)) (eVar 7)) (eVar 5))) (dTst (dOp2 gLe (dOp2 DL.gSub (dOp2 gMul (eC (.int 2)) (eVar 6)) (eC (.int 1))) (eVar 4)))) (bAsg 1 (dOp2 gAdd (eVar 1) (eLst (aFr (eTup (aFr (eC (.str "over")) (aFr (eVar 6) (aFr (eVar 7) (aFr (eC (.int 0)) aNil))))) (aFr (eTup (aFr (eC (.str "over")) (aFr (eVar 6) (aFr (eVar 7) (aFr (eC (.int 1)) aNil))))) aNil))))) bNext)
  (bIf (dAnd (dTst (dOp2 gLe (dOp2 gMul (eC (.int 3)) (eVar 6)) (eVar 4))) (dTst (dOp2 gLe (dOp2 DL.gSub (dOp2 gMul (eC (.int 2)) (eVar 7)) (eC (.int 1))) (eVar 5)))) (bAsg 1 (dOp2 gAdd (eVar 1) (eLst (aFr (eTup (aFr (eC (.str "under")) (aFr (eVar 6) (aFr (eVar 7) (aFr (eC (.int 0)) aNil))))) (aFr (eTup (aFr (eC (.str "under")) (aFr (eVar 6) (aFr (eVar 7) (aFr (eC (.int 1)) aNil))))) aNil))))) bNext))) (xs := rangeD 1 W)
      (fun j ρ => ∃ y, ρ = E (rs ++ rowRules H W i j) (.fz (.int ((i + 1 : Nat) : Int))) y ∧ kNR (some y) = true)
      (fun j d ρ hd ⟨y, hρ, n1⟩ => by
        obtain ⟨hj, rfl⟩ := rangeD_get1 hd
        subst hρ
        have w1 := row_len H W i j
        have a1 : ((rs ++ rowRules H W i j).map Ru.d).length + 2 ≤ 1000000 := by rw [List.length_map, List.length_append]; omega
        have a2 : ∀ e f : D, ((rs ++ rowRules H W i j).map Ru.d ++ [e, f]).length + 2 ≤ 1000000 := fun e f => by rw [List.length_append, List.length_map, List.length_append]; simp only [List.length_cons, List.length_nil]; omega
        have m1 := mul3 (w := j + 1) (by omega)
        have m2 := mul2 (w := i + 1) (by omega)
        have m3 := mul3 (w := i + 1) (by omega)
        have m4 := mul2 (w := j + 1) (by omega)
        have e : rowRules H W i (j + 1) = rowRules H W i j ++ (overs H W (i + 1) (j + 1) ++ unders H W (i + 1) (j + 1)) := flat_succ _ j
        refine ⟨E (rs ++ rowRules H W i j) (.fz (.int ((i + 1 : Nat) : Int))) (.fz (.int ((j + 1 : Nat) : Int))), E (rs ++ rowRules H W i (j + 1)) (.fz (.int ((i + 1 : Nat) : Int))) (.fz (.int ((j + 1 : Nat) : Int))), by simp only [wipeD, restD, allFz, eVar_e, eC_e, rd_fz, rd_ow, rd_bw, fr_fz, fr_ow, fr_bw, dFr_e, dOp2_e, dTst_e, dAnd_e, dOr_e, dNot_e, dIfE_e, dAndV_e, dOrV_e, dNotV_e, dYes_e, aNil_e, aCons_e, aFr_e, rds_nil, rds_cons, dCall_e, eTup_e, eLst_e, dsOf_nil, dsOf_fz, fCall_e, bSeq_e, bNext_e, bBreak_e, bCont_e, bRetN_e, bDrop_e, bRet_e, bIf_e, to_fz, to_ow, to_bw, notRf_e, bAsg_e, gNm_e, gsNil_e, gsCons_e, gTp_e, bUnp_e, dMt_e, held_ow, held_rf, putS_e, dM1_e, dIsi_e, oSome_e, oNo_e, dSl_e, dNeg_e, bSetIx_e, bAug_e, res_fz, res_ow, res_bw, runF_e, fin_nil, fin_nil1, fin_rf, fin_fz, iAny_e, iRange1_e, iRange2_e, iEnumD_e, dChain_e, dLRg1_e, dLRg2_e, heldM_ow, heldM_rf, eDict_e, dDGet_e, dDIn_e, bDPut_e, bPar_e, nc0, nc1, nc2, nc3, nc4, nc5, nc6, nc7, nc8, nc9, nc36, kVar_0, kVar_1, kVar_2, kRd_0, kRd_1, kRd_2, kFr_0, kFr_1, kDFr_0, kDFr_1, kZ_0, kZ_1, kOp3_0, kOp2_0, kOp2_1, kOp_0, kOp_1, kTst_0, kAnd_0, kAnd_1, kAnd_2, kOr_0, kOr_1, kOr_2, kNot_0, kNot_1, kIfE_0, kIfE_1, kIfE_2, kAndV_0, kAndV_1, kOrV_0, kOrV_1, kNotV_0, kAC2_0, kAC2_1, kAC_0, kAC_1, kAF_0, kAF_1, kRds_0, kCall2_0, kCall2_1, kCall_0, kCall_1, kTup2_0, kTup2_1, kTup_0, kTup_1, kLst2_0, kLst2_1, kLst_0, kLst_1, kFCo_0, kFCo_1, kFCr_0, kFCr_1, kFCf_0, kFCf_1, kFC2_0, kFC2_1, kFC3_0, kFC3_1, kFC1_0, kFC1_1, kFC1_2, kFC_0, kFC_1, kSeq_0, kSeq_1, kSeq_2, kSeq_3, kSeq_4, kSeq_5, kDrop_0, kDrop_1, kRet_0, kRet_1, kIf_0, kIf_1, kIf_2, kTo_0, kTo_1, kNR_0, kNR_1, kNR_2, kNR_3, kNR_4, kNR_5, kAsg3_0, kAsg3_1, kAsg2_0, kAsg2_1, kAsg_0, kAsg_1, kGN_0, kGN_1, kGC_0, kGC_1, kUn2_0, kUn2_1, kUn_0, kUn_1, kMt4_0, kMt4_1, kMt3_0, kMt2_0, kMt2_1, kMt_0, kMt_1, kPut_0, kPut_1, kPut_2, kPut_3, kPut_4, kPut_5, kM12_0, kM12_1, kM11_0, kM11_1, kM1_0, kIsi3_0, kIsi3_1, kIsi2_0, kIsi2_1, kIsi_0, kIsi_1, kOSo_0, kSl4_0, kSl4_1, kSl3_0, kSl3_1, kSl2_0, kSl2_1, kSl_0, kSl_1, kNeg_0, kSX3_0, kSX3_1, kSX2_0, kSX2_1, kSX1_0, kSX0_0, kSX0_1, kSX_0, kSX_1, kAug3_0, kAug3_1, kAug2_0, kAug_0, kRes_0, kRes_1, kEnd2_0, kEnd2_1, kEnd_0, kEnd_1, kAny_0, kAny_1, kAny_2, kR1_0, kR2_0, kEn_0, kEn_1, kFor_0, kFor_1, kLc2_0, kLc2_1, kLc_0, kLc_1, kGG_0, kCh3_0, kCh3_1, kCh2_0, kCh2_1, kCh1_0, kCh1_1, kCh_0, kCh_1, kLRg_0, kLRh_0, kLRi_0, kMG_0, kDG2_0, kDG1_0, kDG1_1, kDG_0, kDG_1, kDI2_0, kDI2_1, kDI_0, kDI_1, kMP_0, kDP3_0, kDP3_1, kDP2_0, kDP2_1, kDP1_0, kDP1_1, kDP_0, kDP_1, kPar2_0, kPar2_1, kPar_0, gAdd, DL.gSub, gCmp, gLen, gMax, gMin, gInt, gList, gTuple, gApp, ix_l0, ix_l1, ix_l2, ix_t0, ix_t1, ix_t2, ix_t3, ix_tm2, ix_tm3, ix_tm4, gEq_int, gNe_int, eq_row_floor, eq_ring_floor, eq_floor_floor, eq_row_ring, eq_ring_ring, eq_floor_ring, eq_row_row, eq_ring_row, eq_floor_row, ne_row_floor, ne_ring_floor, ne_floor_floor, lim, ixN3_0, ixN3_1, ixN3_2, List.getElem?_cons_zero, List.getElem?_cons_succ, List.set_cons_zero, List.set_cons_succ, List.replicate_succ, List.replicate_zero, List.cons_append, List.nil_append, List.zipWith_cons_cons, List.zipWith_nil_left, List.zipWith_nil_right, List.length_cons, List.length_nil, Option.map_some, Option.map_none, Nat.reduceAdd, Nat.reduceSub, Nat.reduceLT, Nat.reduceLeDiff, Int.reduceAdd, Int.reduceLT, Int.reduceLE, Int.reduceNeg, Int.reduceSub, Int.reduceMul, Int.reduceEq, if_true, if_false, ite_true, ite_false, decide_true, decide_false, Bool.not_true, Bool.not_false, Bool.and_true, Bool.true_and, Bool.and_false, Bool.false_and, ↓reduceIte, E, n1], .inl ?_, _, rfl, rfl⟩
        rw [e, ← List.append_assoc rs]
        have c1 : decide (3 * ((j + 1 : Nat) : Int) ≤ (W : Nat)) = decide (3 * (j + 1) ≤ W) := by rw [Bool.eq_iff_iff]; simp; omega
        have c2 : decide (2 * ((i + 1 : Nat) : Int) - 1 ≤ (H : Nat)) = decide (2 * (i + 1) ≤ H + 1) := by rw [Bool.eq_iff_iff]; simp; omega
        have c3 : decide (3 * ((i + 1 : Nat) : Int) ≤ (H : Nat)) = decide (3 * (i + 1) ≤ H) := by rw [Bool.eq_iff_iff]; simp; omega
        have c4 : decide (2 * ((j + 1 : Nat) : Int) - 1 ≤ (W : Nat)) = decide (2 * (j + 1) ≤ W + 1) := by rw [Bool.eq_iff_iff]; simp; omega
        have step2 : ∀ qs : List Ru, (qs.map Ru.d).length + 2 ≤ 1000000 → bIf (dAnd (dTst (dOp2 gLe (dOp2 gMul (eC (.int 3)) (eVar 6)) (eVar 4))) (dTst (dOp2 gLe (dOp2 DL.gSub (dOp2 gMul (eC (.int 2)) (eVar 7)) (eC (.int 1))) (eVar 5)))) (bAsg 1 (dOp2 gAdd (eVar 1) (eLst (aFr (eTup (aFr (eC (.str "under")) (aFr (eVar 6) (aFr (eVar 7) (aFr (eC (.int 0)) aNil))))) (aFr (eTup (aFr (eC (.str "under")) (aFr (eVar 6) (aFr (eVar 7) (aFr (eC (.int 1)) aNil))))) aNil))))) bNext (E qs (.fz (.int ((i + 1 : Nat) : Int))) (.fz (.int ((j + 1 : Nat) : Int)))) = some (.nx, E (qs ++ unders H W (i + 1) (j + 1)) (.fz (.int ((i + 1 : Nat) : Int))) (.fz (.int ((j + 1 : Nat) : Int)))) := fun qs hq => by
          unfold unders
          by_cases b3 : 3 * (i + 1) ≤ H
          · by_cases b4 : 2 * (j + 1) ≤ W + 1
            · rw [if_pos ⟨b3, b4⟩]
              simp only [wipeD, restD, allFz, eVar_e, eC_e, rd_fz, rd_ow, rd_bw, fr_fz, fr_ow, fr_bw, dFr_e, dOp2_e, dTst_e, dAnd_e, dOr_e, dNot_e, dIfE_e, dAndV_e, dOrV_e, dNotV_e, dYes_e, aNil_e, aCons_e, aFr_e, rds_nil, rds_cons, dCall_e, eTup_e, eLst_e, dsOf_nil, dsOf_fz, fCall_e, bSeq_e, bNext_e, bBreak_e, bCont_e, bRetN_e, bDrop_e, bRet_e, bIf_e, to_fz, to_ow, to_bw, notRf_e, bAsg_e, gNm_e, gsNil_e, gsCons_e, gTp_e, bUnp_e, dMt_e, held_ow, held_rf, putS_e, dM1_e, dIsi_e, oSome_e, oNo_e, dSl_e, dNeg_e, bSetIx_e, bAug_e, res_fz, res_ow, res_bw, runF_e, fin_nil, fin_nil1, fin_rf, fin_fz, iAny_e, iRange1_e, iRange2_e, iEnumD_e, dChain_e, dLRg1_e, dLRg2_e, heldM_ow, heldM_rf, eDict_e, dDGet_e, dDIn_e, bDPut_e, bPar_e, nc0, nc1, nc2, nc3, nc4, nc5, nc6, nc7, nc8, nc9, nc36, kVar_0, kVar_1, kVar_2, kRd_0, kRd_1, kRd_2, kFr_0, kFr_1, kDFr_0, kDFr_1, kZ_0, kZ_1, kOp3_0, kOp2_0, kOp2_1, kOp_0, kOp_1, kTst_0, kAnd_0, kAnd_1, kAnd_2, kOr_0, kOr_1, kOr_2, kNot_0, kNot_1, kIfE_0, kIfE_1, kIfE_2, kAndV_0, kAndV_1, kOrV_0, kOrV_1, kNotV_0, kAC2_0, kAC2_1, kAC_0, kAC_1, kAF_0, kAF_1, kRds_0, kCall2_0, kCall2_1, kCall_0, kCall_1, kTup2_0, kTup2_1, kTup_0, kTup_1, kLst2_0, kLst2_1, kLst_0, kLst_1, kFCo_0, kFCo_1, kFCr_0, kFCr_1, kFCf_0, kFCf_1, kFC2_0, kFC2_1, kFC3_0, kFC3_1, kFC1_0, kFC1_1, kFC1_2, kFC_0, kFC_1, kSeq_0, kSeq_1, kSeq_2, kSeq_3, kSeq_4, kSeq_5, kDrop_0, kDrop_1, kRet_0, kRet_1, kIf_0, kIf_1, kIf_2, kTo_0, kTo_1, kNR_0, kNR_1, kNR_2, kNR_3, kNR_4, kNR_5, kAsg3_0, kAsg3_1, kAsg2_0, kAsg2_1, kAsg_0, kAsg_1, kGN_0, kGN_1, kGC_0, kGC_1, kUn2_0, kUn2_1, kUn_0, kUn_1, kMt4_0, kMt4_1, kMt3_0, kMt2_0, kMt2_1, kMt_0, kMt_1, kPut_0, kPut_1, kPut_2, kPut_3, kPut_4, kPut_5, kM12_0, kM12_1, kM11_0, kM11_1, kM1_0, kIsi3_0, kIsi3_1, kIsi2_0, kIsi2_1, kIsi_0, kIsi_1, kOSo_0, kSl4_0, kSl4_1, kSl3_0, kSl3_1, kSl2_0, kSl2_1, kSl_0, kSl_1, kNeg_0, kSX3_0, kSX3_1, kSX2_0, kSX2_1, kSX1_0, kSX0_0, kSX0_1, kSX_0, kSX_1, kAug3_0, kAug3_1, kAug2_0, kAug_0, kRes_0, kRes_1, kEnd2_0, kEnd2_1, kEnd_0, kEnd_1, kAny_0, kAny_1, kAny_2, kR1_0, kR2_0, kEn_0, kEn_1, kFor_0, kFor_1, kLc2_0, kLc2_1, kLc_0, kLc_1, kGG_0, kCh3_0, kCh3_1, kCh2_0, kCh2_1, kCh1_0, kCh1_1, kCh_0, kCh_1, kLRg_0, kLRh_0, kLRi_0, kMG_0, kDG2_0, kDG1_0, kDG1_1, kDG_0, kDG_1, kDI2_0, kDI2_1, kDI_0, kDI_1, kMP_0, kDP3_0, kDP3_1, kDP2_0, kDP2_1, kDP1_0, kDP1_1, kDP_0, kDP_1, kPar2_0, kPar2_1, kPar_0, gAdd, DL.gSub, gCmp, gLen, gMax, gMin, gInt, gList, gTuple, gApp, ix_l0, ix_l1, ix_l2, ix_t0, ix_t1, ix_t2, ix_t3, ix_tm2, ix_tm3, ix_tm4, gEq_int, gNe_int, eq_row_floor, eq_ring_floor, eq_floor_floor, eq_row_ring, eq_ring_ring, eq_floor_ring, eq_row_row, eq_ring_row, eq_floor_row, ne_row_floor, ne_ring_floor, ne_floor_floor, lim, ixN3_0, ixN3_1, ixN3_2, List.getElem?_cons_zero, List.getElem?_cons_succ, List.set_cons_zero, List.set_cons_succ, List.replicate_succ, List.replicate_zero, List.cons_append, List.nil_append, List.zipWith_cons_cons, List.zipWith_nil_left, List.zipWith_nil_right, List.length_cons, List.length_nil, Option.map_some, Option.map_none, Nat.reduceAdd, Nat.reduceSub, Nat.reduceLT, Nat.reduceLeDiff, Int.reduceAdd, Int.reduceLT, Int.reduceLE, Int.reduceNeg, Int.reduceSub, Int.reduceMul, Int.reduceEq, if_true, if_false, ite_true, ite_false, decide_true, decide_false, Bool.not_true, Bool.not_false, Bool.and_true, Bool.true_and, Bool.and_false, Bool.false_and, ↓reduceIte, E, m3, m4, c3, c4, b3, b4, hq, List.map_append, List.map_cons, List.map_nil, Ru.d]
              all_goals rfl
            · rw [if_neg fun z => b4 z.2]
              simp only [wipeD, restD, allFz, eVar_e, eC_e, rd_fz, rd_ow, rd_bw, fr_fz, fr_ow, fr_bw, dFr_e, dOp2_e, dTst_e, dAnd_e, dOr_e, dNot_e, dIfE_e, dAndV_e, dOrV_e, dNotV_e, dYes_e, aNil_e, aCons_e, aFr_e, rds_nil, rds_cons, dCall_e, eTup_e, eLst_e, dsOf_nil, dsOf_fz, fCall_e, bSeq_e, bNext_e, bBreak_e, bCont_e, bRetN_e, bDrop_e, bRet_e, bIf_e, to_fz, to_ow, to_bw, notRf_e, bAsg_e, gNm_e, gsNil_e, gsCons_e, gTp_e, bUnp_e, dMt_e, held_ow, held_rf, putS_e, dM1_e, dIsi_e, oSome_e, oNo_e, dSl_e, dNeg_e, bSetIx_e, bAug_e, res_fz, res_ow, res_bw, runF_e, fin_nil, fin_nil1, fin_rf, fin_fz, iAny_e, iRange1_e, iRange2_e, iEnumD_e, dChain_e, dLRg1_e, dLRg2_e, heldM_ow, heldM_rf, eDict_e, dDGet_e, dDIn_e, bDPut_e, bPar_e, nc0, nc1, nc2, nc3, nc4, nc5, nc6, nc7, nc8, nc9, nc36, kVar_0, kVar_1, kVar_2, kRd_0, kRd_1, kRd_2, kFr_0, kFr_1, kDFr_0, kDFr_1, kZ_0, kZ_1, kOp3_0, kOp2_0, kOp2_1, kOp_0, kOp_1, kTst_0, kAnd_0, kAnd_1, kAnd_2, kOr_0, kOr_1, kOr_2, kNot_0, kNot_1, kIfE_0, kIfE_1, kIfE_2, kAndV_0, kAndV_1, kOrV_0, kOrV_1, kNotV_0, kAC2_0, kAC2_1, kAC_0, kAC_1, kAF_0, kAF_1, kRds_0, kCall2_0, kCall2_1, kCall_0, kCall_1, kTup2_0, kTup2_1, kTup_0, kTup_1, kLst2_0, kLst2_1, kLst_0, kLst_1, kFCo_0, kFCo_1, kFCr_0, kFCr_1, kFCf_0, kFCf_1, kFC2_0, kFC2_1, kFC3_0, kFC3_1, kFC1_0, kFC1_1, kFC1_2, kFC_0, kFC_1, kSeq_0, kSeq_1, kSeq_2, kSeq_3, kSeq_4, kSeq_5, kDrop_0, kDrop_1, kRet_0, kRet_1, kIf_0, kIf_1, kIf_2, kTo_0, kTo_1, kNR_0, kNR_1, kNR_2, kNR_3, kNR_4, kNR_5, kAsg3_0, kAsg3_1, kAsg2_0, kAsg2_1, kAsg_0, kAsg_1, kGN_0, kGN_1, kGC_0, kGC_1, kUn2_0, kUn2_1, kUn_0, kUn_1, kMt4_0, kMt4_1, kMt3_0, kMt2_0, kMt2_1, kMt_0, kMt_1, kPut_0, kPut_1, kPut_2, kPut_3, kPut_4, kPut_5, kM12_0, kM12_1, kM11_0, kM11_1, kM1_0, kIsi3_0, kIsi3_1, kIsi2_0, kIsi2_1, kIsi_0, kIsi_1, kOSo_0, kSl4_0, kSl4_1, kSl3_0, kSl3_1, kSl2_0, kSl2_1, kSl_0, kSl_1, kNeg_0, kSX3_0, kSX3_1, kSX2_0, kSX2_1, kSX1_0, kSX0_0, kSX0_1, kSX_0, kSX_1, kAug3_0, kAug3_1, kAug2_0, kAug_0, kRes_0, kRes_1, kEnd2_0, kEnd2_1, kEnd_0, kEnd_1, kAny_0, kAny_1, kAny_2, kR1_0, kR2_0, kEn_0, kEn_1, kFor_0, kFor_1, kLc2_0, kLc2_1, kLc_0, kLc_1, kGG_0, kCh3_0, kCh3_1, kCh2_0, kCh2_1, kCh1_0, kCh1_1, kCh_0, kCh_1, kLRg_0, kLRh_0, kLRi_0, kMG_0, kDG2_0, kDG1_0, kDG1_1, kDG_0, kDG_1, kDI2_0, kDI2_1, kDI_0, kDI_1, kMP_0, kDP3_0, kDP3_1, kDP2_0, kDP2_1, kDP1_0, kDP1_1, kDP_0, kDP_1, kPar2_0, kPar2_1, kPar_0, gAdd, DL.gSub, gCmp, gLen, gMax, gMin, gInt, gList, gTuple, gApp, ix_l0, ix_l1, ix_l2, ix_t0, ix_t1, ix_t2, ix_t3, ix_tm2, ix_tm3, ix_tm4, gEq_int, gNe_int, eq_row_floor, eq_ring_floor, eq_floor_floor, eq_row_ring, eq_ring_ring, eq_floor_ring, eq_row_row, eq_ring_row, eq_floor_row, ne_row_floor, ne_ring_floor, ne_floor_floor, lim, ixN3_0, ixN3_1, ixN3_2, List.getElem?_cons_zero, List.getElem?_cons_succ, List.set_cons_zero, List.set_cons_succ, List.replicate_succ, List.replicate_zero, List.cons_append, List.nil_append, List.zipWith_cons_cons, List.zipWith_nil_left, List.zipWith_nil_right, List.length_cons, List.length_nil, Option.map_some, Option.map_none, Nat.reduceAdd, Nat.reduceSub, Nat.reduceLT, Nat.reduceLeDiff, Int.reduceAdd, Int.reduceLT, Int.reduceLE, Int.reduceNeg, Int.reduceSub, Int.reduceMul, Int.reduceEq, if_true, if_false, ite_true, ite_false, decide_true, decide_false, Bool.not_true, Bool.not_false, Bool.and_true, Bool.true_and, Bool.and_false, Bool.false_and, ↓reduceIte, E, m3, m4, c3, c4, b3, b4, List.append_nil]
          · rw [if_neg fun z => b3 z.1]
            simp only [wipeD, restD, allFz, eVar_e, eC_e, rd_fz, rd_ow, rd_bw, fr_fz, fr_ow, fr_bw, dFr_e, dOp2_e, dTst_e, dAnd_e, dOr_e, dNot_e, dIfE_e, dAndV_e, dOrV_e, dNotV_e, dYes_e, aNil_e, aCons_e, aFr_e, rds_nil, rds_cons, dCall_e, eTup_e, eLst_e, dsOf_nil, dsOf_fz, fCall_e, bSeq_e, bNext_e, bBreak_e, bCont_e, bRetN_e, bDrop_e, bRet_e, bIf_e, to_fz, to_ow, to_bw, notRf_e, bAsg_e, gNm_e, gsNil_e, gsCons_e, gTp_e, bUnp_e, dMt_e, held_ow, held_rf, putS_e, dM1_e, dIsi_e, oSome_e, oNo_e, dSl_e, dNeg_e, bSetIx_e, bAug_e, res_fz, res_ow, res_bw, runF_e, fin_nil, fin_nil1, fin_rf, fin_fz, iAny_e, iRange1_e, iRange2_e, iEnumD_e, dChain_e, dLRg1_e, dLRg2_e, heldM_ow, heldM_rf, eDict_e, dDGet_e, dDIn_e, bDPut_e, bPar_e, nc0, nc1, nc2, nc3, nc4, nc5, nc6, nc7, nc8, nc9, nc36, kVar_0, kVar_1, kVar_2, kRd_0, kRd_1, kRd_2, kFr_0, kFr_1, kDFr_0, kDFr_1, kZ_0, kZ_1, kOp3_0, kOp2_0, kOp2_1, kOp_0, kOp_1, kTst_0, kAnd_0, kAnd_1, kAnd_2, kOr_0, kOr_1, kOr_2, kNot_0, kNot_1, kIfE_0, kIfE_1, kIfE_2, kAndV_0, kAndV_1, kOrV_0, kOrV_1, kNotV_0, kAC2_0, kAC2_1, kAC_0, kAC_1, kAF_0, kAF_1, kRds_0, kCall2_0, kCall2_1, kCall_0, kCall_1, kTup2_0, kTup2_1, kTup_0, kTup_1, kLst2_0, kLst2_1, kLst_0, kLst_1, kFCo_0, kFCo_1, kFCr_0, kFCr_1, kFCf_0, kFCf_1, kFC2_0, kFC2_1, kFC3_0, kFC3_1, kFC1_0, kFC1_1, kFC1_2, kFC_0, kFC_1, kSeq_0, kSeq_1, kSeq_2, kSeq_3, kSeq_4, kSeq_5, kDrop_0, kDrop_1, kRet_0, kRet_1, kIf_0, kIf_1, kIf_2, kTo_0, kTo_1, kNR_0, kNR_1, kNR_2, kNR_3, kNR_4, kNR_5, kAsg3_0, kAsg3_1, kAsg2_0, kAsg2_1, kAsg_0, kAsg_1, kGN_0, kGN_1, kGC_0, kGC_1, kUn2_0, kUn2_1, kUn_0, kUn_1, kMt4_0, kMt4_1, kMt3_0, kMt2_0, kMt2_1, kMt_0, kMt_1, kPut_0, kPut_1, kPut_2, kPut_3, kPut_4, kPut_5, kM12_0, kM12_1, kM11_0, kM11_1, kM1_0, kIsi3_0, kIsi3_1, kIsi2_0, kIsi2_1, kIsi_0, kIsi_1, kOSo_0, kSl4_0, kSl4_1, kSl3_0, kSl3_1, kSl2_0, kSl2_1, kSl_0, kSl_1, kNeg_0, kSX3_0, kSX3_1, kSX2_0, kSX2_1, kSX1_0, kSX0_0, kSX0_1, kSX_0, kSX_1, kAug3_0, kAug3_1, kAug2_0, kAug_0, kRes_0, kRes_1, kEnd2_0, kEnd2_1, kEnd_0, kEnd_1, kAny_0, kAny_1, kAny_2, kR1_0, kR2_0, kEn_0, kEn_1, kFor_0, kFor_1, kLc2_0, kLc2_1, kLc_0, kLc_1, kGG_0, kCh3_0, kCh3_1, kCh2_0, kCh2_1, kCh1_0, kCh1_1, kCh_0, kCh_1, kLRg_0, kLRh_0, kLRi_0, kMG_0, kDG2_0, kDG1_0, kDG1_1, kDG_0, kDG_1, kDI2_0, kDI2_1, kDI_0, kDI_1, kMP_0, kDP3_0, kDP3_1, kDP2_0, kDP2_1, kDP1_0, kDP1_1, kDP_0, kDP_1, kPar2_0, kPar2_1, kPar_0, gAdd, DL.gSub, gCmp, gLen, gMax, gMin, gInt, gList, gTuple, gApp, ix_l0, ix_l1, ix_l2, ix_t0, ix_t1, ix_t2, ix_t3, ix_tm2, ix_tm3, ix_tm4, gEq_int, gNe_int, eq_row_floor, eq_ring_floor, eq_floor_floor, eq_row_ring, eq_ring_ring, eq_floor_ring, eq_row_row, eq_ring_row, eq_floor_row, ne_row_floor, ne_ring_floor, ne_floor_floor, lim, ixN3_0, ixN3_1, ixN3_2, List.getElem?_cons_zero, List.getElem?_cons_succ, List.set_cons_zero, List.set_cons_succ, List.replicate_succ, List.replicate_zero, List.cons_append, List.nil_append, List.zipWith_cons_cons, List.zipWith_nil_left, List.zipWith_nil_right, List.length_cons, List.length_nil, Option.map_some, Option.map_none, Nat.reduceAdd, Nat.reduceSub, Nat.reduceLT, Nat.reduceLeDiff, Int.reduceAdd, Int.reduceLT, Int.reduceLE, Int.reduceNeg, Int.reduceSub, Int.reduceMul, Int.reduceEq, if_true, if_false, ite_true, ite_false, decide_true, decide_false, Bool.not_true, Bool.not_false, Bool.and_true, Bool.true_and, Bool.and_false, Bool.false_and, ↓reduceIte, E, m3, m4, c3, b3, List.append_nil]
        have step1 : ∀ qs : List Ru, (qs.map Ru.d).length + 2 ≤ 1000000 → bIf (dAnd (dTst (dOp2 gLe (dOp2 gMul (eC (.int 3)) (eVar 7)) (eVar 5))) (dTst (dOp2 gLe (dOp2 DL.gSub (dOp2 gMul (eC (.int 2)) (eVar 6)) (eC (.int 1))) (eVar 4)))) (bAsg 1 (dOp2 gAdd (eVar 1) (eLst (aFr (eTup (aFr (eC (.str "over")) (aFr (eVar 6) (aFr (eVar 7) (aFr (eC (.int 0)) aNil))))) (aFr (eTup (aFr (eC (.str "over")) (aFr (eVar 6) (aFr (eVar 7) (aFr (eC (.int 1)) aNil))))) aNil))))) bNext (E qs (.fz (.int ((i + 1 : Nat) : Int))) (.fz (.int ((j + 1 : Nat) : Int)))) = some (.nx, E (qs ++ overs H W (i + 1) (j + 1)) (.fz (.int ((i + 1 : Nat) : Int))) (.fz (.int ((j + 1 : Nat) : Int)))) := fun qs hq => by
          unfold overs
          by_cases b3 : 3 * (j + 1) ≤ W
          · by_cases b4 : 2 * (i + 1) ≤ H + 1
            · rw [if_pos ⟨b3, b4⟩]
              simp only [wipeD, restD, allFz, eVar_e, eC_e, rd_fz, rd_ow, rd_bw, fr_fz, fr_ow, fr_bw, dFr_e, dOp2_e, dTst_e, dAnd_e, dOr_e, dNot_e, dIfE_e, dAndV_e, dOrV_e, dNotV_e, dYes_e, aNil_e, aCons_e, aFr_e, rds_nil, rds_cons, dCall_e, eTup_e, eLst_e, dsOf_nil, dsOf_fz, fCall_e, bSeq_e, bNext_e, bBreak_e, bCont_e, bRetN_e, bDrop_e, bRet_e, bIf_e, to_fz, to_ow, to_bw, notRf_e, bAsg_e, gNm_e, gsNil_e, gsCons_e, gTp_e, bUnp_e, dMt_e, held_ow, held_rf, putS_e, dM1_e, dIsi_e, oSome_e, oNo_e, dSl_e, dNeg_e, bSetIx_e, bAug_e, res_fz, res_ow, res_bw, runF_e, fin_nil, fin_nil1, fin_rf, fin_fz, iAny_e, iRange1_e, iRange2_e, iEnumD_e, dChain_e, dLRg1_e, dLRg2_e, heldM_ow, heldM_rf, eDict_e, dDGet_e, dDIn_e, bDPut_e, bPar_e, nc0, nc1, nc2, nc3, nc4, nc5, nc6, nc7, nc8, nc9, nc36, kVar_0, kVar_1, kVar_2, kRd_0, kRd_1, kRd_2, kFr_0, kFr_1, kDFr_0, kDFr_1, kZ_0, kZ_1, kOp3_0, kOp2_0, kOp2_1, kOp_0, kOp_1, kTst_0, kAnd_0, kAnd_1, kAnd_2, kOr_0, kOr_1, kOr_2, kNot_0, kNot_1, kIfE_0, kIfE_1, kIfE_2, kAndV_0, kAndV_1, kOrV_0, kOrV_1, kNotV_0, kAC2_0, kAC2_1, kAC_0, kAC_1, kAF_0, kAF_1, kRds_0, kCall2_0, kCall2_1, kCall_0, kCall_1, kTup2_0, kTup2_1, kTup_0, kTup_1, kLst2_0, kLst2_1, kLst_0, kLst_1, kFCo_0, kFCo_1, kFCr_0, kFCr_1, kFCf_0, kFCf_1, kFC2_0, kFC2_1, kFC3_0, kFC3_1, kFC1_0, kFC1_1, kFC1_2, kFC_0, kFC_1, kSeq_0, kSeq_1, kSeq_2, kSeq_3, kSeq_4, kSeq_5, kDrop_0, kDrop_1, kRet_0, kRet_1, kIf_0, kIf_1, kIf_2, kTo_0, kTo_1, kNR_0, kNR_1, kNR_2, kNR_3, kNR_4, kNR_5, kAsg3_0, kAsg3_1, kAsg2_0, kAsg2_1, kAsg_0, kAsg_1, kGN_0, kGN_1, kGC_0, kGC_1, kUn2_0, kUn2_1, kUn_0, kUn_1, kMt4_0, kMt4_1, kMt3_0, kMt2_0, kMt2_1, kMt_0, kMt_1, kPut_0, kPut_1, kPut_2, kPut_3, kPut_4, kPut_5, kM12_0, kM12_1, kM11_0, kM11_1, kM1_0, kIsi3_0, kIsi3_1, kIsi2_0, kIsi2_1, kIsi_0, kIsi_1, kOSo_0, kSl4_0, kSl4_1, kSl3_0, kSl3_1, kSl2_0, kSl2_1, kSl_0, kSl_1, kNeg_0, kSX3_0, kSX3_1, kSX2_0, kSX2_1, kSX1_0, kSX0_0, kSX0_1, kSX_0, kSX_1, kAug3_0, kAug3_1, kAug2_0, kAug_0, kRes_0, kRes_1, kEnd2_0, kEnd2_1, kEnd_0, kEnd_1, kAny_0, kAny_1, kAny_2, kR1_0, kR2_0, kEn_0, kEn_1, kFor_0, kFor_1, kLc2_0, kLc2_1, kLc_0, kLc_1, kGG_0, kCh3_0, kCh3_1, kCh2_0, kCh2_1, kCh1_0, kCh1_1, kCh_0, kCh_1, kLRg_0, kLRh_0, kLRi_0, kMG_0, kDG2_0, kDG1_0, kDG1_1, kDG_0, kDG_1, kDI2_0, kDI2_1, kDI_0, kDI_1, kMP_0, kDP3_0, kDP3_1, kDP2_0, kDP2_1, kDP1_0, kDP1_1, kDP_0, kDP_1, kPar2_0, kPar2_1, kPar_0, gAdd, DL.gSub, gCmp, gLen, gMax, gMin, gInt, gList, gTuple, gApp, ix_l0, ix_l1, ix_l2, ix_t0, ix_t1, ix_t2, ix_t3, ix_tm2, ix_tm3, ix_tm4, gEq_int, gNe_int, eq_row_floor, eq_ring_floor, eq_floor_floor, eq_row_ring, eq_ring_ring, eq_floor_ring, eq_row_row, eq_ring_row, eq_floor_row, ne_row_floor, ne_ring_floor, ne_floor_floor, lim, ixN3_0, ixN3_1, ixN3_2, List.getElem?_cons_zero, List.getElem?_cons_succ, List.set_cons_zero, List.set_cons_succ, List.replicate_succ, List.replicate_zero, List.cons_append, List.nil_append, List.zipWith_cons_cons, List.zipWith_nil_left, List.zipWith_nil_right, List.length_cons, List.length_nil, Option.map_some, Option.map_none, Nat.reduceAdd, Nat.reduceSub, Nat.reduceLT, Nat.reduceLeDiff, Int.reduceAdd, Int.reduceLT, Int.reduceLE, Int.reduceNeg, Int.reduceSub, Int.reduceMul, Int.reduceEq, if_true, if_false, ite_true, ite_false, decide_true, decide_false, Bool.not_true, Bool.not_false, Bool.and_true, Bool.true_and, Bool.and_false, Bool.false_and, ↓reduceIte, E, m1, m2, c1, c2, b3, b4, hq, List.map_append, List.map_cons, List.map_nil, Ru.d]
              all_goals rfl
            · rw [if_neg fun z => b4 z.2]
              simp only [wipeD, restD, allFz, eVar_e, eC_e, rd_fz, rd_ow, rd_bw, fr_fz, fr_ow, fr_bw, dFr_e, dOp2_e, dTst_e, dAnd_e, dOr_e, dNot_e, dIfE_e, dAndV_e, dOrV_e, dNotV_e, dYes_e, aNil_e, aCons_e, aFr_e, rds_nil, rds_cons, dCall_e, eTup_e, eLst_e, dsOf_nil, dsOf_fz, fCall_e, bSeq_e, bNext_e, bBreak_e, bCont_e, bRetN_e, bDrop_e, bRet_e, bIf_e, to_fz, to_ow, to_bw, notRf_e, bAsg_e, gNm_e, gsNil_e, gsCons_e, gTp_e, bUnp_e, dMt_e, held_ow, held_rf, putS_e, dM1_e, dIsi_e, oSome_e, oNo_e, dSl_e, dNeg_e, bSetIx_e, bAug_e, res_fz, res_ow, res_bw, runF_e, fin_nil, fin_nil1, fin_rf, fin_fz, iAny_e, iRange1_e, iRange2_e, iEnumD_e, dChain_e, dLRg1_e, dLRg2_e, heldM_ow, heldM_rf, eDict_e, dDGet_e, dDIn_e, bDPut_e, bPar_e, nc0, nc1, nc2, nc3, nc4, nc5, nc6, nc7, nc8, nc9, nc36, kVar_0, kVar_1, kVar_2, kRd_0, kRd_1, kRd_2, kFr_0, kFr_1, kDFr_0, kDFr_1, kZ_0, kZ_1, kOp3_0, kOp2_0, kOp2_1, kOp_0, kOp_1, kTst_0, kAnd_0, kAnd_1, kAnd_2, kOr_0, kOr_1, kOr_2, kNot_0, kNot_1, kIfE_0, kIfE_1, kIfE_2, kAndV_0, kAndV_1, kOrV_0, kOrV_1, kNotV_0, kAC2_0, kAC2_1, kAC_0, kAC_1, kAF_0, kAF_1, kRds_0, kCall2_0, kCall2_1, kCall_0, kCall_1, kTup2_0, kTup2_1, kTup_0, kTup_1, kLst2_0, kLst2_1, kLst_0, kLst_1, kFCo_0, kFCo_1, kFCr_0, kFCr_1, kFCf_0, kFCf_1, kFC2_0, kFC2_1, kFC3_0, kFC3_1, kFC1_0, kFC1_1, kFC1_2, kFC_0, kFC_1, kSeq_0, kSeq_1, kSeq_2, kSeq_3, kSeq_4, kSeq_5, kDrop_0, kDrop_1, kRet_0, kRet_1, kIf_0, kIf_1, kIf_2, kTo_0, kTo_1, kNR_0, kNR_1, kNR_2, kNR_3, kNR_4, kNR_5, kAsg3_0, kAsg3_1, kAsg2_0, kAsg2_1, kAsg_0, kAsg_1, kGN_0, kGN_1, kGC_0, kGC_1, kUn2_0, kUn2_1, kUn_0, kUn_1, kMt4_0, kMt4_1, kMt3_0, kMt2_0, kMt2_1, kMt_0, kMt_1, kPut_0, kPut_1, kPut_2, kPut_3, kPut_4, kPut_5, kM12_0, kM12_1, kM11_0, kM11_1, kM1_0, kIsi3_0, kIsi3_1, kIsi2_0, kIsi2_1, kIsi_0, kIsi_1, kOSo_0, kSl4_0, kSl4_1, kSl3_0, kSl3_1, kSl2_0, kSl2_1, kSl_0, kSl_1, kNeg_0, kSX3_0, kSX3_1, kSX2_0, kSX2_1, kSX1_0, kSX0_0, kSX0_1, kSX_0, kSX_1, kAug3_0, kAug3_1, kAug2_0, kAug_0, kRes_0, kRes_1, kEnd2_0, kEnd2_1, kEnd_0, kEnd_1, kAny_0, kAny_1, kAny_2, kR1_0, kR2_0, kEn_0, kEn_1, kFor_0, kFor_1, kLc2_0, kLc2_1, kLc_0, kLc_1, kGG_0, kCh3_0, kCh3_1, kCh2_0, kCh2_1, kCh1_0, kCh1_1, kCh_0, kCh_1, kLRg_0, kLRh_0, kLRi_0, kMG_0, kDG2_0, kDG1_0, kDG1_1, kDG_0, kDG_1, kDI2_0, kDI2_1, kDI_0, kDI_1, kMP_0, kDP3_0, kDP3_1, kDP2_0, kDP2_1, kDP1_0, kDP1_1, kDP_0, kDP_1, kPar2_0, kPar2_1, kPar_0, gAdd, DL.gSub, gCmp, gLen, gMax, gMin, gInt, gList, gTuple, gApp, ix_l0, ix_l1, ix_l2, ix_t0, ix_t1, ix_t2, ix_t3, ix_tm2, ix_tm3, ix_tm4, gEq_int, gNe_int, eq_row_floor, eq_ring_floor, eq_floor_floor, eq_row_ring, eq_ring_ring, eq_floor_ring, eq_row_row, eq_ring_row, eq_floor_row, ne_row_floor, ne_ring_floor, ne_floor_floor, lim, ixN3_0, ixN3_1, ixN3_2, List.getElem?_cons_zero, List.getElem?_cons_succ, List.set_cons_zero, List.set_cons_succ, List.replicate_succ, List.replicate_zero, List.cons_append, List.nil_append, List.zipWith_cons_cons, List.zipWith_nil_left, List.zipWith_nil_right, List.length_cons, List.length_nil, Option.map_some, Option.map_none, Nat.reduceAdd, Nat.reduceSub, Nat.reduceLT, Nat.reduceLeDiff, Int.reduceAdd, Int.reduceLT, Int.reduceLE, Int.reduceNeg, Int.reduceSub, Int.reduceMul, Int.reduceEq, if_true, if_false, ite_true, ite_false, decide_true, decide_false, Bool.not_true, Bool.not_false, Bool.and_true, Bool.true_and, Bool.and_false, Bool.false_and, ↓reduceIte, E, m1, m2, c1, c2, b3, b4, List.append_nil]
          · rw [if_neg fun z => b3 z.1]
            simp only [wipeD, restD, allFz, eVar_e, eC_e, rd_fz, rd_ow, rd_bw, fr_fz, fr_ow, fr_bw, dFr_e, dOp2_e, dTst_e, dAnd_e, dOr_e, dNot_e, dIfE_e, dAndV_e, dOrV_e, dNotV_e, dYes_e, aNil_e, aCons_e, aFr_e, rds_nil, rds_cons, dCall_e, eTup_e, eLst_e, dsOf_nil, dsOf_fz, fCall_e, bSeq_e, bNext_e, bBreak_e, bCont_e, bRetN_e, bDrop_e, bRet_e, bIf_e, to_fz, to_ow, to_bw, notRf_e, bAsg_e, gNm_e, gsNil_e, gsCons_e, gTp_e, bUnp_e, dMt_e, held_ow, held_rf, putS_e, dM1_e, dIsi_e, oSome_e, oNo_e, dSl_e, dNeg_e, bSetIx_e, bAug_e, res_fz, res_ow, res_bw, runF_e, fin_nil, fin_nil1, fin_rf, fin_fz, iAny_e, iRange1_e, iRange2_e, iEnumD_e, dChain_e, dLRg1_e, dLRg2_e, heldM_ow, heldM_rf, eDict_e, dDGet_e, dDIn_e, bDPut_e, bPar_e, nc0, nc1, nc2, nc3, nc4, nc5, nc6, nc7, nc8, nc9, nc36, kVar_0, kVar_1, kVar_2, kRd_0, kRd_1, kRd_2, kFr_0, kFr_1, kDFr_0, kDFr_1, kZ_0, kZ_1, kOp3_0, kOp2_0, kOp2_1, kOp_0, kOp_1, kTst_0, kAnd_0, kAnd_1, kAnd_2, kOr_0, kOr_1, kOr_2, kNot_0, kNot_1, kIfE_0, kIfE_1, kIfE_2, kAndV_0, kAndV_1, kOrV_0, kOrV_1, kNotV_0, kAC2_0, kAC2_1, kAC_0, kAC_1, kAF_0, kAF_1, kRds_0, kCall2_0, kCall2_1, kCall_0, kCall_1, kTup2_0, kTup2_1, kTup_0, kTup_1, kLst2_0, kLst2_1, kLst_0, kLst_1, kFCo_0, kFCo_1, kFCr_0, kFCr_1, kFCf_0, kFCf_1, kFC2_0, kFC2_1, kFC3_0, kFC3_1, kFC1_0, kFC1_1, kFC1_2, kFC_0, kFC_1, kSeq_0, kSeq_1, kSeq_2, kSeq_3, kSeq_4, kSeq_5, kDrop_0, kDrop_1, kRet_0, kRet_1, kIf_0, kIf_1, kIf_2, kTo_0, kTo_1, kNR_0, kNR_1, kNR_2, kNR_3, kNR_4, kNR_5, kAsg3_0, kAsg3_1, kAsg2_0, kAsg2_1, kAsg_0, kAsg_1, kGN_0, kGN_1, kGC_0, kGC_1, kUn2_0, kUn2_1, kUn_0, kUn_1, kMt4_0, kMt4_1, kMt3_0, kMt2_0, kMt2_1, kMt_0, kMt_1, kPut_0, kPut_1, kPut_2, kPut_3, kPut_4, kPut_5, kM12_0, kM12_1, kM11_0, kM11_1, kM1_0, kIsi3_0, kIsi3_1, kIsi2_0, kIsi2_1, kIsi_0, kIsi_1, kOSo_0, kSl4_0, kSl4_1, kSl3_0, kSl3_1, kSl2_0, kSl2_1, kSl_0, kSl_1, kNeg_0, kSX3_0, kSX3_1, kSX2_0, kSX2_1, kSX1_0, kSX0_0, kSX0_1, kSX_0, kSX_1, kAug3_0, kAug3_1, kAug2_0, kAug_0, kRes_0, kRes_1, kEnd2_0, kEnd2_1, kEnd_0, kEnd_1, kAny_0, kAny_1, kAny_2, kR1_0, kR2_0, kEn_0, kEn_1, kFor_0, kFor_1, kLc2_0, kLc2_1, kLc_0, kLc_1, kGG_0, kCh3_0, kCh3_1, kCh2_0, kCh2_1, kCh1_0, kCh1_1, kCh_0, kCh_1, kLRg_0, kLRh_0, kLRi_0, kMG_0, kDG2_0, kDG1_0, kDG1_1, kDG_0, kDG_1, kDI2_0, kDI2_1, kDI_0, kDI_1, kMP_0, kDP3_0, kDP3_1, kDP2_0, kDP2_1, kDP1_0, kDP1_1, kDP_0, kDP_1, kPar2_0, kPar2_1, kPar_0, gAdd, DL.gSub, gCmp, gLen, gMax, gMin, gInt, gList, gTuple, gApp, ix_l0, ix_l1, ix_l2, ix_t0, ix_t1, ix_t2, ix_t3, ix_tm2, ix_tm3, ix_tm4, gEq_int, gNe_int, eq_row_floor, eq_ring_floor, eq_floor_floor, eq_row_ring, eq_ring_ring, eq_floor_ring, eq_row_row, eq_ring_row, eq_floor_row, ne_row_floor, ne_ring_floor, ne_floor_floor, lim, ixN3_0, ixN3_1, ixN3_2, List.getElem?_cons_zero, List.getElem?_cons_succ, List.set_cons_zero, List.set_cons_succ, List.replicate_succ, List.replicate_zero, List.cons_append, List.nil_append, List.zipWith_cons_cons, List.zipWith_nil_left, List.zipWith_nil_right, List.length_cons, List.length_nil, Option.map_some, Option.map_none, Nat.reduceAdd, Nat.reduceSub, Nat.reduceLT, Nat.reduceLeDiff, Int.reduceAdd, Int.reduceLT, Int.reduceLE, Int.reduceNeg, Int.reduceSub, Int.reduceMul, Int.reduceEq, if_true, if_false, ite_true, ite_false, decide_true, decide_false, Bool.not_true, Bool.not_false, Bool.and_true, Bool.true_and, Bool.and_false, Bool.false_and, ↓reduceIte, E, m1, m2, c1, b3, List.append_nil]
        have ov := over_len H W (i + 1) (j + 1)
        rw [bSeq_e, step1 _ a1, kSeq_0, step2 _ (by rw [List.length_map] at a1 ⊢; rw [List.length_append, List.length_append]; rw [List.length_append] at a1; omega), List.append_assoc, List.append_assoc]) (ρ := E rs (.fz (.int ((i + 1 : Nat) : Int))) y) ⟨y, by rw [show rowRules H W i 0 = [] from rfl, List.append_nil], hy⟩
    obtain ⟨ρ', hf, y', rfl, hy'⟩ := lp
    rw [rangeD_len] at hf
    exact ⟨y', hf, hy'⟩
  have lp := forL_inv (h := gNm 6) (B := (bFor (iRange2 (aFr (eC (.int 1)) (aFr (dOp2 gAdd (eVar 5) (eC (.int 1))) aNil))) (gNm 7)
  (bSeq (bIf (dAnd (dTst (dOp2 gLe (dOp2 gMul (eC (.int 3)) (eVar 7)) (eVar 5))) (dTst (dOp2 gLe (dOp2 DL.gSub (dOp2 gMul (eC (.int 2)) (eVar 6)) (eC (.int 1))) (eVar 4)))) (bAsg 1 (dOp2 gAdd (eVar 1) (eLst (aFr (eTup (aFr (eC (.str "over")) (aFr (eVar 6) (aFr (eVar 7) (aFr (eC (.int 0)) aNil))))) (aFr (eTup (aFr (eC (.str "over")) (aFr (eVar 6) (aFr (eVar 7) (aFr (eC (.int 1)) aNil))))) aNil))))) bNext)
  (bIf (dAnd (dTst (dOp2 gLe (dOp2 gMul (eC (.int 3)) (eVar 6)) (eVar 4))) (dTst (dOp2 gLe (dOp2 DL.gSub (dOp2 gMul (eC (.int 2)) (eVar 7)) (eC (.int 1))) (eVar 5)))) (bAsg 1 (dOp2 gAdd (eVar 1) (eLst (aFr (eTup (aFr (eC (.str "under")) (aFr (eVar 6) (aFr (eVar 7) (aFr (eC (.int 0)) aNil))))) (aFr (eTup (aFr (eC (.str "under")) (aFr (eVar 6) (aFr (eVar 7) (aFr (eC (.int 1)) aNil))))) aNil))))) bNext)))) (xs := rangeD 1 H)
    (fun i ρ => ∃ x y, ρ = E (floorRules H W i) x y ∧ kNR (some x) = true ∧ kNR (some y) = true)
    (fun i d ρ hd ⟨x, y, hρ, n1, n2⟩ => by
      obtain ⟨hi, rfl⟩ := rangeD_get1 hd
      subst hρ
      have w1 := floor_len H W i
      have w2 : i * (W * 4) ≤ 36 * (36 * 4) := Nat.mul_le_mul (by omega) (by omega)
      obtain ⟨y', hf, hy'⟩ := inner i (floorRules H W i) y hi (by omega) n2
      have e : floorRules H W (i + 1) = floorRules H W i ++ rowRules H W i W := flat_succ _ i
      have hr := range2_ok (fa := (aFr (eC (.int 1)) (aFr (dOp2 gAdd (eVar 5) (eC (.int 1))) aNil))) (n := W) (ρ := E (floorRules H W i) (.fz (.int ((i + 1 : Nat) : Int))) y) (ρ1 := E (floorRules H W i) (.fz (.int ((i + 1 : Nat) : Int))) y) (by simp only [wipeD, restD, allFz, eVar_e, eC_e, rd_fz, rd_ow, rd_bw, fr_fz, fr_ow, fr_bw, dFr_e, dOp2_e, dTst_e, dAnd_e, dOr_e, dNot_e, dIfE_e, dAndV_e, dOrV_e, dNotV_e, dYes_e, aNil_e, aCons_e, aFr_e, rds_nil, rds_cons, dCall_e, eTup_e, eLst_e, dsOf_nil, dsOf_fz, fCall_e, bSeq_e, bNext_e, bBreak_e, bCont_e, bRetN_e, bDrop_e, bRet_e, bIf_e, to_fz, to_ow, to_bw, notRf_e, bAsg_e, gNm_e, gsNil_e, gsCons_e, gTp_e, bUnp_e, dMt_e, held_ow, held_rf, putS_e, dM1_e, dIsi_e, oSome_e, oNo_e, dSl_e, dNeg_e, bSetIx_e, bAug_e, res_fz, res_ow, res_bw, runF_e, fin_nil, fin_nil1, fin_rf, fin_fz, iAny_e, iRange1_e, iRange2_e, iEnumD_e, dChain_e, dLRg1_e, dLRg2_e, heldM_ow, heldM_rf, eDict_e, dDGet_e, dDIn_e, bDPut_e, bPar_e, nc0, nc1, nc2, nc3, nc4, nc5, nc6, nc7, nc8, nc9, nc36, kVar_0, kVar_1, kVar_2, kRd_0, kRd_1, kRd_2, kFr_0, kFr_1, kDFr_0, kDFr_1, kZ_0, kZ_1, kOp3_0, kOp2_0, kOp2_1, kOp_0, kOp_1, kTst_0, kAnd_0, kAnd_1, kAnd_2, kOr_0, kOr_1, kOr_2, kNot_0, kNot_1, kIfE_0, kIfE_1, kIfE_2, kAndV_0, kAndV_1, kOrV_0, kOrV_1, kNotV_0, kAC2_0, kAC2_1, kAC_0, kAC_1, kAF_0, kAF_1, kRds_0, kCall2_0, kCall2_1, kCall_0, kCall_1, kTup2_0, kTup2_1, kTup_0, kTup_1, kLst2_0, kLst2_1, kLst_0, kLst_1, kFCo_0, kFCo_1, kFCr_0, kFCr_1, kFCf_0, kFCf_1, kFC2_0, kFC2_1, kFC3_0, kFC3_1, kFC1_0, kFC1_1, kFC1_2, kFC_0, kFC_1, kSeq_0, kSeq_1, kSeq_2, kSeq_3, kSeq_4, kSeq_5, kDrop_0, kDrop_1, kRet_0, kRet_1, kIf_0, kIf_1, kIf_2, kTo_0, kTo_1, kNR_0, kNR_1, kNR_2, kNR_3, kNR_4, kNR_5, kAsg3_0, kAsg3_1, kAsg2_0, kAsg2_1, kAsg_0, kAsg_1, kGN_0, kGN_1, kGC_0, kGC_1, kUn2_0, kUn2_1, kUn_0, kUn_1, kMt4_0, kMt4_1, kMt3_0, kMt2_0, kMt2_1, kMt_0, kMt_1, kPut_0, kPut_1, kPut_2, kPut_3, kPut_4, kPut_5, kM12_0, kM12_1, kM11_0, kM11_1, kM1_0, kIsi3_0, kIsi3_1, kIsi2_0, kIsi2_1, kIsi_0, kIsi_1, kOSo_0, kSl4_0, kSl4_1, kSl3_0, kSl3_1, kSl2_0, kSl2_1, kSl_0, kSl_1, kNeg_0, kSX3_0, kSX3_1, kSX2_0, kSX2_1, kSX1_0, kSX0_0, kSX0_1, kSX_0, kSX_1, kAug3_0, kAug3_1, kAug2_0, kAug_0, kRes_0, kRes_1, kEnd2_0, kEnd2_1, kEnd_0, kEnd_1, kAny_0, kAny_1, kAny_2, kR1_0, kR2_0, kEn_0, kEn_1, kFor_0, kFor_1, kLc2_0, kLc2_1, kLc_0, kLc_1, kGG_0, kCh3_0, kCh3_1, kCh2_0, kCh2_1, kCh1_0, kCh1_1, kCh_0, kCh_1, kLRg_0, kLRh_0, kLRi_0, kMG_0, kDG2_0, kDG1_0, kDG1_1, kDG_0, kDG_1, kDI2_0, kDI2_1, kDI_0, kDI_1, kMP_0, kDP3_0, kDP3_1, kDP2_0, kDP2_1, kDP1_0, kDP1_1, kDP_0, kDP_1, kPar2_0, kPar2_1, kPar_0, gAdd, DL.gSub, gCmp, gLen, gMax, gMin, gInt, gList, gTuple, gApp, ix_l0, ix_l1, ix_l2, ix_t0, ix_t1, ix_t2, ix_t3, ix_tm2, ix_tm3, ix_tm4, gEq_int, gNe_int, eq_row_floor, eq_ring_floor, eq_floor_floor, eq_row_ring, eq_ring_ring, eq_floor_ring, eq_row_row, eq_ring_row, eq_floor_row, ne_row_floor, ne_ring_floor, ne_floor_floor, lim, ixN3_0, ixN3_1, ixN3_2, List.getElem?_cons_zero, List.getElem?_cons_succ, List.set_cons_zero, List.set_cons_succ, List.replicate_succ, List.replicate_zero, List.cons_append, List.nil_append, List.zipWith_cons_cons, List.zipWith_nil_left, List.zipWith_nil_right, List.length_cons, List.length_nil, Option.map_some, Option.map_none, Nat.reduceAdd, Nat.reduceSub, Nat.reduceLT, Nat.reduceLeDiff, Int.reduceAdd, Int.reduceLT, Int.reduceLE, Int.reduceNeg, Int.reduceSub, Int.reduceMul, Int.reduceEq, if_true, if_false, ite_true, ite_false, decide_true, decide_false, Bool.not_true, Bool.not_false, Bool.and_true, Bool.true_and, Bool.and_false, Bool.false_and, ↓reduceIte, E]) (by omega)
      have hF := bFor_eq hr hf
      refine ⟨E (floorRules H W i) (.fz (.int ((i + 1 : Nat) : Int))) y, E (floorRules H W (i + 1)) (.fz (.int ((i + 1 : Nat) : Int))) y', by simp only [wipeD, restD, allFz, eVar_e, eC_e, rd_fz, rd_ow, rd_bw, fr_fz, fr_ow, fr_bw, dFr_e, dOp2_e, dTst_e, dAnd_e, dOr_e, dNot_e, dIfE_e, dAndV_e, dOrV_e, dNotV_e, dYes_e, aNil_e, aCons_e, aFr_e, rds_nil, rds_cons, dCall_e, eTup_e, eLst_e, dsOf_nil, dsOf_fz, fCall_e, bSeq_e, bNext_e, bBreak_e, bCont_e, bRetN_e, bDrop_e, bRet_e, bIf_e, to_fz, to_ow, to_bw, notRf_e, bAsg_e, gNm_e, gsNil_e, gsCons_e, gTp_e, bUnp_e, dMt_e, held_ow, held_rf, putS_e, dM1_e, dIsi_e, oSome_e, oNo_e, dSl_e, dNeg_e, bSetIx_e, bAug_e, res_fz, res_ow, res_bw, runF_e, fin_nil, fin_nil1, fin_rf, fin_fz, iAny_e, iRange1_e, iRange2_e, iEnumD_e, dChain_e, dLRg1_e, dLRg2_e, heldM_ow, heldM_rf, eDict_e, dDGet_e, dDIn_e, bDPut_e, bPar_e, nc0, nc1, nc2, nc3, nc4, nc5, nc6, nc7, nc8, nc9, nc36, kVar_0, kVar_1, kVar_2, kRd_0, kRd_1, kRd_2, kFr_0, kFr_1, kDFr_0, kDFr_1, kZ_0, kZ_1, kOp3_0, kOp2_0, kOp2_1, kOp_0, kOp_1, kTst_0, kAnd_0, kAnd_1, kAnd_2, kOr_0, kOr_1, kOr_2, kNot_0, kNot_1, kIfE_0, kIfE_1, kIfE_2, kAndV_0, kAndV_1, kOrV_0, kOrV_1, kNotV_0, kAC2_0, kAC2_1, kAC_0, kAC_1, kAF_0, kAF_1, kRds_0, kCall2_0, kCall2_1, kCall_0, kCall_1, kTup2_0, kTup2_1, kTup_0, kTup_1, kLst2_0, kLst2_1, kLst_0, kLst_1, kFCo_0, kFCo_1, kFCr_0, kFCr_1, kFCf_0, kFCf_1, kFC2_0, kFC2_1, kFC3_0, kFC3_1, kFC1_0, kFC1_1, kFC1_2, kFC_0, kFC_1, kSeq_0, kSeq_1, kSeq_2, kSeq_3, kSeq_4, kSeq_5, kDrop_0, kDrop_1, kRet_0, kRet_1, kIf_0, kIf_1, kIf_2, kTo_0, kTo_1, kNR_0, kNR_1, kNR_2, kNR_3, kNR_4, kNR_5, kAsg3_0, kAsg3_1, kAsg2_0, kAsg2_1, kAsg_0, kAsg_1, kGN_0, kGN_1, kGC_0, kGC_1, kUn2_0, kUn2_1, kUn_0, kUn_1, kMt4_0, kMt4_1, kMt3_0, kMt2_0, kMt2_1, kMt_0, kMt_1, kPut_0, kPut_1, kPut_2, kPut_3, kPut_4, kPut_5, kM12_0, kM12_1, kM11_0, kM11_1, kM1_0, kIsi3_0, kIsi3_1, kIsi2_0, kIsi2_1, kIsi_0, kIsi_1, kOSo_0, kSl4_0, kSl4_1, kSl3_0, kSl3_1, kSl2_0, kSl2_1, kSl_0, kSl_1, kNeg_0, kSX3_0, kSX3_1, kSX2_0, kSX2_1, kSX1_0, kSX0_0, kSX0_1, kSX_0, kSX_1, kAug3_0, kAug3_1, kAug2_0, kAug_0, kRes_0, kRes_1, kEnd2_0, kEnd2_1, kEnd_0, kEnd_1, kAny_0, kAny_1, kAny_2, kR1_0, kR2_0, kEn_0, kEn_1, kFor_0, kFor_1, kLc2_0, kLc2_1, kLc_0, kLc_1, kGG_0, kCh3_0, kCh3_1, kCh2_0, kCh2_1, kCh1_0, kCh1_1, kCh_0, kCh_1, kLRg_0, kLRh_0, kLRi_0, kMG_0, kDG2_0, kDG1_0, kDG1_1, kDG_0, kDG_1, kDI2_0, kDI2_1, kDI_0, kDI_1, kMP_0, kDP3_0, kDP3_1, kDP2_0, kDP2_1, kDP1_0, kDP1_1, kDP_0, kDP_1, kPar2_0, kPar2_1, kPar_0, gAdd, DL.gSub, gCmp, gLen, gMax, gMin, gInt, gList, gTuple, gApp, ix_l0, ix_l1, ix_l2, ix_t0, ix_t1, ix_t2, ix_t3, ix_tm2, ix_tm3, ix_tm4, gEq_int, gNe_int, eq_row_floor, eq_ring_floor, eq_floor_floor, eq_row_ring, eq_ring_ring, eq_floor_ring, eq_row_row, eq_ring_row, eq_floor_row, ne_row_floor, ne_ring_floor, ne_floor_floor, lim, ixN3_0, ixN3_1, ixN3_2, List.getElem?_cons_zero, List.getElem?_cons_succ, List.set_cons_zero, List.set_cons_succ, List.replicate_succ, List.replicate_zero, List.cons_append, List.nil_append, List.zipWith_cons_cons, List.zipWith_nil_left, List.zipWith_nil_right, List.length_cons, List.length_nil, Option.map_some, Option.map_none, Nat.reduceAdd, Nat.reduceSub, Nat.reduceLT, Nat.reduceLeDiff, Int.reduceAdd, Int.reduceLT, Int.reduceLE, Int.reduceNeg, Int.reduceSub, Int.reduceMul, Int.reduceEq, if_true, if_false, ite_true, ite_false, decide_true, decide_false, Bool.not_true, Bool.not_false, Bool.and_true, Bool.true_and, Bool.and_false, Bool.false_and, ↓reduceIte, E, n1], .inl ?_, _, _, rfl, rfl, hy'⟩
      rw [e]
      exact hF) (ρ := E [] .un .un) ⟨_, _, rfl, rfl, rfl⟩
  obtain ⟨ρ', hf, x, y, rfl, _⟩ := lp
  rw [rangeD_len] at hf
  have hr := range2_ok (fa := (aFr (eC (.int 1)) (aFr (dOp2 gAdd (eVar 4) (eC (.int 1))) aNil))) (n := H) (ρ := E [] .un .un) (ρ1 := E [] .un .un) (by simp only [wipeD, restD, allFz, eVar_e, eC_e, rd_fz, rd_ow, rd_bw, fr_fz, fr_ow, fr_bw, dFr_e, dOp2_e, dTst_e, dAnd_e, dOr_e, dNot_e, dIfE_e, dAndV_e, dOrV_e, dNotV_e, dYes_e, aNil_e, aCons_e, aFr_e, rds_nil, rds_cons, dCall_e, eTup_e, eLst_e, dsOf_nil, dsOf_fz, fCall_e, bSeq_e, bNext_e, bBreak_e, bCont_e, bRetN_e, bDrop_e, bRet_e, bIf_e, to_fz, to_ow, to_bw, notRf_e, bAsg_e, gNm_e, gsNil_e, gsCons_e, gTp_e, bUnp_e, dMt_e, held_ow, held_rf, putS_e, dM1_e, dIsi_e, oSome_e, oNo_e, dSl_e, dNeg_e, bSetIx_e, bAug_e, res_fz, res_ow, res_bw, runF_e, fin_nil, fin_nil1, fin_rf, fin_fz, iAny_e, iRange1_e, iRange2_e, iEnumD_e, dChain_e, dLRg1_e, dLRg2_e, heldM_ow, heldM_rf, eDict_e, dDGet_e, dDIn_e, bDPut_e, bPar_e, nc0, nc1, nc2, nc3, nc4, nc5, nc6, nc7, nc8, nc9, nc36, kVar_0, kVar_1, kVar_2, kRd_0, kRd_1, kRd_2, kFr_0, kFr_1, kDFr_0, kDFr_1, kZ_0, kZ_1, kOp3_0, kOp2_0, kOp2_1, kOp_0, kOp_1, kTst_0, kAnd_0, kAnd_1, kAnd_2, kOr_0, kOr_1, kOr_2, kNot_0, kNot_1, kIfE_0, kIfE_1, kIfE_2, kAndV_0, kAndV_1, kOrV_0, kOrV_1, kNotV_0, kAC2_0, kAC2_1, kAC_0, kAC_1, kAF_0, kAF_1, kRds_0, kCall2_0, kCall2_1, kCall_0, kCall_1, kTup2_0, kTup2_1, kTup_0, kTup_1, kLst2_0, kLst2_1, kLst_0, kLst_1, kFCo_0, kFCo_1, kFCr_0, kFCr_1, kFCf_0, kFCf_1, kFC2_0, kFC2_1, kFC3_0, kFC3_1, kFC1_0, kFC1_1, kFC1_2, kFC_0, kFC_1, kSeq_0, kSeq_1, kSeq_2, kSeq_3, kSeq_4, kSeq_5, kDrop_0, kDrop_1, kRet_0, kRet_1, kIf_0, kIf_1, kIf_2, kTo_0, kTo_1, kNR_0, kNR_1, kNR_2, kNR_3, kNR_4, kNR_5, kAsg3_0, kAsg3_1, kAsg2_0, kAsg2_1, kAsg_0, kAsg_1, kGN_0, kGN_1, kGC_0, kGC_1, kUn2_0, kUn2_1, kUn_0, kUn_1, kMt4_0, kMt4_1, kMt3_0, kMt2_0, kMt2_1, kMt_0, kMt_1, kPut_0, kPut_1, kPut_2, kPut_3, kPut_4, kPut_5, kM12_0, kM12_1, kM11_0, kM11_1, kM1_0, kIsi3_0, kIsi3_1, kIsi2_0, kIsi2_1, kIsi_0, kIsi_1, kOSo_0, kSl4_0, kSl4_1, kSl3_0, kSl3_1, kSl2_0, kSl2_1, kSl_0, kSl_1, kNeg_0, kSX3_0, kSX3_1, kSX2_0, kSX2_1, kSX1_0, kSX0_0, kSX0_1, kSX_0, kSX_1, kAug3_0, kAug3_1, kAug2_0, kAug_0, kRes_0, kRes_1, kEnd2_0, kEnd2_1, kEnd_0, kEnd_1, kAny_0, kAny_1, kAny_2, kR1_0, kR2_0, kEn_0, kEn_1, kFor_0, kFor_1, kLc2_0, kLc2_1, kLc_0, kLc_1, kGG_0, kCh3_0, kCh3_1, kCh2_0, kCh2_1, kCh1_0, kCh1_1, kCh_0, kCh_1, kLRg_0, kLRh_0, kLRi_0, kMG_0, kDG2_0, kDG1_0, kDG1_1, kDG_0, kDG_1, kDI2_0, kDI2_1, kDI_0, kDI_1, kMP_0, kDP3_0, kDP3_1, kDP2_0, kDP2_1, kDP1_0, kDP1_1, kDP_0, kDP_1, kPar2_0, kPar2_1, kPar_0, gAdd, DL.gSub, gCmp, gLen, gMax, gMin, gInt, gList, gTuple, gApp, ix_l0, ix_l1, ix_l2, ix_t0, ix_t1, ix_t2, ix_t3, ix_tm2, ix_tm3, ix_tm4, gEq_int, gNe_int, eq_row_floor, eq_ring_floor, eq_floor_floor, eq_row_ring, eq_ring_ring, eq_floor_ring, eq_row_row, eq_ring_row, eq_floor_row, ne_row_floor, ne_ring_floor, ne_floor_floor, lim, ixN3_0, ixN3_1, ixN3_2, List.getElem?_cons_zero, List.getElem?_cons_succ, List.set_cons_zero, List.set_cons_succ, List.replicate_succ, List.replicate_zero, List.cons_append, List.nil_append, List.zipWith_cons_cons, List.zipWith_nil_left, List.zipWith_nil_right, List.length_cons, List.length_nil, Option.map_some, Option.map_none, Nat.reduceAdd, Nat.reduceSub, Nat.reduceLT, Nat.reduceLeDiff, Int.reduceAdd, Int.reduceLT, Int.reduceLE, Int.reduceNeg, Int.reduceSub, Int.reduceMul, Int.reduceEq, if_true, if_false, ite_true, ite_false, decide_true, decide_false, Bool.not_true, Bool.not_false, Bool.and_true, Bool.true_and, Bool.and_false, Bool.false_and, ↓reduceIte, E]) (by omega)
  have hF := bFor_eq hr hf
  simp only [wipeD, restD, allFz, eVar_e, eC_e, rd_fz, rd_ow, rd_bw, fr_fz, fr_ow, fr_bw, dFr_e, dOp2_e, dTst_e, dAnd_e, dOr_e, dNot_e, dIfE_e, dAndV_e, dOrV_e, dNotV_e, dYes_e, aNil_e, aCons_e, aFr_e, rds_nil, rds_cons, dCall_e, eTup_e, eLst_e, dsOf_nil, dsOf_fz, fCall_e, bSeq_e, bNext_e, bBreak_e, bCont_e, bRetN_e, bDrop_e, bRet_e, bIf_e, to_fz, to_ow, to_bw, notRf_e, bAsg_e, gNm_e, gsNil_e, gsCons_e, gTp_e, bUnp_e, dMt_e, held_ow, held_rf, putS_e, dM1_e, dIsi_e, oSome_e, oNo_e, dSl_e, dNeg_e, bSetIx_e, bAug_e, res_fz, res_ow, res_bw, runF_e, fin_nil, fin_nil1, fin_rf, fin_fz, iAny_e, iRange1_e, iRange2_e, iEnumD_e, dChain_e, dLRg1_e, dLRg2_e, heldM_ow, heldM_rf, eDict_e, dDGet_e, dDIn_e, bDPut_e, bPar_e, nc0, nc1, nc2, nc3, nc4, nc5, nc6, nc7, nc8, nc9, nc36, kVar_0, kVar_1, kVar_2, kRd_0, kRd_1, kRd_2, kFr_0, kFr_1, kDFr_0, kDFr_1, kZ_0, kZ_1, kOp3_0, kOp2_0, kOp2_1, kOp_0, kOp_1, kTst_0, kAnd_0, kAnd_1, kAnd_2, kOr_0, kOr_1, kOr_2, kNot_0, kNot_1, kIfE_0, kIfE_1, kIfE_2, kAndV_0, kAndV_1, kOrV_0, kOrV_1, kNotV_0, kAC2_0, kAC2_1, kAC_0, kAC_1, kAF_0, kAF_1, kRds_0, kCall2_0, kCall2_1, kCall_0, kCall_1, kTup2_0, kTup2_1, kTup_0, kTup_1, kLst2_0, kLst2_1, kLst_0, kLst_1, kFCo_0, kFCo_1, kFCr_0, kFCr_1, kFCf_0, kFCf_1, kFC2_0, kFC2_1, kFC3_0, kFC3_1, kFC1_0, kFC1_1, kFC1_2, kFC_0, kFC_1, kSeq_0, kSeq_1, kSeq_2, kSeq_3, kSeq_4, kSeq_5, kDrop_0, kDrop_1, kRet_0, kRet_1, kIf_0, kIf_1, kIf_2, kTo_0, kTo_1, kNR_0, kNR_1, kNR_2, kNR_3, kNR_4, kNR_5, kAsg3_0, kAsg3_1, kAsg2_0, kAsg2_1, kAsg_0, kAsg_1, kGN_0, kGN_1, kGC_0, kGC_1, kUn2_0, kUn2_1, kUn_0, kUn_1, kMt4_0, kMt4_1, kMt3_0, kMt2_0, kMt2_1, kMt_0, kMt_1, kPut_0, kPut_1, kPut_2, kPut_3, kPut_4, kPut_5, kM12_0, kM12_1, kM11_0, kM11_1, kM1_0, kIsi3_0, kIsi3_1, kIsi2_0, kIsi2_1, kIsi_0, kIsi_1, kOSo_0, kSl4_0, kSl4_1, kSl3_0, kSl3_1, kSl2_0, kSl2_1, kSl_0, kSl_1, kNeg_0, kSX3_0, kSX3_1, kSX2_0, kSX2_1, kSX1_0, kSX0_0, kSX0_1, kSX_0, kSX_1, kAug3_0, kAug3_1, kAug2_0, kAug_0, kRes_0, kRes_1, kEnd2_0, kEnd2_1, kEnd_0, kEnd_1, kAny_0, kAny_1, kAny_2, kR1_0, kR2_0, kEn_0, kEn_1, kFor_0, kFor_1, kLc2_0, kLc2_1, kLc_0, kLc_1, kGG_0, kCh3_0, kCh3_1, kCh2_0, kCh2_1, kCh1_0, kCh1_1, kCh_0, kCh_1, kLRg_0, kLRh_0, kLRi_0, kMG_0, kDG2_0, kDG1_0, kDG1_1, kDG_0, kDG_1, kDI2_0, kDI2_1, kDI_0, kDI_1, kMP_0, kDP3_0, kDP3_1, kDP2_0, kDP2_1, kDP1_0, kDP1_1, kDP_0, kDP_1, kPar2_0, kPar2_1, kPar_0, gAdd, DL.gSub, gCmp, gLen, gMax, gMin, gInt, gList, gTuple, gApp, ix_l0, ix_l1, ix_l2, ix_t0, ix_t1, ix_t2, ix_t3, ix_tm2, ix_tm3, ix_tm4, gEq_int, gNe_int, eq_row_floor, eq_ring_floor, eq_floor_floor, eq_row_ring, eq_ring_ring, eq_floor_ring, eq_row_row, eq_ring_row, eq_floor_row, ne_row_floor, ne_ring_floor, ne_floor_floor, lim, ixN3_0, ixN3_1, ixN3_2, List.getElem?_cons_zero, List.getElem?_cons_succ, List.set_cons_zero, List.set_cons_succ, List.replicate_succ, List.replicate_zero, List.cons_append, List.nil_append, List.zipWith_cons_cons, List.zipWith_nil_left, List.zipWith_nil_right, List.length_cons, List.length_nil, Option.map_some, Option.map_none, Nat.reduceAdd, Nat.reduceSub, Nat.reduceLT, Nat.reduceLeDiff, Int.reduceAdd, Int.reduceLT, Int.reduceLE, Int.reduceNeg, Int.reduceSub, Int.reduceMul, Int.reduceEq, if_true, if_false, ite_true, ite_false, decide_true, decide_false, Bool.not_true, Bool.not_false, Bool.and_true, Bool.true_and, Bool.and_false, Bool.false_and, ↓reduceIte, E, Bd.d, List.map_nil] at hF
  simp only [wipeD, restD, allFz, eVar_e, eC_e, rd_fz, rd_ow, rd_bw, fr_fz, fr_ow, fr_bw, dFr_e, dOp2_e, dTst_e, dAnd_e, dOr_e, dNot_e, dIfE_e, dAndV_e, dOrV_e, dNotV_e, dYes_e, aNil_e, aCons_e, aFr_e, rds_nil, rds_cons, dCall_e, eTup_e, eLst_e, dsOf_nil, dsOf_fz, fCall_e, bSeq_e, bNext_e, bBreak_e, bCont_e, bRetN_e, bDrop_e, bRet_e, bIf_e, to_fz, to_ow, to_bw, notRf_e, bAsg_e, gNm_e, gsNil_e, gsCons_e, gTp_e, bUnp_e, dMt_e, held_ow, held_rf, putS_e, dM1_e, dIsi_e, oSome_e, oNo_e, dSl_e, dNeg_e, bSetIx_e, bAug_e, res_fz, res_ow, res_bw, runF_e, fin_nil, fin_nil1, fin_rf, fin_fz, iAny_e, iRange1_e, iRange2_e, iEnumD_e, dChain_e, dLRg1_e, dLRg2_e, heldM_ow, heldM_rf, eDict_e, dDGet_e, dDIn_e, bDPut_e, bPar_e, nc0, nc1, nc2, nc3, nc4, nc5, nc6, nc7, nc8, nc9, nc36, kVar_0, kVar_1, kVar_2, kRd_0, kRd_1, kRd_2, kFr_0, kFr_1, kDFr_0, kDFr_1, kZ_0, kZ_1, kOp3_0, kOp2_0, kOp2_1, kOp_0, kOp_1, kTst_0, kAnd_0, kAnd_1, kAnd_2, kOr_0, kOr_1, kOr_2, kNot_0, kNot_1, kIfE_0, kIfE_1, kIfE_2, kAndV_0, kAndV_1, kOrV_0, kOrV_1, kNotV_0, kAC2_0, kAC2_1, kAC_0, kAC_1, kAF_0, kAF_1, kRds_0, kCall2_0, kCall2_1, kCall_0, kCall_1, kTup2_0, kTup2_1, kTup_0, kTup_1, kLst2_0, kLst2_1, kLst_0, kLst_1, kFCo_0, kFCo_1, kFCr_0, kFCr_1, kFCf_0, kFCf_1, kFC2_0, kFC2_1, kFC3_0, kFC3_1, kFC1_0, kFC1_1, kFC1_2, kFC_0, kFC_1, kSeq_0, kSeq_1, kSeq_2, kSeq_3, kSeq_4, kSeq_5, kDrop_0, kDrop_1, kRet_0, kRet_1, kIf_0, kIf_1, kIf_2, kTo_0, kTo_1, kNR_0, kNR_1, kNR_2, kNR_3, kNR_4, kNR_5, kAsg3_0, kAsg3_1, kAsg2_0, kAsg2_1, kAsg_0, kAsg_1, kGN_0, kGN_1, kGC_0, kGC_1, kUn2_0, kUn2_1, kUn_0, kUn_1, kMt4_0, kMt4_1, kMt3_0, kMt2_0, kMt2_1, kMt_0, kMt_1, kPut_0, kPut_1, kPut_2, kPut_3, kPut_4, kPut_5, kM12_0, kM12_1, kM11_0, kM11_1, kM1_0, kIsi3_0, kIsi3_1, kIsi2_0, kIsi2_1, kIsi_0, kIsi_1, kOSo_0, kSl4_0, kSl4_1, kSl3_0, kSl3_1, kSl2_0, kSl2_1, kSl_0, kSl_1, kNeg_0, kSX3_0, kSX3_1, kSX2_0, kSX2_1, kSX1_0, kSX0_0, kSX0_1, kSX_0, kSX_1, kAug3_0, kAug3_1, kAug2_0, kAug_0, kRes_0, kRes_1, kEnd2_0, kEnd2_1, kEnd_0, kEnd_1, kAny_0, kAny_1, kAny_2, kR1_0, kR2_0, kEn_0, kEn_1, kFor_0, kFor_1, kLc2_0, kLc2_1, kLc_0, kLc_1, kGG_0, kCh3_0, kCh3_1, kCh2_0, kCh2_1, kCh1_0, kCh1_1, kCh_0, kCh_1, kLRg_0, kLRh_0, kLRi_0, kMG_0, kDG2_0, kDG1_0, kDG1_1, kDG_0, kDG_1, kDI2_0, kDI2_1, kDI_0, kDI_1, kMP_0, kDP3_0, kDP3_1, kDP2_0, kDP2_1, kDP1_0, kDP1_1, kDP_0, kDP_1, kPar2_0, kPar2_1, kPar_0, gAdd, DL.gSub, gCmp, gLen, gMax, gMin, gInt, gList, gTuple, gApp, ix_l0, ix_l1, ix_l2, ix_t0, ix_t1, ix_t2, ix_t3, ix_tm2, ix_tm3, ix_tm4, gEq_int, gNe_int, eq_row_floor, eq_ring_floor, eq_floor_floor, eq_row_ring, eq_ring_ring, eq_floor_ring, eq_row_row, eq_ring_row, eq_floor_row, ne_row_floor, ne_ring_floor, ne_floor_floor, lim, ixN3_0, ixN3_1, ixN3_2, List.getElem?_cons_zero, List.getElem?_cons_succ, List.set_cons_zero, List.set_cons_succ, List.replicate_succ, List.replicate_zero, List.cons_append, List.nil_append, List.zipWith_cons_cons, List.zipWith_nil_left, List.zipWith_nil_right, List.length_cons, List.length_nil, Option.map_some, Option.map_none, Nat.reduceAdd, Nat.reduceSub, Nat.reduceLT, Nat.reduceLeDiff, Int.reduceAdd, Int.reduceLT, Int.reduceLE, Int.reduceNeg, Int.reduceSub, Int.reduceMul, Int.reduceEq, if_true, if_false, ite_true, ite_false, decide_true, decide_false, Bool.not_true, Bool.not_false, Bool.and_true, Bool.true_and, Bool.and_false, Bool.false_and, ↓reduceIte, F__law_rules, d__law_rules, Bd.d, hF]
theorem rules_ok {b : Bd} (h : b.ok 36) : F__law_rules [.fz b.d] = some (.ow (.l ((rulesOf b).map Ru.d)), [.fz b.d]) := by
  cases b with
  | row n => exact lineRules_ok (q := 0) (.inl ⟨rfl, rfl⟩) h.2
  | ring n => exact lineRules_ok (q := 0) (.inr ⟨rfl, rfl⟩) h.2
  | floor a c =>
    obtain ⟨h1, h2, h3, h4⟩ := h
    exact floorRules_ok (Nat.le_trans (Nat.le_mul_of_pos_right a h2) h3) (Nat.le_trans (Nat.le_mul_of_pos_left c h1) h3)
theorem rules_len {b : Bd} (h : b.ok 36) : (rulesOf b).length ≤ 6000 := by
  cases b with
  | row n =>
    have h1 := line_len (n / 3)
    have h2 := h.2
    show (lineRules (n / 3)).length ≤ _
    omega
  | ring n =>
    have h1 := line_len (n / 5)
    have h2 := h.2
    show (lineRules (n / 5)).length ≤ _
    omega
  | floor a c =>
    obtain ⟨h1, h2, h3, h4⟩ := h
    have ha : a ≤ 36 := Nat.le_trans (Nat.le_mul_of_pos_right a h2) h3
    have hc : c ≤ 36 := Nat.le_trans (Nat.le_mul_of_pos_left c h1) h3
    have w1 := floor_len a c a
    have w2 : a * (c * 4) ≤ 36 * (36 * 4) := Nat.mul_le_mul ha (by omega)
    show (floorRules a c a).length ≤ _
    omega
/-! ### books -/
def BkOk (b : Bd) (bk : List Ru) : Prop := 1 ≤ bk.length ∧ bk.length ≤ 4 ∧ bk.Nodup ∧ ∀ r ∈ bk, r.fits b
theorem book_ok {n : Nat} {pot : List D} {b : Bd} (h : PotOk n pot) (hb : b.ok 36) (hn : n ≤ 2 ^ 50) :
    ∃ (bk : List Ru) (pot' : List D), F__law_book [.rf (.l pot), .fz b.d] = some (.fz (.tup (bk.map Ru.d)), [.rf (.l pot'), .fz b.d]) ∧ BkOk b bk ∧ PotOk (n + 10) pot' := by
  obtain ⟨r1, p1, e1, a1, b1, k1⟩ := dip_ok (m := 4) h (by decide) (by decide) (by omega)
  have hne := rules_some hb
  have hrl := rules_len hb
  have hpos : 1 ≤ (rulesOf b).length := by
    rcases Nat.eq_zero_or_pos (rulesOf b).length with z | z
    · exact absurd (List.eq_nil_of_length_eq_zero z) hne
    · exact z
  obtain ⟨t, ht, ht1, ht2, ht3⟩ : ∃ t : Nat, (if 1 + r1 < (((rulesOf b).map Ru.d).length : Nat) then 1 + r1 else (((rulesOf b).map Ru.d).length : Int)) = (t : Nat) ∧ 1 ≤ t ∧ t ≤ 4 ∧ t ≤ (rulesOf b).length := by
    rw [List.length_map]
    split
    · exact ⟨(1 + r1).toNat, by omega, by omega, by omega, by omega⟩
    · exact ⟨(rulesOf b).length, rfl, hpos, by omega, Nat.le_refl _⟩
  have lp := forL_inv (h := gNm 4) (B := bDrop (dMt 3 (aFr (dMt 2 (aFr (fCall F__law_dip (aCons (eVar 0) (aFr (dCall gLen (aCons (eVar 2) aNil)) aNil))) aNil) gPopAt) aNil) gApp)) (xs := rangeD 0 t)
    (fun i ρ => ∃ (p : List D) (left found : List Ru) (x : Sl), ρ = [.rf (.l p), .fz b.d, .ow (.l (left.map Ru.d)), .ow (.l (found.map Ru.d)), x] ∧ kNR (some x) = true ∧ PotOk (n + 1 + i) p ∧ (found ++ left).Perm (rulesOf b) ∧ found.length = i)
    (fun i d ρ hd ⟨p, left, found, x, hρ, n1, hp, hperm, hlen⟩ => by
      obtain ⟨hi, rfl⟩ := rangeD_get0 hd
      subst hρ
      have hll := hperm.length_eq
      rw [List.length_append] at hll
      obtain ⟨r, p2, e2, a2, b2, k2⟩ := dip_ok (m := (left.length : Nat)) hp (by omega) (by omega) (by omega)
      have hr : r.toNat < left.length := by omega
      have hg := List.getElem?_eq_getElem hr
      have e3 : gPopAt (left.map Ru.d) [.int r] = some ((left[r.toNat]).d, (left.eraseIdx r.toNat).map Ru.d) := by
        rw [pop_ok a2 (by omega) (by rw [List.getElem?_map, hg]; rfl), erase_map]
      have fl : found.length ≤ 1000000 := by omega
      refine ⟨[.rf (.l p), .fz b.d, .ow (.l (left.map Ru.d)), .ow (.l (found.map Ru.d)), .fz (.int (i : Nat))], [.rf (.l p2), .fz b.d, .ow (.l ((left.eraseIdx r.toNat).map Ru.d)), .ow (.l ((found ++ [left[r.toNat]]).map Ru.d)), .fz (.int (i : Nat))], by simp only [wipeD, restD, allFz, eVar_e, eC_e, rd_fz, rd_ow, rd_bw, fr_fz, fr_ow, fr_bw, dFr_e, dOp2_e, dTst_e, dAnd_e, dOr_e, dNot_e, dIfE_e, dAndV_e, dOrV_e, dNotV_e, dYes_e, aNil_e, aCons_e, aFr_e, rds_nil, rds_cons, dCall_e, eTup_e, eLst_e, dsOf_nil, dsOf_fz, fCall_e, bSeq_e, bNext_e, bBreak_e, bCont_e, bRetN_e, bDrop_e, bRet_e, bIf_e, to_fz, to_ow, to_bw, notRf_e, bAsg_e, gNm_e, gsNil_e, gsCons_e, gTp_e, bUnp_e, dMt_e, held_ow, held_rf, putS_e, dM1_e, dIsi_e, oSome_e, oNo_e, dSl_e, dNeg_e, bSetIx_e, bAug_e, res_fz, res_ow, res_bw, runF_e, fin_nil, fin_nil1, fin_rf, fin_fz, iAny_e, iRange1_e, iRange2_e, iEnumD_e, dChain_e, dLRg1_e, dLRg2_e, heldM_ow, heldM_rf, eDict_e, dDGet_e, dDIn_e, bDPut_e, bPar_e, nc0, nc1, nc2, nc3, nc4, nc5, nc6, nc7, nc8, nc9, nc36, kVar_0, kVar_1, kVar_2, kRd_0, kRd_1, kRd_2, kFr_0, kFr_1, kDFr_0, kDFr_1, kZ_0, kZ_1, kOp3_0, kOp2_0, kOp2_1, kOp_0, kOp_1, kTst_0, kAnd_0, kAnd_1, kAnd_2, kOr_0, kOr_1, kOr_2, kNot_0, kNot_1, kIfE_0, kIfE_1, kIfE_2, kAndV_0, kAndV_1, kOrV_0, kOrV_1, kNotV_0, kAC2_0, kAC2_1, kAC_0, kAC_1, kAF_0, kAF_1, kRds_0, kCall2_0, kCall2_1, kCall_0, kCall_1, kTup2_0, kTup2_1, kTup_0, kTup_1, kLst2_0, kLst2_1, kLst_0, kLst_1, kFCo_0, kFCo_1, kFCr_0, kFCr_1, kFCf_0, kFCf_1, kFC2_0, kFC2_1, kFC3_0, kFC3_1, kFC1_0, kFC1_1, kFC1_2, kFC_0, kFC_1, kSeq_0, kSeq_1, kSeq_2, kSeq_3, kSeq_4, kSeq_5, kDrop_0, kDrop_1, kRet_0, kRet_1, kIf_0, kIf_1, kIf_2, kTo_0, kTo_1, kNR_0, kNR_1, kNR_2, kNR_3, kNR_4, kNR_5, kAsg3_0, kAsg3_1, kAsg2_0, kAsg2_1, kAsg_0, kAsg_1, kGN_0, kGN_1, kGC_0, kGC_1, kUn2_0, kUn2_1, kUn_0, kUn_1, kMt4_0, kMt4_1, kMt3_0, kMt2_0, kMt2_1, kMt_0, kMt_1, kPut_0, kPut_1, kPut_2, kPut_3, kPut_4, kPut_5, kM12_0, kM12_1, kM11_0, kM11_1, kM1_0, kIsi3_0, kIsi3_1, kIsi2_0, kIsi2_1, kIsi_0, kIsi_1, kOSo_0, kSl4_0, kSl4_1, kSl3_0, kSl3_1, kSl2_0, kSl2_1, kSl_0, kSl_1, kNeg_0, kSX3_0, kSX3_1, kSX2_0, kSX2_1, kSX1_0, kSX0_0, kSX0_1, kSX_0, kSX_1, kAug3_0, kAug3_1, kAug2_0, kAug_0, kRes_0, kRes_1, kEnd2_0, kEnd2_1, kEnd_0, kEnd_1, kAny_0, kAny_1, kAny_2, kR1_0, kR2_0, kEn_0, kEn_1, kFor_0, kFor_1, kLc2_0, kLc2_1, kLc_0, kLc_1, kGG_0, kCh3_0, kCh3_1, kCh2_0, kCh2_1, kCh1_0, kCh1_1, kCh_0, kCh_1, kLRg_0, kLRh_0, kLRi_0, kMG_0, kDG2_0, kDG1_0, kDG1_1, kDG_0, kDG_1, kDI2_0, kDI2_1, kDI_0, kDI_1, kMP_0, kDP3_0, kDP3_1, kDP2_0, kDP2_1, kDP1_0, kDP1_1, kDP_0, kDP_1, kPar2_0, kPar2_1, kPar_0, gAdd, DL.gSub, gCmp, gLen, gMax, gMin, gInt, gList, gTuple, gApp, ix_l0, ix_l1, ix_l2, ix_t0, ix_t1, ix_t2, ix_t3, ix_tm2, ix_tm3, ix_tm4, gEq_int, gNe_int, eq_row_floor, eq_ring_floor, eq_floor_floor, eq_row_ring, eq_ring_ring, eq_floor_ring, eq_row_row, eq_ring_row, eq_floor_row, ne_row_floor, ne_ring_floor, ne_floor_floor, lim, ixN3_0, ixN3_1, ixN3_2, List.getElem?_cons_zero, List.getElem?_cons_succ, List.set_cons_zero, List.set_cons_succ, List.replicate_succ, List.replicate_zero, List.cons_append, List.nil_append, List.zipWith_cons_cons, List.zipWith_nil_left, List.zipWith_nil_right, List.length_cons, List.length_nil, Option.map_some, Option.map_none, Nat.reduceAdd, Nat.reduceSub, Nat.reduceLT, Nat.reduceLeDiff, Int.reduceAdd, Int.reduceLT, Int.reduceLE, Int.reduceNeg, Int.reduceSub, Int.reduceMul, Int.reduceEq, if_true, if_false, ite_true, ite_false, decide_true, decide_false, Bool.not_true, Bool.not_false, Bool.and_true, Bool.true_and, Bool.and_false, Bool.false_and, ↓reduceIte, n1], .inl ?_, p2, left.eraseIdx r.toNat, found ++ [left[r.toNat]], _, rfl, rfl, k2, ?_, by rw [List.length_append, hlen]; rfl⟩
      · simp only [wipeD, restD, allFz, eVar_e, eC_e, rd_fz, rd_ow, rd_bw, fr_fz, fr_ow, fr_bw, dFr_e, dOp2_e, dTst_e, dAnd_e, dOr_e, dNot_e, dIfE_e, dAndV_e, dOrV_e, dNotV_e, dYes_e, aNil_e, aCons_e, aFr_e, rds_nil, rds_cons, dCall_e, eTup_e, eLst_e, dsOf_nil, dsOf_fz, fCall_e, bSeq_e, bNext_e, bBreak_e, bCont_e, bRetN_e, bDrop_e, bRet_e, bIf_e, to_fz, to_ow, to_bw, notRf_e, bAsg_e, gNm_e, gsNil_e, gsCons_e, gTp_e, bUnp_e, dMt_e, held_ow, held_rf, putS_e, dM1_e, dIsi_e, oSome_e, oNo_e, dSl_e, dNeg_e, bSetIx_e, bAug_e, res_fz, res_ow, res_bw, runF_e, fin_nil, fin_nil1, fin_rf, fin_fz, iAny_e, iRange1_e, iRange2_e, iEnumD_e, dChain_e, dLRg1_e, dLRg2_e, heldM_ow, heldM_rf, eDict_e, dDGet_e, dDIn_e, bDPut_e, bPar_e, nc0, nc1, nc2, nc3, nc4, nc5, nc6, nc7, nc8, nc9, nc36, kVar_0, kVar_1, kVar_2, kRd_0, kRd_1, kRd_2, kFr_0, kFr_1, kDFr_0, kDFr_1, kZ_0, kZ_1, kOp3_0, kOp2_0, kOp2_1, kOp_0, kOp_1, kTst_0, kAnd_0, kAnd_1, kAnd_2, kOr_0, kOr_1, kOr_2, kNot_0, kNot_1, kIfE_0, kIfE_1, kIfE_2, kAndV_0, kAndV_1, kOrV_0, kOrV_1, kNotV_0, kAC2_0, kAC2_1, kAC_0, kAC_1, kAF_0, kAF_1, kRds_0, kCall2_0, kCall2_1, kCall_0, kCall_1, kTup2_0, kTup2_1, kTup_0, kTup_1, kLst2_0, kLst2_1, kLst_0, kLst_1, kFCo_0, kFCo_1, kFCr_0, kFCr_1, kFCf_0, kFCf_1, kFC2_0, kFC2_1, kFC3_0, kFC3_1, kFC1_0, kFC1_1, kFC1_2, kFC_0, kFC_1, kSeq_0, kSeq_1, kSeq_2, kSeq_3, kSeq_4, kSeq_5, kDrop_0, kDrop_1, kRet_0, kRet_1, kIf_0, kIf_1, kIf_2, kTo_0, kTo_1, kNR_0, kNR_1, kNR_2, kNR_3, kNR_4, kNR_5, kAsg3_0, kAsg3_1, kAsg2_0, kAsg2_1, kAsg_0, kAsg_1, kGN_0, kGN_1, kGC_0, kGC_1, kUn2_0, kUn2_1, kUn_0, kUn_1, kMt4_0, kMt4_1, kMt3_0, kMt2_0, kMt2_1, kMt_0, kMt_1, kPut_0, kPut_1, kPut_2, kPut_3, kPut_4, kPut_5, kM12_0, kM12_1, kM11_0, kM11_1, kM1_0, kIsi3_0, kIsi3_1, kIsi2_0, kIsi2_1, kIsi_0, kIsi_1, kOSo_0, kSl4_0, kSl4_1, kSl3_0, kSl3_1, kSl2_0, kSl2_1, kSl_0, kSl_1, kNeg_0, kSX3_0, kSX3_1, kSX2_0, kSX2_1, kSX1_0, kSX0_0, kSX0_1, kSX_0, kSX_1, kAug3_0, kAug3_1, kAug2_0, kAug_0, kRes_0, kRes_1, kEnd2_0, kEnd2_1, kEnd_0, kEnd_1, kAny_0, kAny_1, kAny_2, kR1_0, kR2_0, kEn_0, kEn_1, kFor_0, kFor_1, kLc2_0, kLc2_1, kLc_0, kLc_1, kGG_0, kCh3_0, kCh3_1, kCh2_0, kCh2_1, kCh1_0, kCh1_1, kCh_0, kCh_1, kLRg_0, kLRh_0, kLRi_0, kMG_0, kDG2_0, kDG1_0, kDG1_1, kDG_0, kDG_1, kDI2_0, kDI2_1, kDI_0, kDI_1, kMP_0, kDP3_0, kDP3_1, kDP2_0, kDP2_1, kDP1_0, kDP1_1, kDP_0, kDP_1, kPar2_0, kPar2_1, kPar_0, gAdd, DL.gSub, gCmp, gLen, gMax, gMin, gInt, gList, gTuple, gApp, ix_l0, ix_l1, ix_l2, ix_t0, ix_t1, ix_t2, ix_t3, ix_tm2, ix_tm3, ix_tm4, gEq_int, gNe_int, eq_row_floor, eq_ring_floor, eq_floor_floor, eq_row_ring, eq_ring_ring, eq_floor_ring, eq_row_row, eq_ring_row, eq_floor_row, ne_row_floor, ne_ring_floor, ne_floor_floor, lim, ixN3_0, ixN3_1, ixN3_2, List.getElem?_cons_zero, List.getElem?_cons_succ, List.set_cons_zero, List.set_cons_succ, List.replicate_succ, List.replicate_zero, List.cons_append, List.nil_append, List.zipWith_cons_cons, List.zipWith_nil_left, List.zipWith_nil_right, List.length_cons, List.length_nil, Option.map_some, Option.map_none, Nat.reduceAdd, Nat.reduceSub, Nat.reduceLT, Nat.reduceLeDiff, Int.reduceAdd, Int.reduceLT, Int.reduceLE, Int.reduceNeg, Int.reduceSub, Int.reduceMul, Int.reduceEq, if_true, if_false, ite_true, ite_false, decide_true, decide_false, Bool.not_true, Bool.not_false, Bool.and_true, Bool.true_and, Bool.and_false, Bool.false_and, ↓reduceIte, List.length_map, e2, e3, fl, List.map_append, List.map_cons, List.map_nil]
      · rw [List.append_assoc]
        exact ((perm_pick hg).append_left found).trans hperm) (ρ := [.rf (.l p1), .fz b.d, .ow (.l ((rulesOf b).map Ru.d)), .ow (.l []), .un]) ⟨p1, rulesOf b, [], _, rfl, rfl, k1, by simp, rfl⟩
  obtain ⟨ρ', hf, p, left, found, x, rfl, _, hp, hperm, hlen⟩ := lp
  rw [rangeD_len] at hp hlen
  have hr := range1_ok (fa := aFr (dCall gMin (aCons (dCall gLen (aCons (eVar 2) aNil)) (aCons (dOp2 gAdd (eC (.int 1)) (fCall F__law_dip (aCons (eVar 0) (aFr (eC (.int 4)) aNil)))) aNil))) aNil) (n := t) (ρ := [.rf (.l pot), .fz b.d, .ow (.l ((rulesOf b).map Ru.d)), .ow (.l []), .un]) (ρ1 := [.rf (.l p1), .fz b.d, .ow (.l ((rulesOf b).map Ru.d)), .ow (.l []), .un]) (by simp only [wipeD, restD, allFz, eVar_e, eC_e, rd_fz, rd_ow, rd_bw, fr_fz, fr_ow, fr_bw, dFr_e, dOp2_e, dTst_e, dAnd_e, dOr_e, dNot_e, dIfE_e, dAndV_e, dOrV_e, dNotV_e, dYes_e, aNil_e, aCons_e, aFr_e, rds_nil, rds_cons, dCall_e, eTup_e, eLst_e, dsOf_nil, dsOf_fz, fCall_e, bSeq_e, bNext_e, bBreak_e, bCont_e, bRetN_e, bDrop_e, bRet_e, bIf_e, to_fz, to_ow, to_bw, notRf_e, bAsg_e, gNm_e, gsNil_e, gsCons_e, gTp_e, bUnp_e, dMt_e, held_ow, held_rf, putS_e, dM1_e, dIsi_e, oSome_e, oNo_e, dSl_e, dNeg_e, bSetIx_e, bAug_e, res_fz, res_ow, res_bw, runF_e, fin_nil, fin_nil1, fin_rf, fin_fz, iAny_e, iRange1_e, iRange2_e, iEnumD_e, dChain_e, dLRg1_e, dLRg2_e, heldM_ow, heldM_rf, eDict_e, dDGet_e, dDIn_e, bDPut_e, bPar_e, nc0, nc1, nc2, nc3, nc4, nc5, nc6, nc7, nc8, nc9, nc36, kVar_0, kVar_1, kVar_2, kRd_0, kRd_1, kRd_2, kFr_0, kFr_1, kDFr_0, kDFr_1, kZ_0, kZ_1, kOp3_0, kOp2_0, kOp2_1, kOp_0, kOp_1, kTst_0, kAnd_0, kAnd_1, kAnd_2, kOr_0, kOr_1, kOr_2, kNot_0, kNot_1, kIfE_0, kIfE_1, kIfE_2, kAndV_0, kAndV_1, kOrV_0, kOrV_1, kNotV_0, kAC2_0, kAC2_1, kAC_0, kAC_1, kAF_0, kAF_1, kRds_0, kCall2_0, kCall2_1, kCall_0, kCall_1, kTup2_0, kTup2_1, kTup_0, kTup_1, kLst2_0, kLst2_1, kLst_0, kLst_1, kFCo_0, kFCo_1, kFCr_0, kFCr_1, kFCf_0, kFCf_1, kFC2_0, kFC2_1, kFC3_0, kFC3_1, kFC1_0, kFC1_1, kFC1_2, kFC_0, kFC_1, kSeq_0, kSeq_1, kSeq_2, kSeq_3, kSeq_4, kSeq_5, kDrop_0, kDrop_1, kRet_0, kRet_1, kIf_0, kIf_1, kIf_2, kTo_0, kTo_1, kNR_0, kNR_1, kNR_2, kNR_3, kNR_4, kNR_5, kAsg3_0, kAsg3_1, kAsg2_0, kAsg2_1, kAsg_0, kAsg_1, kGN_0, kGN_1, kGC_0, kGC_1, kUn2_0, kUn2_1, kUn_0, kUn_1, kMt4_0, kMt4_1, kMt3_0, kMt2_0, kMt2_1, kMt_0, kMt_1, kPut_0, kPut_1, kPut_2, kPut_3, kPut_4, kPut_5, kM12_0, kM12_1, kM11_0, kM11_1, kM1_0, kIsi3_0, kIsi3_1, kIsi2_0, kIsi2_1, kIsi_0, kIsi_1, kOSo_0, kSl4_0, kSl4_1, kSl3_0, kSl3_1, kSl2_0, kSl2_1, kSl_0, kSl_1, kNeg_0, kSX3_0, kSX3_1, kSX2_0, kSX2_1, kSX1_0, kSX0_0, kSX0_1, kSX_0, kSX_1, kAug3_0, kAug3_1, kAug2_0, kAug_0, kRes_0, kRes_1, kEnd2_0, kEnd2_1, kEnd_0, kEnd_1, kAny_0, kAny_1, kAny_2, kR1_0, kR2_0, kEn_0, kEn_1, kFor_0, kFor_1, kLc2_0, kLc2_1, kLc_0, kLc_1, kGG_0, kCh3_0, kCh3_1, kCh2_0, kCh2_1, kCh1_0, kCh1_1, kCh_0, kCh_1, kLRg_0, kLRh_0, kLRi_0, kMG_0, kDG2_0, kDG1_0, kDG1_1, kDG_0, kDG_1, kDI2_0, kDI2_1, kDI_0, kDI_1, kMP_0, kDP3_0, kDP3_1, kDP2_0, kDP2_1, kDP1_0, kDP1_1, kDP_0, kDP_1, kPar2_0, kPar2_1, kPar_0, gAdd, DL.gSub, gCmp, gLen, gMax, gMin, gInt, gList, gTuple, gApp, ix_l0, ix_l1, ix_l2, ix_t0, ix_t1, ix_t2, ix_t3, ix_tm2, ix_tm3, ix_tm4, gEq_int, gNe_int, eq_row_floor, eq_ring_floor, eq_floor_floor, eq_row_ring, eq_ring_ring, eq_floor_ring, eq_row_row, eq_ring_row, eq_floor_row, ne_row_floor, ne_ring_floor, ne_floor_floor, lim, ixN3_0, ixN3_1, ixN3_2, List.getElem?_cons_zero, List.getElem?_cons_succ, List.set_cons_zero, List.set_cons_succ, List.replicate_succ, List.replicate_zero, List.cons_append, List.nil_append, List.zipWith_cons_cons, List.zipWith_nil_left, List.zipWith_nil_right, List.length_cons, List.length_nil, Option.map_some, Option.map_none, Nat.reduceAdd, Nat.reduceSub, Nat.reduceLT, Nat.reduceLeDiff, Int.reduceAdd, Int.reduceLT, Int.reduceLE, Int.reduceNeg, Int.reduceSub, Int.reduceMul, Int.reduceEq, if_true, if_false, ite_true, ite_false, decide_true, decide_false, Bool.not_true, Bool.not_false, Bool.and_true, Bool.true_and, Bool.and_false, Bool.false_and, ↓reduceIte, e1, ht]) (by omega)
  have hF := bFor_eq hr hf
  have hro := rules_ok hb
  refine ⟨found, p, ?_, ⟨by omega, by omega, ?_, ?_⟩, hp.more (by omega)⟩
  · simp only [wipeD, restD, allFz, eVar_e, eC_e, rd_fz, rd_ow, rd_bw, fr_fz, fr_ow, fr_bw, dFr_e, dOp2_e, dTst_e, dAnd_e, dOr_e, dNot_e, dIfE_e, dAndV_e, dOrV_e, dNotV_e, dYes_e, aNil_e, aCons_e, aFr_e, rds_nil, rds_cons, dCall_e, eTup_e, eLst_e, dsOf_nil, dsOf_fz, fCall_e, bSeq_e, bNext_e, bBreak_e, bCont_e, bRetN_e, bDrop_e, bRet_e, bIf_e, to_fz, to_ow, to_bw, notRf_e, bAsg_e, gNm_e, gsNil_e, gsCons_e, gTp_e, bUnp_e, dMt_e, held_ow, held_rf, putS_e, dM1_e, dIsi_e, oSome_e, oNo_e, dSl_e, dNeg_e, bSetIx_e, bAug_e, res_fz, res_ow, res_bw, runF_e, fin_nil, fin_nil1, fin_rf, fin_fz, iAny_e, iRange1_e, iRange2_e, iEnumD_e, dChain_e, dLRg1_e, dLRg2_e, heldM_ow, heldM_rf, eDict_e, dDGet_e, dDIn_e, bDPut_e, bPar_e, nc0, nc1, nc2, nc3, nc4, nc5, nc6, nc7, nc8, nc9, nc36, kVar_0, kVar_1, kVar_2, kRd_0, kRd_1, kRd_2, kFr_0, kFr_1, kDFr_0, kDFr_1, kZ_0, kZ_1, kOp3_0, kOp2_0, kOp2_1, kOp_0, kOp_1, kTst_0, kAnd_0, kAnd_1, kAnd_2, kOr_0, kOr_1, kOr_2, kNot_0, kNot_1, kIfE_0, kIfE_1, kIfE_2, kAndV_0, kAndV_1, kOrV_0, kOrV_1, kNotV_0, kAC2_0, kAC2_1, kAC_0, kAC_1, kAF_0, kAF_1, kRds_0, kCall2_0, kCall2_1, kCall_0, kCall_1, kTup2_0, kTup2_1, kTup_0, kTup_1, kLst2_0, kLst2_1, kLst_0, kLst_1, kFCo_0, kFCo_1, kFCr_0, kFCr_1, kFCf_0, kFCf_1, kFC2_0, kFC2_1, kFC3_0, kFC3_1, kFC1_0, kFC1_1, kFC1_2, kFC_0, kFC_1, kSeq_0, kSeq_1, kSeq_2, kSeq_3, kSeq_4, kSeq_5, kDrop_0, kDrop_1, kRet_0, kRet_1, kIf_0, kIf_1, kIf_2, kTo_0, kTo_1, kNR_0, kNR_1, kNR_2, kNR_3, kNR_4, kNR_5, kAsg3_0, kAsg3_1, kAsg2_0, kAsg2_1, kAsg_0, kAsg_1, kGN_0, kGN_1, kGC_0, kGC_1, kUn2_0, kUn2_1, kUn_0, kUn_1, kMt4_0, kMt4_1, kMt3_0, kMt2_0, kMt2_1, kMt_0, kMt_1, kPut_0, kPut_1, kPut_2, kPut_3, kPut_4, kPut_5, kM12_0, kM12_1, kM11_0, kM11_1, kM1_0, kIsi3_0, kIsi3_1, kIsi2_0, kIsi2_1, kIsi_0, kIsi_1, kOSo_0, kSl4_0, kSl4_1, kSl3_0, kSl3_1, kSl2_0, kSl2_1, kSl_0, kSl_1, kNeg_0, kSX3_0, kSX3_1, kSX2_0, kSX2_1, kSX1_0, kSX0_0, kSX0_1, kSX_0, kSX_1, kAug3_0, kAug3_1, kAug2_0, kAug_0, kRes_0, kRes_1, kEnd2_0, kEnd2_1, kEnd_0, kEnd_1, kAny_0, kAny_1, kAny_2, kR1_0, kR2_0, kEn_0, kEn_1, kFor_0, kFor_1, kLc2_0, kLc2_1, kLc_0, kLc_1, kGG_0, kCh3_0, kCh3_1, kCh2_0, kCh2_1, kCh1_0, kCh1_1, kCh_0, kCh_1, kLRg_0, kLRh_0, kLRi_0, kMG_0, kDG2_0, kDG1_0, kDG1_1, kDG_0, kDG_1, kDI2_0, kDI2_1, kDI_0, kDI_1, kMP_0, kDP3_0, kDP3_1, kDP2_0, kDP2_1, kDP1_0, kDP1_1, kDP_0, kDP_1, kPar2_0, kPar2_1, kPar_0, gAdd, DL.gSub, gCmp, gLen, gMax, gMin, gInt, gList, gTuple, gApp, ix_l0, ix_l1, ix_l2, ix_t0, ix_t1, ix_t2, ix_t3, ix_tm2, ix_tm3, ix_tm4, gEq_int, gNe_int, eq_row_floor, eq_ring_floor, eq_floor_floor, eq_row_ring, eq_ring_ring, eq_floor_ring, eq_row_row, eq_ring_row, eq_floor_row, ne_row_floor, ne_ring_floor, ne_floor_floor, lim, ixN3_0, ixN3_1, ixN3_2, List.getElem?_cons_zero, List.getElem?_cons_succ, List.set_cons_zero, List.set_cons_succ, List.replicate_succ, List.replicate_zero, List.cons_append, List.nil_append, List.zipWith_cons_cons, List.zipWith_nil_left, List.zipWith_nil_right, List.length_cons, List.length_nil, Option.map_some, Option.map_none, Nat.reduceAdd, Nat.reduceSub, Nat.reduceLT, Nat.reduceLeDiff, Int.reduceAdd, Int.reduceLT, Int.reduceLE, Int.reduceNeg, Int.reduceSub, Int.reduceMul, Int.reduceEq, if_true, if_false, ite_true, ite_false, decide_true, decide_false, Bool.not_true, Bool.not_false, Bool.and_true, Bool.true_and, Bool.and_false, Bool.false_and, ↓reduceIte, F__law_book, d__law_book, hro, hF, gTuple]
  · exact (List.nodup_append.mp (hperm.nodup_iff.mpr (rules_nodup b))).1
  · intro r hr
    exact mem_rules (hperm.mem_iff.mp (List.mem_append.mpr (.inl hr)))
end G
set_option Elab.async false
set_option linter.all false
set_option maxRecDepth 100000
set_option maxHeartbeats 1000000
set_option pp.maxSteps 1500
namespace DL
open PySem PySem.Spec L2
theorem gEq_bl (i j : Bool) : gEq (.bl i) (.bl j) = some (.fz (.bl (decide (i = j)))) := by
  have e : gEq (.bl i) (.bl j) = if (D.bl i).ok = true ∧ (D.bl j).ok = true then some (.fz (.bl ((D.bl i).eqv (.bl j)))) else none := rfl
  rw [e, if_pos ⟨ok_bl i, ok_bl j⟩, eqv_bl]
theorem cut1_3 (a b c : D) : gSl (.tup [a, b, c]) (some 1) none = some (.fz (.tup [b, c])) := rfl
theorem cut1_4 (a b c d : D) : gSl (.tup [a, b, c, d]) (some 1) none = some (.fz (.tup [b, c, d])) := rfl
theorem cutm_2 (a b : D) : gSl (.lst [a, b]) none (some (-1)) = some (.ow (.l [a])) := rfl
theorem cutm_3 (a b c : D) : gSl (.lst [a, b, c]) none (some (-1)) = some (.ow (.l [a, b])) := rfl
theorem ix_lm2 (a b : D) : gIx (.lst [a, b]) (.int (-1)) = some (.fz b) := rfl
theorem ix_lm3 (a b c : D) : gIx (.lst [a, b, c]) (.int (-1)) = some (.fz c) := rfl
theorem in_01 {c : Nat} (h : c ≤ 1) : gIn (.int (c : Nat)) (.tup [.int 0, .int 1]) = some (.fz (.bl true)) := by
  have e : gIn' (.int (c : Nat)) (.tup [.int 0, .int 1]) = some ((D.int 0).eqv (.int (c : Nat)) || ((D.int 1).eqv (.int (c : Nat)) || false)) := rfl
  unfold gIn
  rw [e, eqv_int, eqv_int]
  have : c = 0 ∨ c = 1 := by omega
  rcases this with rfl | rfl <;> rfl
end DL
namespace G
open PySem PySem.Spec L2 DL
abbrev manyD : Mu := .k (mergeD [] (([(.inr "swap", 3), (.inr "over", 4), (.inr "under", 4)] : List (Key × Int)).map fun p => (p.1, D.int p.2)))
theorem many_swap : mGet manyD (.str "swap") = some (some (.int 3)) := by rfl
theorem many_over : mGet manyD (.str "over") = some (some (.int 4)) := by rfl
theorem many_under : mGet manyD (.str "under") = some (some (.int 4)) := by rfl
theorem gAll_true (n : Nat) : gAll [.lst (List.replicate n (.bl true))] = some (.fz (.bl true)) := by
  have e : List.replicate n (D.bl true) = (List.replicate n true).map .bl := by rw [List.map_replicate]
  show (blsOf _).map _ = _
  rw [e, blsOf_map]
  simp
theorem ints_lc {b : D} {r : D} {m : Mu} {xs : List Int} (hx : xs.length ≤ 1000) :
    dLc (iAny (eVar 3)) (gNm 4) dYes (dIsi "int" (eVar 4)) [4] [.fz b, .fz r, .ow m, .ow (.l (xs.map .int)), .un] = some (.ow (.l (List.replicate xs.length (.bl true))), [.fz b, .fz r, .ow m, .fz (.lst (xs.map .int)), .un]) := by
  have lc := lcL_map (h := gNm 4) (fe := dIsi "int" (eVar 4)) (vs := [4]) (xs := xs.map .int) (ρ := [.fz b, .fz r, .ow m, .fz (.lst (xs.map .int)), .un]) (fun _ => .bl true) (by rw [List.length_map]; omega) fun d hd => by
    obtain ⟨i, hi, rfl⟩ := List.mem_map.mp hd
    refine ⟨[.fz b, .fz r, .ow m, .fz (.lst (xs.map .int)), .fz (.int i)], [.fz b, .fz r, .ow m, .fz (.lst (xs.map .int)), .fz (.int i)], rfl, ?_, rfl⟩
    simp only [wipeD, restD, allFz, eVar_e, eC_e, rd_fz, rd_ow, rd_bw, fr_fz, fr_ow, fr_bw, dFr_e, dOp2_e, dTst_e, dAnd_e, dOr_e, dNot_e, dIfE_e, dAndV_e, dOrV_e, dNotV_e, dYes_e, aNil_e, aCons_e, aFr_e, rds_nil, rds_cons, dCall_e, eTup_e, eLst_e, dsOf_nil, dsOf_fz, fCall_e, bSeq_e, bNext_e, bBreak_e, bCont_e, bRetN_e, bDrop_e, bRet_e, bIf_e, to_fz, to_ow, to_bw, notRf_e, bAsg_e, gNm_e, gsNil_e, gsCons_e, gTp_e, bUnp_e, dMt_e, held_ow, held_rf, putS_e, dM1_e, dIsi_e, oSome_e, oNo_e, dSl_e, dNeg_e, bSetIx_e, bAug_e, res_fz, res_ow, res_bw, runF_e, fin_nil, fin_nil1, fin_rf, fin_fz, iAny_e, iRange1_e, iRange2_e, iEnumD_e, dChain_e, dLRg1_e, dLRg2_e, heldM_ow, heldM_rf, eDict_e, dDGet_e, dDIn_e, bDPut_e, bPar_e, nc0, nc1, nc2, nc3, nc4, nc5, nc6, nc7, nc8, nc9, nc36, kVar_0, kVar_1, kVar_2, kRd_0, kRd_1, kRd_2, kFr_0, kFr_1, kDFr_0, kDFr_1, kZ_0, kZ_1, kOp3_0, kOp2_0, kOp2_1, kOp_0, kOp_1, kTst_0, kAnd_0, kAnd_1, kAnd_2, kOr_0, kOr_1, kOr_2, kNot_0, kNot_1, kIfE_0, kIfE_1, kIfE_2, kAndV_0, kAndV_1, kOrV_0, kOrV_1, kNotV_0, kAC2_0, kAC2_1, kAC_0, kAC_1, kAF_0, kAF_1, kRds_0, kCall2_0, kCall2_1, kCall_0, kCall_1, kTup2_0, kTup2_1, kTup_0, kTup_1, kLst2_0, kLst2_1, kLst_0, kLst_1, kFCo_0, kFCo_1, kFCr_0, kFCr_1, kFCf_0, kFCf_1, kFC2_0, kFC2_1, kFC3_0, kFC3_1, kFC1_0, kFC1_1, kFC1_2, kFC_0, kFC_1, kSeq_0, kSeq_1, kSeq_2, kSeq_3, kSeq_4, kSeq_5, kDrop_0, kDrop_1, kRet_0, kRet_1, kIf_0, kIf_1, kIf_2, kTo_0, kTo_1, kNR_0, kNR_1, kNR_2, kNR_3, kNR_4, kNR_5, kAsg3_0, kAsg3_1, kAsg2_0, kAsg2_1, kAsg_0, kAsg_1, kGN_0, kGN_1, kGC_0, kGC_1, kUn2_0, kUn2_1, kUn_0, kUn_1, kMt4_0, kMt4_1, kMt3_0, kMt2_0, kMt2_1, kMt_0, kMt_1, kPut_0, kPut_1, kPut_2, kPut_3, kPut_4, kPut_5, kM12_0, kM12_1, kM11_0, kM11_1, kM1_0, kIsi3_0, kIsi3_1, kIsi2_0, kIsi2_1, kIsi_0, kIsi_1, kOSo_0, kSl4_0, kSl4_1, kSl3_0, kSl3_1, kSl2_0, kSl2_1, kSl_0, kSl_1, kNeg_0, kSX3_0, kSX3_1, kSX2_0, kSX2_1, kSX1_0, kSX0_0, kSX0_1, kSX_0, kSX_1, kAug3_0, kAug3_1, kAug2_0, kAug_0, kRes_0, kRes_1, kEnd2_0, kEnd2_1, kEnd_0, kEnd_1, kAny_0, kAny_1, kAny_2, kR1_0, kR2_0, kEn_0, kEn_1, kFor_0, kFor_1, kLc2_0, kLc2_1, kLc_0, kLc_1, kGG_0, kCh3_0, kCh3_1, kCh2_0, kCh2_1, kCh1_0, kCh1_1, kCh_0, kCh_1, kLRg_0, kLRh_0, kLRi_0, kMG_0, kDG2_0, kDG1_0, kDG1_1, kDG_0, kDG_1, kDI2_0, kDI2_1, kDI_0, kDI_1, kMP_0, kDP3_0, kDP3_1, kDP2_0, kDP2_1, kDP1_0, kDP1_1, kDP_0, kDP_1, kPar2_0, kPar2_1, kPar_0, gAdd, DL.gSub, gCmp, gLen, gMax, gMin, gInt, gList, gTuple, gApp, ix_l0, ix_l1, ix_l2, ix_t0, ix_t1, ix_t2, ix_t3, ix_tm2, ix_tm3, ix_tm4, gEq_int, gNe_int, eq_row_floor, eq_ring_floor, eq_floor_floor, eq_row_ring, eq_ring_ring, eq_floor_ring, eq_row_row, eq_ring_row, eq_floor_row, ne_row_floor, ne_ring_floor, ne_floor_floor, lim, ixN3_0, ixN3_1, ixN3_2, List.getElem?_cons_zero, List.getElem?_cons_succ, List.set_cons_zero, List.set_cons_succ, List.replicate_succ, List.replicate_zero, List.cons_append, List.nil_append, List.zipWith_cons_cons, List.zipWith_nil_left, List.zipWith_nil_right, List.length_cons, List.length_nil, Option.map_some, Option.map_none, Nat.reduceAdd, Nat.reduceSub, Nat.reduceLT, Nat.reduceLeDiff, Int.reduceAdd, Int.reduceLT, Int.reduceLE, Int.reduceNeg, Int.reduceSub, Int.reduceMul, Int.reduceEq, if_true, if_false, ite_true, ite_false, decide_true, decide_false, Bool.not_true, Bool.not_false, Bool.and_true, Bool.true_and, Bool.and_false, Bool.false_and, ↓reduceIte, isb_ii]
  have hr : iAny (eVar 3) [.fz b, .fz r, .ow m, .ow (.l (xs.map .int)), .un] = some (xs.map .int, [.fz b, .fz r, .ow m, .fz (.lst (xs.map .int)), .un]) := by simp only [wipeD, restD, allFz, eVar_e, eC_e, rd_fz, rd_ow, rd_bw, fr_fz, fr_ow, fr_bw, dFr_e, dOp2_e, dTst_e, dAnd_e, dOr_e, dNot_e, dIfE_e, dAndV_e, dOrV_e, dNotV_e, dYes_e, aNil_e, aCons_e, aFr_e, rds_nil, rds_cons, dCall_e, eTup_e, eLst_e, dsOf_nil, dsOf_fz, fCall_e, bSeq_e, bNext_e, bBreak_e, bCont_e, bRetN_e, bDrop_e, bRet_e, bIf_e, to_fz, to_ow, to_bw, notRf_e, bAsg_e, gNm_e, gsNil_e, gsCons_e, gTp_e, bUnp_e, dMt_e, held_ow, held_rf, putS_e, dM1_e, dIsi_e, oSome_e, oNo_e, dSl_e, dNeg_e, bSetIx_e, bAug_e, res_fz, res_ow, res_bw, runF_e, fin_nil, fin_nil1, fin_rf, fin_fz, iAny_e, iRange1_e, iRange2_e, iEnumD_e, dChain_e, dLRg1_e, dLRg2_e, heldM_ow, heldM_rf, eDict_e, dDGet_e, dDIn_e, bDPut_e, bPar_e, nc0, nc1, nc2, nc3, nc4, nc5, nc6, nc7, nc8, nc9, nc36, kVar_0, kVar_1, kVar_2, kRd_0, kRd_1, kRd_2, kFr_0, kFr_1, kDFr_0, kDFr_1, kZ_0, kZ_1, kOp3_0, kOp2_0, kOp2_1, kOp_0, kOp_1, kTst_0, kAnd_0, kAnd_1, kAnd_2, kOr_0, kOr_1, kOr_2, kNot_0, kNot_1, kIfE_0, kIfE_1, kIfE_2, kAndV_0, kAndV_1, kOrV_0, kOrV_1, kNotV_0, kAC2_0, kAC2_1, kAC_0, kAC_1, kAF_0, kAF_1, kRds_0, kCall2_0, kCall2_1, kCall_0, kCall_1, kTup2_0, kTup2_1, kTup_0, kTup_1, kLst2_0, kLst2_1, kLst_0, kLst_1, kFCo_0, kFCo_1, kFCr_0, kFCr_1, kFCf_0, kFCf_1, kFC2_0, kFC2_1, kFC3_0, kFC3_1, kFC1_0, kFC1_1, kFC1_2, kFC_0, kFC_1, kSeq_0, kSeq_1, kSeq_2, kSeq_3, kSeq_4, kSeq_5, kDrop_0, kDrop_1, kRet_0, kRet_1, kIf_0, kIf_1, kIf_2, kTo_0, kTo_1, kNR_0, kNR_1, kNR_2, kNR_3, kNR_4, kNR_5, kAsg3_0, kAsg3_1, kAsg2_0, kAsg2_1, kAsg_0, kAsg_1, kGN_0, kGN_1, kGC_0, kGC_1, kUn2_0, kUn2_1, kUn_0, kUn_1, kMt4_0, kMt4_1, kMt3_0, kMt2_0, kMt2_1, kMt_0, kMt_1, kPut_0, kPut_1, kPut_2, kPut_3, kPut_4, kPut_5, kM12_0, kM12_1, kM11_0, kM11_1, kM1_0, kIsi3_0, kIsi3_1, kIsi2_0, kIsi2_1, kIsi_0, kIsi_1, kOSo_0, kSl4_0, kSl4_1, kSl3_0, kSl3_1, kSl2_0, kSl2_1, kSl_0, kSl_1, kNeg_0, kSX3_0, kSX3_1, kSX2_0, kSX2_1, kSX1_0, kSX0_0, kSX0_1, kSX_0, kSX_1, kAug3_0, kAug3_1, kAug2_0, kAug_0, kRes_0, kRes_1, kEnd2_0, kEnd2_1, kEnd_0, kEnd_1, kAny_0, kAny_1, kAny_2, kR1_0, kR2_0, kEn_0, kEn_1, kFor_0, kFor_1, kLc2_0, kLc2_1, kLc_0, kLc_1, kGG_0, kCh3_0, kCh3_1, kCh2_0, kCh2_1, kCh1_0, kCh1_1, kCh_0, kCh_1, kLRg_0, kLRh_0, kLRi_0, kMG_0, kDG2_0, kDG1_0, kDG1_1, kDG_0, kDG_1, kDI2_0, kDI2_1, kDI_0, kDI_1, kMP_0, kDP3_0, kDP3_1, kDP2_0, kDP2_1, kDP1_0, kDP1_1, kDP_0, kDP_1, kPar2_0, kPar2_1, kPar_0, gAdd, DL.gSub, gCmp, gLen, gMax, gMin, gInt, gList, gTuple, gApp, ix_l0, ix_l1, ix_l2, ix_t0, ix_t1, ix_t2, ix_t3, ix_tm2, ix_tm3, ix_tm4, gEq_int, gNe_int, eq_row_floor, eq_ring_floor, eq_floor_floor, eq_row_ring, eq_ring_ring, eq_floor_ring, eq_row_row, eq_ring_row, eq_floor_row, ne_row_floor, ne_ring_floor, ne_floor_floor, lim, ixN3_0, ixN3_1, ixN3_2, List.getElem?_cons_zero, List.getElem?_cons_succ, List.set_cons_zero, List.set_cons_succ, List.replicate_succ, List.replicate_zero, List.cons_append, List.nil_append, List.zipWith_cons_cons, List.zipWith_nil_left, List.zipWith_nil_right, List.length_cons, List.length_nil, Option.map_some, Option.map_none, Nat.reduceAdd, Nat.reduceSub, Nat.reduceLT, Nat.reduceLeDiff, Int.reduceAdd, Int.reduceLT, Int.reduceLE, Int.reduceNeg, Int.reduceSub, Int.reduceMul, Int.reduceEq, if_true, if_false, ite_true, ite_false, decide_true, decide_false, Bool.not_true, Bool.not_false, Bool.and_true, Bool.true_and, Bool.and_false, Bool.false_and, ↓reduceIte]
  have hd := dLc_eq (h := gNm 4) (ft := dYes) (fe := dIsi "int" (eVar 4)) (vs := [4]) hr lc
  rw [hd, List.map_const', List.length_map]
  rfl
theorem eq_swap : gEq (.str "swap") (.str "swap") = some (.fz (.bl true)) ∧ gEq (.str "over") (.str "swap") = some (.fz (.bl false)) ∧ gEq (.str "under") (.str "swap") = some (.fz (.bl false)) := ⟨rfl, rfl, rfl⟩
theorem eq_over : gEq (.str "swap") (.str "over") = some (.fz (.bl false)) ∧ gEq (.str "over") (.str "over") = some (.fz (.bl true)) ∧ gEq (.str "under") (.str "over") = some (.fz (.bl false)) := ⟨rfl, rfl, rfl⟩
theorem eq_under : gEq (.str "swap") (.str "under") = some (.fz (.bl false)) ∧ gEq (.str "over") (.str "under") = some (.fz (.bl false)) ∧ gEq (.str "under") (.str "under") = some (.fz (.bl true)) := ⟨rfl, rfl, rfl⟩
theorem ints2 (b r : D) (m : Mu) (x y : Int) : dLc (iAny (eVar 3)) (gNm 4) dYes (dIsi "int" (eVar 4)) [4] [.fz b, .fz r, .ow m, .ow (.l [.int x, .int y]), .un] = some (.ow (.l [.bl true, .bl true]), [.fz b, .fz r, .ow m, .fz (.lst [.int x, .int y]), .un]) := ints_lc (xs := [x, y]) (by simp)
theorem ints3 (b r : D) (m : Mu) (x y z : Int) : dLc (iAny (eVar 3)) (gNm 4) dYes (dIsi "int" (eVar 4)) [4] [.fz b, .fz r, .ow m, .ow (.l [.int x, .int y, .int z]), .un] = some (.ow (.l [.bl true, .bl true, .bl true]), [.fz b, .fz r, .ow m, .fz (.lst [.int x, .int y, .int z]), .un]) := ints_lc (xs := [x, y, z]) (by simp)
theorem all2 : gAll [.lst [.bl true, .bl true]] = some (.fz (.bl true)) := id rfl
theorem all3 : gAll [.lst [.bl true, .bl true, .bl true]] = some (.fz (.bl true)) := id rfl
theorem is_rule_ok {b : Bd} {r : Ru} (h : r.fits b) : F_is_rule [.fz b.d, .fz r.d] = some (.fz (.bl true), [.fz b.d, .fz r.d]) := by
  cases b with
  | row n =>
    cases r with
    | swap k c =>
      obtain ⟨hk, _, hc⟩ := h
      have c1 : (1 : Int) ≤ (k : Nat) := by omega
      simp only [wipeD, restD, allFz, eVar_e, eC_e, rd_fz, rd_ow, rd_bw, fr_fz, fr_ow, fr_bw, dFr_e, dOp2_e, dTst_e, dAnd_e, dOr_e, dNot_e, dIfE_e, dAndV_e, dOrV_e, dNotV_e, dYes_e, aNil_e, aCons_e, aFr_e, rds_nil, rds_cons, dCall_e, eTup_e, eLst_e, dsOf_nil, dsOf_fz, fCall_e, bSeq_e, bNext_e, bBreak_e, bCont_e, bRetN_e, bDrop_e, bRet_e, bIf_e, to_fz, to_ow, to_bw, notRf_e, bAsg_e, gNm_e, gsNil_e, gsCons_e, gTp_e, bUnp_e, dMt_e, held_ow, held_rf, putS_e, dM1_e, dIsi_e, oSome_e, oNo_e, dSl_e, dNeg_e, bSetIx_e, bAug_e, res_fz, res_ow, res_bw, runF_e, fin_nil, fin_nil1, fin_rf, fin_fz, iAny_e, iRange1_e, iRange2_e, iEnumD_e, dChain_e, dLRg1_e, dLRg2_e, heldM_ow, heldM_rf, eDict_e, dDGet_e, dDIn_e, bDPut_e, bPar_e, nc0, nc1, nc2, nc3, nc4, nc5, nc6, nc7, nc8, nc9, nc36, kVar_0, kVar_1, kVar_2, kRd_0, kRd_1, kRd_2, kFr_0, kFr_1, kDFr_0, kDFr_1, kZ_0, kZ_1, kOp3_0, kOp2_0, kOp2_1, kOp_0, kOp_1, kTst_0, kAnd_0, kAnd_1, kAnd_2, kOr_0, kOr_1, kOr_2, kNot_0, kNot_1, kIfE_0, kIfE_1, kIfE_2, kAndV_0, kAndV_1, kOrV_0, kOrV_1, kNotV_0, kAC2_0, kAC2_1, kAC_0, kAC_1, kAF_0, kAF_1, kRds_0, kCall2_0, kCall2_1, kCall_0, kCall_1, kTup2_0, kTup2_1, kTup_0, kTup_1, kLst2_0, kLst2_1, kLst_0, kLst_1, kFCo_0, kFCo_1, kFCr_0, kFCr_1, kFCf_0, kFCf_1, kFC2_0, kFC2_1, kFC3_0, kFC3_1, kFC1_0, kFC1_1, kFC1_2, kFC_0, kFC_1, kSeq_0, kSeq_1, kSeq_2, kSeq_3, kSeq_4, kSeq_5, kDrop_0, kDrop_1, kRet_0, kRet_1, kIf_0, kIf_1, kIf_2, kTo_0, kTo_1, kNR_0, kNR_1, kNR_2, kNR_3, kNR_4, kNR_5, kAsg3_0, kAsg3_1, kAsg2_0, kAsg2_1, kAsg_0, kAsg_1, kGN_0, kGN_1, kGC_0, kGC_1, kUn2_0, kUn2_1, kUn_0, kUn_1, kMt4_0, kMt4_1, kMt3_0, kMt2_0, kMt2_1, kMt_0, kMt_1, kPut_0, kPut_1, kPut_2, kPut_3, kPut_4, kPut_5, kM12_0, kM12_1, kM11_0, kM11_1, kM1_0, kIsi3_0, kIsi3_1, kIsi2_0, kIsi2_1, kIsi_0, kIsi_1, kOSo_0, kSl4_0, kSl4_1, kSl3_0, kSl3_1, kSl2_0, kSl2_1, kSl_0, kSl_1, kNeg_0, kSX3_0, kSX3_1, kSX2_0, kSX2_1, kSX1_0, kSX0_0, kSX0_1, kSX_0, kSX_1, kAug3_0, kAug3_1, kAug2_0, kAug_0, kRes_0, kRes_1, kEnd2_0, kEnd2_1, kEnd_0, kEnd_1, kAny_0, kAny_1, kAny_2, kR1_0, kR2_0, kEn_0, kEn_1, kFor_0, kFor_1, kLc2_0, kLc2_1, kLc_0, kLc_1, kGG_0, kCh3_0, kCh3_1, kCh2_0, kCh2_1, kCh1_0, kCh1_1, kCh_0, kCh_1, kLRg_0, kLRh_0, kLRi_0, kMG_0, kDG2_0, kDG1_0, kDG1_1, kDG_0, kDG_1, kDI2_0, kDI2_1, kDI_0, kDI_1, kMP_0, kDP3_0, kDP3_1, kDP2_0, kDP2_1, kDP1_0, kDP1_1, kDP_0, kDP_1, kPar2_0, kPar2_1, kPar_0, gAdd, DL.gSub, gCmp, gLen, gMax, gMin, gInt, gList, gTuple, gApp, ix_l0, ix_l1, ix_l2, ix_t0, ix_t1, ix_t2, ix_t3, ix_tm2, ix_tm3, ix_tm4, gEq_int, gNe_int, eq_row_floor, eq_ring_floor, eq_floor_floor, eq_row_ring, eq_ring_ring, eq_floor_ring, eq_row_row, eq_ring_row, eq_floor_row, ne_row_floor, ne_ring_floor, ne_floor_floor, lim, ixN3_0, ixN3_1, ixN3_2, List.getElem?_cons_zero, List.getElem?_cons_succ, List.set_cons_zero, List.set_cons_succ, List.replicate_succ, List.replicate_zero, List.cons_append, List.nil_append, List.zipWith_cons_cons, List.zipWith_nil_left, List.zipWith_nil_right, List.length_cons, List.length_nil, Option.map_some, Option.map_none, Nat.reduceAdd, Nat.reduceSub, Nat.reduceLT, Nat.reduceLeDiff, Int.reduceAdd, Int.reduceLT, Int.reduceLE, Int.reduceNeg, Int.reduceSub, Int.reduceMul, Int.reduceEq, if_true, if_false, ite_true, ite_false, decide_true, decide_false, Bool.not_true, Bool.not_false, Bool.and_true, Bool.true_and, Bool.and_false, Bool.false_and, ↓reduceIte, F_is_rule, d_is_rule, Bd.d, Ru.d, many_swap, Option.isSome_some, Bool.xor_true, Bool.not_true, gEq_bl, eq_swap.1, cut1_3, gList, ints2, all2, cutm_2, gMinL, intsOf, Option.map_some, leastI, ix_lm2, in_01 hc, c1, Bool.true_eq_false, Bool.false_eq_true]
    | over _ _ _ => cases h
    | under _ _ _ => cases h
  | ring n =>
    cases r with
    | swap k c =>
      obtain ⟨hk, _, hc⟩ := h
      have c1 : (1 : Int) ≤ (k : Nat) := by omega
      simp only [wipeD, restD, allFz, eVar_e, eC_e, rd_fz, rd_ow, rd_bw, fr_fz, fr_ow, fr_bw, dFr_e, dOp2_e, dTst_e, dAnd_e, dOr_e, dNot_e, dIfE_e, dAndV_e, dOrV_e, dNotV_e, dYes_e, aNil_e, aCons_e, aFr_e, rds_nil, rds_cons, dCall_e, eTup_e, eLst_e, dsOf_nil, dsOf_fz, fCall_e, bSeq_e, bNext_e, bBreak_e, bCont_e, bRetN_e, bDrop_e, bRet_e, bIf_e, to_fz, to_ow, to_bw, notRf_e, bAsg_e, gNm_e, gsNil_e, gsCons_e, gTp_e, bUnp_e, dMt_e, held_ow, held_rf, putS_e, dM1_e, dIsi_e, oSome_e, oNo_e, dSl_e, dNeg_e, bSetIx_e, bAug_e, res_fz, res_ow, res_bw, runF_e, fin_nil, fin_nil1, fin_rf, fin_fz, iAny_e, iRange1_e, iRange2_e, iEnumD_e, dChain_e, dLRg1_e, dLRg2_e, heldM_ow, heldM_rf, eDict_e, dDGet_e, dDIn_e, bDPut_e, bPar_e, nc0, nc1, nc2, nc3, nc4, nc5, nc6, nc7, nc8, nc9, nc36, kVar_0, kVar_1, kVar_2, kRd_0, kRd_1, kRd_2, kFr_0, kFr_1, kDFr_0, kDFr_1, kZ_0, kZ_1, kOp3_0, kOp2_0, kOp2_1, kOp_0, kOp_1, kTst_0, kAnd_0, kAnd_1, kAnd_2, kOr_0, kOr_1, kOr_2, kNot_0, kNot_1, kIfE_0, kIfE_1, kIfE_2, kAndV_0, kAndV_1, kOrV_0, kOrV_1, kNotV_0, kAC2_0, kAC2_1, kAC_0, kAC_1, kAF_0, kAF_1, kRds_0, kCall2_0, kCall2_1, kCall_0, kCall_1, kTup2_0, kTup2_1, kTup_0, kTup_1, kLst2_0, kLst2_1, kLst_0, kLst_1, kFCo_0, kFCo_1, kFCr_0, kFCr_1, kFCf_0, kFCf_1, kFC2_0, kFC2_1, kFC3_0, kFC3_1, kFC1_0, kFC1_1, kFC1_2, kFC_0, kFC_1, kSeq_0, kSeq_1, kSeq_2, kSeq_3, kSeq_4, kSeq_5, kDrop_0, kDrop_1, kRet_0, kRet_1, kIf_0, kIf_1, kIf_2, kTo_0, kTo_1, kNR_0, kNR_1, kNR_2, kNR_3, kNR_4, kNR_5, kAsg3_0, kAsg3_1, kAsg2_0, kAsg2_1, kAsg_0, kAsg_1, kGN_0, kGN_1, kGC_0, kGC_1, kUn2_0, kUn2_1, kUn_0, kUn_1, kMt4_0, kMt4_1, kMt3_0, kMt2_0, kMt2_1, kMt_0, kMt_1, kPut_0, kPut_1, kPut_2, kPut_3, kPut_4, kPut_5, kM12_0, kM12_1, kM11_0, kM11_1, kM1_0, kIsi3_0, kIsi3_1, kIsi2_0, kIsi2_1, kIsi_0, kIsi_1, kOSo_0, kSl4_0, kSl4_1, kSl3_0, kSl3_1, kSl2_0, kSl2_1, kSl_0, kSl_1, kNeg_0, kSX3_0, kSX3_1, kSX2_0, kSX2_1, kSX1_0, kSX0_0, kSX0_1, kSX_0, kSX_1, kAug3_0, kAug3_1, kAug2_0, kAug_0, kRes_0, kRes_1, kEnd2_0, kEnd2_1, kEnd_0, kEnd_1, kAny_0, kAny_1, kAny_2, kR1_0, kR2_0, kEn_0, kEn_1, kFor_0, kFor_1, kLc2_0, kLc2_1, kLc_0, kLc_1, kGG_0, kCh3_0, kCh3_1, kCh2_0, kCh2_1, kCh1_0, kCh1_1, kCh_0, kCh_1, kLRg_0, kLRh_0, kLRi_0, kMG_0, kDG2_0, kDG1_0, kDG1_1, kDG_0, kDG_1, kDI2_0, kDI2_1, kDI_0, kDI_1, kMP_0, kDP3_0, kDP3_1, kDP2_0, kDP2_1, kDP1_0, kDP1_1, kDP_0, kDP_1, kPar2_0, kPar2_1, kPar_0, gAdd, DL.gSub, gCmp, gLen, gMax, gMin, gInt, gList, gTuple, gApp, ix_l0, ix_l1, ix_l2, ix_t0, ix_t1, ix_t2, ix_t3, ix_tm2, ix_tm3, ix_tm4, gEq_int, gNe_int, eq_row_floor, eq_ring_floor, eq_floor_floor, eq_row_ring, eq_ring_ring, eq_floor_ring, eq_row_row, eq_ring_row, eq_floor_row, ne_row_floor, ne_ring_floor, ne_floor_floor, lim, ixN3_0, ixN3_1, ixN3_2, List.getElem?_cons_zero, List.getElem?_cons_succ, List.set_cons_zero, List.set_cons_succ, List.replicate_succ, List.replicate_zero, List.cons_append, List.nil_append, List.zipWith_cons_cons, List.zipWith_nil_left, List.zipWith_nil_right, List.length_cons, List.length_nil, Option.map_some, Option.map_none, Nat.reduceAdd, Nat.reduceSub, Nat.reduceLT, Nat.reduceLeDiff, Int.reduceAdd, Int.reduceLT, Int.reduceLE, Int.reduceNeg, Int.reduceSub, Int.reduceMul, Int.reduceEq, if_true, if_false, ite_true, ite_false, decide_true, decide_false, Bool.not_true, Bool.not_false, Bool.and_true, Bool.true_and, Bool.and_false, Bool.false_and, ↓reduceIte, F_is_rule, d_is_rule, Bd.d, Ru.d, many_swap, Option.isSome_some, Bool.xor_true, Bool.not_true, gEq_bl, eq_swap.1, cut1_3, gList, ints2, all2, cutm_2, gMinL, intsOf, Option.map_some, leastI, ix_lm2, in_01 hc, c1, Bool.true_eq_false, Bool.false_eq_true]
    | over _ _ _ => cases h
    | under _ _ _ => cases h
  | floor H W =>
    cases r with
    | swap _ _ => cases h
    | over x y c =>
      obtain ⟨h1, h2, _, _, hc⟩ := h
      have c1 : (1 : Int) ≤ (if (y : Int) < (x : Nat) then ((y : Nat) : Int) else ((x : Nat) : Int)) := by split <;> omega
      simp only [wipeD, restD, allFz, eVar_e, eC_e, rd_fz, rd_ow, rd_bw, fr_fz, fr_ow, fr_bw, dFr_e, dOp2_e, dTst_e, dAnd_e, dOr_e, dNot_e, dIfE_e, dAndV_e, dOrV_e, dNotV_e, dYes_e, aNil_e, aCons_e, aFr_e, rds_nil, rds_cons, dCall_e, eTup_e, eLst_e, dsOf_nil, dsOf_fz, fCall_e, bSeq_e, bNext_e, bBreak_e, bCont_e, bRetN_e, bDrop_e, bRet_e, bIf_e, to_fz, to_ow, to_bw, notRf_e, bAsg_e, gNm_e, gsNil_e, gsCons_e, gTp_e, bUnp_e, dMt_e, held_ow, held_rf, putS_e, dM1_e, dIsi_e, oSome_e, oNo_e, dSl_e, dNeg_e, bSetIx_e, bAug_e, res_fz, res_ow, res_bw, runF_e, fin_nil, fin_nil1, fin_rf, fin_fz, iAny_e, iRange1_e, iRange2_e, iEnumD_e, dChain_e, dLRg1_e, dLRg2_e, heldM_ow, heldM_rf, eDict_e, dDGet_e, dDIn_e, bDPut_e, bPar_e, nc0, nc1, nc2, nc3, nc4, nc5, nc6, nc7, nc8, nc9, nc36, kVar_0, kVar_1, kVar_2, kRd_0, kRd_1, kRd_2, kFr_0, kFr_1, kDFr_0, kDFr_1, kZ_0, kZ_1, kOp3_0, kOp2_0, kOp2_1, kOp_0, kOp_1, kTst_0, kAnd_0, kAnd_1, kAnd_2, kOr_0, kOr_1, kOr_2, kNot_0, kNot_1, kIfE_0, kIfE_1, kIfE_2, kAndV_0, kAndV_1, kOrV_0, kOrV_1, kNotV_0, kAC2_0, kAC2_1, kAC_0, kAC_1, kAF_0, kAF_1, kRds_0, kCall2_0, kCall2_1, kCall_0, kCall_1, kTup2_0, kTup2_1, kTup_0, kTup_1, kLst2_0, kLst2_1, kLst_0, kLst_1, kFCo_0, kFCo_1, kFCr_0, kFCr_1, kFCf_0, kFCf_1, kFC2_0, kFC2_1, kFC3_0, kFC3_1, kFC1_0, kFC1_1, kFC1_2, kFC_0, kFC_1, kSeq_0, kSeq_1, kSeq_2, kSeq_3, kSeq_4, kSeq_5, kDrop_0, kDrop_1, kRet_0, kRet_1, kIf_0, kIf_1, kIf_2, kTo_0, kTo_1, kNR_0, kNR_1, kNR_2, kNR_3, kNR_4, kNR_5, kAsg3_0, kAsg3_1, kAsg2_0, kAsg2_1, kAsg_0, kAsg_1, kGN_0, kGN_1, kGC_0, kGC_1, kUn2_0, kUn2_1, kUn_0, kUn_1, kMt4_0, kMt4_1, kMt3_0, kMt2_0, kMt2_1, kMt_0, kMt_1, kPut_0, kPut_1, kPut_2, kPut_3, kPut_4, kPut_5, kM12_0, kM12_1, kM11_0, kM11_1, kM1_0, kIsi3_0, kIsi3_1, kIsi2_0, kIsi2_1, kIsi_0, kIsi_1, kOSo_0, kSl4_0, kSl4_1, kSl3_0, kSl3_1, kSl2_0, kSl2_1, kSl_0, kSl_1, kNeg_0, kSX3_0, kSX3_1, kSX2_0, kSX2_1, kSX1_0, kSX0_0, kSX0_1, kSX_0, kSX_1, kAug3_0, kAug3_1, kAug2_0, kAug_0, kRes_0, kRes_1, kEnd2_0, kEnd2_1, kEnd_0, kEnd_1, kAny_0, kAny_1, kAny_2, kR1_0, kR2_0, kEn_0, kEn_1, kFor_0, kFor_1, kLc2_0, kLc2_1, kLc_0, kLc_1, kGG_0, kCh3_0, kCh3_1, kCh2_0, kCh2_1, kCh1_0, kCh1_1, kCh_0, kCh_1, kLRg_0, kLRh_0, kLRi_0, kMG_0, kDG2_0, kDG1_0, kDG1_1, kDG_0, kDG_1, kDI2_0, kDI2_1, kDI_0, kDI_1, kMP_0, kDP3_0, kDP3_1, kDP2_0, kDP2_1, kDP1_0, kDP1_1, kDP_0, kDP_1, kPar2_0, kPar2_1, kPar_0, gAdd, DL.gSub, gCmp, gLen, gMax, gMin, gInt, gList, gTuple, gApp, ix_l0, ix_l1, ix_l2, ix_t0, ix_t1, ix_t2, ix_t3, ix_tm2, ix_tm3, ix_tm4, gEq_int, gNe_int, eq_row_floor, eq_ring_floor, eq_floor_floor, eq_row_ring, eq_ring_ring, eq_floor_ring, eq_row_row, eq_ring_row, eq_floor_row, ne_row_floor, ne_ring_floor, ne_floor_floor, lim, ixN3_0, ixN3_1, ixN3_2, List.getElem?_cons_zero, List.getElem?_cons_succ, List.set_cons_zero, List.set_cons_succ, List.replicate_succ, List.replicate_zero, List.cons_append, List.nil_append, List.zipWith_cons_cons, List.zipWith_nil_left, List.zipWith_nil_right, List.length_cons, List.length_nil, Option.map_some, Option.map_none, Nat.reduceAdd, Nat.reduceSub, Nat.reduceLT, Nat.reduceLeDiff, Int.reduceAdd, Int.reduceLT, Int.reduceLE, Int.reduceNeg, Int.reduceSub, Int.reduceMul, Int.reduceEq, if_true, if_false, ite_true, ite_false, decide_true, decide_false, Bool.not_true, Bool.not_false, Bool.and_true, Bool.true_and, Bool.and_false, Bool.false_and, ↓reduceIte, F_is_rule, d_is_rule, Bd.d, Ru.d, many_over, Option.isSome_some, Bool.xor_true, Bool.not_true, gEq_bl, eq_swap.2.1, cut1_4, gList, ints3, all3, cutm_3, gMinL, intsOf, Option.map_some, leastI, ix_lm3, in_01 hc, c1, Bool.true_eq_false, Bool.false_eq_true]
    | under x y c =>
      obtain ⟨h1, h2, _, _, hc⟩ := h
      have c1 : (1 : Int) ≤ (if (y : Int) < (x : Nat) then ((y : Nat) : Int) else ((x : Nat) : Int)) := by split <;> omega
      simp only [wipeD, restD, allFz, eVar_e, eC_e, rd_fz, rd_ow, rd_bw, fr_fz, fr_ow, fr_bw, dFr_e, dOp2_e, dTst_e, dAnd_e, dOr_e, dNot_e, dIfE_e, dAndV_e, dOrV_e, dNotV_e, dYes_e, aNil_e, aCons_e, aFr_e, rds_nil, rds_cons, dCall_e, eTup_e, eLst_e, dsOf_nil, dsOf_fz, fCall_e, bSeq_e, bNext_e, bBreak_e, bCont_e, bRetN_e, bDrop_e, bRet_e, bIf_e, to_fz, to_ow, to_bw, notRf_e, bAsg_e, gNm_e, gsNil_e, gsCons_e, gTp_e, bUnp_e, dMt_e, held_ow, held_rf, putS_e, dM1_e, dIsi_e, oSome_e, oNo_e, dSl_e, dNeg_e, bSetIx_e, bAug_e, res_fz, res_ow, res_bw, runF_e, fin_nil, fin_nil1, fin_rf, fin_fz, iAny_e, iRange1_e, iRange2_e, iEnumD_e, dChain_e, dLRg1_e, dLRg2_e, heldM_ow, heldM_rf, eDict_e, dDGet_e, dDIn_e, bDPut_e, bPar_e, nc0, nc1, nc2, nc3, nc4, nc5, nc6, nc7, nc8, nc9, nc36, kVar_0, kVar_1, kVar_2, kRd_0, kRd_1, kRd_2, kFr_0, kFr_1, kDFr_0, kDFr_1, kZ_0, kZ_1, kOp3_0, kOp2_0, kOp2_1, kOp_0, kOp_1, kTst_0, kAnd_0, kAnd_1, kAnd_2, kOr_0, kOr_1, kOr_2, kNot_0, kNot_1, kIfE_0, kIfE_1, kIfE_2, kAndV_0, kAndV_1, kOrV_0, kOrV_1, kNotV_0, kAC2_0, kAC2_1, kAC_0, kAC_1, kAF_0, kAF_1, kRds_0, kCall2_0, kCall2_1, kCall_0, kCall_1, kTup2_0, kTup2_1, kTup_0, kTup_1, kLst2_0, kLst2_1, kLst_0, kLst_1, kFCo_0, kFCo_1, kFCr_0, kFCr_1, kFCf_0, kFCf_1, kFC2_0, kFC2_1, kFC3_0, kFC3_1, kFC1_0, kFC1_1, kFC1_2, kFC_0, kFC_1, kSeq_0, kSeq_1, kSeq_2, kSeq_3, kSeq_4, kSeq_5, kDrop_0, kDrop_1, kRet_0, kRet_1, kIf_0, kIf_1, kIf_2, kTo_0, kTo_1, kNR_0, kNR_1, kNR_2, kNR_3, kNR_4, kNR_5, kAsg3_0, kAsg3_1, kAsg2_0, kAsg2_1, kAsg_0, kAsg_1, kGN_0, kGN_1, kGC_0, kGC_1, kUn2_0, kUn2_1, kUn_0, kUn_1, kMt4_0, kMt4_1, kMt3_0, kMt2_0, kMt2_1, kMt_0, kMt_1, kPut_0, kPut_1, kPut_2, kPut_3, kPut_4, kPut_5, kM12_0, kM12_1, kM11_0, kM11_1, kM1_0, kIsi3_0, kIsi3_1, kIsi2_0, kIsi2_1, kIsi_0, kIsi_1, kOSo_0, kSl4_0, kSl4_1, kSl3_0, kSl3_1, kSl2_0, kSl2_1, kSl_0, kSl_1, kNeg_0, kSX3_0, kSX3_1, kSX2_0, kSX2_1, kSX1_0, kSX0_0, kSX0_1, kSX_0, kSX_1, kAug3_0, kAug3_1, kAug2_0, kAug_0, kRes_0, kRes_1, kEnd2_0, kEnd2_1, kEnd_0, kEnd_1, kAny_0, kAny_1, kAny_2, kR1_0, kR2_0, kEn_0, kEn_1, kFor_0, kFor_1, kLc2_0, kLc2_1, kLc_0, kLc_1, kGG_0, kCh3_0, kCh3_1, kCh2_0, kCh2_1, kCh1_0, kCh1_1, kCh_0, kCh_1, kLRg_0, kLRh_0, kLRi_0, kMG_0, kDG2_0, kDG1_0, kDG1_1, kDG_0, kDG_1, kDI2_0, kDI2_1, kDI_0, kDI_1, kMP_0, kDP3_0, kDP3_1, kDP2_0, kDP2_1, kDP1_0, kDP1_1, kDP_0, kDP_1, kPar2_0, kPar2_1, kPar_0, gAdd, DL.gSub, gCmp, gLen, gMax, gMin, gInt, gList, gTuple, gApp, ix_l0, ix_l1, ix_l2, ix_t0, ix_t1, ix_t2, ix_t3, ix_tm2, ix_tm3, ix_tm4, gEq_int, gNe_int, eq_row_floor, eq_ring_floor, eq_floor_floor, eq_row_ring, eq_ring_ring, eq_floor_ring, eq_row_row, eq_ring_row, eq_floor_row, ne_row_floor, ne_ring_floor, ne_floor_floor, lim, ixN3_0, ixN3_1, ixN3_2, List.getElem?_cons_zero, List.getElem?_cons_succ, List.set_cons_zero, List.set_cons_succ, List.replicate_succ, List.replicate_zero, List.cons_append, List.nil_append, List.zipWith_cons_cons, List.zipWith_nil_left, List.zipWith_nil_right, List.length_cons, List.length_nil, Option.map_some, Option.map_none, Nat.reduceAdd, Nat.reduceSub, Nat.reduceLT, Nat.reduceLeDiff, Int.reduceAdd, Int.reduceLT, Int.reduceLE, Int.reduceNeg, Int.reduceSub, Int.reduceMul, Int.reduceEq, if_true, if_false, ite_true, ite_false, decide_true, decide_false, Bool.not_true, Bool.not_false, Bool.and_true, Bool.true_and, Bool.and_false, Bool.false_and, ↓reduceIte, F_is_rule, d_is_rule, Bd.d, Ru.d, many_under, Option.isSome_some, Bool.xor_true, Bool.not_true, gEq_bl, eq_swap.2.2, cut1_4, gList, ints3, all3, cutm_3, gMinL, intsOf, Option.map_some, leastI, ix_lm3, in_01 hc, c1, Bool.true_eq_false, Bool.false_eq_true]
end G
set_option Elab.async false
set_option linter.all false
set_option maxRecDepth 100000
set_option maxHeartbeats 1000000
set_option pp.maxSteps 1500
namespace DL
open PySem PySem.Spec L2
theorem cutD_to {α : Type} (xs : List α) {i : Nat} (h : i ≤ xs.length) : cutD xs none (some (i : Nat)) = xs.take i := by
  unfold cutD
  have e1 : HT.sIx xs.length xs.length (some ((i : Nat) : Int)) = i := by
    unfold HT.sIx
    simp only
    repeat' split
    all_goals omega
  have e0 : HT.sIx xs.length 0 none = 0 := rfl
  rw [e1, e0, List.drop_zero, Nat.sub_zero]
theorem cutD_all {α : Type} (xs : List α) {i : Nat} (h : xs.length ≤ i) : cutD xs none (some (i : Nat)) = xs := by
  unfold cutD
  have e1 : HT.sIx xs.length xs.length (some ((i : Nat) : Int)) = xs.length := by
    unfold HT.sIx
    simp only
    repeat' split
    all_goals omega
  have e0 : HT.sIx xs.length 0 none = 0 := rfl
  rw [e1, e0, List.drop_zero, Nat.sub_zero, List.take_length]
end DL
namespace G
open PySem PySem.Spec L2 DL
theorem rule_fits_ok {b : Bd} {r : Ru} {m : Nat} (hb : b.ok m) (hm : m ≤ 36) (h : r.fits b) : F_rule_fits [.fz b.d, .fz r.d] = some (.fz (.bl true), [.fz b.d, .fz r.d]) := by
  cases b with
  | row n =>
    cases r with
    | swap k c =>
      obtain ⟨hk, hn, hc⟩ := h
      have c1 : 3 * (k : Int) ≤ (n : Nat) := by omega
      have hn36 := hb.2
      simp only [wipeD, restD, allFz, eVar_e, eC_e, rd_fz, rd_ow, rd_bw, fr_fz, fr_ow, fr_bw, dFr_e, dOp2_e, dTst_e, dAnd_e, dOr_e, dNot_e, dIfE_e, dAndV_e, dOrV_e, dNotV_e, dYes_e, aNil_e, aCons_e, aFr_e, rds_nil, rds_cons, dCall_e, eTup_e, eLst_e, dsOf_nil, dsOf_fz, fCall_e, bSeq_e, bNext_e, bBreak_e, bCont_e, bRetN_e, bDrop_e, bRet_e, bIf_e, to_fz, to_ow, to_bw, notRf_e, bAsg_e, gNm_e, gsNil_e, gsCons_e, gTp_e, bUnp_e, dMt_e, held_ow, held_rf, putS_e, dM1_e, dIsi_e, oSome_e, oNo_e, dSl_e, dNeg_e, bSetIx_e, bAug_e, res_fz, res_ow, res_bw, runF_e, fin_nil, fin_nil1, fin_rf, fin_fz, iAny_e, iRange1_e, iRange2_e, iEnumD_e, dChain_e, dLRg1_e, dLRg2_e, heldM_ow, heldM_rf, eDict_e, dDGet_e, dDIn_e, bDPut_e, bPar_e, nc0, nc1, nc2, nc3, nc4, nc5, nc6, nc7, nc8, nc9, nc36, kVar_0, kVar_1, kVar_2, kRd_0, kRd_1, kRd_2, kFr_0, kFr_1, kDFr_0, kDFr_1, kZ_0, kZ_1, kOp3_0, kOp2_0, kOp2_1, kOp_0, kOp_1, kTst_0, kAnd_0, kAnd_1, kAnd_2, kOr_0, kOr_1, kOr_2, kNot_0, kNot_1, kIfE_0, kIfE_1, kIfE_2, kAndV_0, kAndV_1, kOrV_0, kOrV_1, kNotV_0, kAC2_0, kAC2_1, kAC_0, kAC_1, kAF_0, kAF_1, kRds_0, kCall2_0, kCall2_1, kCall_0, kCall_1, kTup2_0, kTup2_1, kTup_0, kTup_1, kLst2_0, kLst2_1, kLst_0, kLst_1, kFCo_0, kFCo_1, kFCr_0, kFCr_1, kFCf_0, kFCf_1, kFC2_0, kFC2_1, kFC3_0, kFC3_1, kFC1_0, kFC1_1, kFC1_2, kFC_0, kFC_1, kSeq_0, kSeq_1, kSeq_2, kSeq_3, kSeq_4, kSeq_5, kDrop_0, kDrop_1, kRet_0, kRet_1, kIf_0, kIf_1, kIf_2, kTo_0, kTo_1, kNR_0, kNR_1, kNR_2, kNR_3, kNR_4, kNR_5, kAsg3_0, kAsg3_1, kAsg2_0, kAsg2_1, kAsg_0, kAsg_1, kGN_0, kGN_1, kGC_0, kGC_1, kUn2_0, kUn2_1, kUn_0, kUn_1, kMt4_0, kMt4_1, kMt3_0, kMt2_0, kMt2_1, kMt_0, kMt_1, kPut_0, kPut_1, kPut_2, kPut_3, kPut_4, kPut_5, kM12_0, kM12_1, kM11_0, kM11_1, kM1_0, kIsi3_0, kIsi3_1, kIsi2_0, kIsi2_1, kIsi_0, kIsi_1, kOSo_0, kSl4_0, kSl4_1, kSl3_0, kSl3_1, kSl2_0, kSl2_1, kSl_0, kSl_1, kNeg_0, kSX3_0, kSX3_1, kSX2_0, kSX2_1, kSX1_0, kSX0_0, kSX0_1, kSX_0, kSX_1, kAug3_0, kAug3_1, kAug2_0, kAug_0, kRes_0, kRes_1, kEnd2_0, kEnd2_1, kEnd_0, kEnd_1, kAny_0, kAny_1, kAny_2, kR1_0, kR2_0, kEn_0, kEn_1, kFor_0, kFor_1, kLc2_0, kLc2_1, kLc_0, kLc_1, kGG_0, kCh3_0, kCh3_1, kCh2_0, kCh2_1, kCh1_0, kCh1_1, kCh_0, kCh_1, kLRg_0, kLRh_0, kLRi_0, kMG_0, kDG2_0, kDG1_0, kDG1_1, kDG_0, kDG_1, kDI2_0, kDI2_1, kDI_0, kDI_1, kMP_0, kDP3_0, kDP3_1, kDP2_0, kDP2_1, kDP1_0, kDP1_1, kDP_0, kDP_1, kPar2_0, kPar2_1, kPar_0, gAdd, DL.gSub, gCmp, gLen, gMax, gMin, gInt, gList, gTuple, gApp, ix_l0, ix_l1, ix_l2, ix_t0, ix_t1, ix_t2, ix_t3, ix_tm2, ix_tm3, ix_tm4, gEq_int, gNe_int, eq_row_floor, eq_ring_floor, eq_floor_floor, eq_row_ring, eq_ring_ring, eq_floor_ring, eq_row_row, eq_ring_row, eq_floor_row, ne_row_floor, ne_ring_floor, ne_floor_floor, lim, ixN3_0, ixN3_1, ixN3_2, List.getElem?_cons_zero, List.getElem?_cons_succ, List.set_cons_zero, List.set_cons_succ, List.replicate_succ, List.replicate_zero, List.cons_append, List.nil_append, List.zipWith_cons_cons, List.zipWith_nil_left, List.zipWith_nil_right, List.length_cons, List.length_nil, Option.map_some, Option.map_none, Nat.reduceAdd, Nat.reduceSub, Nat.reduceLT, Nat.reduceLeDiff, Int.reduceAdd, Int.reduceLT, Int.reduceLE, Int.reduceNeg, Int.reduceSub, Int.reduceMul, Int.reduceEq, if_true, if_false, ite_true, ite_false, decide_true, decide_false, Bool.not_true, Bool.not_false, Bool.and_true, Bool.true_and, Bool.and_false, Bool.false_and, ↓reduceIte, F_rule_fits, d_rule_fits, Bd.d, Ru.d, mul3 (show k ≤ 1000000 by omega), c1]
    | over _ _ _ => cases h
    | under _ _ _ => cases h
  | ring n =>
    cases r with
    | swap k c =>
      obtain ⟨hk, hn, hc⟩ := h
      have c1 : 5 * (k : Int) ≤ (n : Nat) := by omega
      have hn36 := hb.2
      simp only [wipeD, restD, allFz, eVar_e, eC_e, rd_fz, rd_ow, rd_bw, fr_fz, fr_ow, fr_bw, dFr_e, dOp2_e, dTst_e, dAnd_e, dOr_e, dNot_e, dIfE_e, dAndV_e, dOrV_e, dNotV_e, dYes_e, aNil_e, aCons_e, aFr_e, rds_nil, rds_cons, dCall_e, eTup_e, eLst_e, dsOf_nil, dsOf_fz, fCall_e, bSeq_e, bNext_e, bBreak_e, bCont_e, bRetN_e, bDrop_e, bRet_e, bIf_e, to_fz, to_ow, to_bw, notRf_e, bAsg_e, gNm_e, gsNil_e, gsCons_e, gTp_e, bUnp_e, dMt_e, held_ow, held_rf, putS_e, dM1_e, dIsi_e, oSome_e, oNo_e, dSl_e, dNeg_e, bSetIx_e, bAug_e, res_fz, res_ow, res_bw, runF_e, fin_nil, fin_nil1, fin_rf, fin_fz, iAny_e, iRange1_e, iRange2_e, iEnumD_e, dChain_e, dLRg1_e, dLRg2_e, heldM_ow, heldM_rf, eDict_e, dDGet_e, dDIn_e, bDPut_e, bPar_e, nc0, nc1, nc2, nc3, nc4, nc5, nc6, nc7, nc8, nc9, nc36, kVar_0, kVar_1, kVar_2, kRd_0, kRd_1, kRd_2, kFr_0, kFr_1, kDFr_0, kDFr_1, kZ_0, kZ_1, kOp3_0, kOp2_0, kOp2_1, kOp_0, kOp_1, kTst_0, kAnd_0, kAnd_1, kAnd_2, kOr_0, kOr_1, kOr_2, kNot_0, kNot_1, kIfE_0, kIfE_1, kIfE_2, kAndV_0, kAndV_1, kOrV_0, kOrV_1, kNotV_0, kAC2_0, kAC2_1, kAC_0, kAC_1, kAF_0, kAF_1, kRds_0, kCall2_0, kCall2_1, kCall_0, kCall_1, kTup2_0, kTup2_1, kTup_0, kTup_1, kLst2_0, kLst2_1, kLst_0, kLst_1, kFCo_0, kFCo_1, kFCr_0, kFCr_1, kFCf_0, kFCf_1, kFC2_0, kFC2_1, kFC3_0, kFC3_1, kFC1_0, kFC1_1, kFC1_2, kFC_0, kFC_1, kSeq_0, kSeq_1, kSeq_2, kSeq_3, kSeq_4, kSeq_5, kDrop_0, kDrop_1, kRet_0, kRet_1, kIf_0, kIf_1, kIf_2, kTo_0, kTo_1, kNR_0, kNR_1, kNR_2, kNR_3, kNR_4, kNR_5, kAsg3_0, kAsg3_1, kAsg2_0, kAsg2_1, kAsg_0, kAsg_1, kGN_0, kGN_1, kGC_0, kGC_1, kUn2_0, kUn2_1, kUn_0, kUn_1, kMt4_0, kMt4_1, kMt3_0, kMt2_0, kMt2_1, kMt_0, kMt_1, kPut_0, kPut_1, kPut_2, kPut_3, kPut_4, kPut_5, kM12_0, kM12_1, kM11_0, kM11_1, kM1_0, kIsi3_0, kIsi3_1, kIsi2_0, kIsi2_1, kIsi_0, kIsi_1, kOSo_0, kSl4_0, kSl4_1, kSl3_0, kSl3_1, kSl2_0, kSl2_1, kSl_0, kSl_1, kNeg_0, kSX3_0, kSX3_1, kSX2_0, kSX2_1, kSX1_0, kSX0_0, kSX0_1, kSX_0, kSX_1, kAug3_0, kAug3_1, kAug2_0, kAug_0, kRes_0, kRes_1, kEnd2_0, kEnd2_1, kEnd_0, kEnd_1, kAny_0, kAny_1, kAny_2, kR1_0, kR2_0, kEn_0, kEn_1, kFor_0, kFor_1, kLc2_0, kLc2_1, kLc_0, kLc_1, kGG_0, kCh3_0, kCh3_1, kCh2_0, kCh2_1, kCh1_0, kCh1_1, kCh_0, kCh_1, kLRg_0, kLRh_0, kLRi_0, kMG_0, kDG2_0, kDG1_0, kDG1_1, kDG_0, kDG_1, kDI2_0, kDI2_1, kDI_0, kDI_1, kMP_0, kDP3_0, kDP3_1, kDP2_0, kDP2_1, kDP1_0, kDP1_1, kDP_0, kDP_1, kPar2_0, kPar2_1, kPar_0, gAdd, DL.gSub, gCmp, gLen, gMax, gMin, gInt, gList, gTuple, gApp, ix_l0, ix_l1, ix_l2, ix_t0, ix_t1, ix_t2, ix_t3, ix_tm2, ix_tm3, ix_tm4, gEq_int, gNe_int, eq_row_floor, eq_ring_floor, eq_floor_floor, eq_row_ring, eq_ring_ring, eq_floor_ring, eq_row_row, eq_ring_row, eq_floor_row, ne_row_floor, ne_ring_floor, ne_floor_floor, lim, ixN3_0, ixN3_1, ixN3_2, List.getElem?_cons_zero, List.getElem?_cons_succ, List.set_cons_zero, List.set_cons_succ, List.replicate_succ, List.replicate_zero, List.cons_append, List.nil_append, List.zipWith_cons_cons, List.zipWith_nil_left, List.zipWith_nil_right, List.length_cons, List.length_nil, Option.map_some, Option.map_none, Nat.reduceAdd, Nat.reduceSub, Nat.reduceLT, Nat.reduceLeDiff, Int.reduceAdd, Int.reduceLT, Int.reduceLE, Int.reduceNeg, Int.reduceSub, Int.reduceMul, Int.reduceEq, if_true, if_false, ite_true, ite_false, decide_true, decide_false, Bool.not_true, Bool.not_false, Bool.and_true, Bool.true_and, Bool.and_false, Bool.false_and, ↓reduceIte, F_rule_fits, d_rule_fits, Bd.d, Ru.d, mul5 (show k ≤ 1000000 by omega), c1]
    | over _ _ _ => cases h
    | under _ _ _ => cases h
  | floor H W =>
    have h36 := hb.2.2.1
    have hH : H ≤ 36 := Nat.le_trans (Nat.le_trans (Nat.le_mul_of_pos_right H hb.2.1) h36) hm
    have hW : W ≤ 36 := Nat.le_trans (Nat.le_trans (Nat.le_mul_of_pos_left W hb.1) h36) hm
    cases r with
    | swap _ _ => cases h
    | over x y c =>
      obtain ⟨h1, h2, h3, h4, hc⟩ := h
      have c1 : 3 * (y : Int) ≤ (W : Nat) := by omega
      have c2 : 2 * (x : Int) - 1 ≤ (H : Nat) := by omega
      simp only [wipeD, restD, allFz, eVar_e, eC_e, rd_fz, rd_ow, rd_bw, fr_fz, fr_ow, fr_bw, dFr_e, dOp2_e, dTst_e, dAnd_e, dOr_e, dNot_e, dIfE_e, dAndV_e, dOrV_e, dNotV_e, dYes_e, aNil_e, aCons_e, aFr_e, rds_nil, rds_cons, dCall_e, eTup_e, eLst_e, dsOf_nil, dsOf_fz, fCall_e, bSeq_e, bNext_e, bBreak_e, bCont_e, bRetN_e, bDrop_e, bRet_e, bIf_e, to_fz, to_ow, to_bw, notRf_e, bAsg_e, gNm_e, gsNil_e, gsCons_e, gTp_e, bUnp_e, dMt_e, held_ow, held_rf, putS_e, dM1_e, dIsi_e, oSome_e, oNo_e, dSl_e, dNeg_e, bSetIx_e, bAug_e, res_fz, res_ow, res_bw, runF_e, fin_nil, fin_nil1, fin_rf, fin_fz, iAny_e, iRange1_e, iRange2_e, iEnumD_e, dChain_e, dLRg1_e, dLRg2_e, heldM_ow, heldM_rf, eDict_e, dDGet_e, dDIn_e, bDPut_e, bPar_e, nc0, nc1, nc2, nc3, nc4, nc5, nc6, nc7, nc8, nc9, nc36, kVar_0, kVar_1, kVar_2, kRd_0, kRd_1, kRd_2, kFr_0, kFr_1, kDFr_0, kDFr_1, kZ_0, kZ_1, kOp3_0, kOp2_0, kOp2_1, kOp_0, kOp_1, kTst_0, kAnd_0, kAnd_1, kAnd_2, kOr_0, kOr_1, kOr_2, kNot_0, kNot_1, kIfE_0, kIfE_1, kIfE_2, kAndV_0, kAndV_1, kOrV_0, kOrV_1, kNotV_0, kAC2_0, kAC2_1, kAC_0, kAC_1, kAF_0, kAF_1, kRds_0, kCall2_0, kCall2_1, kCall_0, kCall_1, kTup2_0, kTup2_1, kTup_0, kTup_1, kLst2_0, kLst2_1, kLst_0, kLst_1, kFCo_0, kFCo_1, kFCr_0, kFCr_1, kFCf_0, kFCf_1, kFC2_0, kFC2_1, kFC3_0, kFC3_1, kFC1_0, kFC1_1, kFC1_2, kFC_0, kFC_1, kSeq_0, kSeq_1, kSeq_2, kSeq_3, kSeq_4, kSeq_5, kDrop_0, kDrop_1, kRet_0, kRet_1, kIf_0, kIf_1, kIf_2, kTo_0, kTo_1, kNR_0, kNR_1, kNR_2, kNR_3, kNR_4, kNR_5, kAsg3_0, kAsg3_1, kAsg2_0, kAsg2_1, kAsg_0, kAsg_1, kGN_0, kGN_1, kGC_0, kGC_1, kUn2_0, kUn2_1, kUn_0, kUn_1, kMt4_0, kMt4_1, kMt3_0, kMt2_0, kMt2_1, kMt_0, kMt_1, kPut_0, kPut_1, kPut_2, kPut_3, kPut_4, kPut_5, kM12_0, kM12_1, kM11_0, kM11_1, kM1_0, kIsi3_0, kIsi3_1, kIsi2_0, kIsi2_1, kIsi_0, kIsi_1, kOSo_0, kSl4_0, kSl4_1, kSl3_0, kSl3_1, kSl2_0, kSl2_1, kSl_0, kSl_1, kNeg_0, kSX3_0, kSX3_1, kSX2_0, kSX2_1, kSX1_0, kSX0_0, kSX0_1, kSX_0, kSX_1, kAug3_0, kAug3_1, kAug2_0, kAug_0, kRes_0, kRes_1, kEnd2_0, kEnd2_1, kEnd_0, kEnd_1, kAny_0, kAny_1, kAny_2, kR1_0, kR2_0, kEn_0, kEn_1, kFor_0, kFor_1, kLc2_0, kLc2_1, kLc_0, kLc_1, kGG_0, kCh3_0, kCh3_1, kCh2_0, kCh2_1, kCh1_0, kCh1_1, kCh_0, kCh_1, kLRg_0, kLRh_0, kLRi_0, kMG_0, kDG2_0, kDG1_0, kDG1_1, kDG_0, kDG_1, kDI2_0, kDI2_1, kDI_0, kDI_1, kMP_0, kDP3_0, kDP3_1, kDP2_0, kDP2_1, kDP1_0, kDP1_1, kDP_0, kDP_1, kPar2_0, kPar2_1, kPar_0, gAdd, DL.gSub, gCmp, gLen, gMax, gMin, gInt, gList, gTuple, gApp, ix_l0, ix_l1, ix_l2, ix_t0, ix_t1, ix_t2, ix_t3, ix_tm2, ix_tm3, ix_tm4, gEq_int, gNe_int, eq_row_floor, eq_ring_floor, eq_floor_floor, eq_row_ring, eq_ring_ring, eq_floor_ring, eq_row_row, eq_ring_row, eq_floor_row, ne_row_floor, ne_ring_floor, ne_floor_floor, lim, ixN3_0, ixN3_1, ixN3_2, List.getElem?_cons_zero, List.getElem?_cons_succ, List.set_cons_zero, List.set_cons_succ, List.replicate_succ, List.replicate_zero, List.cons_append, List.nil_append, List.zipWith_cons_cons, List.zipWith_nil_left, List.zipWith_nil_right, List.length_cons, List.length_nil, Option.map_some, Option.map_none, Nat.reduceAdd, Nat.reduceSub, Nat.reduceLT, Nat.reduceLeDiff, Int.reduceAdd, Int.reduceLT, Int.reduceLE, Int.reduceNeg, Int.reduceSub, Int.reduceMul, Int.reduceEq, if_true, if_false, ite_true, ite_false, decide_true, decide_false, Bool.not_true, Bool.not_false, Bool.and_true, Bool.true_and, Bool.and_false, Bool.false_and, ↓reduceIte, F_rule_fits, d_rule_fits, Bd.d, Ru.d, mul3 (show y ≤ 1000000 by omega), mul2 (show x ≤ 1000000 by omega), c1, c2, cut1_3, eq_over.2.1, eq_floor_row, eq_floor_ring]
    | under x y c =>
      obtain ⟨h1, h2, h3, h4, hc⟩ := h
      have c1 : 3 * (x : Int) ≤ (H : Nat) := by omega
      have c2 : 2 * (y : Int) - 1 ≤ (W : Nat) := by omega
      simp only [wipeD, restD, allFz, eVar_e, eC_e, rd_fz, rd_ow, rd_bw, fr_fz, fr_ow, fr_bw, dFr_e, dOp2_e, dTst_e, dAnd_e, dOr_e, dNot_e, dIfE_e, dAndV_e, dOrV_e, dNotV_e, dYes_e, aNil_e, aCons_e, aFr_e, rds_nil, rds_cons, dCall_e, eTup_e, eLst_e, dsOf_nil, dsOf_fz, fCall_e, bSeq_e, bNext_e, bBreak_e, bCont_e, bRetN_e, bDrop_e, bRet_e, bIf_e, to_fz, to_ow, to_bw, notRf_e, bAsg_e, gNm_e, gsNil_e, gsCons_e, gTp_e, bUnp_e, dMt_e, held_ow, held_rf, putS_e, dM1_e, dIsi_e, oSome_e, oNo_e, dSl_e, dNeg_e, bSetIx_e, bAug_e, res_fz, res_ow, res_bw, runF_e, fin_nil, fin_nil1, fin_rf, fin_fz, iAny_e, iRange1_e, iRange2_e, iEnumD_e, dChain_e, dLRg1_e, dLRg2_e, heldM_ow, heldM_rf, eDict_e, dDGet_e, dDIn_e, bDPut_e, bPar_e, nc0, nc1, nc2, nc3, nc4, nc5, nc6, nc7, nc8, nc9, nc36, kVar_0, kVar_1, kVar_2, kRd_0, kRd_1, kRd_2, kFr_0, kFr_1, kDFr_0, kDFr_1, kZ_0, kZ_1, kOp3_0, kOp2_0, kOp2_1, kOp_0, kOp_1, kTst_0, kAnd_0, kAnd_1, kAnd_2, kOr_0, kOr_1, kOr_2, kNot_0, kNot_1, kIfE_0, kIfE_1, kIfE_2, kAndV_0, kAndV_1, kOrV_0, kOrV_1, kNotV_0, kAC2_0, kAC2_1, kAC_0, kAC_1, kAF_0, kAF_1, kRds_0, kCall2_0, kCall2_1, kCall_0, kCall_1, kTup2_0, kTup2_1, kTup_0, kTup_1, kLst2_0, kLst2_1, kLst_0, kLst_1, kFCo_0, kFCo_1, kFCr_0, kFCr_1, kFCf_0, kFCf_1, kFC2_0, kFC2_1, kFC3_0, kFC3_1, kFC1_0, kFC1_1, kFC1_2, kFC_0, kFC_1, kSeq_0, kSeq_1, kSeq_2, kSeq_3, kSeq_4, kSeq_5, kDrop_0, kDrop_1, kRet_0, kRet_1, kIf_0, kIf_1, kIf_2, kTo_0, kTo_1, kNR_0, kNR_1, kNR_2, kNR_3, kNR_4, kNR_5, kAsg3_0, kAsg3_1, kAsg2_0, kAsg2_1, kAsg_0, kAsg_1, kGN_0, kGN_1, kGC_0, kGC_1, kUn2_0, kUn2_1, kUn_0, kUn_1, kMt4_0, kMt4_1, kMt3_0, kMt2_0, kMt2_1, kMt_0, kMt_1, kPut_0, kPut_1, kPut_2, kPut_3, kPut_4, kPut_5, kM12_0, kM12_1, kM11_0, kM11_1, kM1_0, kIsi3_0, kIsi3_1, kIsi2_0, kIsi2_1, kIsi_0, kIsi_1, kOSo_0, kSl4_0, kSl4_1, kSl3_0, kSl3_1, kSl2_0, kSl2_1, kSl_0, kSl_1, kNeg_0, kSX3_0, kSX3_1, kSX2_0, kSX2_1, kSX1_0, kSX0_0, kSX0_1, kSX_0, kSX_1, kAug3_0, kAug3_1, kAug2_0, kAug_0, kRes_0, kRes_1, kEnd2_0, kEnd2_1, kEnd_0, kEnd_1, kAny_0, kAny_1, kAny_2, kR1_0, kR2_0, kEn_0, kEn_1, kFor_0, kFor_1, kLc2_0, kLc2_1, kLc_0, kLc_1, kGG_0, kCh3_0, kCh3_1, kCh2_0, kCh2_1, kCh1_0, kCh1_1, kCh_0, kCh_1, kLRg_0, kLRh_0, kLRi_0, kMG_0, kDG2_0, kDG1_0, kDG1_1, kDG_0, kDG_1, kDI2_0, kDI2_1, kDI_0, kDI_1, kMP_0, kDP3_0, kDP3_1, kDP2_0, kDP2_1, kDP1_0, kDP1_1, kDP_0, kDP_1, kPar2_0, kPar2_1, kPar_0, gAdd, DL.gSub, gCmp, gLen, gMax, gMin, gInt, gList, gTuple, gApp, ix_l0, ix_l1, ix_l2, ix_t0, ix_t1, ix_t2, ix_t3, ix_tm2, ix_tm3, ix_tm4, gEq_int, gNe_int, eq_row_floor, eq_ring_floor, eq_floor_floor, eq_row_ring, eq_ring_ring, eq_floor_ring, eq_row_row, eq_ring_row, eq_floor_row, ne_row_floor, ne_ring_floor, ne_floor_floor, lim, ixN3_0, ixN3_1, ixN3_2, List.getElem?_cons_zero, List.getElem?_cons_succ, List.set_cons_zero, List.set_cons_succ, List.replicate_succ, List.replicate_zero, List.cons_append, List.nil_append, List.zipWith_cons_cons, List.zipWith_nil_left, List.zipWith_nil_right, List.length_cons, List.length_nil, Option.map_some, Option.map_none, Nat.reduceAdd, Nat.reduceSub, Nat.reduceLT, Nat.reduceLeDiff, Int.reduceAdd, Int.reduceLT, Int.reduceLE, Int.reduceNeg, Int.reduceSub, Int.reduceMul, Int.reduceEq, if_true, if_false, ite_true, ite_false, decide_true, decide_false, Bool.not_true, Bool.not_false, Bool.and_true, Bool.true_and, Bool.and_false, Bool.false_and, ↓reduceIte, F_rule_fits, d_rule_fits, Bd.d, Ru.d, mul3 (show x ≤ 1000000 by omega), mul2 (show y ≤ 1000000 by omega), c1, c2, cut1_3, eq_over.2.2, eq_floor_row, eq_floor_ring]
/-! ### rules told apart -/
theorem ru_good (r : Ru) : Fit 1 r.d := by
  cases r with
  | swap k c =>
    refine .tup fun d hd => ?_
    simp only [List.mem_cons, List.not_mem_nil, or_false] at hd
    rcases hd with rfl | rfl | rfl
    · exact .str _ good_lit.2.2.2.1
    · exact .int _ _
    · exact .int _ _
  | over h w c =>
    refine .tup fun d hd => ?_
    simp only [List.mem_cons, List.not_mem_nil, or_false] at hd
    rcases hd with rfl | rfl | rfl | rfl
    · exact .str _ good_lit.2.2.2.2.1
    · exact .int _ _
    · exact .int _ _
    · exact .int _ _
  | under h w c =>
    refine .tup fun d hd => ?_
    simp only [List.mem_cons, List.not_mem_nil, or_false] at hd
    rcases hd with rfl | rfl | rfl | rfl
    · exact .str _ good_lit.2.2.2.2.2.1
    · exact .int _ _
    · exact .int _ _
    · exact .int _ _
theorem ru_eqv (r q : Ru) (h : r ≠ q) : r.d.eqv q.d = false := by
  cases r with
  | swap k c =>
    cases q with
    | swap k' c' =>
      rw [Ru.d, Ru.d, eqv_tup, eqvs_cc, eqvs_cc, eqvs_cc, eqvs_nil, eqv_str, eqv_int, eqv_int]
      by_cases e1 : k = k'
      · by_cases e2 : c = c'
        · exact absurd (by rw [e1, e2]) h
        · rw [decide_eq_false (show ¬ ((c : Nat) : Int) = (c' : Nat) by omega)]; simp
      · rw [decide_eq_false (show ¬ ((k : Nat) : Int) = (k' : Nat) by omega)]; simp
    | over _ _ _ => rw [Ru.d, Ru.d, eqv_tup, eqvs_cc, eqv_str]; rfl
    | under _ _ _ => rw [Ru.d, Ru.d, eqv_tup, eqvs_cc, eqv_str]; rfl
  | over x y c =>
    cases q with
    | swap _ _ => rw [Ru.d, Ru.d, eqv_tup, eqvs_cc, eqv_str]; rfl
    | over x' y' c' =>
      rw [Ru.d, Ru.d, eqv_tup, eqvs_cc, eqvs_cc, eqvs_cc, eqvs_cc, eqvs_nil, eqv_str, eqv_int, eqv_int, eqv_int]
      by_cases e1 : x = x'
      · by_cases e2 : y = y'
        · by_cases e3 : c = c'
          · exact absurd (by rw [e1, e2, e3]) h
          · rw [decide_eq_false (show ¬ ((c : Nat) : Int) = (c' : Nat) by omega)]; simp
        · rw [decide_eq_false (show ¬ ((y : Nat) : Int) = (y' : Nat) by omega)]; simp
      · rw [decide_eq_false (show ¬ ((x : Nat) : Int) = (x' : Nat) by omega)]; simp
    | under _ _ _ => rw [Ru.d, Ru.d, eqv_tup, eqvs_cc, eqv_str]; rfl
  | under x y c =>
    cases q with
    | swap _ _ => rw [Ru.d, Ru.d, eqv_tup, eqvs_cc, eqv_str]; rfl
    | over _ _ _ => rw [Ru.d, Ru.d, eqv_tup, eqvs_cc, eqv_str]; rfl
    | under x' y' c' =>
      rw [Ru.d, Ru.d, eqv_tup, eqvs_cc, eqvs_cc, eqvs_cc, eqvs_cc, eqvs_nil, eqv_str, eqv_int, eqv_int, eqv_int]
      by_cases e1 : x = x'
      · by_cases e2 : y = y'
        · by_cases e3 : c = c'
          · exact absurd (by rw [e1, e2, e3]) h
          · rw [decide_eq_false (show ¬ ((c : Nat) : Int) = (c' : Nat) by omega)]; simp
        · rw [decide_eq_false (show ¬ ((y : Nat) : Int) = (y' : Nat) by omega)]; simp
      · rw [decide_eq_false (show ¬ ((x : Nat) : Int) = (x' : Nat) by omega)]; simp
theorem not_in_rules {r : Ru} {qs : List Ru} (h : r ∉ qs) : gIn r.d (.tup (qs.map Ru.d)) = some (.fz (.bl false)) := by
  have fl : r.d.flat = false := by cases r <;> rfl
  have o1 : r.d.ok = true := (ru_good r).ok (by decide)
  have o2 : (D.tup (qs.map Ru.d)).ok = true := (Fit.tup (n := 1) fun d hd => by obtain ⟨q, _, rfl⟩ := List.mem_map.mp hd; exact ru_good q).ok (by decide)
  have e : gIn' r.d (.tup (qs.map Ru.d)) = some ((qs.map Ru.d).any fun y => y.eqv r.d) := by
    unfold gIn'
    split
    · rename_i a b e1 e2
      cases e2
    · rename_i e2
      cases e2
    · rename_i ys _ _ e2
      cases e2
      rw [if_neg (by rw [fl]; simp), if_pos ⟨o1, o2⟩]
    · rename_i h1 h2 h3
      first | exact (h1 _ rfl).elim | exact (h2 _ rfl).elim | exact (h3 _ rfl).elim
  unfold gIn
  rw [e]
  have : ((qs.map Ru.d).any fun y => y.eqv r.d) = false := by
    rw [List.any_eq_false]
    intro y hy
    obtain ⟨q, hq, rfl⟩ := List.mem_map.mp hy
    rw [ru_eqv q r fun z => h (z ▸ hq)]
    simp
  rw [this]
  rfl
end G
set_option Elab.async false
set_option linter.all false
set_option maxRecDepth 100000
set_option maxHeartbeats 1000000
set_option pp.maxSteps 1500
namespace DL
open PySem PySem.Spec L2
theorem lcL_mapA {h : Fg} {fe : Fe} {vs : List Nat} {ρ : En} (f : D → D) : ∀ (xs acc : List D), acc.length + xs.length ≤ 1000000 → (∀ d ∈ xs, ∃ ρ1 ρ2, h d ρ = some ρ1 ∧ dFr fe ρ1 = some (f d, ρ2) ∧ wipeD ρ2 vs = ρ) → lcL h dYes fe vs xs acc ρ = some (acc ++ xs.map f, ρ)
  | [], acc, _, _ => by rw [List.map_nil, List.append_nil]; rfl
  | d :: xs, acc, hl, hs => by
    obtain ⟨ρ1, ρ2, e1, e2, e3⟩ := hs d (by simp)
    rw [List.length_cons] at hl
    unfold lcL
    have c : acc.length < 16000000 := by omega
    simp only [e1, dYes, e2, c, ↓reduceIte, e3]
    have ih := lcL_mapA (h := h) (fe := fe) (vs := vs) (ρ := ρ) f xs (acc ++ [f d]) (by rw [List.length_append]; simp only [List.length_cons, List.length_nil]; omega) fun e he => hs e (by simp [he])
    rw [ih, List.map_cons, List.append_assoc]
    rfl
theorem lc2L_mapA {h h1 : Fg} {fi1 : Fi} {fe : Fe} {vs vs1 : List Nat} {ρ : En} (F : D → List D) : ∀ (xs acc : List D), acc.length + (xs.flatMap F).length ≤ 1000000 →
    (∀ d ∈ xs, ∃ ρ1 ys ρ3 g, h d ρ = some ρ1 ∧ fi1 ρ1 = some (ys, ρ3) ∧ F d = ys.map g ∧ (∀ y ∈ ys, ∃ ρ5 ρ6, h1 y (wipeD ρ3 vs1) = some ρ5 ∧ dFr fe ρ5 = some (g y, ρ6) ∧ wipeD ρ6 vs1 = wipeD ρ3 vs1) ∧ wipeD (wipeD ρ3 vs1) vs = ρ) →
    lc2L h dYes fi1 h1 dYes fe vs vs1 xs acc ρ = some (acc ++ xs.flatMap F, ρ)
  | [], acc, _, _ => by rw [List.flatMap_nil, List.append_nil]; rfl
  | d :: xs, acc, hl, hs => by
    obtain ⟨ρ1, ys, ρ3, g, e1, e2, e3, e4, e5⟩ := hs d (by simp)
    rw [List.flatMap_cons, List.length_append, e3, List.length_map] at hl
    have in_ := lcL_mapA (h := h1) (fe := fe) (vs := vs1) (ρ := wipeD ρ3 vs1) g ys acc (by omega) e4
    unfold lc2L
    simp only [e1, dYes, e2]
    have in' : lcL h1 dYes fe vs1 ys acc (wipeD ρ3 vs1) = some (acc ++ ys.map g, wipeD ρ3 vs1) := in_
    have in2 : lcL h1 (fun ρ => some (true, ρ)) fe vs1 ys acc (wipeD ρ3 vs1) = some (acc ++ ys.map g, wipeD ρ3 vs1) := in_
    first | rw [in'] | rw [in2]
    simp only [e5]
    have ih := lc2L_mapA (h := h) (h1 := h1) (fi1 := fi1) (fe := fe) (vs := vs) (vs1 := vs1) (ρ := ρ) F xs (acc ++ ys.map g) (by rw [List.length_append, List.length_map]; omega) fun e he => hs e (by simp [he])
    rw [List.flatMap_cons, e3, ← List.append_assoc]
    exact ih
theorem dLc2_eq {fi fi1 : Fi} {h h1 : Fg} {ft ft1 : Ft} {fe : Fe} {vs vs1 : List Nat} {ρ ρ1 ρ2 : En} {xs acc : List D} (e1 : fi ρ = some (xs, ρ1)) (e2 : lc2L h ft fi1 h1 ft1 fe vs vs1 xs [] (wipeD ρ1 vs) = some (acc, ρ2)) :
    dLc2 fi h ft fi1 h1 ft1 fe vs vs1 ρ = some (.ow (.l acc), restD ρ1 ρ2 vs) := by
  unfold dLc2
  simp only [e1, e2]
theorem lrg1_ok {f : Fe} {n : Nat} {ρ ρ1 : En} (h : f ρ = some (.fz (.int (n : Nat)), ρ1)) (hn : n ≤ 1000000) : dLRg1 f ρ = some (.ow (.l (rangeD 0 n)), ρ1) := by
  unfold dLRg1
  rw [h]
  show (if _ then _ else none) = _
  rw [if_pos (by omega), Int.toNat_natCast]
theorem rangeD_map (n : Nat) : rangeD 0 n = (List.range n).map fun i => .int (i : Nat) := by
  unfold rangeD
  refine List.map_congr_left fun i _ => ?_
  rw [Int.zero_add]
end DL
namespace G
open PySem PySem.Spec L2 DL
theorem need_book_ok {b : Bd} {bk : List Ru} (hb : b.ok 36) (h : BkOk b bk) : F_need_book [.fz b.d, .fz (.tup (bk.map Ru.d))] = some (.fz .non, [.fz b.d, .fz (.tup (bk.map Ru.d))]) := by
  obtain ⟨h1, h2, h3, h4⟩ := h
  have lp := forL_inv (h := gTp 2 (gsCons (gNm 2) (gsCons (gNm 3) gsNil))) (B := bIf (dOr (dNot (dTst (fCall F_is_rule (aFr (eVar 0) (aFr (eVar 3) aNil))))) (dOr (dNot (dTst (fCall F_rule_fits (aFr (eVar 0) (aFr (eVar 3) aNil))))) (dTst (dOp2 gIn (eVar 3) (dSl (eVar 1) oNo (oSome (eVar 2))))))) bNever bNext) (xs := enumD (bk.map Ru.d))
    (fun i ρ => ∃ x y, ρ = [.fz b.d, .fz (.tup (bk.map Ru.d)), x, y] ∧ kNR (some x) = true ∧ kNR (some y) = true)
    (fun i d ρ hd ⟨x, y, hρ, n1, n2⟩ => by
      obtain ⟨z, hz, rfl⟩ := enumD_at hd
      rw [List.getElem?_map] at hz
      cases hk : bk[i]? with
      | none => rw [hk] at hz; cases hz
      | some r =>
        rw [hk] at hz
        cases hz
        subst hρ
        have hi := (List.getElem?_eq_some_iff.mp hk).1
        have hf := h4 r (List.mem_of_getElem? hk)
        have ir := is_rule_ok hf
        have rf := rule_fits_ok hb (by decide) hf
        have ct : gSl (.tup (bk.map Ru.d)) none (some ((i : Nat) : Int)) = some (.fz (.tup ((bk.take i).map Ru.d))) := by
          show some (Sl.fz (.tup (cutD _ none (some ((i : Nat) : Int))))) = _
          rw [cutD_to _ (by rw [List.length_map]; omega), List.map_take]
        have ni : r ∉ bk.take i := fun hm => by
          have nd : (bk.take (i + 1)).Nodup := h3.sublist (List.take_sublist _ _)
          rw [List.take_succ, hk] at nd
          exact (List.nodup_append.mp nd).2.2 r hm r (by simp) rfl
        have nin := not_in_rules ni
        refine ⟨[.fz b.d, .fz (.tup (bk.map Ru.d)), .fz (.int (i : Nat)), .fz r.d], [.fz b.d, .fz (.tup (bk.map Ru.d)), .fz (.int (i : Nat)), .fz r.d], by simp only [wipeD, restD, allFz, eVar_e, eC_e, rd_fz, rd_ow, rd_bw, fr_fz, fr_ow, fr_bw, dFr_e, dOp2_e, dTst_e, dAnd_e, dOr_e, dNot_e, dIfE_e, dAndV_e, dOrV_e, dNotV_e, dYes_e, aNil_e, aCons_e, aFr_e, rds_nil, rds_cons, dCall_e, eTup_e, eLst_e, dsOf_nil, dsOf_fz, fCall_e, bSeq_e, bNext_e, bBreak_e, bCont_e, bRetN_e, bDrop_e, bRet_e, bIf_e, to_fz, to_ow, to_bw, notRf_e, bAsg_e, gNm_e, gsNil_e, gsCons_e, gTp_e, bUnp_e, dMt_e, held_ow, held_rf, putS_e, dM1_e, dIsi_e, oSome_e, oNo_e, dSl_e, dNeg_e, bSetIx_e, bAug_e, res_fz, res_ow, res_bw, runF_e, fin_nil, fin_nil1, fin_rf, fin_fz, iAny_e, iRange1_e, iRange2_e, iEnumD_e, dChain_e, dLRg1_e, dLRg2_e, heldM_ow, heldM_rf, eDict_e, dDGet_e, dDIn_e, bDPut_e, bPar_e, nc0, nc1, nc2, nc3, nc4, nc5, nc6, nc7, nc8, nc9, nc36, kVar_0, kVar_1, kVar_2, kRd_0, kRd_1, kRd_2, kFr_0, kFr_1, kDFr_0, kDFr_1, kZ_0, kZ_1, kOp3_0, kOp2_0, kOp2_1, kOp_0, kOp_1, kTst_0, kAnd_0, kAnd_1, kAnd_2, kOr_0, kOr_1, kOr_2, kNot_0, kNot_1, kIfE_0, kIfE_1, kIfE_2, kAndV_0, kAndV_1, kOrV_0, kOrV_1, kNotV_0, kAC2_0, kAC2_1, kAC_0, kAC_1, kAF_0, kAF_1, kRds_0, kCall2_0, kCall2_1, kCall_0, kCall_1, kTup2_0, kTup2_1, kTup_0, kTup_1, kLst2_0, kLst2_1, kLst_0, kLst_1, kFCo_0, kFCo_1, kFCr_0, kFCr_1, kFCf_0, kFCf_1, kFC2_0, kFC2_1, kFC3_0, kFC3_1, kFC1_0, kFC1_1, kFC1_2, kFC_0, kFC_1, kSeq_0, kSeq_1, kSeq_2, kSeq_3, kSeq_4, kSeq_5, kDrop_0, kDrop_1, kRet_0, kRet_1, kIf_0, kIf_1, kIf_2, kTo_0, kTo_1, kNR_0, kNR_1, kNR_2, kNR_3, kNR_4, kNR_5, kAsg3_0, kAsg3_1, kAsg2_0, kAsg2_1, kAsg_0, kAsg_1, kGN_0, kGN_1, kGC_0, kGC_1, kUn2_0, kUn2_1, kUn_0, kUn_1, kMt4_0, kMt4_1, kMt3_0, kMt2_0, kMt2_1, kMt_0, kMt_1, kPut_0, kPut_1, kPut_2, kPut_3, kPut_4, kPut_5, kM12_0, kM12_1, kM11_0, kM11_1, kM1_0, kIsi3_0, kIsi3_1, kIsi2_0, kIsi2_1, kIsi_0, kIsi_1, kOSo_0, kSl4_0, kSl4_1, kSl3_0, kSl3_1, kSl2_0, kSl2_1, kSl_0, kSl_1, kNeg_0, kSX3_0, kSX3_1, kSX2_0, kSX2_1, kSX1_0, kSX0_0, kSX0_1, kSX_0, kSX_1, kAug3_0, kAug3_1, kAug2_0, kAug_0, kRes_0, kRes_1, kEnd2_0, kEnd2_1, kEnd_0, kEnd_1, kAny_0, kAny_1, kAny_2, kR1_0, kR2_0, kEn_0, kEn_1, kFor_0, kFor_1, kLc2_0, kLc2_1, kLc_0, kLc_1, kGG_0, kCh3_0, kCh3_1, kCh2_0, kCh2_1, kCh1_0, kCh1_1, kCh_0, kCh_1, kLRg_0, kLRh_0, kLRi_0, kMG_0, kDG2_0, kDG1_0, kDG1_1, kDG_0, kDG_1, kDI2_0, kDI2_1, kDI_0, kDI_1, kMP_0, kDP3_0, kDP3_1, kDP2_0, kDP2_1, kDP1_0, kDP1_1, kDP_0, kDP_1, kPar2_0, kPar2_1, kPar_0, gAdd, DL.gSub, gCmp, gLen, gMax, gMin, gInt, gList, gTuple, gApp, ix_l0, ix_l1, ix_l2, ix_t0, ix_t1, ix_t2, ix_t3, ix_tm2, ix_tm3, ix_tm4, gEq_int, gNe_int, eq_row_floor, eq_ring_floor, eq_floor_floor, eq_row_ring, eq_ring_ring, eq_floor_ring, eq_row_row, eq_ring_row, eq_floor_row, ne_row_floor, ne_ring_floor, ne_floor_floor, lim, ixN3_0, ixN3_1, ixN3_2, List.getElem?_cons_zero, List.getElem?_cons_succ, List.set_cons_zero, List.set_cons_succ, List.replicate_succ, List.replicate_zero, List.cons_append, List.nil_append, List.zipWith_cons_cons, List.zipWith_nil_left, List.zipWith_nil_right, List.length_cons, List.length_nil, Option.map_some, Option.map_none, Nat.reduceAdd, Nat.reduceSub, Nat.reduceLT, Nat.reduceLeDiff, Int.reduceAdd, Int.reduceLT, Int.reduceLE, Int.reduceNeg, Int.reduceSub, Int.reduceMul, Int.reduceEq, if_true, if_false, ite_true, ite_false, decide_true, decide_false, Bool.not_true, Bool.not_false, Bool.and_true, Bool.true_and, Bool.and_false, Bool.false_and, ↓reduceIte, n1, n2], .inl ?_, _, _, rfl, rfl, rfl⟩
        simp only [wipeD, restD, allFz, eVar_e, eC_e, rd_fz, rd_ow, rd_bw, fr_fz, fr_ow, fr_bw, dFr_e, dOp2_e, dTst_e, dAnd_e, dOr_e, dNot_e, dIfE_e, dAndV_e, dOrV_e, dNotV_e, dYes_e, aNil_e, aCons_e, aFr_e, rds_nil, rds_cons, dCall_e, eTup_e, eLst_e, dsOf_nil, dsOf_fz, fCall_e, bSeq_e, bNext_e, bBreak_e, bCont_e, bRetN_e, bDrop_e, bRet_e, bIf_e, to_fz, to_ow, to_bw, notRf_e, bAsg_e, gNm_e, gsNil_e, gsCons_e, gTp_e, bUnp_e, dMt_e, held_ow, held_rf, putS_e, dM1_e, dIsi_e, oSome_e, oNo_e, dSl_e, dNeg_e, bSetIx_e, bAug_e, res_fz, res_ow, res_bw, runF_e, fin_nil, fin_nil1, fin_rf, fin_fz, iAny_e, iRange1_e, iRange2_e, iEnumD_e, dChain_e, dLRg1_e, dLRg2_e, heldM_ow, heldM_rf, eDict_e, dDGet_e, dDIn_e, bDPut_e, bPar_e, nc0, nc1, nc2, nc3, nc4, nc5, nc6, nc7, nc8, nc9, nc36, kVar_0, kVar_1, kVar_2, kRd_0, kRd_1, kRd_2, kFr_0, kFr_1, kDFr_0, kDFr_1, kZ_0, kZ_1, kOp3_0, kOp2_0, kOp2_1, kOp_0, kOp_1, kTst_0, kAnd_0, kAnd_1, kAnd_2, kOr_0, kOr_1, kOr_2, kNot_0, kNot_1, kIfE_0, kIfE_1, kIfE_2, kAndV_0, kAndV_1, kOrV_0, kOrV_1, kNotV_0, kAC2_0, kAC2_1, kAC_0, kAC_1, kAF_0, kAF_1, kRds_0, kCall2_0, kCall2_1, kCall_0, kCall_1, kTup2_0, kTup2_1, kTup_0, kTup_1, kLst2_0, kLst2_1, kLst_0, kLst_1, kFCo_0, kFCo_1, kFCr_0, kFCr_1, kFCf_0, kFCf_1, kFC2_0, kFC2_1, kFC3_0, kFC3_1, kFC1_0, kFC1_1, kFC1_2, kFC_0, kFC_1, kSeq_0, kSeq_1, kSeq_2, kSeq_3, kSeq_4, kSeq_5, kDrop_0, kDrop_1, kRet_0, kRet_1, kIf_0, kIf_1, kIf_2, kTo_0, kTo_1, kNR_0, kNR_1, kNR_2, kNR_3, kNR_4, kNR_5, kAsg3_0, kAsg3_1, kAsg2_0, kAsg2_1, kAsg_0, kAsg_1, kGN_0, kGN_1, kGC_0, kGC_1, kUn2_0, kUn2_1, kUn_0, kUn_1, kMt4_0, kMt4_1, kMt3_0, kMt2_0, kMt2_1, kMt_0, kMt_1, kPut_0, kPut_1, kPut_2, kPut_3, kPut_4, kPut_5, kM12_0, kM12_1, kM11_0, kM11_1, kM1_0, kIsi3_0, kIsi3_1, kIsi2_0, kIsi2_1, kIsi_0, kIsi_1, kOSo_0, kSl4_0, kSl4_1, kSl3_0, kSl3_1, kSl2_0, kSl2_1, kSl_0, kSl_1, kNeg_0, kSX3_0, kSX3_1, kSX2_0, kSX2_1, kSX1_0, kSX0_0, kSX0_1, kSX_0, kSX_1, kAug3_0, kAug3_1, kAug2_0, kAug_0, kRes_0, kRes_1, kEnd2_0, kEnd2_1, kEnd_0, kEnd_1, kAny_0, kAny_1, kAny_2, kR1_0, kR2_0, kEn_0, kEn_1, kFor_0, kFor_1, kLc2_0, kLc2_1, kLc_0, kLc_1, kGG_0, kCh3_0, kCh3_1, kCh2_0, kCh2_1, kCh1_0, kCh1_1, kCh_0, kCh_1, kLRg_0, kLRh_0, kLRi_0, kMG_0, kDG2_0, kDG1_0, kDG1_1, kDG_0, kDG_1, kDI2_0, kDI2_1, kDI_0, kDI_1, kMP_0, kDP3_0, kDP3_1, kDP2_0, kDP2_1, kDP1_0, kDP1_1, kDP_0, kDP_1, kPar2_0, kPar2_1, kPar_0, gAdd, DL.gSub, gCmp, gLen, gMax, gMin, gInt, gList, gTuple, gApp, ix_l0, ix_l1, ix_l2, ix_t0, ix_t1, ix_t2, ix_t3, ix_tm2, ix_tm3, ix_tm4, gEq_int, gNe_int, eq_row_floor, eq_ring_floor, eq_floor_floor, eq_row_ring, eq_ring_ring, eq_floor_ring, eq_row_row, eq_ring_row, eq_floor_row, ne_row_floor, ne_ring_floor, ne_floor_floor, lim, ixN3_0, ixN3_1, ixN3_2, List.getElem?_cons_zero, List.getElem?_cons_succ, List.set_cons_zero, List.set_cons_succ, List.replicate_succ, List.replicate_zero, List.cons_append, List.nil_append, List.zipWith_cons_cons, List.zipWith_nil_left, List.zipWith_nil_right, List.length_cons, List.length_nil, Option.map_some, Option.map_none, Nat.reduceAdd, Nat.reduceSub, Nat.reduceLT, Nat.reduceLeDiff, Int.reduceAdd, Int.reduceLT, Int.reduceLE, Int.reduceNeg, Int.reduceSub, Int.reduceMul, Int.reduceEq, if_true, if_false, ite_true, ite_false, decide_true, decide_false, Bool.not_true, Bool.not_false, Bool.and_true, Bool.true_and, Bool.and_false, Bool.false_and, ↓reduceIte, ir, rf, ct, nin]) (ρ := [.fz b.d, .fz (.tup (bk.map Ru.d)), .un, .un]) ⟨_, _, rfl, rfl, rfl⟩
  obtain ⟨ρ', hf, x, y, rfl, _⟩ := lp
  have ca : gSl (.tup (bk.map Ru.d)) none (some 4) = some (.fz (.tup (bk.map Ru.d))) := by
    show some (Sl.fz (.tup (cutD _ none (some ((4 : Nat) : Int))))) = _
    rw [cutD_all _ (by rw [List.length_map]; omega)]
  have hi : iEnumD (aFr (dSl (eVar 1) oNo (oSome (eC (.int 4)))) aNil) [.fz b.d, .fz (.tup (bk.map Ru.d)), .un, .un] = some (enumD (bk.map Ru.d), [.fz b.d, .fz (.tup (bk.map Ru.d)), .un, .un]) := by simp only [wipeD, restD, allFz, eVar_e, eC_e, rd_fz, rd_ow, rd_bw, fr_fz, fr_ow, fr_bw, dFr_e, dOp2_e, dTst_e, dAnd_e, dOr_e, dNot_e, dIfE_e, dAndV_e, dOrV_e, dNotV_e, dYes_e, aNil_e, aCons_e, aFr_e, rds_nil, rds_cons, dCall_e, eTup_e, eLst_e, dsOf_nil, dsOf_fz, fCall_e, bSeq_e, bNext_e, bBreak_e, bCont_e, bRetN_e, bDrop_e, bRet_e, bIf_e, to_fz, to_ow, to_bw, notRf_e, bAsg_e, gNm_e, gsNil_e, gsCons_e, gTp_e, bUnp_e, dMt_e, held_ow, held_rf, putS_e, dM1_e, dIsi_e, oSome_e, oNo_e, dSl_e, dNeg_e, bSetIx_e, bAug_e, res_fz, res_ow, res_bw, runF_e, fin_nil, fin_nil1, fin_rf, fin_fz, iAny_e, iRange1_e, iRange2_e, iEnumD_e, dChain_e, dLRg1_e, dLRg2_e, heldM_ow, heldM_rf, eDict_e, dDGet_e, dDIn_e, bDPut_e, bPar_e, nc0, nc1, nc2, nc3, nc4, nc5, nc6, nc7, nc8, nc9, nc36, kVar_0, kVar_1, kVar_2, kRd_0, kRd_1, kRd_2, kFr_0, kFr_1, kDFr_0, kDFr_1, kZ_0, kZ_1, kOp3_0, kOp2_0, kOp2_1, kOp_0, kOp_1, kTst_0, kAnd_0, kAnd_1, kAnd_2, kOr_0, kOr_1, kOr_2, kNot_0, kNot_1, kIfE_0, kIfE_1, kIfE_2, kAndV_0, kAndV_1, kOrV_0, kOrV_1, kNotV_0, kAC2_0, kAC2_1, kAC_0, kAC_1, kAF_0, kAF_1, kRds_0, kCall2_0, kCall2_1, kCall_0, kCall_1, kTup2_0, kTup2_1, kTup_0, kTup_1, kLst2_0, kLst2_1, kLst_0, kLst_1, kFCo_0, kFCo_1, kFCr_0, kFCr_1, kFCf_0, kFCf_1, kFC2_0, kFC2_1, kFC3_0, kFC3_1, kFC1_0, kFC1_1, kFC1_2, kFC_0, kFC_1, kSeq_0, kSeq_1, kSeq_2, kSeq_3, kSeq_4, kSeq_5, kDrop_0, kDrop_1, kRet_0, kRet_1, kIf_0, kIf_1, kIf_2, kTo_0, kTo_1, kNR_0, kNR_1, kNR_2, kNR_3, kNR_4, kNR_5, kAsg3_0, kAsg3_1, kAsg2_0, kAsg2_1, kAsg_0, kAsg_1, kGN_0, kGN_1, kGC_0, kGC_1, kUn2_0, kUn2_1, kUn_0, kUn_1, kMt4_0, kMt4_1, kMt3_0, kMt2_0, kMt2_1, kMt_0, kMt_1, kPut_0, kPut_1, kPut_2, kPut_3, kPut_4, kPut_5, kM12_0, kM12_1, kM11_0, kM11_1, kM1_0, kIsi3_0, kIsi3_1, kIsi2_0, kIsi2_1, kIsi_0, kIsi_1, kOSo_0, kSl4_0, kSl4_1, kSl3_0, kSl3_1, kSl2_0, kSl2_1, kSl_0, kSl_1, kNeg_0, kSX3_0, kSX3_1, kSX2_0, kSX2_1, kSX1_0, kSX0_0, kSX0_1, kSX_0, kSX_1, kAug3_0, kAug3_1, kAug2_0, kAug_0, kRes_0, kRes_1, kEnd2_0, kEnd2_1, kEnd_0, kEnd_1, kAny_0, kAny_1, kAny_2, kR1_0, kR2_0, kEn_0, kEn_1, kFor_0, kFor_1, kLc2_0, kLc2_1, kLc_0, kLc_1, kGG_0, kCh3_0, kCh3_1, kCh2_0, kCh2_1, kCh1_0, kCh1_1, kCh_0, kCh_1, kLRg_0, kLRh_0, kLRi_0, kMG_0, kDG2_0, kDG1_0, kDG1_1, kDG_0, kDG_1, kDI2_0, kDI2_1, kDI_0, kDI_1, kMP_0, kDP3_0, kDP3_1, kDP2_0, kDP2_1, kDP1_0, kDP1_1, kDP_0, kDP_1, kPar2_0, kPar2_1, kPar_0, gAdd, DL.gSub, gCmp, gLen, gMax, gMin, gInt, gList, gTuple, gApp, ix_l0, ix_l1, ix_l2, ix_t0, ix_t1, ix_t2, ix_t3, ix_tm2, ix_tm3, ix_tm4, gEq_int, gNe_int, eq_row_floor, eq_ring_floor, eq_floor_floor, eq_row_ring, eq_ring_ring, eq_floor_ring, eq_row_row, eq_ring_row, eq_floor_row, ne_row_floor, ne_ring_floor, ne_floor_floor, lim, ixN3_0, ixN3_1, ixN3_2, List.getElem?_cons_zero, List.getElem?_cons_succ, List.set_cons_zero, List.set_cons_succ, List.replicate_succ, List.replicate_zero, List.cons_append, List.nil_append, List.zipWith_cons_cons, List.zipWith_nil_left, List.zipWith_nil_right, List.length_cons, List.length_nil, Option.map_some, Option.map_none, Nat.reduceAdd, Nat.reduceSub, Nat.reduceLT, Nat.reduceLeDiff, Int.reduceAdd, Int.reduceLT, Int.reduceLE, Int.reduceNeg, Int.reduceSub, Int.reduceMul, Int.reduceEq, if_true, if_false, ite_true, ite_false, decide_true, decide_false, Bool.not_true, Bool.not_false, Bool.and_true, Bool.true_and, Bool.and_false, Bool.false_and, ↓reduceIte, ca]
  have hF := bFor_eq hi hf
  have c1 : ¬ ((bk.length : Nat) : Int) = 0 := by omega
  have c2 : ¬ (4 : Int) < ((bk.length : Nat) : Int) := by omega
  simp only [wipeD, restD, allFz, eVar_e, eC_e, rd_fz, rd_ow, rd_bw, fr_fz, fr_ow, fr_bw, dFr_e, dOp2_e, dTst_e, dAnd_e, dOr_e, dNot_e, dIfE_e, dAndV_e, dOrV_e, dNotV_e, dYes_e, aNil_e, aCons_e, aFr_e, rds_nil, rds_cons, dCall_e, eTup_e, eLst_e, dsOf_nil, dsOf_fz, fCall_e, bSeq_e, bNext_e, bBreak_e, bCont_e, bRetN_e, bDrop_e, bRet_e, bIf_e, to_fz, to_ow, to_bw, notRf_e, bAsg_e, gNm_e, gsNil_e, gsCons_e, gTp_e, bUnp_e, dMt_e, held_ow, held_rf, putS_e, dM1_e, dIsi_e, oSome_e, oNo_e, dSl_e, dNeg_e, bSetIx_e, bAug_e, res_fz, res_ow, res_bw, runF_e, fin_nil, fin_nil1, fin_rf, fin_fz, iAny_e, iRange1_e, iRange2_e, iEnumD_e, dChain_e, dLRg1_e, dLRg2_e, heldM_ow, heldM_rf, eDict_e, dDGet_e, dDIn_e, bDPut_e, bPar_e, nc0, nc1, nc2, nc3, nc4, nc5, nc6, nc7, nc8, nc9, nc36, kVar_0, kVar_1, kVar_2, kRd_0, kRd_1, kRd_2, kFr_0, kFr_1, kDFr_0, kDFr_1, kZ_0, kZ_1, kOp3_0, kOp2_0, kOp2_1, kOp_0, kOp_1, kTst_0, kAnd_0, kAnd_1, kAnd_2, kOr_0, kOr_1, kOr_2, kNot_0, kNot_1, kIfE_0, kIfE_1, kIfE_2, kAndV_0, kAndV_1, kOrV_0, kOrV_1, kNotV_0, kAC2_0, kAC2_1, kAC_0, kAC_1, kAF_0, kAF_1, kRds_0, kCall2_0, kCall2_1, kCall_0, kCall_1, kTup2_0, kTup2_1, kTup_0, kTup_1, kLst2_0, kLst2_1, kLst_0, kLst_1, kFCo_0, kFCo_1, kFCr_0, kFCr_1, kFCf_0, kFCf_1, kFC2_0, kFC2_1, kFC3_0, kFC3_1, kFC1_0, kFC1_1, kFC1_2, kFC_0, kFC_1, kSeq_0, kSeq_1, kSeq_2, kSeq_3, kSeq_4, kSeq_5, kDrop_0, kDrop_1, kRet_0, kRet_1, kIf_0, kIf_1, kIf_2, kTo_0, kTo_1, kNR_0, kNR_1, kNR_2, kNR_3, kNR_4, kNR_5, kAsg3_0, kAsg3_1, kAsg2_0, kAsg2_1, kAsg_0, kAsg_1, kGN_0, kGN_1, kGC_0, kGC_1, kUn2_0, kUn2_1, kUn_0, kUn_1, kMt4_0, kMt4_1, kMt3_0, kMt2_0, kMt2_1, kMt_0, kMt_1, kPut_0, kPut_1, kPut_2, kPut_3, kPut_4, kPut_5, kM12_0, kM12_1, kM11_0, kM11_1, kM1_0, kIsi3_0, kIsi3_1, kIsi2_0, kIsi2_1, kIsi_0, kIsi_1, kOSo_0, kSl4_0, kSl4_1, kSl3_0, kSl3_1, kSl2_0, kSl2_1, kSl_0, kSl_1, kNeg_0, kSX3_0, kSX3_1, kSX2_0, kSX2_1, kSX1_0, kSX0_0, kSX0_1, kSX_0, kSX_1, kAug3_0, kAug3_1, kAug2_0, kAug_0, kRes_0, kRes_1, kEnd2_0, kEnd2_1, kEnd_0, kEnd_1, kAny_0, kAny_1, kAny_2, kR1_0, kR2_0, kEn_0, kEn_1, kFor_0, kFor_1, kLc2_0, kLc2_1, kLc_0, kLc_1, kGG_0, kCh3_0, kCh3_1, kCh2_0, kCh2_1, kCh1_0, kCh1_1, kCh_0, kCh_1, kLRg_0, kLRh_0, kLRi_0, kMG_0, kDG2_0, kDG1_0, kDG1_1, kDG_0, kDG_1, kDI2_0, kDI2_1, kDI_0, kDI_1, kMP_0, kDP3_0, kDP3_1, kDP2_0, kDP2_1, kDP1_0, kDP1_1, kDP_0, kDP_1, kPar2_0, kPar2_1, kPar_0, gAdd, DL.gSub, gCmp, gLen, gMax, gMin, gInt, gList, gTuple, gApp, ix_l0, ix_l1, ix_l2, ix_t0, ix_t1, ix_t2, ix_t3, ix_tm2, ix_tm3, ix_tm4, gEq_int, gNe_int, eq_row_floor, eq_ring_floor, eq_floor_floor, eq_row_ring, eq_ring_ring, eq_floor_ring, eq_row_row, eq_ring_row, eq_floor_row, ne_row_floor, ne_ring_floor, ne_floor_floor, lim, ixN3_0, ixN3_1, ixN3_2, List.getElem?_cons_zero, List.getElem?_cons_succ, List.set_cons_zero, List.set_cons_succ, List.replicate_succ, List.replicate_zero, List.cons_append, List.nil_append, List.zipWith_cons_cons, List.zipWith_nil_left, List.zipWith_nil_right, List.length_cons, List.length_nil, Option.map_some, Option.map_none, Nat.reduceAdd, Nat.reduceSub, Nat.reduceLT, Nat.reduceLeDiff, Int.reduceAdd, Int.reduceLT, Int.reduceLE, Int.reduceNeg, Int.reduceSub, Int.reduceMul, Int.reduceEq, if_true, if_false, ite_true, ite_false, decide_true, decide_false, Bool.not_true, Bool.not_false, Bool.and_true, Bool.true_and, Bool.and_false, Bool.false_and, ↓reduceIte, F_need_book, d_need_book, hF, List.length_map, c1, c2]
end G
set_option Elab.async false
set_option linter.all false
set_option maxRecDepth 100000
set_option maxHeartbeats 1000000
set_option pp.maxSteps 1500
namespace G
open PySem PySem.Spec L2 DL
/-! ### the cells of a rule -/
def grid (W R C : Nat) : List Nat := (List.range R).flatMap fun i => (List.range C).map fun j => i * W + j
def cellsAt : Bd → Ru → List Nat
  | .row n, .swap k _ => List.range (n - 2 * k + 1)
  | .ring n, .swap _ _ => List.range n
  | .floor H W, .over h w _ => grid W (H - h + 1) (W - 2 * w + 1)
  | .floor H W, .under h w _ => grid W (H - 2 * h + 1) (W - w + 1)
  | _, _ => []
abbrev dN (c : Nat) : D := .int (c : Nat)
def addJ (z : Int) (y : D) : D := match y with
  | .int j => .int (z + j)
  | _ => .non
def rowF (W C : Nat) (d : D) : List D := match d with
  | .int i => (rangeD 0 C).map (addJ (i * (W : Nat)))
  | _ => []
theorem grid_eq (W R C : Nat) : (rangeD 0 R).flatMap (rowF W C) = (grid W R C).map dN := by
  rw [rangeD_map, List.flatMap_map]
  unfold grid
  rw [List.map_flatMap]
  refine congrArg (fun f => List.flatMap f (List.range R)) (funext fun i => ?_)
  show (rangeD 0 C).map (addJ (((i : Nat) : Int) * (W : Nat))) = _
  rw [rangeD_map, List.map_map, List.map_map]
  refine List.map_congr_left fun j _ => ?_
  show D.int (((i : Nat) : Int) * (W : Nat) + (j : Nat)) = .int (((i * W + j : Nat)) : Int)
  rw [Int.natCast_add, Int.natCast_mul]
theorem grid_len (W R C : Nat) : (grid W R C).length ≤ R * C := flat_len (f := fun i => (List.range C).map fun j => i * W + j) (fun i => by rw [List.length_map, List.length_range]; exact Nat.le_refl _) R
theorem grid_lc {b r m : D} {H W R C : Nat} (hR : R ≤ 1000) (hC : C ≤ 100) (hW : W ≤ 36) :
    dLc2 (iRange1 (aFr (eVar 5) aNil)) (gNm 7) dYes (iRange1 (aFr (eVar 6) aNil)) (gNm 8) dYes (dOp2 gAdd (dOp2 gMul (eVar 7) (eVar 4)) (eVar 8)) [7, 8] [8] [.fz b, .fz r, .fz m, .fz (.int (H : Nat)), .fz (.int (W : Nat)), .fz (.int (R : Nat)), .fz (.int (C : Nat)), .un, .un] =
      some (.ow (.l ((grid W R C).map dN)), [.fz b, .fz r, .fz m, .fz (.int (H : Nat)), .fz (.int (W : Nat)), .fz (.int (R : Nat)), .fz (.int (C : Nat)), .un, .un]) := by
  have e1 := range1_ok (fa := aFr (eVar 5) aNil) (n := R) (ρ := [.fz b, .fz r, .fz m, .fz (.int (H : Nat)), .fz (.int (W : Nat)), .fz (.int (R : Nat)), .fz (.int (C : Nat)), .un, .un]) (ρ1 := [.fz b, .fz r, .fz m, .fz (.int (H : Nat)), .fz (.int (W : Nat)), .fz (.int (R : Nat)), .fz (.int (C : Nat)), .un, .un]) (by simp only [wipeD, restD, allFz, eVar_e, eC_e, rd_fz, rd_ow, rd_bw, fr_fz, fr_ow, fr_bw, dFr_e, dOp2_e, dTst_e, dAnd_e, dOr_e, dNot_e, dIfE_e, dAndV_e, dOrV_e, dNotV_e, dYes_e, aNil_e, aCons_e, aFr_e, rds_nil, rds_cons, dCall_e, eTup_e, eLst_e, dsOf_nil, dsOf_fz, fCall_e, bSeq_e, bNext_e, bBreak_e, bCont_e, bRetN_e, bDrop_e, bRet_e, bIf_e, to_fz, to_ow, to_bw, notRf_e, bAsg_e, gNm_e, gsNil_e, gsCons_e, gTp_e, bUnp_e, dMt_e, held_ow, held_rf, putS_e, dM1_e, dIsi_e, oSome_e, oNo_e, dSl_e, dNeg_e, bSetIx_e, bAug_e, res_fz, res_ow, res_bw, runF_e, fin_nil, fin_nil1, fin_rf, fin_fz, iAny_e, iRange1_e, iRange2_e, iEnumD_e, dChain_e, dLRg1_e, dLRg2_e, heldM_ow, heldM_rf, eDict_e, dDGet_e, dDIn_e, bDPut_e, bPar_e, nc0, nc1, nc2, nc3, nc4, nc5, nc6, nc7, nc8, nc9, nc36, kVar_0, kVar_1, kVar_2, kRd_0, kRd_1, kRd_2, kFr_0, kFr_1, kDFr_0, kDFr_1, kZ_0, kZ_1, kOp3_0, kOp2_0, kOp2_1, kOp_0, kOp_1, kTst_0, kAnd_0, kAnd_1, kAnd_2, kOr_0, kOr_1, kOr_2, kNot_0, kNot_1, kIfE_0, kIfE_1, kIfE_2, kAndV_0, kAndV_1, kOrV_0, kOrV_1, kNotV_0, kAC2_0, kAC2_1, kAC_0, kAC_1, kAF_0, kAF_1, kRds_0, kCall2_0, kCall2_1, kCall_0, kCall_1, kTup2_0, kTup2_1, kTup_0, kTup_1, kLst2_0, kLst2_1, kLst_0, kLst_1, kFCo_0, kFCo_1, kFCr_0, kFCr_1, kFCf_0, kFCf_1, kFC2_0, kFC2_1, kFC3_0, kFC3_1, kFC1_0, kFC1_1, kFC1_2, kFC_0, kFC_1, kSeq_0, kSeq_1, kSeq_2, kSeq_3, kSeq_4, kSeq_5, kDrop_0, kDrop_1, kRet_0, kRet_1, kIf_0, kIf_1, kIf_2, kTo_0, kTo_1, kNR_0, kNR_1, kNR_2, kNR_3, kNR_4, kNR_5, kAsg3_0, kAsg3_1, kAsg2_0, kAsg2_1, kAsg_0, kAsg_1, kGN_0, kGN_1, kGC_0, kGC_1, kUn2_0, kUn2_1, kUn_0, kUn_1, kMt4_0, kMt4_1, kMt3_0, kMt2_0, kMt2_1, kMt_0, kMt_1, kPut_0, kPut_1, kPut_2, kPut_3, kPut_4, kPut_5, kM12_0, kM12_1, kM11_0, kM11_1, kM1_0, kIsi3_0, kIsi3_1, kIsi2_0, kIsi2_1, kIsi_0, kIsi_1, kOSo_0, kSl4_0, kSl4_1, kSl3_0, kSl3_1, kSl2_0, kSl2_1, kSl_0, kSl_1, kNeg_0, kSX3_0, kSX3_1, kSX2_0, kSX2_1, kSX1_0, kSX0_0, kSX0_1, kSX_0, kSX_1, kAug3_0, kAug3_1, kAug2_0, kAug_0, kRes_0, kRes_1, kEnd2_0, kEnd2_1, kEnd_0, kEnd_1, kAny_0, kAny_1, kAny_2, kR1_0, kR2_0, kEn_0, kEn_1, kFor_0, kFor_1, kLc2_0, kLc2_1, kLc_0, kLc_1, kGG_0, kCh3_0, kCh3_1, kCh2_0, kCh2_1, kCh1_0, kCh1_1, kCh_0, kCh_1, kLRg_0, kLRh_0, kLRi_0, kMG_0, kDG2_0, kDG1_0, kDG1_1, kDG_0, kDG_1, kDI2_0, kDI2_1, kDI_0, kDI_1, kMP_0, kDP3_0, kDP3_1, kDP2_0, kDP2_1, kDP1_0, kDP1_1, kDP_0, kDP_1, kPar2_0, kPar2_1, kPar_0, gAdd, DL.gSub, gCmp, gLen, gMax, gMin, gInt, gList, gTuple, gApp, ix_l0, ix_l1, ix_l2, ix_t0, ix_t1, ix_t2, ix_t3, ix_tm2, ix_tm3, ix_tm4, gEq_int, gNe_int, eq_row_floor, eq_ring_floor, eq_floor_floor, eq_row_ring, eq_ring_ring, eq_floor_ring, eq_row_row, eq_ring_row, eq_floor_row, ne_row_floor, ne_ring_floor, ne_floor_floor, lim, ixN3_0, ixN3_1, ixN3_2, List.getElem?_cons_zero, List.getElem?_cons_succ, List.set_cons_zero, List.set_cons_succ, List.replicate_succ, List.replicate_zero, List.cons_append, List.nil_append, List.zipWith_cons_cons, List.zipWith_nil_left, List.zipWith_nil_right, List.length_cons, List.length_nil, Option.map_some, Option.map_none, Nat.reduceAdd, Nat.reduceSub, Nat.reduceLT, Nat.reduceLeDiff, Int.reduceAdd, Int.reduceLT, Int.reduceLE, Int.reduceNeg, Int.reduceSub, Int.reduceMul, Int.reduceEq, if_true, if_false, ite_true, ite_false, decide_true, decide_false, Bool.not_true, Bool.not_false, Bool.and_true, Bool.true_and, Bool.and_false, Bool.false_and, ↓reduceIte]) (by omega)
  have e2 := lc2L_mapA (h := gNm 7) (h1 := gNm 8) (fi1 := iRange1 (aFr (eVar 6) aNil)) (fe := dOp2 gAdd (dOp2 gMul (eVar 7) (eVar 4)) (eVar 8)) (vs := [7, 8]) (vs1 := [8]) (ρ := [.fz b, .fz r, .fz m, .fz (.int (H : Nat)), .fz (.int (W : Nat)), .fz (.int (R : Nat)), .fz (.int (C : Nat)), .un, .un]) (rowF W C) (rangeD 0 R) [] (by
      rw [grid_eq, List.length_map]
      have := grid_len W R C
      have h2 : R * C ≤ 1000 * 100 := Nat.mul_le_mul hR hC
      show 0 + _ ≤ _
      omega) (fun d hd => by
      obtain ⟨i, hi⟩ := List.mem_iff_getElem?.mp hd
      obtain ⟨hi2, rfl⟩ := rangeD_get0 hi
      have f1 := range1_ok (fa := aFr (eVar 6) aNil) (n := C) (ρ := [.fz b, .fz r, .fz m, .fz (.int (H : Nat)), .fz (.int (W : Nat)), .fz (.int (R : Nat)), .fz (.int (C : Nat)), .fz (.int (i : Nat)), .un]) (ρ1 := [.fz b, .fz r, .fz m, .fz (.int (H : Nat)), .fz (.int (W : Nat)), .fz (.int (R : Nat)), .fz (.int (C : Nat)), .fz (.int (i : Nat)), .un]) (by simp only [wipeD, restD, allFz, eVar_e, eC_e, rd_fz, rd_ow, rd_bw, fr_fz, fr_ow, fr_bw, dFr_e, dOp2_e, dTst_e, dAnd_e, dOr_e, dNot_e, dIfE_e, dAndV_e, dOrV_e, dNotV_e, dYes_e, aNil_e, aCons_e, aFr_e, rds_nil, rds_cons, dCall_e, eTup_e, eLst_e, dsOf_nil, dsOf_fz, fCall_e, bSeq_e, bNext_e, bBreak_e, bCont_e, bRetN_e, bDrop_e, bRet_e, bIf_e, to_fz, to_ow, to_bw, notRf_e, bAsg_e, gNm_e, gsNil_e, gsCons_e, gTp_e, bUnp_e, dMt_e, held_ow, held_rf, putS_e, dM1_e, dIsi_e, oSome_e, oNo_e, dSl_e, dNeg_e, bSetIx_e, bAug_e, res_fz, res_ow, res_bw, runF_e, fin_nil, fin_nil1, fin_rf, fin_fz, iAny_e, iRange1_e, iRange2_e, iEnumD_e, dChain_e, dLRg1_e, dLRg2_e, heldM_ow, heldM_rf, eDict_e, dDGet_e, dDIn_e, bDPut_e, bPar_e, nc0, nc1, nc2, nc3, nc4, nc5, nc6, nc7, nc8, nc9, nc36, kVar_0, kVar_1, kVar_2, kRd_0, kRd_1, kRd_2, kFr_0, kFr_1, kDFr_0, kDFr_1, kZ_0, kZ_1, kOp3_0, kOp2_0, kOp2_1, kOp_0, kOp_1, kTst_0, kAnd_0, kAnd_1, kAnd_2, kOr_0, kOr_1, kOr_2, kNot_0, kNot_1, kIfE_0, kIfE_1, kIfE_2, kAndV_0, kAndV_1, kOrV_0, kOrV_1, kNotV_0, kAC2_0, kAC2_1, kAC_0, kAC_1, kAF_0, kAF_1, kRds_0, kCall2_0, kCall2_1, kCall_0, kCall_1, kTup2_0, kTup2_1, kTup_0, kTup_1, kLst2_0, kLst2_1, kLst_0, kLst_1, kFCo_0, kFCo_1, kFCr_0, kFCr_1, kFCf_0, kFCf_1, kFC2_0, kFC2_1, kFC3_0, kFC3_1, kFC1_0, kFC1_1, kFC1_2, kFC_0, kFC_1, kSeq_0, kSeq_1, kSeq_2, kSeq_3, kSeq_4, kSeq_5, kDrop_0, kDrop_1, kRet_0, kRet_1, kIf_0, kIf_1, kIf_2, kTo_0, kTo_1, kNR_0, kNR_1, kNR_2, kNR_3, kNR_4, kNR_5, kAsg3_0, kAsg3_1, kAsg2_0, kAsg2_1, kAsg_0, kAsg_1, kGN_0, kGN_1, kGC_0, kGC_1, kUn2_0, kUn2_1, kUn_0, kUn_1, kMt4_0, kMt4_1, kMt3_0, kMt2_0, kMt2_1, kMt_0, kMt_1, kPut_0, kPut_1, kPut_2, kPut_3, kPut_4, kPut_5, kM12_0, kM12_1, kM11_0, kM11_1, kM1_0, kIsi3_0, kIsi3_1, kIsi2_0, kIsi2_1, kIsi_0, kIsi_1, kOSo_0, kSl4_0, kSl4_1, kSl3_0, kSl3_1, kSl2_0, kSl2_1, kSl_0, kSl_1, kNeg_0, kSX3_0, kSX3_1, kSX2_0, kSX2_1, kSX1_0, kSX0_0, kSX0_1, kSX_0, kSX_1, kAug3_0, kAug3_1, kAug2_0, kAug_0, kRes_0, kRes_1, kEnd2_0, kEnd2_1, kEnd_0, kEnd_1, kAny_0, kAny_1, kAny_2, kR1_0, kR2_0, kEn_0, kEn_1, kFor_0, kFor_1, kLc2_0, kLc2_1, kLc_0, kLc_1, kGG_0, kCh3_0, kCh3_1, kCh2_0, kCh2_1, kCh1_0, kCh1_1, kCh_0, kCh_1, kLRg_0, kLRh_0, kLRi_0, kMG_0, kDG2_0, kDG1_0, kDG1_1, kDG_0, kDG_1, kDI2_0, kDI2_1, kDI_0, kDI_1, kMP_0, kDP3_0, kDP3_1, kDP2_0, kDP2_1, kDP1_0, kDP1_1, kDP_0, kDP_1, kPar2_0, kPar2_1, kPar_0, gAdd, DL.gSub, gCmp, gLen, gMax, gMin, gInt, gList, gTuple, gApp, ix_l0, ix_l1, ix_l2, ix_t0, ix_t1, ix_t2, ix_t3, ix_tm2, ix_tm3, ix_tm4, gEq_int, gNe_int, eq_row_floor, eq_ring_floor, eq_floor_floor, eq_row_ring, eq_ring_ring, eq_floor_ring, eq_row_row, eq_ring_row, eq_floor_row, ne_row_floor, ne_ring_floor, ne_floor_floor, lim, ixN3_0, ixN3_1, ixN3_2, List.getElem?_cons_zero, List.getElem?_cons_succ, List.set_cons_zero, List.set_cons_succ, List.replicate_succ, List.replicate_zero, List.cons_append, List.nil_append, List.zipWith_cons_cons, List.zipWith_nil_left, List.zipWith_nil_right, List.length_cons, List.length_nil, Option.map_some, Option.map_none, Nat.reduceAdd, Nat.reduceSub, Nat.reduceLT, Nat.reduceLeDiff, Int.reduceAdd, Int.reduceLT, Int.reduceLE, Int.reduceNeg, Int.reduceSub, Int.reduceMul, Int.reduceEq, if_true, if_false, ite_true, ite_false, decide_true, decide_false, Bool.not_true, Bool.not_false, Bool.and_true, Bool.true_and, Bool.and_false, Bool.false_and, ↓reduceIte]) (by omega)
      have mm : gMul (.int (i : Nat)) (.int (W : Nat)) = some (.fz (.int ((i : Nat) * (W : Nat)))) := mul_small (by omega) (by omega)
      refine ⟨_, _, _, addJ (((i : Nat) : Int) * (W : Nat)), rfl, f1, rfl, fun y hy => ?_, rfl⟩
      obtain ⟨j, hj⟩ := List.mem_iff_getElem?.mp hy
      obtain ⟨hj2, rfl⟩ := rangeD_get0 hj
      refine ⟨[.fz b, .fz r, .fz m, .fz (.int (H : Nat)), .fz (.int (W : Nat)), .fz (.int (R : Nat)), .fz (.int (C : Nat)), .fz (.int (i : Nat)), .fz (.int (j : Nat))], [.fz b, .fz r, .fz m, .fz (.int (H : Nat)), .fz (.int (W : Nat)), .fz (.int (R : Nat)), .fz (.int (C : Nat)), .fz (.int (i : Nat)), .fz (.int (j : Nat))], rfl, ?_, rfl⟩
      simp only [wipeD, restD, allFz, eVar_e, eC_e, rd_fz, rd_ow, rd_bw, fr_fz, fr_ow, fr_bw, dFr_e, dOp2_e, dTst_e, dAnd_e, dOr_e, dNot_e, dIfE_e, dAndV_e, dOrV_e, dNotV_e, dYes_e, aNil_e, aCons_e, aFr_e, rds_nil, rds_cons, dCall_e, eTup_e, eLst_e, dsOf_nil, dsOf_fz, fCall_e, bSeq_e, bNext_e, bBreak_e, bCont_e, bRetN_e, bDrop_e, bRet_e, bIf_e, to_fz, to_ow, to_bw, notRf_e, bAsg_e, gNm_e, gsNil_e, gsCons_e, gTp_e, bUnp_e, dMt_e, held_ow, held_rf, putS_e, dM1_e, dIsi_e, oSome_e, oNo_e, dSl_e, dNeg_e, bSetIx_e, bAug_e, res_fz, res_ow, res_bw, runF_e, fin_nil, fin_nil1, fin_rf, fin_fz, iAny_e, iRange1_e, iRange2_e, iEnumD_e, dChain_e, dLRg1_e, dLRg2_e, heldM_ow, heldM_rf, eDict_e, dDGet_e, dDIn_e, bDPut_e, bPar_e, nc0, nc1, nc2, nc3, nc4, nc5, nc6, nc7, nc8, nc9, nc36, kVar_0, kVar_1, kVar_2, kRd_0, kRd_1, kRd_2, kFr_0, kFr_1, kDFr_0, kDFr_1, kZ_0, kZ_1, kOp3_0, kOp2_0, kOp2_1, kOp_0, kOp_1, kTst_0, kAnd_0, kAnd_1, kAnd_2, kOr_0, kOr_1, kOr_2, kNot_0, kNot_1, kIfE_0, kIfE_1, kIfE_2, kAndV_0, kAndV_1, kOrV_0, kOrV_1, kNotV_0, kAC2_0, kAC2_1, kAC_0, kAC_1, kAF_0, kAF_1, kRds_0, kCall2_0, kCall2_1, kCall_0, kCall_1, kTup2_0, kTup2_1, kTup_0, kTup_1, kLst2_0, kLst2_1, kLst_0, kLst_1, kFCo_0, kFCo_1, kFCr_0, kFCr_1, kFCf_0, kFCf_1, kFC2_0, kFC2_1, kFC3_0, kFC3_1, kFC1_0, kFC1_1, kFC1_2, kFC_0, kFC_1, kSeq_0, kSeq_1, kSeq_2, kSeq_3, kSeq_4, kSeq_5, kDrop_0, kDrop_1, kRet_0, kRet_1, kIf_0, kIf_1, kIf_2, kTo_0, kTo_1, kNR_0, kNR_1, kNR_2, kNR_3, kNR_4, kNR_5, kAsg3_0, kAsg3_1, kAsg2_0, kAsg2_1, kAsg_0, kAsg_1, kGN_0, kGN_1, kGC_0, kGC_1, kUn2_0, kUn2_1, kUn_0, kUn_1, kMt4_0, kMt4_1, kMt3_0, kMt2_0, kMt2_1, kMt_0, kMt_1, kPut_0, kPut_1, kPut_2, kPut_3, kPut_4, kPut_5, kM12_0, kM12_1, kM11_0, kM11_1, kM1_0, kIsi3_0, kIsi3_1, kIsi2_0, kIsi2_1, kIsi_0, kIsi_1, kOSo_0, kSl4_0, kSl4_1, kSl3_0, kSl3_1, kSl2_0, kSl2_1, kSl_0, kSl_1, kNeg_0, kSX3_0, kSX3_1, kSX2_0, kSX2_1, kSX1_0, kSX0_0, kSX0_1, kSX_0, kSX_1, kAug3_0, kAug3_1, kAug2_0, kAug_0, kRes_0, kRes_1, kEnd2_0, kEnd2_1, kEnd_0, kEnd_1, kAny_0, kAny_1, kAny_2, kR1_0, kR2_0, kEn_0, kEn_1, kFor_0, kFor_1, kLc2_0, kLc2_1, kLc_0, kLc_1, kGG_0, kCh3_0, kCh3_1, kCh2_0, kCh2_1, kCh1_0, kCh1_1, kCh_0, kCh_1, kLRg_0, kLRh_0, kLRi_0, kMG_0, kDG2_0, kDG1_0, kDG1_1, kDG_0, kDG_1, kDI2_0, kDI2_1, kDI_0, kDI_1, kMP_0, kDP3_0, kDP3_1, kDP2_0, kDP2_1, kDP1_0, kDP1_1, kDP_0, kDP_1, kPar2_0, kPar2_1, kPar_0, gAdd, DL.gSub, gCmp, gLen, gMax, gMin, gInt, gList, gTuple, gApp, ix_l0, ix_l1, ix_l2, ix_t0, ix_t1, ix_t2, ix_t3, ix_tm2, ix_tm3, ix_tm4, gEq_int, gNe_int, eq_row_floor, eq_ring_floor, eq_floor_floor, eq_row_ring, eq_ring_ring, eq_floor_ring, eq_row_row, eq_ring_row, eq_floor_row, ne_row_floor, ne_ring_floor, ne_floor_floor, lim, ixN3_0, ixN3_1, ixN3_2, List.getElem?_cons_zero, List.getElem?_cons_succ, List.set_cons_zero, List.set_cons_succ, List.replicate_succ, List.replicate_zero, List.cons_append, List.nil_append, List.zipWith_cons_cons, List.zipWith_nil_left, List.zipWith_nil_right, List.length_cons, List.length_nil, Option.map_some, Option.map_none, Nat.reduceAdd, Nat.reduceSub, Nat.reduceLT, Nat.reduceLeDiff, Int.reduceAdd, Int.reduceLT, Int.reduceLE, Int.reduceNeg, Int.reduceSub, Int.reduceMul, Int.reduceEq, if_true, if_false, ite_true, ite_false, decide_true, decide_false, Bool.not_true, Bool.not_false, Bool.and_true, Bool.true_and, Bool.and_false, Bool.false_and, ↓reduceIte, mm, addJ])
  have e3 := dLc2_eq e1 e2
  rw [List.nil_append, grid_eq] at e3
  rw [e3]
  rfl
theorem first_cells_ok {b : Bd} {r : Ru} (hb : b.ok 36) (h : r.fits b) : F_first_cells [.fz b.d, .fz r.d] = some (.ow (.l ((cellsAt b r).map dN)), [.fz b.d, .fz r.d]) := by
  have mo := many_ok hb (by decide)
  cases b with
  | row n =>
    cases r with
    | swap k c =>
      obtain ⟨hk, hn, hc⟩ := h
      have hn36 := hb.2
      have hz : (n : Int) - 2 * (k : Int) + 1 = ((n - 2 * k + 1 : Nat) : Int) := by omega
      have e := lrg1_ok (f := dOp2 gAdd (dOp2 DL.gSub (eVar 2) (dOp2 gMul (eC (.int 2)) (dOp2 gIx (eVar 1) (eC (.int 1))))) (eC (.int 1))) (n := n - 2 * k + 1) (ρ := [.fz (Bd.d (.row n)), .fz (Ru.d (.swap k c)), .fz (.int (n : Nat)), .un, .un, .un, .un, .un, .un]) (ρ1 := [.fz (Bd.d (.row n)), .fz (Ru.d (.swap k c)), .fz (.int (n : Nat)), .un, .un, .un, .un, .un, .un]) (by simp only [wipeD, restD, allFz, eVar_e, eC_e, rd_fz, rd_ow, rd_bw, fr_fz, fr_ow, fr_bw, dFr_e, dOp2_e, dTst_e, dAnd_e, dOr_e, dNot_e, dIfE_e, dAndV_e, dOrV_e, dNotV_e, dYes_e, aNil_e, aCons_e, aFr_e, rds_nil, rds_cons, dCall_e, eTup_e, eLst_e, dsOf_nil, dsOf_fz, fCall_e, bSeq_e, bNext_e, bBreak_e, bCont_e, bRetN_e, bDrop_e, bRet_e, bIf_e, to_fz, to_ow, to_bw, notRf_e, bAsg_e, gNm_e, gsNil_e, gsCons_e, gTp_e, bUnp_e, dMt_e, held_ow, held_rf, putS_e, dM1_e, dIsi_e, oSome_e, oNo_e, dSl_e, dNeg_e, bSetIx_e, bAug_e, res_fz, res_ow, res_bw, runF_e, fin_nil, fin_nil1, fin_rf, fin_fz, iAny_e, iRange1_e, iRange2_e, iEnumD_e, dChain_e, dLRg1_e, dLRg2_e, heldM_ow, heldM_rf, eDict_e, dDGet_e, dDIn_e, bDPut_e, bPar_e, nc0, nc1, nc2, nc3, nc4, nc5, nc6, nc7, nc8, nc9, nc36, kVar_0, kVar_1, kVar_2, kRd_0, kRd_1, kRd_2, kFr_0, kFr_1, kDFr_0, kDFr_1, kZ_0, kZ_1, kOp3_0, kOp2_0, kOp2_1, kOp_0, kOp_1, kTst_0, kAnd_0, kAnd_1, kAnd_2, kOr_0, kOr_1, kOr_2, kNot_0, kNot_1, kIfE_0, kIfE_1, kIfE_2, kAndV_0, kAndV_1, kOrV_0, kOrV_1, kNotV_0, kAC2_0, kAC2_1, kAC_0, kAC_1, kAF_0, kAF_1, kRds_0, kCall2_0, kCall2_1, kCall_0, kCall_1, kTup2_0, kTup2_1, kTup_0, kTup_1, kLst2_0, kLst2_1, kLst_0, kLst_1, kFCo_0, kFCo_1, kFCr_0, kFCr_1, kFCf_0, kFCf_1, kFC2_0, kFC2_1, kFC3_0, kFC3_1, kFC1_0, kFC1_1, kFC1_2, kFC_0, kFC_1, kSeq_0, kSeq_1, kSeq_2, kSeq_3, kSeq_4, kSeq_5, kDrop_0, kDrop_1, kRet_0, kRet_1, kIf_0, kIf_1, kIf_2, kTo_0, kTo_1, kNR_0, kNR_1, kNR_2, kNR_3, kNR_4, kNR_5, kAsg3_0, kAsg3_1, kAsg2_0, kAsg2_1, kAsg_0, kAsg_1, kGN_0, kGN_1, kGC_0, kGC_1, kUn2_0, kUn2_1, kUn_0, kUn_1, kMt4_0, kMt4_1, kMt3_0, kMt2_0, kMt2_1, kMt_0, kMt_1, kPut_0, kPut_1, kPut_2, kPut_3, kPut_4, kPut_5, kM12_0, kM12_1, kM11_0, kM11_1, kM1_0, kIsi3_0, kIsi3_1, kIsi2_0, kIsi2_1, kIsi_0, kIsi_1, kOSo_0, kSl4_0, kSl4_1, kSl3_0, kSl3_1, kSl2_0, kSl2_1, kSl_0, kSl_1, kNeg_0, kSX3_0, kSX3_1, kSX2_0, kSX2_1, kSX1_0, kSX0_0, kSX0_1, kSX_0, kSX_1, kAug3_0, kAug3_1, kAug2_0, kAug_0, kRes_0, kRes_1, kEnd2_0, kEnd2_1, kEnd_0, kEnd_1, kAny_0, kAny_1, kAny_2, kR1_0, kR2_0, kEn_0, kEn_1, kFor_0, kFor_1, kLc2_0, kLc2_1, kLc_0, kLc_1, kGG_0, kCh3_0, kCh3_1, kCh2_0, kCh2_1, kCh1_0, kCh1_1, kCh_0, kCh_1, kLRg_0, kLRh_0, kLRi_0, kMG_0, kDG2_0, kDG1_0, kDG1_1, kDG_0, kDG_1, kDI2_0, kDI2_1, kDI_0, kDI_1, kMP_0, kDP3_0, kDP3_1, kDP2_0, kDP2_1, kDP1_0, kDP1_1, kDP_0, kDP_1, kPar2_0, kPar2_1, kPar_0, gAdd, DL.gSub, gCmp, gLen, gMax, gMin, gInt, gList, gTuple, gApp, ix_l0, ix_l1, ix_l2, ix_t0, ix_t1, ix_t2, ix_t3, ix_tm2, ix_tm3, ix_tm4, gEq_int, gNe_int, eq_row_floor, eq_ring_floor, eq_floor_floor, eq_row_ring, eq_ring_ring, eq_floor_ring, eq_row_row, eq_ring_row, eq_floor_row, ne_row_floor, ne_ring_floor, ne_floor_floor, lim, ixN3_0, ixN3_1, ixN3_2, List.getElem?_cons_zero, List.getElem?_cons_succ, List.set_cons_zero, List.set_cons_succ, List.replicate_succ, List.replicate_zero, List.cons_append, List.nil_append, List.zipWith_cons_cons, List.zipWith_nil_left, List.zipWith_nil_right, List.length_cons, List.length_nil, Option.map_some, Option.map_none, Nat.reduceAdd, Nat.reduceSub, Nat.reduceLT, Nat.reduceLeDiff, Int.reduceAdd, Int.reduceLT, Int.reduceLE, Int.reduceNeg, Int.reduceSub, Int.reduceMul, Int.reduceEq, if_true, if_false, ite_true, ite_false, decide_true, decide_false, Bool.not_true, Bool.not_false, Bool.and_true, Bool.true_and, Bool.and_false, Bool.false_and, ↓reduceIte, Ru.d, mul2 (show k ≤ 1000000 by omega), hz]) (by omega)
      rw [rangeD_map] at e
      simp only [wipeD, restD, allFz, eVar_e, eC_e, rd_fz, rd_ow, rd_bw, fr_fz, fr_ow, fr_bw, dFr_e, dOp2_e, dTst_e, dAnd_e, dOr_e, dNot_e, dIfE_e, dAndV_e, dOrV_e, dNotV_e, dYes_e, aNil_e, aCons_e, aFr_e, rds_nil, rds_cons, dCall_e, eTup_e, eLst_e, dsOf_nil, dsOf_fz, fCall_e, bSeq_e, bNext_e, bBreak_e, bCont_e, bRetN_e, bDrop_e, bRet_e, bIf_e, to_fz, to_ow, to_bw, notRf_e, bAsg_e, gNm_e, gsNil_e, gsCons_e, gTp_e, bUnp_e, dMt_e, held_ow, held_rf, putS_e, dM1_e, dIsi_e, oSome_e, oNo_e, dSl_e, dNeg_e, bSetIx_e, bAug_e, res_fz, res_ow, res_bw, runF_e, fin_nil, fin_nil1, fin_rf, fin_fz, iAny_e, iRange1_e, iRange2_e, iEnumD_e, dChain_e, dLRg1_e, dLRg2_e, heldM_ow, heldM_rf, eDict_e, dDGet_e, dDIn_e, bDPut_e, bPar_e, nc0, nc1, nc2, nc3, nc4, nc5, nc6, nc7, nc8, nc9, nc36, kVar_0, kVar_1, kVar_2, kRd_0, kRd_1, kRd_2, kFr_0, kFr_1, kDFr_0, kDFr_1, kZ_0, kZ_1, kOp3_0, kOp2_0, kOp2_1, kOp_0, kOp_1, kTst_0, kAnd_0, kAnd_1, kAnd_2, kOr_0, kOr_1, kOr_2, kNot_0, kNot_1, kIfE_0, kIfE_1, kIfE_2, kAndV_0, kAndV_1, kOrV_0, kOrV_1, kNotV_0, kAC2_0, kAC2_1, kAC_0, kAC_1, kAF_0, kAF_1, kRds_0, kCall2_0, kCall2_1, kCall_0, kCall_1, kTup2_0, kTup2_1, kTup_0, kTup_1, kLst2_0, kLst2_1, kLst_0, kLst_1, kFCo_0, kFCo_1, kFCr_0, kFCr_1, kFCf_0, kFCf_1, kFC2_0, kFC2_1, kFC3_0, kFC3_1, kFC1_0, kFC1_1, kFC1_2, kFC_0, kFC_1, kSeq_0, kSeq_1, kSeq_2, kSeq_3, kSeq_4, kSeq_5, kDrop_0, kDrop_1, kRet_0, kRet_1, kIf_0, kIf_1, kIf_2, kTo_0, kTo_1, kNR_0, kNR_1, kNR_2, kNR_3, kNR_4, kNR_5, kAsg3_0, kAsg3_1, kAsg2_0, kAsg2_1, kAsg_0, kAsg_1, kGN_0, kGN_1, kGC_0, kGC_1, kUn2_0, kUn2_1, kUn_0, kUn_1, kMt4_0, kMt4_1, kMt3_0, kMt2_0, kMt2_1, kMt_0, kMt_1, kPut_0, kPut_1, kPut_2, kPut_3, kPut_4, kPut_5, kM12_0, kM12_1, kM11_0, kM11_1, kM1_0, kIsi3_0, kIsi3_1, kIsi2_0, kIsi2_1, kIsi_0, kIsi_1, kOSo_0, kSl4_0, kSl4_1, kSl3_0, kSl3_1, kSl2_0, kSl2_1, kSl_0, kSl_1, kNeg_0, kSX3_0, kSX3_1, kSX2_0, kSX2_1, kSX1_0, kSX0_0, kSX0_1, kSX_0, kSX_1, kAug3_0, kAug3_1, kAug2_0, kAug_0, kRes_0, kRes_1, kEnd2_0, kEnd2_1, kEnd_0, kEnd_1, kAny_0, kAny_1, kAny_2, kR1_0, kR2_0, kEn_0, kEn_1, kFor_0, kFor_1, kLc2_0, kLc2_1, kLc_0, kLc_1, kGG_0, kCh3_0, kCh3_1, kCh2_0, kCh2_1, kCh1_0, kCh1_1, kCh_0, kCh_1, kLRg_0, kLRh_0, kLRi_0, kMG_0, kDG2_0, kDG1_0, kDG1_1, kDG_0, kDG_1, kDI2_0, kDI2_1, kDI_0, kDI_1, kMP_0, kDP3_0, kDP3_1, kDP2_0, kDP2_1, kDP1_0, kDP1_1, kDP_0, kDP_1, kPar2_0, kPar2_1, kPar_0, gAdd, DL.gSub, gCmp, gLen, gMax, gMin, gInt, gList, gTuple, gApp, ix_l0, ix_l1, ix_l2, ix_t0, ix_t1, ix_t2, ix_t3, ix_tm2, ix_tm3, ix_tm4, gEq_int, gNe_int, eq_row_floor, eq_ring_floor, eq_floor_floor, eq_row_ring, eq_ring_ring, eq_floor_ring, eq_row_row, eq_ring_row, eq_floor_row, ne_row_floor, ne_ring_floor, ne_floor_floor, lim, ixN3_0, ixN3_1, ixN3_2, List.getElem?_cons_zero, List.getElem?_cons_succ, List.set_cons_zero, List.set_cons_succ, List.replicate_succ, List.replicate_zero, List.cons_append, List.nil_append, List.zipWith_cons_cons, List.zipWith_nil_left, List.zipWith_nil_right, List.length_cons, List.length_nil, Option.map_some, Option.map_none, Nat.reduceAdd, Nat.reduceSub, Nat.reduceLT, Nat.reduceLeDiff, Int.reduceAdd, Int.reduceLT, Int.reduceLE, Int.reduceNeg, Int.reduceSub, Int.reduceMul, Int.reduceEq, if_true, if_false, ite_true, ite_false, decide_true, decide_false, Bool.not_true, Bool.not_false, Bool.and_true, Bool.true_and, Bool.and_false, Bool.false_and, ↓reduceIte, Bd.d, Ru.d, Bd.cells] at mo e ⊢
      simp only [wipeD, restD, allFz, eVar_e, eC_e, rd_fz, rd_ow, rd_bw, fr_fz, fr_ow, fr_bw, dFr_e, dOp2_e, dTst_e, dAnd_e, dOr_e, dNot_e, dIfE_e, dAndV_e, dOrV_e, dNotV_e, dYes_e, aNil_e, aCons_e, aFr_e, rds_nil, rds_cons, dCall_e, eTup_e, eLst_e, dsOf_nil, dsOf_fz, fCall_e, bSeq_e, bNext_e, bBreak_e, bCont_e, bRetN_e, bDrop_e, bRet_e, bIf_e, to_fz, to_ow, to_bw, notRf_e, bAsg_e, gNm_e, gsNil_e, gsCons_e, gTp_e, bUnp_e, dMt_e, held_ow, held_rf, putS_e, dM1_e, dIsi_e, oSome_e, oNo_e, dSl_e, dNeg_e, bSetIx_e, bAug_e, res_fz, res_ow, res_bw, runF_e, fin_nil, fin_nil1, fin_rf, fin_fz, iAny_e, iRange1_e, iRange2_e, iEnumD_e, dChain_e, dLRg1_e, dLRg2_e, heldM_ow, heldM_rf, eDict_e, dDGet_e, dDIn_e, bDPut_e, bPar_e, nc0, nc1, nc2, nc3, nc4, nc5, nc6, nc7, nc8, nc9, nc36, kVar_0, kVar_1, kVar_2, kRd_0, kRd_1, kRd_2, kFr_0, kFr_1, kDFr_0, kDFr_1, kZ_0, kZ_1, kOp3_0, kOp2_0, kOp2_1, kOp_0, kOp_1, kTst_0, kAnd_0, kAnd_1, kAnd_2, kOr_0, kOr_1, kOr_2, kNot_0, kNot_1, kIfE_0, kIfE_1, kIfE_2, kAndV_0, kAndV_1, kOrV_0, kOrV_1, kNotV_0, kAC2_0, kAC2_1, kAC_0, kAC_1, kAF_0, kAF_1, kRds_0, kCall2_0, kCall2_1, kCall_0, kCall_1, kTup2_0, kTup2_1, kTup_0, kTup_1, kLst2_0, kLst2_1, kLst_0, kLst_1, kFCo_0, kFCo_1, kFCr_0, kFCr_1, kFCf_0, kFCf_1, kFC2_0, kFC2_1, kFC3_0, kFC3_1, kFC1_0, kFC1_1, kFC1_2, kFC_0, kFC_1, kSeq_0, kSeq_1, kSeq_2, kSeq_3, kSeq_4, kSeq_5, kDrop_0, kDrop_1, kRet_0, kRet_1, kIf_0, kIf_1, kIf_2, kTo_0, kTo_1, kNR_0, kNR_1, kNR_2, kNR_3, kNR_4, kNR_5, kAsg3_0, kAsg3_1, kAsg2_0, kAsg2_1, kAsg_0, kAsg_1, kGN_0, kGN_1, kGC_0, kGC_1, kUn2_0, kUn2_1, kUn_0, kUn_1, kMt4_0, kMt4_1, kMt3_0, kMt2_0, kMt2_1, kMt_0, kMt_1, kPut_0, kPut_1, kPut_2, kPut_3, kPut_4, kPut_5, kM12_0, kM12_1, kM11_0, kM11_1, kM1_0, kIsi3_0, kIsi3_1, kIsi2_0, kIsi2_1, kIsi_0, kIsi_1, kOSo_0, kSl4_0, kSl4_1, kSl3_0, kSl3_1, kSl2_0, kSl2_1, kSl_0, kSl_1, kNeg_0, kSX3_0, kSX3_1, kSX2_0, kSX2_1, kSX1_0, kSX0_0, kSX0_1, kSX_0, kSX_1, kAug3_0, kAug3_1, kAug2_0, kAug_0, kRes_0, kRes_1, kEnd2_0, kEnd2_1, kEnd_0, kEnd_1, kAny_0, kAny_1, kAny_2, kR1_0, kR2_0, kEn_0, kEn_1, kFor_0, kFor_1, kLc2_0, kLc2_1, kLc_0, kLc_1, kGG_0, kCh3_0, kCh3_1, kCh2_0, kCh2_1, kCh1_0, kCh1_1, kCh_0, kCh_1, kLRg_0, kLRh_0, kLRi_0, kMG_0, kDG2_0, kDG1_0, kDG1_1, kDG_0, kDG_1, kDI2_0, kDI2_1, kDI_0, kDI_1, kMP_0, kDP3_0, kDP3_1, kDP2_0, kDP2_1, kDP1_0, kDP1_1, kDP_0, kDP_1, kPar2_0, kPar2_1, kPar_0, gAdd, DL.gSub, gCmp, gLen, gMax, gMin, gInt, gList, gTuple, gApp, ix_l0, ix_l1, ix_l2, ix_t0, ix_t1, ix_t2, ix_t3, ix_tm2, ix_tm3, ix_tm4, gEq_int, gNe_int, eq_row_floor, eq_ring_floor, eq_floor_floor, eq_row_ring, eq_ring_ring, eq_floor_ring, eq_row_row, eq_ring_row, eq_floor_row, ne_row_floor, ne_ring_floor, ne_floor_floor, lim, ixN3_0, ixN3_1, ixN3_2, List.getElem?_cons_zero, List.getElem?_cons_succ, List.set_cons_zero, List.set_cons_succ, List.replicate_succ, List.replicate_zero, List.cons_append, List.nil_append, List.zipWith_cons_cons, List.zipWith_nil_left, List.zipWith_nil_right, List.length_cons, List.length_nil, Option.map_some, Option.map_none, Nat.reduceAdd, Nat.reduceSub, Nat.reduceLT, Nat.reduceLeDiff, Int.reduceAdd, Int.reduceLT, Int.reduceLE, Int.reduceNeg, Int.reduceSub, Int.reduceMul, Int.reduceEq, if_true, if_false, ite_true, ite_false, decide_true, decide_false, Bool.not_true, Bool.not_false, Bool.and_true, Bool.true_and, Bool.and_false, Bool.false_and, ↓reduceIte, F_first_cells, d_first_cells, mo, e, cellsAt]
    | over _ _ _ => cases h
    | under _ _ _ => cases h
  | ring n =>
    cases r with
    | swap k c =>
      obtain ⟨hk, hn, hc⟩ := h
      have hn36 := hb.2
      have e := lrg1_ok (f := eVar 2) (n := n) (ρ := [.fz (Bd.d (.ring n)), .fz (Ru.d (.swap k c)), .fz (.int (n : Nat)), .un, .un, .un, .un, .un, .un]) (ρ1 := [.fz (Bd.d (.ring n)), .fz (Ru.d (.swap k c)), .fz (.int (n : Nat)), .un, .un, .un, .un, .un, .un]) (by simp only [wipeD, restD, allFz, eVar_e, eC_e, rd_fz, rd_ow, rd_bw, fr_fz, fr_ow, fr_bw, dFr_e, dOp2_e, dTst_e, dAnd_e, dOr_e, dNot_e, dIfE_e, dAndV_e, dOrV_e, dNotV_e, dYes_e, aNil_e, aCons_e, aFr_e, rds_nil, rds_cons, dCall_e, eTup_e, eLst_e, dsOf_nil, dsOf_fz, fCall_e, bSeq_e, bNext_e, bBreak_e, bCont_e, bRetN_e, bDrop_e, bRet_e, bIf_e, to_fz, to_ow, to_bw, notRf_e, bAsg_e, gNm_e, gsNil_e, gsCons_e, gTp_e, bUnp_e, dMt_e, held_ow, held_rf, putS_e, dM1_e, dIsi_e, oSome_e, oNo_e, dSl_e, dNeg_e, bSetIx_e, bAug_e, res_fz, res_ow, res_bw, runF_e, fin_nil, fin_nil1, fin_rf, fin_fz, iAny_e, iRange1_e, iRange2_e, iEnumD_e, dChain_e, dLRg1_e, dLRg2_e, heldM_ow, heldM_rf, eDict_e, dDGet_e, dDIn_e, bDPut_e, bPar_e, nc0, nc1, nc2, nc3, nc4, nc5, nc6, nc7, nc8, nc9, nc36, kVar_0, kVar_1, kVar_2, kRd_0, kRd_1, kRd_2, kFr_0, kFr_1, kDFr_0, kDFr_1, kZ_0, kZ_1, kOp3_0, kOp2_0, kOp2_1, kOp_0, kOp_1, kTst_0, kAnd_0, kAnd_1, kAnd_2, kOr_0, kOr_1, kOr_2, kNot_0, kNot_1, kIfE_0, kIfE_1, kIfE_2, kAndV_0, kAndV_1, kOrV_0, kOrV_1, kNotV_0, kAC2_0, kAC2_1, kAC_0, kAC_1, kAF_0, kAF_1, kRds_0, kCall2_0, kCall2_1, kCall_0, kCall_1, kTup2_0, kTup2_1, kTup_0, kTup_1, kLst2_0, kLst2_1, kLst_0, kLst_1, kFCo_0, kFCo_1, kFCr_0, kFCr_1, kFCf_0, kFCf_1, kFC2_0, kFC2_1, kFC3_0, kFC3_1, kFC1_0, kFC1_1, kFC1_2, kFC_0, kFC_1, kSeq_0, kSeq_1, kSeq_2, kSeq_3, kSeq_4, kSeq_5, kDrop_0, kDrop_1, kRet_0, kRet_1, kIf_0, kIf_1, kIf_2, kTo_0, kTo_1, kNR_0, kNR_1, kNR_2, kNR_3, kNR_4, kNR_5, kAsg3_0, kAsg3_1, kAsg2_0, kAsg2_1, kAsg_0, kAsg_1, kGN_0, kGN_1, kGC_0, kGC_1, kUn2_0, kUn2_1, kUn_0, kUn_1, kMt4_0, kMt4_1, kMt3_0, kMt2_0, kMt2_1, kMt_0, kMt_1, kPut_0, kPut_1, kPut_2, kPut_3, kPut_4, kPut_5, kM12_0, kM12_1, kM11_0, kM11_1, kM1_0, kIsi3_0, kIsi3_1, kIsi2_0, kIsi2_1, kIsi_0, kIsi_1, kOSo_0, kSl4_0, kSl4_1, kSl3_0, kSl3_1, kSl2_0, kSl2_1, kSl_0, kSl_1, kNeg_0, kSX3_0, kSX3_1, kSX2_0, kSX2_1, kSX1_0, kSX0_0, kSX0_1, kSX_0, kSX_1, kAug3_0, kAug3_1, kAug2_0, kAug_0, kRes_0, kRes_1, kEnd2_0, kEnd2_1, kEnd_0, kEnd_1, kAny_0, kAny_1, kAny_2, kR1_0, kR2_0, kEn_0, kEn_1, kFor_0, kFor_1, kLc2_0, kLc2_1, kLc_0, kLc_1, kGG_0, kCh3_0, kCh3_1, kCh2_0, kCh2_1, kCh1_0, kCh1_1, kCh_0, kCh_1, kLRg_0, kLRh_0, kLRi_0, kMG_0, kDG2_0, kDG1_0, kDG1_1, kDG_0, kDG_1, kDI2_0, kDI2_1, kDI_0, kDI_1, kMP_0, kDP3_0, kDP3_1, kDP2_0, kDP2_1, kDP1_0, kDP1_1, kDP_0, kDP_1, kPar2_0, kPar2_1, kPar_0, gAdd, DL.gSub, gCmp, gLen, gMax, gMin, gInt, gList, gTuple, gApp, ix_l0, ix_l1, ix_l2, ix_t0, ix_t1, ix_t2, ix_t3, ix_tm2, ix_tm3, ix_tm4, gEq_int, gNe_int, eq_row_floor, eq_ring_floor, eq_floor_floor, eq_row_ring, eq_ring_ring, eq_floor_ring, eq_row_row, eq_ring_row, eq_floor_row, ne_row_floor, ne_ring_floor, ne_floor_floor, lim, ixN3_0, ixN3_1, ixN3_2, List.getElem?_cons_zero, List.getElem?_cons_succ, List.set_cons_zero, List.set_cons_succ, List.replicate_succ, List.replicate_zero, List.cons_append, List.nil_append, List.zipWith_cons_cons, List.zipWith_nil_left, List.zipWith_nil_right, List.length_cons, List.length_nil, Option.map_some, Option.map_none, Nat.reduceAdd, Nat.reduceSub, Nat.reduceLT, Nat.reduceLeDiff, Int.reduceAdd, Int.reduceLT, Int.reduceLE, Int.reduceNeg, Int.reduceSub, Int.reduceMul, Int.reduceEq, if_true, if_false, ite_true, ite_false, decide_true, decide_false, Bool.not_true, Bool.not_false, Bool.and_true, Bool.true_and, Bool.and_false, Bool.false_and, ↓reduceIte]) (by omega)
      rw [rangeD_map] at e
      simp only [wipeD, restD, allFz, eVar_e, eC_e, rd_fz, rd_ow, rd_bw, fr_fz, fr_ow, fr_bw, dFr_e, dOp2_e, dTst_e, dAnd_e, dOr_e, dNot_e, dIfE_e, dAndV_e, dOrV_e, dNotV_e, dYes_e, aNil_e, aCons_e, aFr_e, rds_nil, rds_cons, dCall_e, eTup_e, eLst_e, dsOf_nil, dsOf_fz, fCall_e, bSeq_e, bNext_e, bBreak_e, bCont_e, bRetN_e, bDrop_e, bRet_e, bIf_e, to_fz, to_ow, to_bw, notRf_e, bAsg_e, gNm_e, gsNil_e, gsCons_e, gTp_e, bUnp_e, dMt_e, held_ow, held_rf, putS_e, dM1_e, dIsi_e, oSome_e, oNo_e, dSl_e, dNeg_e, bSetIx_e, bAug_e, res_fz, res_ow, res_bw, runF_e, fin_nil, fin_nil1, fin_rf, fin_fz, iAny_e, iRange1_e, iRange2_e, iEnumD_e, dChain_e, dLRg1_e, dLRg2_e, heldM_ow, heldM_rf, eDict_e, dDGet_e, dDIn_e, bDPut_e, bPar_e, nc0, nc1, nc2, nc3, nc4, nc5, nc6, nc7, nc8, nc9, nc36, kVar_0, kVar_1, kVar_2, kRd_0, kRd_1, kRd_2, kFr_0, kFr_1, kDFr_0, kDFr_1, kZ_0, kZ_1, kOp3_0, kOp2_0, kOp2_1, kOp_0, kOp_1, kTst_0, kAnd_0, kAnd_1, kAnd_2, kOr_0, kOr_1, kOr_2, kNot_0, kNot_1, kIfE_0, kIfE_1, kIfE_2, kAndV_0, kAndV_1, kOrV_0, kOrV_1, kNotV_0, kAC2_0, kAC2_1, kAC_0, kAC_1, kAF_0, kAF_1, kRds_0, kCall2_0, kCall2_1, kCall_0, kCall_1, kTup2_0, kTup2_1, kTup_0, kTup_1, kLst2_0, kLst2_1, kLst_0, kLst_1, kFCo_0, kFCo_1, kFCr_0, kFCr_1, kFCf_0, kFCf_1, kFC2_0, kFC2_1, kFC3_0, kFC3_1, kFC1_0, kFC1_1, kFC1_2, kFC_0, kFC_1, kSeq_0, kSeq_1, kSeq_2, kSeq_3, kSeq_4, kSeq_5, kDrop_0, kDrop_1, kRet_0, kRet_1, kIf_0, kIf_1, kIf_2, kTo_0, kTo_1, kNR_0, kNR_1, kNR_2, kNR_3, kNR_4, kNR_5, kAsg3_0, kAsg3_1, kAsg2_0, kAsg2_1, kAsg_0, kAsg_1, kGN_0, kGN_1, kGC_0, kGC_1, kUn2_0, kUn2_1, kUn_0, kUn_1, kMt4_0, kMt4_1, kMt3_0, kMt2_0, kMt2_1, kMt_0, kMt_1, kPut_0, kPut_1, kPut_2, kPut_3, kPut_4, kPut_5, kM12_0, kM12_1, kM11_0, kM11_1, kM1_0, kIsi3_0, kIsi3_1, kIsi2_0, kIsi2_1, kIsi_0, kIsi_1, kOSo_0, kSl4_0, kSl4_1, kSl3_0, kSl3_1, kSl2_0, kSl2_1, kSl_0, kSl_1, kNeg_0, kSX3_0, kSX3_1, kSX2_0, kSX2_1, kSX1_0, kSX0_0, kSX0_1, kSX_0, kSX_1, kAug3_0, kAug3_1, kAug2_0, kAug_0, kRes_0, kRes_1, kEnd2_0, kEnd2_1, kEnd_0, kEnd_1, kAny_0, kAny_1, kAny_2, kR1_0, kR2_0, kEn_0, kEn_1, kFor_0, kFor_1, kLc2_0, kLc2_1, kLc_0, kLc_1, kGG_0, kCh3_0, kCh3_1, kCh2_0, kCh2_1, kCh1_0, kCh1_1, kCh_0, kCh_1, kLRg_0, kLRh_0, kLRi_0, kMG_0, kDG2_0, kDG1_0, kDG1_1, kDG_0, kDG_1, kDI2_0, kDI2_1, kDI_0, kDI_1, kMP_0, kDP3_0, kDP3_1, kDP2_0, kDP2_1, kDP1_0, kDP1_1, kDP_0, kDP_1, kPar2_0, kPar2_1, kPar_0, gAdd, DL.gSub, gCmp, gLen, gMax, gMin, gInt, gList, gTuple, gApp, ix_l0, ix_l1, ix_l2, ix_t0, ix_t1, ix_t2, ix_t3, ix_tm2, ix_tm3, ix_tm4, gEq_int, gNe_int, eq_row_floor, eq_ring_floor, eq_floor_floor, eq_row_ring, eq_ring_ring, eq_floor_ring, eq_row_row, eq_ring_row, eq_floor_row, ne_row_floor, ne_ring_floor, ne_floor_floor, lim, ixN3_0, ixN3_1, ixN3_2, List.getElem?_cons_zero, List.getElem?_cons_succ, List.set_cons_zero, List.set_cons_succ, List.replicate_succ, List.replicate_zero, List.cons_append, List.nil_append, List.zipWith_cons_cons, List.zipWith_nil_left, List.zipWith_nil_right, List.length_cons, List.length_nil, Option.map_some, Option.map_none, Nat.reduceAdd, Nat.reduceSub, Nat.reduceLT, Nat.reduceLeDiff, Int.reduceAdd, Int.reduceLT, Int.reduceLE, Int.reduceNeg, Int.reduceSub, Int.reduceMul, Int.reduceEq, if_true, if_false, ite_true, ite_false, decide_true, decide_false, Bool.not_true, Bool.not_false, Bool.and_true, Bool.true_and, Bool.and_false, Bool.false_and, ↓reduceIte, Bd.d, Ru.d, Bd.cells] at mo e ⊢
      simp only [wipeD, restD, allFz, eVar_e, eC_e, rd_fz, rd_ow, rd_bw, fr_fz, fr_ow, fr_bw, dFr_e, dOp2_e, dTst_e, dAnd_e, dOr_e, dNot_e, dIfE_e, dAndV_e, dOrV_e, dNotV_e, dYes_e, aNil_e, aCons_e, aFr_e, rds_nil, rds_cons, dCall_e, eTup_e, eLst_e, dsOf_nil, dsOf_fz, fCall_e, bSeq_e, bNext_e, bBreak_e, bCont_e, bRetN_e, bDrop_e, bRet_e, bIf_e, to_fz, to_ow, to_bw, notRf_e, bAsg_e, gNm_e, gsNil_e, gsCons_e, gTp_e, bUnp_e, dMt_e, held_ow, held_rf, putS_e, dM1_e, dIsi_e, oSome_e, oNo_e, dSl_e, dNeg_e, bSetIx_e, bAug_e, res_fz, res_ow, res_bw, runF_e, fin_nil, fin_nil1, fin_rf, fin_fz, iAny_e, iRange1_e, iRange2_e, iEnumD_e, dChain_e, dLRg1_e, dLRg2_e, heldM_ow, heldM_rf, eDict_e, dDGet_e, dDIn_e, bDPut_e, bPar_e, nc0, nc1, nc2, nc3, nc4, nc5, nc6, nc7, nc8, nc9, nc36, kVar_0, kVar_1, kVar_2, kRd_0, kRd_1, kRd_2, kFr_0, kFr_1, kDFr_0, kDFr_1, kZ_0, kZ_1, kOp3_0, kOp2_0, kOp2_1, kOp_0, kOp_1, kTst_0, kAnd_0, kAnd_1, kAnd_2, kOr_0, kOr_1, kOr_2, kNot_0, kNot_1, kIfE_0, kIfE_1, kIfE_2, kAndV_0, kAndV_1, kOrV_0, kOrV_1, kNotV_0, kAC2_0, kAC2_1, kAC_0, kAC_1, kAF_0, kAF_1, kRds_0, kCall2_0, kCall2_1, kCall_0, kCall_1, kTup2_0, kTup2_1, kTup_0, kTup_1, kLst2_0, kLst2_1, kLst_0, kLst_1, kFCo_0, kFCo_1, kFCr_0, kFCr_1, kFCf_0, kFCf_1, kFC2_0, kFC2_1, kFC3_0, kFC3_1, kFC1_0, kFC1_1, kFC1_2, kFC_0, kFC_1, kSeq_0, kSeq_1, kSeq_2, kSeq_3, kSeq_4, kSeq_5, kDrop_0, kDrop_1, kRet_0, kRet_1, kIf_0, kIf_1, kIf_2, kTo_0, kTo_1, kNR_0, kNR_1, kNR_2, kNR_3, kNR_4, kNR_5, kAsg3_0, kAsg3_1, kAsg2_0, kAsg2_1, kAsg_0, kAsg_1, kGN_0, kGN_1, kGC_0, kGC_1, kUn2_0, kUn2_1, kUn_0, kUn_1, kMt4_0, kMt4_1, kMt3_0, kMt2_0, kMt2_1, kMt_0, kMt_1, kPut_0, kPut_1, kPut_2, kPut_3, kPut_4, kPut_5, kM12_0, kM12_1, kM11_0, kM11_1, kM1_0, kIsi3_0, kIsi3_1, kIsi2_0, kIsi2_1, kIsi_0, kIsi_1, kOSo_0, kSl4_0, kSl4_1, kSl3_0, kSl3_1, kSl2_0, kSl2_1, kSl_0, kSl_1, kNeg_0, kSX3_0, kSX3_1, kSX2_0, kSX2_1, kSX1_0, kSX0_0, kSX0_1, kSX_0, kSX_1, kAug3_0, kAug3_1, kAug2_0, kAug_0, kRes_0, kRes_1, kEnd2_0, kEnd2_1, kEnd_0, kEnd_1, kAny_0, kAny_1, kAny_2, kR1_0, kR2_0, kEn_0, kEn_1, kFor_0, kFor_1, kLc2_0, kLc2_1, kLc_0, kLc_1, kGG_0, kCh3_0, kCh3_1, kCh2_0, kCh2_1, kCh1_0, kCh1_1, kCh_0, kCh_1, kLRg_0, kLRh_0, kLRi_0, kMG_0, kDG2_0, kDG1_0, kDG1_1, kDG_0, kDG_1, kDI2_0, kDI2_1, kDI_0, kDI_1, kMP_0, kDP3_0, kDP3_1, kDP2_0, kDP2_1, kDP1_0, kDP1_1, kDP_0, kDP_1, kPar2_0, kPar2_1, kPar_0, gAdd, DL.gSub, gCmp, gLen, gMax, gMin, gInt, gList, gTuple, gApp, ix_l0, ix_l1, ix_l2, ix_t0, ix_t1, ix_t2, ix_t3, ix_tm2, ix_tm3, ix_tm4, gEq_int, gNe_int, eq_row_floor, eq_ring_floor, eq_floor_floor, eq_row_ring, eq_ring_ring, eq_floor_ring, eq_row_row, eq_ring_row, eq_floor_row, ne_row_floor, ne_ring_floor, ne_floor_floor, lim, ixN3_0, ixN3_1, ixN3_2, List.getElem?_cons_zero, List.getElem?_cons_succ, List.set_cons_zero, List.set_cons_succ, List.replicate_succ, List.replicate_zero, List.cons_append, List.nil_append, List.zipWith_cons_cons, List.zipWith_nil_left, List.zipWith_nil_right, List.length_cons, List.length_nil, Option.map_some, Option.map_none, Nat.reduceAdd, Nat.reduceSub, Nat.reduceLT, Nat.reduceLeDiff, Int.reduceAdd, Int.reduceLT, Int.reduceLE, Int.reduceNeg, Int.reduceSub, Int.reduceMul, Int.reduceEq, if_true, if_false, ite_true, ite_false, decide_true, decide_false, Bool.not_true, Bool.not_false, Bool.and_true, Bool.true_and, Bool.and_false, Bool.false_and, ↓reduceIte, F_first_cells, d_first_cells, mo, e, cellsAt]
    | over _ _ _ => cases h
    | under _ _ _ => cases h
  | floor H W =>
    have h36 := hb.2.2.1
    have hH : H ≤ 36 := Nat.le_trans (Nat.le_mul_of_pos_right H hb.2.1) h36
    have hW : W ≤ 36 := Nat.le_trans (Nat.le_mul_of_pos_left W hb.1) h36
    cases r with
    | swap _ _ => cases h
    | over x y c =>
      obtain ⟨h1, h2, h3, h4, hc⟩ := h
      have m1 : gMul (.int (x : Nat)) (.int 1) = some (.fz (.int ((x : Nat) * 1))) := mul_small (by omega) (by decide)
      have m2 : gMul (.int (y : Nat)) (.int 2) = some (.fz (.int ((y : Nat) * 2))) := mul_small (by omega) (by decide)
      have z1 : (H : Int) - (x : Nat) * 1 + 1 = ((H - x + 1 : Nat) : Int) := by omega
      have z2 : (W : Int) - (y : Nat) * 2 + 1 = ((W - 2 * y + 1 : Nat) : Int) := by omega
      have e := grid_lc (b := Bd.d (.floor H W)) (r := Ru.d (.over x y c)) (m := .int ((H * W : Nat) : Int)) (H := H) (W := W) (R := H - x + 1) (C := W - 2 * y + 1) (by omega) (by omega) hW
      simp only [wipeD, restD, allFz, eVar_e, eC_e, rd_fz, rd_ow, rd_bw, fr_fz, fr_ow, fr_bw, dFr_e, dOp2_e, dTst_e, dAnd_e, dOr_e, dNot_e, dIfE_e, dAndV_e, dOrV_e, dNotV_e, dYes_e, aNil_e, aCons_e, aFr_e, rds_nil, rds_cons, dCall_e, eTup_e, eLst_e, dsOf_nil, dsOf_fz, fCall_e, bSeq_e, bNext_e, bBreak_e, bCont_e, bRetN_e, bDrop_e, bRet_e, bIf_e, to_fz, to_ow, to_bw, notRf_e, bAsg_e, gNm_e, gsNil_e, gsCons_e, gTp_e, bUnp_e, dMt_e, held_ow, held_rf, putS_e, dM1_e, dIsi_e, oSome_e, oNo_e, dSl_e, dNeg_e, bSetIx_e, bAug_e, res_fz, res_ow, res_bw, runF_e, fin_nil, fin_nil1, fin_rf, fin_fz, iAny_e, iRange1_e, iRange2_e, iEnumD_e, dChain_e, dLRg1_e, dLRg2_e, heldM_ow, heldM_rf, eDict_e, dDGet_e, dDIn_e, bDPut_e, bPar_e, nc0, nc1, nc2, nc3, nc4, nc5, nc6, nc7, nc8, nc9, nc36, kVar_0, kVar_1, kVar_2, kRd_0, kRd_1, kRd_2, kFr_0, kFr_1, kDFr_0, kDFr_1, kZ_0, kZ_1, kOp3_0, kOp2_0, kOp2_1, kOp_0, kOp_1, kTst_0, kAnd_0, kAnd_1, kAnd_2, kOr_0, kOr_1, kOr_2, kNot_0, kNot_1, kIfE_0, kIfE_1, kIfE_2, kAndV_0, kAndV_1, kOrV_0, kOrV_1, kNotV_0, kAC2_0, kAC2_1, kAC_0, kAC_1, kAF_0, kAF_1, kRds_0, kCall2_0, kCall2_1, kCall_0, kCall_1, kTup2_0, kTup2_1, kTup_0, kTup_1, kLst2_0, kLst2_1, kLst_0, kLst_1, kFCo_0, kFCo_1, kFCr_0, kFCr_1, kFCf_0, kFCf_1, kFC2_0, kFC2_1, kFC3_0, kFC3_1, kFC1_0, kFC1_1, kFC1_2, kFC_0, kFC_1, kSeq_0, kSeq_1, kSeq_2, kSeq_3, kSeq_4, kSeq_5, kDrop_0, kDrop_1, kRet_0, kRet_1, kIf_0, kIf_1, kIf_2, kTo_0, kTo_1, kNR_0, kNR_1, kNR_2, kNR_3, kNR_4, kNR_5, kAsg3_0, kAsg3_1, kAsg2_0, kAsg2_1, kAsg_0, kAsg_1, kGN_0, kGN_1, kGC_0, kGC_1, kUn2_0, kUn2_1, kUn_0, kUn_1, kMt4_0, kMt4_1, kMt3_0, kMt2_0, kMt2_1, kMt_0, kMt_1, kPut_0, kPut_1, kPut_2, kPut_3, kPut_4, kPut_5, kM12_0, kM12_1, kM11_0, kM11_1, kM1_0, kIsi3_0, kIsi3_1, kIsi2_0, kIsi2_1, kIsi_0, kIsi_1, kOSo_0, kSl4_0, kSl4_1, kSl3_0, kSl3_1, kSl2_0, kSl2_1, kSl_0, kSl_1, kNeg_0, kSX3_0, kSX3_1, kSX2_0, kSX2_1, kSX1_0, kSX0_0, kSX0_1, kSX_0, kSX_1, kAug3_0, kAug3_1, kAug2_0, kAug_0, kRes_0, kRes_1, kEnd2_0, kEnd2_1, kEnd_0, kEnd_1, kAny_0, kAny_1, kAny_2, kR1_0, kR2_0, kEn_0, kEn_1, kFor_0, kFor_1, kLc2_0, kLc2_1, kLc_0, kLc_1, kGG_0, kCh3_0, kCh3_1, kCh2_0, kCh2_1, kCh1_0, kCh1_1, kCh_0, kCh_1, kLRg_0, kLRh_0, kLRi_0, kMG_0, kDG2_0, kDG1_0, kDG1_1, kDG_0, kDG_1, kDI2_0, kDI2_1, kDI_0, kDI_1, kMP_0, kDP3_0, kDP3_1, kDP2_0, kDP2_1, kDP1_0, kDP1_1, kDP_0, kDP_1, kPar2_0, kPar2_1, kPar_0, gAdd, DL.gSub, gCmp, gLen, gMax, gMin, gInt, gList, gTuple, gApp, ix_l0, ix_l1, ix_l2, ix_t0, ix_t1, ix_t2, ix_t3, ix_tm2, ix_tm3, ix_tm4, gEq_int, gNe_int, eq_row_floor, eq_ring_floor, eq_floor_floor, eq_row_ring, eq_ring_ring, eq_floor_ring, eq_row_row, eq_ring_row, eq_floor_row, ne_row_floor, ne_ring_floor, ne_floor_floor, lim, ixN3_0, ixN3_1, ixN3_2, List.getElem?_cons_zero, List.getElem?_cons_succ, List.set_cons_zero, List.set_cons_succ, List.replicate_succ, List.replicate_zero, List.cons_append, List.nil_append, List.zipWith_cons_cons, List.zipWith_nil_left, List.zipWith_nil_right, List.length_cons, List.length_nil, Option.map_some, Option.map_none, Nat.reduceAdd, Nat.reduceSub, Nat.reduceLT, Nat.reduceLeDiff, Int.reduceAdd, Int.reduceLT, Int.reduceLE, Int.reduceNeg, Int.reduceSub, Int.reduceMul, Int.reduceEq, if_true, if_false, ite_true, ite_false, decide_true, decide_false, Bool.not_true, Bool.not_false, Bool.and_true, Bool.true_and, Bool.and_false, Bool.false_and, ↓reduceIte, Bd.d, Ru.d, Bd.cells] at mo e ⊢
      simp only [wipeD, restD, allFz, eVar_e, eC_e, rd_fz, rd_ow, rd_bw, fr_fz, fr_ow, fr_bw, dFr_e, dOp2_e, dTst_e, dAnd_e, dOr_e, dNot_e, dIfE_e, dAndV_e, dOrV_e, dNotV_e, dYes_e, aNil_e, aCons_e, aFr_e, rds_nil, rds_cons, dCall_e, eTup_e, eLst_e, dsOf_nil, dsOf_fz, fCall_e, bSeq_e, bNext_e, bBreak_e, bCont_e, bRetN_e, bDrop_e, bRet_e, bIf_e, to_fz, to_ow, to_bw, notRf_e, bAsg_e, gNm_e, gsNil_e, gsCons_e, gTp_e, bUnp_e, dMt_e, held_ow, held_rf, putS_e, dM1_e, dIsi_e, oSome_e, oNo_e, dSl_e, dNeg_e, bSetIx_e, bAug_e, res_fz, res_ow, res_bw, runF_e, fin_nil, fin_nil1, fin_rf, fin_fz, iAny_e, iRange1_e, iRange2_e, iEnumD_e, dChain_e, dLRg1_e, dLRg2_e, heldM_ow, heldM_rf, eDict_e, dDGet_e, dDIn_e, bDPut_e, bPar_e, nc0, nc1, nc2, nc3, nc4, nc5, nc6, nc7, nc8, nc9, nc36, kVar_0, kVar_1, kVar_2, kRd_0, kRd_1, kRd_2, kFr_0, kFr_1, kDFr_0, kDFr_1, kZ_0, kZ_1, kOp3_0, kOp2_0, kOp2_1, kOp_0, kOp_1, kTst_0, kAnd_0, kAnd_1, kAnd_2, kOr_0, kOr_1, kOr_2, kNot_0, kNot_1, kIfE_0, kIfE_1, kIfE_2, kAndV_0, kAndV_1, kOrV_0, kOrV_1, kNotV_0, kAC2_0, kAC2_1, kAC_0, kAC_1, kAF_0, kAF_1, kRds_0, kCall2_0, kCall2_1, kCall_0, kCall_1, kTup2_0, kTup2_1, kTup_0, kTup_1, kLst2_0, kLst2_1, kLst_0, kLst_1, kFCo_0, kFCo_1, kFCr_0, kFCr_1, kFCf_0, kFCf_1, kFC2_0, kFC2_1, kFC3_0, kFC3_1, kFC1_0, kFC1_1, kFC1_2, kFC_0, kFC_1, kSeq_0, kSeq_1, kSeq_2, kSeq_3, kSeq_4, kSeq_5, kDrop_0, kDrop_1, kRet_0, kRet_1, kIf_0, kIf_1, kIf_2, kTo_0, kTo_1, kNR_0, kNR_1, kNR_2, kNR_3, kNR_4, kNR_5, kAsg3_0, kAsg3_1, kAsg2_0, kAsg2_1, kAsg_0, kAsg_1, kGN_0, kGN_1, kGC_0, kGC_1, kUn2_0, kUn2_1, kUn_0, kUn_1, kMt4_0, kMt4_1, kMt3_0, kMt2_0, kMt2_1, kMt_0, kMt_1, kPut_0, kPut_1, kPut_2, kPut_3, kPut_4, kPut_5, kM12_0, kM12_1, kM11_0, kM11_1, kM1_0, kIsi3_0, kIsi3_1, kIsi2_0, kIsi2_1, kIsi_0, kIsi_1, kOSo_0, kSl4_0, kSl4_1, kSl3_0, kSl3_1, kSl2_0, kSl2_1, kSl_0, kSl_1, kNeg_0, kSX3_0, kSX3_1, kSX2_0, kSX2_1, kSX1_0, kSX0_0, kSX0_1, kSX_0, kSX_1, kAug3_0, kAug3_1, kAug2_0, kAug_0, kRes_0, kRes_1, kEnd2_0, kEnd2_1, kEnd_0, kEnd_1, kAny_0, kAny_1, kAny_2, kR1_0, kR2_0, kEn_0, kEn_1, kFor_0, kFor_1, kLc2_0, kLc2_1, kLc_0, kLc_1, kGG_0, kCh3_0, kCh3_1, kCh2_0, kCh2_1, kCh1_0, kCh1_1, kCh_0, kCh_1, kLRg_0, kLRh_0, kLRi_0, kMG_0, kDG2_0, kDG1_0, kDG1_1, kDG_0, kDG_1, kDI2_0, kDI2_1, kDI_0, kDI_1, kMP_0, kDP3_0, kDP3_1, kDP2_0, kDP2_1, kDP1_0, kDP1_1, kDP_0, kDP_1, kPar2_0, kPar2_1, kPar_0, gAdd, DL.gSub, gCmp, gLen, gMax, gMin, gInt, gList, gTuple, gApp, ix_l0, ix_l1, ix_l2, ix_t0, ix_t1, ix_t2, ix_t3, ix_tm2, ix_tm3, ix_tm4, gEq_int, gNe_int, eq_row_floor, eq_ring_floor, eq_floor_floor, eq_row_ring, eq_ring_ring, eq_floor_ring, eq_row_row, eq_ring_row, eq_floor_row, ne_row_floor, ne_ring_floor, ne_floor_floor, lim, ixN3_0, ixN3_1, ixN3_2, List.getElem?_cons_zero, List.getElem?_cons_succ, List.set_cons_zero, List.set_cons_succ, List.replicate_succ, List.replicate_zero, List.cons_append, List.nil_append, List.zipWith_cons_cons, List.zipWith_nil_left, List.zipWith_nil_right, List.length_cons, List.length_nil, Option.map_some, Option.map_none, Nat.reduceAdd, Nat.reduceSub, Nat.reduceLT, Nat.reduceLeDiff, Int.reduceAdd, Int.reduceLT, Int.reduceLE, Int.reduceNeg, Int.reduceSub, Int.reduceMul, Int.reduceEq, if_true, if_false, ite_true, ite_false, decide_true, decide_false, Bool.not_true, Bool.not_false, Bool.and_true, Bool.true_and, Bool.and_false, Bool.false_and, ↓reduceIte, F_first_cells, d_first_cells, mo, cut1_3, eq_under.2.1, eq_over.2.1, m1, m2, z1, z2, e, cellsAt, Bool.false_eq_true]
    | under x y c =>
      obtain ⟨h1, h2, h3, h4, hc⟩ := h
      have m1 : gMul (.int (x : Nat)) (.int 2) = some (.fz (.int ((x : Nat) * 2))) := mul_small (by omega) (by decide)
      have m2 : gMul (.int (y : Nat)) (.int 1) = some (.fz (.int ((y : Nat) * 1))) := mul_small (by omega) (by decide)
      have z1 : (H : Int) - (x : Nat) * 2 + 1 = ((H - 2 * x + 1 : Nat) : Int) := by omega
      have z2 : (W : Int) - (y : Nat) * 1 + 1 = ((W - y + 1 : Nat) : Int) := by omega
      have e := grid_lc (b := Bd.d (.floor H W)) (r := Ru.d (.under x y c)) (m := .int ((H * W : Nat) : Int)) (H := H) (W := W) (R := H - 2 * x + 1) (C := W - y + 1) (by omega) (by omega) hW
      simp only [wipeD, restD, allFz, eVar_e, eC_e, rd_fz, rd_ow, rd_bw, fr_fz, fr_ow, fr_bw, dFr_e, dOp2_e, dTst_e, dAnd_e, dOr_e, dNot_e, dIfE_e, dAndV_e, dOrV_e, dNotV_e, dYes_e, aNil_e, aCons_e, aFr_e, rds_nil, rds_cons, dCall_e, eTup_e, eLst_e, dsOf_nil, dsOf_fz, fCall_e, bSeq_e, bNext_e, bBreak_e, bCont_e, bRetN_e, bDrop_e, bRet_e, bIf_e, to_fz, to_ow, to_bw, notRf_e, bAsg_e, gNm_e, gsNil_e, gsCons_e, gTp_e, bUnp_e, dMt_e, held_ow, held_rf, putS_e, dM1_e, dIsi_e, oSome_e, oNo_e, dSl_e, dNeg_e, bSetIx_e, bAug_e, res_fz, res_ow, res_bw, runF_e, fin_nil, fin_nil1, fin_rf, fin_fz, iAny_e, iRange1_e, iRange2_e, iEnumD_e, dChain_e, dLRg1_e, dLRg2_e, heldM_ow, heldM_rf, eDict_e, dDGet_e, dDIn_e, bDPut_e, bPar_e, nc0, nc1, nc2, nc3, nc4, nc5, nc6, nc7, nc8, nc9, nc36, kVar_0, kVar_1, kVar_2, kRd_0, kRd_1, kRd_2, kFr_0, kFr_1, kDFr_0, kDFr_1, kZ_0, kZ_1, kOp3_0, kOp2_0, kOp2_1, kOp_0, kOp_1, kTst_0, kAnd_0, kAnd_1, kAnd_2, kOr_0, kOr_1, kOr_2, kNot_0, kNot_1, kIfE_0, kIfE_1, kIfE_2, kAndV_0, kAndV_1, kOrV_0, kOrV_1, kNotV_0, kAC2_0, kAC2_1, kAC_0, kAC_1, kAF_0, kAF_1, kRds_0, kCall2_0, kCall2_1, kCall_0, kCall_1, kTup2_0, kTup2_1, kTup_0, kTup_1, kLst2_0, kLst2_1, kLst_0, kLst_1, kFCo_0, kFCo_1, kFCr_0, kFCr_1, kFCf_0, kFCf_1, kFC2_0, kFC2_1, kFC3_0, kFC3_1, kFC1_0, kFC1_1, kFC1_2, kFC_0, kFC_1, kSeq_0, kSeq_1, kSeq_2, kSeq_3, kSeq_4, kSeq_5, kDrop_0, kDrop_1, kRet_0, kRet_1, kIf_0, kIf_1, kIf_2, kTo_0, kTo_1, kNR_0, kNR_1, kNR_2, kNR_3, kNR_4, kNR_5, kAsg3_0, kAsg3_1, kAsg2_0, kAsg2_1, kAsg_0, kAsg_1, kGN_0, kGN_1, kGC_0, kGC_1, kUn2_0, kUn2_1, kUn_0, kUn_1, kMt4_0, kMt4_1, kMt3_0, kMt2_0, kMt2_1, kMt_0, kMt_1, kPut_0, kPut_1, kPut_2, kPut_3, kPut_4, kPut_5, kM12_0, kM12_1, kM11_0, kM11_1, kM1_0, kIsi3_0, kIsi3_1, kIsi2_0, kIsi2_1, kIsi_0, kIsi_1, kOSo_0, kSl4_0, kSl4_1, kSl3_0, kSl3_1, kSl2_0, kSl2_1, kSl_0, kSl_1, kNeg_0, kSX3_0, kSX3_1, kSX2_0, kSX2_1, kSX1_0, kSX0_0, kSX0_1, kSX_0, kSX_1, kAug3_0, kAug3_1, kAug2_0, kAug_0, kRes_0, kRes_1, kEnd2_0, kEnd2_1, kEnd_0, kEnd_1, kAny_0, kAny_1, kAny_2, kR1_0, kR2_0, kEn_0, kEn_1, kFor_0, kFor_1, kLc2_0, kLc2_1, kLc_0, kLc_1, kGG_0, kCh3_0, kCh3_1, kCh2_0, kCh2_1, kCh1_0, kCh1_1, kCh_0, kCh_1, kLRg_0, kLRh_0, kLRi_0, kMG_0, kDG2_0, kDG1_0, kDG1_1, kDG_0, kDG_1, kDI2_0, kDI2_1, kDI_0, kDI_1, kMP_0, kDP3_0, kDP3_1, kDP2_0, kDP2_1, kDP1_0, kDP1_1, kDP_0, kDP_1, kPar2_0, kPar2_1, kPar_0, gAdd, DL.gSub, gCmp, gLen, gMax, gMin, gInt, gList, gTuple, gApp, ix_l0, ix_l1, ix_l2, ix_t0, ix_t1, ix_t2, ix_t3, ix_tm2, ix_tm3, ix_tm4, gEq_int, gNe_int, eq_row_floor, eq_ring_floor, eq_floor_floor, eq_row_ring, eq_ring_ring, eq_floor_ring, eq_row_row, eq_ring_row, eq_floor_row, ne_row_floor, ne_ring_floor, ne_floor_floor, lim, ixN3_0, ixN3_1, ixN3_2, List.getElem?_cons_zero, List.getElem?_cons_succ, List.set_cons_zero, List.set_cons_succ, List.replicate_succ, List.replicate_zero, List.cons_append, List.nil_append, List.zipWith_cons_cons, List.zipWith_nil_left, List.zipWith_nil_right, List.length_cons, List.length_nil, Option.map_some, Option.map_none, Nat.reduceAdd, Nat.reduceSub, Nat.reduceLT, Nat.reduceLeDiff, Int.reduceAdd, Int.reduceLT, Int.reduceLE, Int.reduceNeg, Int.reduceSub, Int.reduceMul, Int.reduceEq, if_true, if_false, ite_true, ite_false, decide_true, decide_false, Bool.not_true, Bool.not_false, Bool.and_true, Bool.true_and, Bool.and_false, Bool.false_and, ↓reduceIte, Bd.d, Ru.d, Bd.cells] at mo e ⊢
      simp only [wipeD, restD, allFz, eVar_e, eC_e, rd_fz, rd_ow, rd_bw, fr_fz, fr_ow, fr_bw, dFr_e, dOp2_e, dTst_e, dAnd_e, dOr_e, dNot_e, dIfE_e, dAndV_e, dOrV_e, dNotV_e, dYes_e, aNil_e, aCons_e, aFr_e, rds_nil, rds_cons, dCall_e, eTup_e, eLst_e, dsOf_nil, dsOf_fz, fCall_e, bSeq_e, bNext_e, bBreak_e, bCont_e, bRetN_e, bDrop_e, bRet_e, bIf_e, to_fz, to_ow, to_bw, notRf_e, bAsg_e, gNm_e, gsNil_e, gsCons_e, gTp_e, bUnp_e, dMt_e, held_ow, held_rf, putS_e, dM1_e, dIsi_e, oSome_e, oNo_e, dSl_e, dNeg_e, bSetIx_e, bAug_e, res_fz, res_ow, res_bw, runF_e, fin_nil, fin_nil1, fin_rf, fin_fz, iAny_e, iRange1_e, iRange2_e, iEnumD_e, dChain_e, dLRg1_e, dLRg2_e, heldM_ow, heldM_rf, eDict_e, dDGet_e, dDIn_e, bDPut_e, bPar_e, nc0, nc1, nc2, nc3, nc4, nc5, nc6, nc7, nc8, nc9, nc36, kVar_0, kVar_1, kVar_2, kRd_0, kRd_1, kRd_2, kFr_0, kFr_1, kDFr_0, kDFr_1, kZ_0, kZ_1, kOp3_0, kOp2_0, kOp2_1, kOp_0, kOp_1, kTst_0, kAnd_0, kAnd_1, kAnd_2, kOr_0, kOr_1, kOr_2, kNot_0, kNot_1, kIfE_0, kIfE_1, kIfE_2, kAndV_0, kAndV_1, kOrV_0, kOrV_1, kNotV_0, kAC2_0, kAC2_1, kAC_0, kAC_1, kAF_0, kAF_1, kRds_0, kCall2_0, kCall2_1, kCall_0, kCall_1, kTup2_0, kTup2_1, kTup_0, kTup_1, kLst2_0, kLst2_1, kLst_0, kLst_1, kFCo_0, kFCo_1, kFCr_0, kFCr_1, kFCf_0, kFCf_1, kFC2_0, kFC2_1, kFC3_0, kFC3_1, kFC1_0, kFC1_1, kFC1_2, kFC_0, kFC_1, kSeq_0, kSeq_1, kSeq_2, kSeq_3, kSeq_4, kSeq_5, kDrop_0, kDrop_1, kRet_0, kRet_1, kIf_0, kIf_1, kIf_2, kTo_0, kTo_1, kNR_0, kNR_1, kNR_2, kNR_3, kNR_4, kNR_5, kAsg3_0, kAsg3_1, kAsg2_0, kAsg2_1, kAsg_0, kAsg_1, kGN_0, kGN_1, kGC_0, kGC_1, kUn2_0, kUn2_1, kUn_0, kUn_1, kMt4_0, kMt4_1, kMt3_0, kMt2_0, kMt2_1, kMt_0, kMt_1, kPut_0, kPut_1, kPut_2, kPut_3, kPut_4, kPut_5, kM12_0, kM12_1, kM11_0, kM11_1, kM1_0, kIsi3_0, kIsi3_1, kIsi2_0, kIsi2_1, kIsi_0, kIsi_1, kOSo_0, kSl4_0, kSl4_1, kSl3_0, kSl3_1, kSl2_0, kSl2_1, kSl_0, kSl_1, kNeg_0, kSX3_0, kSX3_1, kSX2_0, kSX2_1, kSX1_0, kSX0_0, kSX0_1, kSX_0, kSX_1, kAug3_0, kAug3_1, kAug2_0, kAug_0, kRes_0, kRes_1, kEnd2_0, kEnd2_1, kEnd_0, kEnd_1, kAny_0, kAny_1, kAny_2, kR1_0, kR2_0, kEn_0, kEn_1, kFor_0, kFor_1, kLc2_0, kLc2_1, kLc_0, kLc_1, kGG_0, kCh3_0, kCh3_1, kCh2_0, kCh2_1, kCh1_0, kCh1_1, kCh_0, kCh_1, kLRg_0, kLRh_0, kLRi_0, kMG_0, kDG2_0, kDG1_0, kDG1_1, kDG_0, kDG_1, kDI2_0, kDI2_1, kDI_0, kDI_1, kMP_0, kDP3_0, kDP3_1, kDP2_0, kDP2_1, kDP1_0, kDP1_1, kDP_0, kDP_1, kPar2_0, kPar2_1, kPar_0, gAdd, DL.gSub, gCmp, gLen, gMax, gMin, gInt, gList, gTuple, gApp, ix_l0, ix_l1, ix_l2, ix_t0, ix_t1, ix_t2, ix_t3, ix_tm2, ix_tm3, ix_tm4, gEq_int, gNe_int, eq_row_floor, eq_ring_floor, eq_floor_floor, eq_row_ring, eq_ring_ring, eq_floor_ring, eq_row_row, eq_ring_row, eq_floor_row, ne_row_floor, ne_ring_floor, ne_floor_floor, lim, ixN3_0, ixN3_1, ixN3_2, List.getElem?_cons_zero, List.getElem?_cons_succ, List.set_cons_zero, List.set_cons_succ, List.replicate_succ, List.replicate_zero, List.cons_append, List.nil_append, List.zipWith_cons_cons, List.zipWith_nil_left, List.zipWith_nil_right, List.length_cons, List.length_nil, Option.map_some, Option.map_none, Nat.reduceAdd, Nat.reduceSub, Nat.reduceLT, Nat.reduceLeDiff, Int.reduceAdd, Int.reduceLT, Int.reduceLE, Int.reduceNeg, Int.reduceSub, Int.reduceMul, Int.reduceEq, if_true, if_false, ite_true, ite_false, decide_true, decide_false, Bool.not_true, Bool.not_false, Bool.and_true, Bool.true_and, Bool.and_false, Bool.false_and, ↓reduceIte, F_first_cells, d_first_cells, mo, cut1_3, eq_under.2.2, eq_over.2.2, m1, m2, z1, z2, e, cellsAt, Bool.false_eq_true]
end G
set_option Elab.async false
set_option linter.all false
set_option maxRecDepth 100000
set_option maxHeartbeats 1000000
set_option pp.maxSteps 1500
namespace G
open PySem PySem.Spec L2 DL
theorem filter_lt (C : Nat) : ∀ n, (List.range n).filter (fun j => decide (j < C)) = List.range (min n C)
  | 0 => by simp
  | n + 1 => by
    rw [List.range_succ, List.filter_append, filter_lt C n]
    by_cases h : n < C
    · rw [show min n C = n by omega, show min (n + 1) C = n + 1 by omega, List.range_succ]
      simp [h]
    · rw [show min n C = C by omega, show min (n + 1) C = C by omega]
      simp [h]
def rowTo (W C i j : Nat) : List Nat := ((List.range j).filter fun c => decide (c < C)).map fun c => i * W + c
theorem rowTo_succ (W C i j : Nat) : rowTo W C i (j + 1) = rowTo W C i j ++ (if j < C then [i * W + j] else []) := by
  unfold rowTo
  rw [List.range_succ, List.filter_append, List.map_append]
  by_cases h : j < C <;> simp [h]
def gridTo (W R C i : Nat) : List Nat := ((List.range i).filter fun c => decide (c < R)).flatMap fun i => (List.range C).map fun j => i * W + j
theorem gridTo_succ (W R C i : Nat) : gridTo W R C (i + 1) = gridTo W R C i ++ (if i < R then (List.range C).map (fun j => i * W + j) else []) := by
  unfold gridTo
  rw [List.range_succ, List.filter_append, List.flatMap_append]
  by_cases h : i < R <;> simp [h]
theorem gridTo_len (W R C i : Nat) : (gridTo W R C i).length ≤ i * C := by
  induction i with
  | zero => simp [gridTo]
  | succ i ih =>
    rw [gridTo_succ, List.length_append, Nat.add_mul]
    have : (if i < R then (List.range C).map (fun j => i * W + j) else []).length ≤ C := by split <;> simp
    omega
abbrev PlB : Fs := (bSeq (bAsg 8 (dOp2 gAdd (eVar 6) (dOp2 gMul (dOp2 gIx (eVar 1) (eC (.int 1))) (dOp2 gIx (eLst (aFr (eC (.int 1)) (aFr (eC (.int 2)) aNil))) (dCall gInt (aCons (dOp2 gEq (dOp2 gIx (eVar 1) (eC (.int 0))) (eC (.str "under"))) aNil))))))
  (bSeq (bAsg 9 (dOp2 gAdd (eVar 7) (dOp2 gMul (dOp2 gIx (eVar 1) (eC (.int 2))) (dOp2 gIx (eLst (aFr (eC (.int 1)) (aFr (eC (.int 2)) aNil))) (dCall gInt (aCons (dOp2 gEq (dOp2 gIx (eVar 1) (eC (.int 0))) (eC (.str "over"))) aNil))))))
  (bIf (dAnd (dTst (dOp2 gLe (eVar 8) (eVar 3))) (dTst (dOp2 gLe (eVar 9) (eVar 4)))) (bDrop (dMt 5 (aFr (dOp2 gAdd (dOp2 gMul (eVar 6) (eVar 4)) (eVar 7)) aNil) gApp)) bNext)))
theorem places_loop {H W U V : Nat} {r : D} (hH : H ≤ 36) (hW : W ≤ 36) (hU : U ≤ H) (hV : V ≤ W) (hU1 : 1 ≤ U) (hV1 : 1 ≤ V)
    (step : ∀ (i j : Nat) (fs : List D) (x y : Sl), i < H → j < W → fs.length ≤ 900000 → kNR (some x) = true → kNR (some y) = true →
      ∃ x' y', PlB [.fz (Bd.d (.floor H W)), .fz r, .fz (.str "floor"), .fz (.int (H : Nat)), .fz (.int (W : Nat)), .ow (.l fs), .fz (.int (i : Nat)), .fz (.int (j : Nat)), x, y] =
        some (.nx, [.fz (Bd.d (.floor H W)), .fz r, .fz (.str "floor"), .fz (.int (H : Nat)), .fz (.int (W : Nat)), .ow (.l (fs ++ if i + U ≤ H ∧ j + V ≤ W then [dN (i * W + j)] else [])), .fz (.int (i : Nat)), .fz (.int (j : Nat)), x', y']) ∧ kNR (some x') = true ∧ kNR (some y') = true) :
    ∃ a b c e, forL (gNm 6) (bFor (iRange1 (aFr (eVar 4) aNil)) (gNm 7) PlB) (rangeD 0 H) [.fz (Bd.d (.floor H W)), .fz r, .fz (.str "floor"), .fz (.int (H : Nat)), .fz (.int (W : Nat)), .ow (.l []), .un, .un, .un, .un] =
      some (.nx, [.fz (Bd.d (.floor H W)), .fz r, .fz (.str "floor"), .fz (.int (H : Nat)), .fz (.int (W : Nat)), .ow (.l ((grid W (H - U + 1) (W - V + 1)).map dN)), a, b, c, e]) := by
  have lp := forL_inv (h := gNm 6) (B := bFor (iRange1 (aFr (eVar 4) aNil)) (gNm 7) PlB) (xs := rangeD 0 H)
    (fun i ρ => ∃ a b c e, ρ = [.fz (Bd.d (.floor H W)), .fz r, .fz (.str "floor"), .fz (.int (H : Nat)), .fz (.int (W : Nat)), .ow (.l ((gridTo W (H - U + 1) (min W (W - V + 1)) i).map dN)), a, b, c, e] ∧ kNR (some a) = true ∧ kNR (some b) = true ∧ kNR (some c) = true ∧ kNR (some e) = true)
    (fun i d ρ hd ⟨a, b, c, e, hρ, n1, n2, n3, n4⟩ => by
      obtain ⟨hi, rfl⟩ := rangeD_get0 hd
      subst hρ
      have gl := gridTo_len W (H - U + 1) (min W (W - V + 1)) i
      have gl2 : i * (min W (W - V + 1)) ≤ 36 * 36 := Nat.mul_le_mul (by omega) (by omega)
      have lq := forL_inv (h := gNm 7) (B := PlB) (xs := rangeD 0 W)
        (fun j ρ => ∃ b c e, ρ = [.fz (Bd.d (.floor H W)), .fz r, .fz (.str "floor"), .fz (.int (H : Nat)), .fz (.int (W : Nat)), .ow (.l ((gridTo W (H - U + 1) (min W (W - V + 1)) i ++ (if i < H - U + 1 then rowTo W (W - V + 1) i j else [])).map dN)), .fz (.int (i : Nat)), b, c, e] ∧ kNR (some b) = true ∧ kNR (some c) = true ∧ kNR (some e) = true)
        (fun j d ρ hd ⟨b, c, e, hρ, n2, n3, n4⟩ => by
          obtain ⟨hj, rfl⟩ := rangeD_get0 hd
          subst hρ
          have rl : (if i < H - U + 1 then rowTo W (W - V + 1) i j else []).length ≤ j := by
            split
            · unfold rowTo
              rw [List.length_map, filter_lt, List.length_range]
              omega
            · simp
          obtain ⟨x', y', e1, m1, m2⟩ := step i j ((gridTo W (H - U + 1) (min W (W - V + 1)) i ++ (if i < H - U + 1 then rowTo W (W - V + 1) i j else [])).map dN) c e hi hj (by rw [List.length_map, List.length_append]; omega) n3 n4
          refine ⟨_, _, by simp only [wipeD, restD, allFz, eVar_e, eC_e, rd_fz, rd_ow, rd_bw, fr_fz, fr_ow, fr_bw, dFr_e, dOp2_e, dTst_e, dAnd_e, dOr_e, dNot_e, dIfE_e, dAndV_e, dOrV_e, dNotV_e, dYes_e, aNil_e, aCons_e, aFr_e, rds_nil, rds_cons, dCall_e, eTup_e, eLst_e, dsOf_nil, dsOf_fz, fCall_e, bSeq_e, bNext_e, bBreak_e, bCont_e, bRetN_e, bDrop_e, bRet_e, bIf_e, to_fz, to_ow, to_bw, notRf_e, bAsg_e, gNm_e, gsNil_e, gsCons_e, gTp_e, bUnp_e, dMt_e, held_ow, held_rf, putS_e, dM1_e, dIsi_e, oSome_e, oNo_e, dSl_e, dNeg_e, bSetIx_e, bAug_e, res_fz, res_ow, res_bw, runF_e, fin_nil, fin_nil1, fin_rf, fin_fz, iAny_e, iRange1_e, iRange2_e, iEnumD_e, dChain_e, dLRg1_e, dLRg2_e, heldM_ow, heldM_rf, eDict_e, dDGet_e, dDIn_e, bDPut_e, bPar_e, nc0, nc1, nc2, nc3, nc4, nc5, nc6, nc7, nc8, nc9, nc36, kVar_0, kVar_1, kVar_2, kRd_0, kRd_1, kRd_2, kFr_0, kFr_1, kDFr_0, kDFr_1, kZ_0, kZ_1, kOp3_0, kOp2_0, kOp2_1, kOp_0, kOp_1, kTst_0, kAnd_0, kAnd_1, kAnd_2, kOr_0, kOr_1, kOr_2, kNot_0, kNot_1, kIfE_0, kIfE_1, kIfE_2, kAndV_0, kAndV_1, kOrV_0, kOrV_1, kNotV_0, kAC2_0, kAC2_1, kAC_0, kAC_1, kAF_0, kAF_1, kRds_0, kCall2_0, kCall2_1, kCall_0, kCall_1, kTup2_0, kTup2_1, kTup_0, kTup_1, kLst2_0, kLst2_1, kLst_0, kLst_1, kFCo_0, kFCo_1, kFCr_0, kFCr_1, kFCf_0, kFCf_1, kFC2_0, kFC2_1, kFC3_0, kFC3_1, kFC1_0, kFC1_1, kFC1_2, kFC_0, kFC_1, kSeq_0, kSeq_1, kSeq_2, kSeq_3, kSeq_4, kSeq_5, kDrop_0, kDrop_1, kRet_0, kRet_1, kIf_0, kIf_1, kIf_2, kTo_0, kTo_1, kNR_0, kNR_1, kNR_2, kNR_3, kNR_4, kNR_5, kAsg3_0, kAsg3_1, kAsg2_0, kAsg2_1, kAsg_0, kAsg_1, kGN_0, kGN_1, kGC_0, kGC_1, kUn2_0, kUn2_1, kUn_0, kUn_1, kMt4_0, kMt4_1, kMt3_0, kMt2_0, kMt2_1, kMt_0, kMt_1, kPut_0, kPut_1, kPut_2, kPut_3, kPut_4, kPut_5, kM12_0, kM12_1, kM11_0, kM11_1, kM1_0, kIsi3_0, kIsi3_1, kIsi2_0, kIsi2_1, kIsi_0, kIsi_1, kOSo_0, kSl4_0, kSl4_1, kSl3_0, kSl3_1, kSl2_0, kSl2_1, kSl_0, kSl_1, kNeg_0, kSX3_0, kSX3_1, kSX2_0, kSX2_1, kSX1_0, kSX0_0, kSX0_1, kSX_0, kSX_1, kAug3_0, kAug3_1, kAug2_0, kAug_0, kRes_0, kRes_1, kEnd2_0, kEnd2_1, kEnd_0, kEnd_1, kAny_0, kAny_1, kAny_2, kR1_0, kR2_0, kEn_0, kEn_1, kFor_0, kFor_1, kLc2_0, kLc2_1, kLc_0, kLc_1, kGG_0, kCh3_0, kCh3_1, kCh2_0, kCh2_1, kCh1_0, kCh1_1, kCh_0, kCh_1, kLRg_0, kLRh_0, kLRi_0, kMG_0, kDG2_0, kDG1_0, kDG1_1, kDG_0, kDG_1, kDI2_0, kDI2_1, kDI_0, kDI_1, kMP_0, kDP3_0, kDP3_1, kDP2_0, kDP2_1, kDP1_0, kDP1_1, kDP_0, kDP_1, kPar2_0, kPar2_1, kPar_0, gAdd, DL.gSub, gCmp, gLen, gMax, gMin, gInt, gList, gTuple, gApp, ix_l0, ix_l1, ix_l2, ix_t0, ix_t1, ix_t2, ix_t3, ix_tm2, ix_tm3, ix_tm4, gEq_int, gNe_int, eq_row_floor, eq_ring_floor, eq_floor_floor, eq_row_ring, eq_ring_ring, eq_floor_ring, eq_row_row, eq_ring_row, eq_floor_row, ne_row_floor, ne_ring_floor, ne_floor_floor, lim, ixN3_0, ixN3_1, ixN3_2, List.getElem?_cons_zero, List.getElem?_cons_succ, List.set_cons_zero, List.set_cons_succ, List.replicate_succ, List.replicate_zero, List.cons_append, List.nil_append, List.zipWith_cons_cons, List.zipWith_nil_left, List.zipWith_nil_right, List.length_cons, List.length_nil, Option.map_some, Option.map_none, Nat.reduceAdd, Nat.reduceSub, Nat.reduceLT, Nat.reduceLeDiff, Int.reduceAdd, Int.reduceLT, Int.reduceLE, Int.reduceNeg, Int.reduceSub, Int.reduceMul, Int.reduceEq, if_true, if_false, ite_true, ite_false, decide_true, decide_false, Bool.not_true, Bool.not_false, Bool.and_true, Bool.true_and, Bool.and_false, Bool.false_and, ↓reduceIte, n2], .inl e1, .fz (.int (j : Nat)), x', y', ?_, rfl, m1, m2⟩
          congr 1
          have q : (gridTo W (H - U + 1) (min W (W - V + 1)) i ++ (if i < H - U + 1 then rowTo W (W - V + 1) i (j + 1) else [])).map dN = (gridTo W (H - U + 1) (min W (W - V + 1)) i ++ (if i < H - U + 1 then rowTo W (W - V + 1) i j else [])).map dN ++ (if i + U ≤ H ∧ j + V ≤ W then [dN (i * W + j)] else []) := by
            rw [List.map_append, List.map_append, List.append_assoc]
            congr 1
            by_cases c1 : i < H - U + 1
            · rw [if_pos c1, if_pos c1, rowTo_succ, List.map_append]
              congr 1
              by_cases c2 : j < W - V + 1
              · rw [if_pos c2, if_pos ⟨by omega, by omega⟩]
                rfl
              · rw [if_neg c2, if_neg (by omega)]
                rfl
            · rw [if_neg c1, if_neg c1, if_neg (by omega)]
              rfl
          rw [q]) (ρ := [.fz (Bd.d (.floor H W)), .fz r, .fz (.str "floor"), .fz (.int (H : Nat)), .fz (.int (W : Nat)), .ow (.l ((gridTo W (H - U + 1) (min W (W - V + 1)) i).map dN)), .fz (.int (i : Nat)), b, c, e]) ⟨_, _, _, by
            have z : (if i < H - U + 1 then rowTo W (W - V + 1) i 0 else []) = [] := by split <;> rfl
            rw [z, List.append_nil], n2, n3, n4⟩
      obtain ⟨ρ', hf, b', c', e', rfl, m2, m3, m4⟩ := lq
      rw [rangeD_len] at hf
      have hr := range1_ok (fa := aFr (eVar 4) aNil) (n := W) (ρ := [.fz (Bd.d (.floor H W)), .fz r, .fz (.str "floor"), .fz (.int (H : Nat)), .fz (.int (W : Nat)), .ow (.l ((gridTo W (H - U + 1) (min W (W - V + 1)) i).map dN)), .fz (.int (i : Nat)), b, c, e]) (ρ1 := [.fz (Bd.d (.floor H W)), .fz r, .fz (.str "floor"), .fz (.int (H : Nat)), .fz (.int (W : Nat)), .ow (.l ((gridTo W (H - U + 1) (min W (W - V + 1)) i).map dN)), .fz (.int (i : Nat)), b, c, e]) (by simp only [wipeD, restD, allFz, eVar_e, eC_e, rd_fz, rd_ow, rd_bw, fr_fz, fr_ow, fr_bw, dFr_e, dOp2_e, dTst_e, dAnd_e, dOr_e, dNot_e, dIfE_e, dAndV_e, dOrV_e, dNotV_e, dYes_e, aNil_e, aCons_e, aFr_e, rds_nil, rds_cons, dCall_e, eTup_e, eLst_e, dsOf_nil, dsOf_fz, fCall_e, bSeq_e, bNext_e, bBreak_e, bCont_e, bRetN_e, bDrop_e, bRet_e, bIf_e, to_fz, to_ow, to_bw, notRf_e, bAsg_e, gNm_e, gsNil_e, gsCons_e, gTp_e, bUnp_e, dMt_e, held_ow, held_rf, putS_e, dM1_e, dIsi_e, oSome_e, oNo_e, dSl_e, dNeg_e, bSetIx_e, bAug_e, res_fz, res_ow, res_bw, runF_e, fin_nil, fin_nil1, fin_rf, fin_fz, iAny_e, iRange1_e, iRange2_e, iEnumD_e, dChain_e, dLRg1_e, dLRg2_e, heldM_ow, heldM_rf, eDict_e, dDGet_e, dDIn_e, bDPut_e, bPar_e, nc0, nc1, nc2, nc3, nc4, nc5, nc6, nc7, nc8, nc9, nc36, kVar_0, kVar_1, kVar_2, kRd_0, kRd_1, kRd_2, kFr_0, kFr_1, kDFr_0, kDFr_1, kZ_0, kZ_1, kOp3_0, kOp2_0, kOp2_1, kOp_0, kOp_1, kTst_0, kAnd_0, kAnd_1, kAnd_2, kOr_0, kOr_1, kOr_2, kNot_0, kNot_1, kIfE_0, kIfE_1, kIfE_2, kAndV_0, kAndV_1, kOrV_0, kOrV_1, kNotV_0, kAC2_0, kAC2_1, kAC_0, kAC_1, kAF_0, kAF_1, kRds_0, kCall2_0, kCall2_1, kCall_0, kCall_1, kTup2_0, kTup2_1, kTup_0, kTup_1, kLst2_0, kLst2_1, kLst_0, kLst_1, kFCo_0, kFCo_1, kFCr_0, kFCr_1, kFCf_0, kFCf_1, kFC2_0, kFC2_1, kFC3_0, kFC3_1, kFC1_0, kFC1_1, kFC1_2, kFC_0, kFC_1, kSeq_0, kSeq_1, kSeq_2, kSeq_3, kSeq_4, kSeq_5, kDrop_0, kDrop_1, kRet_0, kRet_1, kIf_0, kIf_1, kIf_2, kTo_0, kTo_1, kNR_0, kNR_1, kNR_2, kNR_3, kNR_4, kNR_5, kAsg3_0, kAsg3_1, kAsg2_0, kAsg2_1, kAsg_0, kAsg_1, kGN_0, kGN_1, kGC_0, kGC_1, kUn2_0, kUn2_1, kUn_0, kUn_1, kMt4_0, kMt4_1, kMt3_0, kMt2_0, kMt2_1, kMt_0, kMt_1, kPut_0, kPut_1, kPut_2, kPut_3, kPut_4, kPut_5, kM12_0, kM12_1, kM11_0, kM11_1, kM1_0, kIsi3_0, kIsi3_1, kIsi2_0, kIsi2_1, kIsi_0, kIsi_1, kOSo_0, kSl4_0, kSl4_1, kSl3_0, kSl3_1, kSl2_0, kSl2_1, kSl_0, kSl_1, kNeg_0, kSX3_0, kSX3_1, kSX2_0, kSX2_1, kSX1_0, kSX0_0, kSX0_1, kSX_0, kSX_1, kAug3_0, kAug3_1, kAug2_0, kAug_0, kRes_0, kRes_1, kEnd2_0, kEnd2_1, kEnd_0, kEnd_1, kAny_0, kAny_1, kAny_2, kR1_0, kR2_0, kEn_0, kEn_1, kFor_0, kFor_1, kLc2_0, kLc2_1, kLc_0, kLc_1, kGG_0, kCh3_0, kCh3_1, kCh2_0, kCh2_1, kCh1_0, kCh1_1, kCh_0, kCh_1, kLRg_0, kLRh_0, kLRi_0, kMG_0, kDG2_0, kDG1_0, kDG1_1, kDG_0, kDG_1, kDI2_0, kDI2_1, kDI_0, kDI_1, kMP_0, kDP3_0, kDP3_1, kDP2_0, kDP2_1, kDP1_0, kDP1_1, kDP_0, kDP_1, kPar2_0, kPar2_1, kPar_0, gAdd, DL.gSub, gCmp, gLen, gMax, gMin, gInt, gList, gTuple, gApp, ix_l0, ix_l1, ix_l2, ix_t0, ix_t1, ix_t2, ix_t3, ix_tm2, ix_tm3, ix_tm4, gEq_int, gNe_int, eq_row_floor, eq_ring_floor, eq_floor_floor, eq_row_ring, eq_ring_ring, eq_floor_ring, eq_row_row, eq_ring_row, eq_floor_row, ne_row_floor, ne_ring_floor, ne_floor_floor, lim, ixN3_0, ixN3_1, ixN3_2, List.getElem?_cons_zero, List.getElem?_cons_succ, List.set_cons_zero, List.set_cons_succ, List.replicate_succ, List.replicate_zero, List.cons_append, List.nil_append, List.zipWith_cons_cons, List.zipWith_nil_left, List.zipWith_nil_right, List.length_cons, List.length_nil, Option.map_some, Option.map_none, Nat.reduceAdd, Nat.reduceSub, Nat.reduceLT, Nat.reduceLeDiff, Int.reduceAdd, Int.reduceLT, Int.reduceLE, Int.reduceNeg, Int.reduceSub, Int.reduceMul, Int.reduceEq, if_true, if_false, ite_true, ite_false, decide_true, decide_false, Bool.not_true, Bool.not_false, Bool.and_true, Bool.true_and, Bool.and_false, Bool.false_and, ↓reduceIte]) (by omega)
      have hF := bFor_eq hr hf
      refine ⟨_, _, by simp only [wipeD, restD, allFz, eVar_e, eC_e, rd_fz, rd_ow, rd_bw, fr_fz, fr_ow, fr_bw, dFr_e, dOp2_e, dTst_e, dAnd_e, dOr_e, dNot_e, dIfE_e, dAndV_e, dOrV_e, dNotV_e, dYes_e, aNil_e, aCons_e, aFr_e, rds_nil, rds_cons, dCall_e, eTup_e, eLst_e, dsOf_nil, dsOf_fz, fCall_e, bSeq_e, bNext_e, bBreak_e, bCont_e, bRetN_e, bDrop_e, bRet_e, bIf_e, to_fz, to_ow, to_bw, notRf_e, bAsg_e, gNm_e, gsNil_e, gsCons_e, gTp_e, bUnp_e, dMt_e, held_ow, held_rf, putS_e, dM1_e, dIsi_e, oSome_e, oNo_e, dSl_e, dNeg_e, bSetIx_e, bAug_e, res_fz, res_ow, res_bw, runF_e, fin_nil, fin_nil1, fin_rf, fin_fz, iAny_e, iRange1_e, iRange2_e, iEnumD_e, dChain_e, dLRg1_e, dLRg2_e, heldM_ow, heldM_rf, eDict_e, dDGet_e, dDIn_e, bDPut_e, bPar_e, nc0, nc1, nc2, nc3, nc4, nc5, nc6, nc7, nc8, nc9, nc36, kVar_0, kVar_1, kVar_2, kRd_0, kRd_1, kRd_2, kFr_0, kFr_1, kDFr_0, kDFr_1, kZ_0, kZ_1, kOp3_0, kOp2_0, kOp2_1, kOp_0, kOp_1, kTst_0, kAnd_0, kAnd_1, kAnd_2, kOr_0, kOr_1, kOr_2, kNot_0, kNot_1, kIfE_0, kIfE_1, kIfE_2, kAndV_0, kAndV_1, kOrV_0, kOrV_1, kNotV_0, kAC2_0, kAC2_1, kAC_0, kAC_1, kAF_0, kAF_1, kRds_0, kCall2_0, kCall2_1, kCall_0, kCall_1, kTup2_0, kTup2_1, kTup_0, kTup_1, kLst2_0, kLst2_1, kLst_0, kLst_1, kFCo_0, kFCo_1, kFCr_0, kFCr_1, kFCf_0, kFCf_1, kFC2_0, kFC2_1, kFC3_0, kFC3_1, kFC1_0, kFC1_1, kFC1_2, kFC_0, kFC_1, kSeq_0, kSeq_1, kSeq_2, kSeq_3, kSeq_4, kSeq_5, kDrop_0, kDrop_1, kRet_0, kRet_1, kIf_0, kIf_1, kIf_2, kTo_0, kTo_1, kNR_0, kNR_1, kNR_2, kNR_3, kNR_4, kNR_5, kAsg3_0, kAsg3_1, kAsg2_0, kAsg2_1, kAsg_0, kAsg_1, kGN_0, kGN_1, kGC_0, kGC_1, kUn2_0, kUn2_1, kUn_0, kUn_1, kMt4_0, kMt4_1, kMt3_0, kMt2_0, kMt2_1, kMt_0, kMt_1, kPut_0, kPut_1, kPut_2, kPut_3, kPut_4, kPut_5, kM12_0, kM12_1, kM11_0, kM11_1, kM1_0, kIsi3_0, kIsi3_1, kIsi2_0, kIsi2_1, kIsi_0, kIsi_1, kOSo_0, kSl4_0, kSl4_1, kSl3_0, kSl3_1, kSl2_0, kSl2_1, kSl_0, kSl_1, kNeg_0, kSX3_0, kSX3_1, kSX2_0, kSX2_1, kSX1_0, kSX0_0, kSX0_1, kSX_0, kSX_1, kAug3_0, kAug3_1, kAug2_0, kAug_0, kRes_0, kRes_1, kEnd2_0, kEnd2_1, kEnd_0, kEnd_1, kAny_0, kAny_1, kAny_2, kR1_0, kR2_0, kEn_0, kEn_1, kFor_0, kFor_1, kLc2_0, kLc2_1, kLc_0, kLc_1, kGG_0, kCh3_0, kCh3_1, kCh2_0, kCh2_1, kCh1_0, kCh1_1, kCh_0, kCh_1, kLRg_0, kLRh_0, kLRi_0, kMG_0, kDG2_0, kDG1_0, kDG1_1, kDG_0, kDG_1, kDI2_0, kDI2_1, kDI_0, kDI_1, kMP_0, kDP3_0, kDP3_1, kDP2_0, kDP2_1, kDP1_0, kDP1_1, kDP_0, kDP_1, kPar2_0, kPar2_1, kPar_0, gAdd, DL.gSub, gCmp, gLen, gMax, gMin, gInt, gList, gTuple, gApp, ix_l0, ix_l1, ix_l2, ix_t0, ix_t1, ix_t2, ix_t3, ix_tm2, ix_tm3, ix_tm4, gEq_int, gNe_int, eq_row_floor, eq_ring_floor, eq_floor_floor, eq_row_ring, eq_ring_ring, eq_floor_ring, eq_row_row, eq_ring_row, eq_floor_row, ne_row_floor, ne_ring_floor, ne_floor_floor, lim, ixN3_0, ixN3_1, ixN3_2, List.getElem?_cons_zero, List.getElem?_cons_succ, List.set_cons_zero, List.set_cons_succ, List.replicate_succ, List.replicate_zero, List.cons_append, List.nil_append, List.zipWith_cons_cons, List.zipWith_nil_left, List.zipWith_nil_right, List.length_cons, List.length_nil, Option.map_some, Option.map_none, Nat.reduceAdd, Nat.reduceSub, Nat.reduceLT, Nat.reduceLeDiff, Int.reduceAdd, Int.reduceLT, Int.reduceLE, Int.reduceNeg, Int.reduceSub, Int.reduceMul, Int.reduceEq, if_true, if_false, ite_true, ite_false, decide_true, decide_false, Bool.not_true, Bool.not_false, Bool.and_true, Bool.true_and, Bool.and_false, Bool.false_and, ↓reduceIte, n1], .inl hF, .fz (.int (i : Nat)), b', c', e', ?_, rfl, m2, m3, m4⟩
      have q : (gridTo W (H - U + 1) (min W (W - V + 1)) i ++ (if i < H - U + 1 then rowTo W (W - V + 1) i W else [])) = gridTo W (H - U + 1) (min W (W - V + 1)) (i + 1) := by
        have q2 : rowTo W (W - V + 1) i W = (List.range (min W (W - V + 1))).map fun j => i * W + j := by
          unfold rowTo
          rw [filter_lt]
        rw [gridTo_succ, q2]
      rw [q]) (ρ := [.fz (Bd.d (.floor H W)), .fz r, .fz (.str "floor"), .fz (.int (H : Nat)), .fz (.int (W : Nat)), .ow (.l []), .un, .un, .un, .un]) ⟨_, _, _, _, rfl, rfl, rfl, rfl, rfl⟩
  obtain ⟨ρ', hf, a, b, c, e, rfl, _⟩ := lp
  rw [rangeD_len] at hf
  refine ⟨a, b, c, e, ?_⟩
  have q : gridTo W (H - U + 1) (min W (W - V + 1)) H = grid W (H - U + 1) (W - V + 1) := by
    unfold gridTo grid
    rw [filter_lt, show min H (H - U + 1) = H - U + 1 by omega, show min W (W - V + 1) = W - V + 1 by omega]
  rw [hf, q]
end G
set_option Elab.async false
set_option linter.all false
set_option maxRecDepth 100000
set_option maxHeartbeats 1000000
set_option pp.maxSteps 1500
namespace G
open PySem PySem.Spec L2 DL
theorem places_step {H W U V x y c : Nat} {r : Ru} (hH : H ≤ 36) (hW : W ≤ 36) (hx : x ≤ 36) (hy : y ≤ 36) (hr : r = .over x y c ∧ U = x ∧ V = 2 * y ∨ r = .under x y c ∧ U = 2 * x ∧ V = y) :
    ∀ (i j : Nat) (fs : List D) (a b : Sl), i < H → j < W → fs.length ≤ 900000 → kNR (some a) = true → kNR (some b) = true →
      ∃ a' b', PlB [.fz (Bd.d (.floor H W)), .fz r.d, .fz (.str "floor"), .fz (.int (H : Nat)), .fz (.int (W : Nat)), .ow (.l fs), .fz (.int (i : Nat)), .fz (.int (j : Nat)), a, b] =
        some (.nx, [.fz (Bd.d (.floor H W)), .fz r.d, .fz (.str "floor"), .fz (.int (H : Nat)), .fz (.int (W : Nat)), .ow (.l (fs ++ if i + U ≤ H ∧ j + V ≤ W then [dN (i * W + j)] else [])), .fz (.int (i : Nat)), .fz (.int (j : Nat)), a', b']) ∧ kNR (some a') = true ∧ kNR (some b') = true := by
  intro i j fs a b hi hj hl n1 n2
  have fl : fs.length ≤ 1000000 := by omega
  have mm : gMul (.int (i : Nat)) (.int (W : Nat)) = some (.fz (.int ((i * W : Nat) : Int))) := mul_nat (by omega) (by omega)
  have dn : dN (i * W + j) = .int (((i * W : Nat) : Int) + (j : Nat)) := by show D.int _ = _; rw [Int.natCast_add]
  refine ⟨.fz (.int ((i : Int) + (U : Nat))), .fz (.int ((j : Int) + (V : Nat))), ?_, rfl, rfl⟩
  have c1 : decide ((i : Int) + (U : Nat) ≤ (H : Nat)) = decide (i + U ≤ H) := by rw [Bool.eq_iff_iff]; simp; omega
  have c2 : decide ((j : Int) + (V : Nat) ≤ (W : Nat)) = decide (j + V ≤ W) := by rw [Bool.eq_iff_iff]; simp; omega
  have body : ∀ (rd : D), (∀ ρ0 : En, True) → bIf (dAnd (dTst (dOp2 gLe (eVar 8) (eVar 3))) (dTst (dOp2 gLe (eVar 9) (eVar 4)))) (bDrop (dMt 5 (aFr (dOp2 gAdd (dOp2 gMul (eVar 6) (eVar 4)) (eVar 7)) aNil) gApp)) bNext [.fz (Bd.d (.floor H W)), .fz rd, .fz (.str "floor"), .fz (.int (H : Nat)), .fz (.int (W : Nat)), .ow (.l fs), .fz (.int (i : Nat)), .fz (.int (j : Nat)), .fz (.int ((i : Int) + (U : Nat))), .fz (.int ((j : Int) + (V : Nat)))] =
      some (.nx, [.fz (Bd.d (.floor H W)), .fz rd, .fz (.str "floor"), .fz (.int (H : Nat)), .fz (.int (W : Nat)), .ow (.l (fs ++ if i + U ≤ H ∧ j + V ≤ W then [dN (i * W + j)] else [])), .fz (.int (i : Nat)), .fz (.int (j : Nat)), .fz (.int ((i : Int) + (U : Nat))), .fz (.int ((j : Int) + (V : Nat)))]) := fun rd _ => by
    by_cases b1 : i + U ≤ H
    · by_cases b2 : j + V ≤ W
      · rw [if_pos ⟨b1, b2⟩, dn]
        simp only [wipeD, restD, allFz, eVar_e, eC_e, rd_fz, rd_ow, rd_bw, fr_fz, fr_ow, fr_bw, dFr_e, dOp2_e, dTst_e, dAnd_e, dOr_e, dNot_e, dIfE_e, dAndV_e, dOrV_e, dNotV_e, dYes_e, aNil_e, aCons_e, aFr_e, rds_nil, rds_cons, dCall_e, eTup_e, eLst_e, dsOf_nil, dsOf_fz, fCall_e, bSeq_e, bNext_e, bBreak_e, bCont_e, bRetN_e, bDrop_e, bRet_e, bIf_e, to_fz, to_ow, to_bw, notRf_e, bAsg_e, gNm_e, gsNil_e, gsCons_e, gTp_e, bUnp_e, dMt_e, held_ow, held_rf, putS_e, dM1_e, dIsi_e, oSome_e, oNo_e, dSl_e, dNeg_e, bSetIx_e, bAug_e, res_fz, res_ow, res_bw, runF_e, fin_nil, fin_nil1, fin_rf, fin_fz, iAny_e, iRange1_e, iRange2_e, iEnumD_e, dChain_e, dLRg1_e, dLRg2_e, heldM_ow, heldM_rf, eDict_e, dDGet_e, dDIn_e, bDPut_e, bPar_e, nc0, nc1, nc2, nc3, nc4, nc5, nc6, nc7, nc8, nc9, nc36, kVar_0, kVar_1, kVar_2, kRd_0, kRd_1, kRd_2, kFr_0, kFr_1, kDFr_0, kDFr_1, kZ_0, kZ_1, kOp3_0, kOp2_0, kOp2_1, kOp_0, kOp_1, kTst_0, kAnd_0, kAnd_1, kAnd_2, kOr_0, kOr_1, kOr_2, kNot_0, kNot_1, kIfE_0, kIfE_1, kIfE_2, kAndV_0, kAndV_1, kOrV_0, kOrV_1, kNotV_0, kAC2_0, kAC2_1, kAC_0, kAC_1, kAF_0, kAF_1, kRds_0, kCall2_0, kCall2_1, kCall_0, kCall_1, kTup2_0, kTup2_1, kTup_0, kTup_1, kLst2_0, kLst2_1, kLst_0, kLst_1, kFCo_0, kFCo_1, kFCr_0, kFCr_1, kFCf_0, kFCf_1, kFC2_0, kFC2_1, kFC3_0, kFC3_1, kFC1_0, kFC1_1, kFC1_2, kFC_0, kFC_1, kSeq_0, kSeq_1, kSeq_2, kSeq_3, kSeq_4, kSeq_5, kDrop_0, kDrop_1, kRet_0, kRet_1, kIf_0, kIf_1, kIf_2, kTo_0, kTo_1, kNR_0, kNR_1, kNR_2, kNR_3, kNR_4, kNR_5, kAsg3_0, kAsg3_1, kAsg2_0, kAsg2_1, kAsg_0, kAsg_1, kGN_0, kGN_1, kGC_0, kGC_1, kUn2_0, kUn2_1, kUn_0, kUn_1, kMt4_0, kMt4_1, kMt3_0, kMt2_0, kMt2_1, kMt_0, kMt_1, kPut_0, kPut_1, kPut_2, kPut_3, kPut_4, kPut_5, kM12_0, kM12_1, kM11_0, kM11_1, kM1_0, kIsi3_0, kIsi3_1, kIsi2_0, kIsi2_1, kIsi_0, kIsi_1, kOSo_0, kSl4_0, kSl4_1, kSl3_0, kSl3_1, kSl2_0, kSl2_1, kSl_0, kSl_1, kNeg_0, kSX3_0, kSX3_1, kSX2_0, kSX2_1, kSX1_0, kSX0_0, kSX0_1, kSX_0, kSX_1, kAug3_0, kAug3_1, kAug2_0, kAug_0, kRes_0, kRes_1, kEnd2_0, kEnd2_1, kEnd_0, kEnd_1, kAny_0, kAny_1, kAny_2, kR1_0, kR2_0, kEn_0, kEn_1, kFor_0, kFor_1, kLc2_0, kLc2_1, kLc_0, kLc_1, kGG_0, kCh3_0, kCh3_1, kCh2_0, kCh2_1, kCh1_0, kCh1_1, kCh_0, kCh_1, kLRg_0, kLRh_0, kLRi_0, kMG_0, kDG2_0, kDG1_0, kDG1_1, kDG_0, kDG_1, kDI2_0, kDI2_1, kDI_0, kDI_1, kMP_0, kDP3_0, kDP3_1, kDP2_0, kDP2_1, kDP1_0, kDP1_1, kDP_0, kDP_1, kPar2_0, kPar2_1, kPar_0, gAdd, DL.gSub, gCmp, gLen, gMax, gMin, gInt, gList, gTuple, gApp, ix_l0, ix_l1, ix_l2, ix_t0, ix_t1, ix_t2, ix_t3, ix_tm2, ix_tm3, ix_tm4, gEq_int, gNe_int, eq_row_floor, eq_ring_floor, eq_floor_floor, eq_row_ring, eq_ring_ring, eq_floor_ring, eq_row_row, eq_ring_row, eq_floor_row, ne_row_floor, ne_ring_floor, ne_floor_floor, lim, ixN3_0, ixN3_1, ixN3_2, List.getElem?_cons_zero, List.getElem?_cons_succ, List.set_cons_zero, List.set_cons_succ, List.replicate_succ, List.replicate_zero, List.cons_append, List.nil_append, List.zipWith_cons_cons, List.zipWith_nil_left, List.zipWith_nil_right, List.length_cons, List.length_nil, Option.map_some, Option.map_none, Nat.reduceAdd, Nat.reduceSub, Nat.reduceLT, Nat.reduceLeDiff, Int.reduceAdd, Int.reduceLT, Int.reduceLE, Int.reduceNeg, Int.reduceSub, Int.reduceMul, Int.reduceEq, if_true, if_false, ite_true, ite_false, decide_true, decide_false, Bool.not_true, Bool.not_false, Bool.and_true, Bool.true_and, Bool.and_false, Bool.false_and, ↓reduceIte, c1, c2, b1, b2, mm, fl]
      · rw [if_neg fun z => b2 z.2, List.append_nil]
        simp only [wipeD, restD, allFz, eVar_e, eC_e, rd_fz, rd_ow, rd_bw, fr_fz, fr_ow, fr_bw, dFr_e, dOp2_e, dTst_e, dAnd_e, dOr_e, dNot_e, dIfE_e, dAndV_e, dOrV_e, dNotV_e, dYes_e, aNil_e, aCons_e, aFr_e, rds_nil, rds_cons, dCall_e, eTup_e, eLst_e, dsOf_nil, dsOf_fz, fCall_e, bSeq_e, bNext_e, bBreak_e, bCont_e, bRetN_e, bDrop_e, bRet_e, bIf_e, to_fz, to_ow, to_bw, notRf_e, bAsg_e, gNm_e, gsNil_e, gsCons_e, gTp_e, bUnp_e, dMt_e, held_ow, held_rf, putS_e, dM1_e, dIsi_e, oSome_e, oNo_e, dSl_e, dNeg_e, bSetIx_e, bAug_e, res_fz, res_ow, res_bw, runF_e, fin_nil, fin_nil1, fin_rf, fin_fz, iAny_e, iRange1_e, iRange2_e, iEnumD_e, dChain_e, dLRg1_e, dLRg2_e, heldM_ow, heldM_rf, eDict_e, dDGet_e, dDIn_e, bDPut_e, bPar_e, nc0, nc1, nc2, nc3, nc4, nc5, nc6, nc7, nc8, nc9, nc36, kVar_0, kVar_1, kVar_2, kRd_0, kRd_1, kRd_2, kFr_0, kFr_1, kDFr_0, kDFr_1, kZ_0, kZ_1, kOp3_0, kOp2_0, kOp2_1, kOp_0, kOp_1, kTst_0, kAnd_0, kAnd_1, kAnd_2, kOr_0, kOr_1, kOr_2, kNot_0, kNot_1, kIfE_0, kIfE_1, kIfE_2, kAndV_0, kAndV_1, kOrV_0, kOrV_1, kNotV_0, kAC2_0, kAC2_1, kAC_0, kAC_1, kAF_0, kAF_1, kRds_0, kCall2_0, kCall2_1, kCall_0, kCall_1, kTup2_0, kTup2_1, kTup_0, kTup_1, kLst2_0, kLst2_1, kLst_0, kLst_1, kFCo_0, kFCo_1, kFCr_0, kFCr_1, kFCf_0, kFCf_1, kFC2_0, kFC2_1, kFC3_0, kFC3_1, kFC1_0, kFC1_1, kFC1_2, kFC_0, kFC_1, kSeq_0, kSeq_1, kSeq_2, kSeq_3, kSeq_4, kSeq_5, kDrop_0, kDrop_1, kRet_0, kRet_1, kIf_0, kIf_1, kIf_2, kTo_0, kTo_1, kNR_0, kNR_1, kNR_2, kNR_3, kNR_4, kNR_5, kAsg3_0, kAsg3_1, kAsg2_0, kAsg2_1, kAsg_0, kAsg_1, kGN_0, kGN_1, kGC_0, kGC_1, kUn2_0, kUn2_1, kUn_0, kUn_1, kMt4_0, kMt4_1, kMt3_0, kMt2_0, kMt2_1, kMt_0, kMt_1, kPut_0, kPut_1, kPut_2, kPut_3, kPut_4, kPut_5, kM12_0, kM12_1, kM11_0, kM11_1, kM1_0, kIsi3_0, kIsi3_1, kIsi2_0, kIsi2_1, kIsi_0, kIsi_1, kOSo_0, kSl4_0, kSl4_1, kSl3_0, kSl3_1, kSl2_0, kSl2_1, kSl_0, kSl_1, kNeg_0, kSX3_0, kSX3_1, kSX2_0, kSX2_1, kSX1_0, kSX0_0, kSX0_1, kSX_0, kSX_1, kAug3_0, kAug3_1, kAug2_0, kAug_0, kRes_0, kRes_1, kEnd2_0, kEnd2_1, kEnd_0, kEnd_1, kAny_0, kAny_1, kAny_2, kR1_0, kR2_0, kEn_0, kEn_1, kFor_0, kFor_1, kLc2_0, kLc2_1, kLc_0, kLc_1, kGG_0, kCh3_0, kCh3_1, kCh2_0, kCh2_1, kCh1_0, kCh1_1, kCh_0, kCh_1, kLRg_0, kLRh_0, kLRi_0, kMG_0, kDG2_0, kDG1_0, kDG1_1, kDG_0, kDG_1, kDI2_0, kDI2_1, kDI_0, kDI_1, kMP_0, kDP3_0, kDP3_1, kDP2_0, kDP2_1, kDP1_0, kDP1_1, kDP_0, kDP_1, kPar2_0, kPar2_1, kPar_0, gAdd, DL.gSub, gCmp, gLen, gMax, gMin, gInt, gList, gTuple, gApp, ix_l0, ix_l1, ix_l2, ix_t0, ix_t1, ix_t2, ix_t3, ix_tm2, ix_tm3, ix_tm4, gEq_int, gNe_int, eq_row_floor, eq_ring_floor, eq_floor_floor, eq_row_ring, eq_ring_ring, eq_floor_ring, eq_row_row, eq_ring_row, eq_floor_row, ne_row_floor, ne_ring_floor, ne_floor_floor, lim, ixN3_0, ixN3_1, ixN3_2, List.getElem?_cons_zero, List.getElem?_cons_succ, List.set_cons_zero, List.set_cons_succ, List.replicate_succ, List.replicate_zero, List.cons_append, List.nil_append, List.zipWith_cons_cons, List.zipWith_nil_left, List.zipWith_nil_right, List.length_cons, List.length_nil, Option.map_some, Option.map_none, Nat.reduceAdd, Nat.reduceSub, Nat.reduceLT, Nat.reduceLeDiff, Int.reduceAdd, Int.reduceLT, Int.reduceLE, Int.reduceNeg, Int.reduceSub, Int.reduceMul, Int.reduceEq, if_true, if_false, ite_true, ite_false, decide_true, decide_false, Bool.not_true, Bool.not_false, Bool.and_true, Bool.true_and, Bool.and_false, Bool.false_and, ↓reduceIte, c1, c2, b1, b2]
    · rw [if_neg fun z => b1 z.1, List.append_nil]
      simp only [wipeD, restD, allFz, eVar_e, eC_e, rd_fz, rd_ow, rd_bw, fr_fz, fr_ow, fr_bw, dFr_e, dOp2_e, dTst_e, dAnd_e, dOr_e, dNot_e, dIfE_e, dAndV_e, dOrV_e, dNotV_e, dYes_e, aNil_e, aCons_e, aFr_e, rds_nil, rds_cons, dCall_e, eTup_e, eLst_e, dsOf_nil, dsOf_fz, fCall_e, bSeq_e, bNext_e, bBreak_e, bCont_e, bRetN_e, bDrop_e, bRet_e, bIf_e, to_fz, to_ow, to_bw, notRf_e, bAsg_e, gNm_e, gsNil_e, gsCons_e, gTp_e, bUnp_e, dMt_e, held_ow, held_rf, putS_e, dM1_e, dIsi_e, oSome_e, oNo_e, dSl_e, dNeg_e, bSetIx_e, bAug_e, res_fz, res_ow, res_bw, runF_e, fin_nil, fin_nil1, fin_rf, fin_fz, iAny_e, iRange1_e, iRange2_e, iEnumD_e, dChain_e, dLRg1_e, dLRg2_e, heldM_ow, heldM_rf, eDict_e, dDGet_e, dDIn_e, bDPut_e, bPar_e, nc0, nc1, nc2, nc3, nc4, nc5, nc6, nc7, nc8, nc9, nc36, kVar_0, kVar_1, kVar_2, kRd_0, kRd_1, kRd_2, kFr_0, kFr_1, kDFr_0, kDFr_1, kZ_0, kZ_1, kOp3_0, kOp2_0, kOp2_1, kOp_0, kOp_1, kTst_0, kAnd_0, kAnd_1, kAnd_2, kOr_0, kOr_1, kOr_2, kNot_0, kNot_1, kIfE_0, kIfE_1, kIfE_2, kAndV_0, kAndV_1, kOrV_0, kOrV_1, kNotV_0, kAC2_0, kAC2_1, kAC_0, kAC_1, kAF_0, kAF_1, kRds_0, kCall2_0, kCall2_1, kCall_0, kCall_1, kTup2_0, kTup2_1, kTup_0, kTup_1, kLst2_0, kLst2_1, kLst_0, kLst_1, kFCo_0, kFCo_1, kFCr_0, kFCr_1, kFCf_0, kFCf_1, kFC2_0, kFC2_1, kFC3_0, kFC3_1, kFC1_0, kFC1_1, kFC1_2, kFC_0, kFC_1, kSeq_0, kSeq_1, kSeq_2, kSeq_3, kSeq_4, kSeq_5, kDrop_0, kDrop_1, kRet_0, kRet_1, kIf_0, kIf_1, kIf_2, kTo_0, kTo_1, kNR_0, kNR_1, kNR_2, kNR_3, kNR_4, kNR_5, kAsg3_0, kAsg3_1, kAsg2_0, kAsg2_1, kAsg_0, kAsg_1, kGN_0, kGN_1, kGC_0, kGC_1, kUn2_0, kUn2_1, kUn_0, kUn_1, kMt4_0, kMt4_1, kMt3_0, kMt2_0, kMt2_1, kMt_0, kMt_1, kPut_0, kPut_1, kPut_2, kPut_3, kPut_4, kPut_5, kM12_0, kM12_1, kM11_0, kM11_1, kM1_0, kIsi3_0, kIsi3_1, kIsi2_0, kIsi2_1, kIsi_0, kIsi_1, kOSo_0, kSl4_0, kSl4_1, kSl3_0, kSl3_1, kSl2_0, kSl2_1, kSl_0, kSl_1, kNeg_0, kSX3_0, kSX3_1, kSX2_0, kSX2_1, kSX1_0, kSX0_0, kSX0_1, kSX_0, kSX_1, kAug3_0, kAug3_1, kAug2_0, kAug_0, kRes_0, kRes_1, kEnd2_0, kEnd2_1, kEnd_0, kEnd_1, kAny_0, kAny_1, kAny_2, kR1_0, kR2_0, kEn_0, kEn_1, kFor_0, kFor_1, kLc2_0, kLc2_1, kLc_0, kLc_1, kGG_0, kCh3_0, kCh3_1, kCh2_0, kCh2_1, kCh1_0, kCh1_1, kCh_0, kCh_1, kLRg_0, kLRh_0, kLRi_0, kMG_0, kDG2_0, kDG1_0, kDG1_1, kDG_0, kDG_1, kDI2_0, kDI2_1, kDI_0, kDI_1, kMP_0, kDP3_0, kDP3_1, kDP2_0, kDP2_1, kDP1_0, kDP1_1, kDP_0, kDP_1, kPar2_0, kPar2_1, kPar_0, gAdd, DL.gSub, gCmp, gLen, gMax, gMin, gInt, gList, gTuple, gApp, ix_l0, ix_l1, ix_l2, ix_t0, ix_t1, ix_t2, ix_t3, ix_tm2, ix_tm3, ix_tm4, gEq_int, gNe_int, eq_row_floor, eq_ring_floor, eq_floor_floor, eq_row_ring, eq_ring_ring, eq_floor_ring, eq_row_row, eq_ring_row, eq_floor_row, ne_row_floor, ne_ring_floor, ne_floor_floor, lim, ixN3_0, ixN3_1, ixN3_2, List.getElem?_cons_zero, List.getElem?_cons_succ, List.set_cons_zero, List.set_cons_succ, List.replicate_succ, List.replicate_zero, List.cons_append, List.nil_append, List.zipWith_cons_cons, List.zipWith_nil_left, List.zipWith_nil_right, List.length_cons, List.length_nil, Option.map_some, Option.map_none, Nat.reduceAdd, Nat.reduceSub, Nat.reduceLT, Nat.reduceLeDiff, Int.reduceAdd, Int.reduceLT, Int.reduceLE, Int.reduceNeg, Int.reduceSub, Int.reduceMul, Int.reduceEq, if_true, if_false, ite_true, ite_false, decide_true, decide_false, Bool.not_true, Bool.not_false, Bool.and_true, Bool.true_and, Bool.and_false, Bool.false_and, ↓reduceIte, c1, b1]
  have body' := body r.d fun _ => trivial
  unfold PlB
  rcases hr with ⟨rfl, rfl, rfl⟩ | ⟨rfl, rfl, rfl⟩
  · have m1 : gMul (.int (U : Nat)) (.int 1) = some (.fz (.int (U : Nat))) := by rw [mul_small (by omega) (by decide), Int.mul_one]
    have m2 : gMul (.int (y : Nat)) (.int 2) = some (.fz (.int ((2 * y : Nat) : Int))) := by rw [mul_small (by omega) (by decide)]; congr 3; omega
    simp only [wipeD, restD, allFz, eVar_e, eC_e, rd_fz, rd_ow, rd_bw, fr_fz, fr_ow, fr_bw, dFr_e, dOp2_e, dTst_e, dAnd_e, dOr_e, dNot_e, dIfE_e, dAndV_e, dOrV_e, dNotV_e, dYes_e, aNil_e, aCons_e, aFr_e, rds_nil, rds_cons, dCall_e, eTup_e, eLst_e, dsOf_nil, dsOf_fz, fCall_e, bSeq_e, bNext_e, bBreak_e, bCont_e, bRetN_e, bDrop_e, bRet_e, bIf_e, to_fz, to_ow, to_bw, notRf_e, bAsg_e, gNm_e, gsNil_e, gsCons_e, gTp_e, bUnp_e, dMt_e, held_ow, held_rf, putS_e, dM1_e, dIsi_e, oSome_e, oNo_e, dSl_e, dNeg_e, bSetIx_e, bAug_e, res_fz, res_ow, res_bw, runF_e, fin_nil, fin_nil1, fin_rf, fin_fz, iAny_e, iRange1_e, iRange2_e, iEnumD_e, dChain_e, dLRg1_e, dLRg2_e, heldM_ow, heldM_rf, eDict_e, dDGet_e, dDIn_e, bDPut_e, bPar_e, nc0, nc1, nc2, nc3, nc4, nc5, nc6, nc7, nc8, nc9, nc36, kVar_0, kVar_1, kVar_2, kRd_0, kRd_1, kRd_2, kFr_0, kFr_1, kDFr_0, kDFr_1, kZ_0, kZ_1, kOp3_0, kOp2_0, kOp2_1, kOp_0, kOp_1, kTst_0, kAnd_0, kAnd_1, kAnd_2, kOr_0, kOr_1, kOr_2, kNot_0, kNot_1, kIfE_0, kIfE_1, kIfE_2, kAndV_0, kAndV_1, kOrV_0, kOrV_1, kNotV_0, kAC2_0, kAC2_1, kAC_0, kAC_1, kAF_0, kAF_1, kRds_0, kCall2_0, kCall2_1, kCall_0, kCall_1, kTup2_0, kTup2_1, kTup_0, kTup_1, kLst2_0, kLst2_1, kLst_0, kLst_1, kFCo_0, kFCo_1, kFCr_0, kFCr_1, kFCf_0, kFCf_1, kFC2_0, kFC2_1, kFC3_0, kFC3_1, kFC1_0, kFC1_1, kFC1_2, kFC_0, kFC_1, kSeq_0, kSeq_1, kSeq_2, kSeq_3, kSeq_4, kSeq_5, kDrop_0, kDrop_1, kRet_0, kRet_1, kIf_0, kIf_1, kIf_2, kTo_0, kTo_1, kNR_0, kNR_1, kNR_2, kNR_3, kNR_4, kNR_5, kAsg3_0, kAsg3_1, kAsg2_0, kAsg2_1, kAsg_0, kAsg_1, kGN_0, kGN_1, kGC_0, kGC_1, kUn2_0, kUn2_1, kUn_0, kUn_1, kMt4_0, kMt4_1, kMt3_0, kMt2_0, kMt2_1, kMt_0, kMt_1, kPut_0, kPut_1, kPut_2, kPut_3, kPut_4, kPut_5, kM12_0, kM12_1, kM11_0, kM11_1, kM1_0, kIsi3_0, kIsi3_1, kIsi2_0, kIsi2_1, kIsi_0, kIsi_1, kOSo_0, kSl4_0, kSl4_1, kSl3_0, kSl3_1, kSl2_0, kSl2_1, kSl_0, kSl_1, kNeg_0, kSX3_0, kSX3_1, kSX2_0, kSX2_1, kSX1_0, kSX0_0, kSX0_1, kSX_0, kSX_1, kAug3_0, kAug3_1, kAug2_0, kAug_0, kRes_0, kRes_1, kEnd2_0, kEnd2_1, kEnd_0, kEnd_1, kAny_0, kAny_1, kAny_2, kR1_0, kR2_0, kEn_0, kEn_1, kFor_0, kFor_1, kLc2_0, kLc2_1, kLc_0, kLc_1, kGG_0, kCh3_0, kCh3_1, kCh2_0, kCh2_1, kCh1_0, kCh1_1, kCh_0, kCh_1, kLRg_0, kLRh_0, kLRi_0, kMG_0, kDG2_0, kDG1_0, kDG1_1, kDG_0, kDG_1, kDI2_0, kDI2_1, kDI_0, kDI_1, kMP_0, kDP3_0, kDP3_1, kDP2_0, kDP2_1, kDP1_0, kDP1_1, kDP_0, kDP_1, kPar2_0, kPar2_1, kPar_0, gAdd, DL.gSub, gCmp, gLen, gMax, gMin, gInt, gList, gTuple, gApp, ix_l0, ix_l1, ix_l2, ix_t0, ix_t1, ix_t2, ix_t3, ix_tm2, ix_tm3, ix_tm4, gEq_int, gNe_int, eq_row_floor, eq_ring_floor, eq_floor_floor, eq_row_ring, eq_ring_ring, eq_floor_ring, eq_row_row, eq_ring_row, eq_floor_row, ne_row_floor, ne_ring_floor, ne_floor_floor, lim, ixN3_0, ixN3_1, ixN3_2, List.getElem?_cons_zero, List.getElem?_cons_succ, List.set_cons_zero, List.set_cons_succ, List.replicate_succ, List.replicate_zero, List.cons_append, List.nil_append, List.zipWith_cons_cons, List.zipWith_nil_left, List.zipWith_nil_right, List.length_cons, List.length_nil, Option.map_some, Option.map_none, Nat.reduceAdd, Nat.reduceSub, Nat.reduceLT, Nat.reduceLeDiff, Int.reduceAdd, Int.reduceLT, Int.reduceLE, Int.reduceNeg, Int.reduceSub, Int.reduceMul, Int.reduceEq, if_true, if_false, ite_true, ite_false, decide_true, decide_false, Bool.not_true, Bool.not_false, Bool.and_true, Bool.true_and, Bool.and_false, Bool.false_and, ↓reduceIte, Bd.d, Ru.d] at body' ⊢
    simp only [wipeD, restD, allFz, eVar_e, eC_e, rd_fz, rd_ow, rd_bw, fr_fz, fr_ow, fr_bw, dFr_e, dOp2_e, dTst_e, dAnd_e, dOr_e, dNot_e, dIfE_e, dAndV_e, dOrV_e, dNotV_e, dYes_e, aNil_e, aCons_e, aFr_e, rds_nil, rds_cons, dCall_e, eTup_e, eLst_e, dsOf_nil, dsOf_fz, fCall_e, bSeq_e, bNext_e, bBreak_e, bCont_e, bRetN_e, bDrop_e, bRet_e, bIf_e, to_fz, to_ow, to_bw, notRf_e, bAsg_e, gNm_e, gsNil_e, gsCons_e, gTp_e, bUnp_e, dMt_e, held_ow, held_rf, putS_e, dM1_e, dIsi_e, oSome_e, oNo_e, dSl_e, dNeg_e, bSetIx_e, bAug_e, res_fz, res_ow, res_bw, runF_e, fin_nil, fin_nil1, fin_rf, fin_fz, iAny_e, iRange1_e, iRange2_e, iEnumD_e, dChain_e, dLRg1_e, dLRg2_e, heldM_ow, heldM_rf, eDict_e, dDGet_e, dDIn_e, bDPut_e, bPar_e, nc0, nc1, nc2, nc3, nc4, nc5, nc6, nc7, nc8, nc9, nc36, kVar_0, kVar_1, kVar_2, kRd_0, kRd_1, kRd_2, kFr_0, kFr_1, kDFr_0, kDFr_1, kZ_0, kZ_1, kOp3_0, kOp2_0, kOp2_1, kOp_0, kOp_1, kTst_0, kAnd_0, kAnd_1, kAnd_2, kOr_0, kOr_1, kOr_2, kNot_0, kNot_1, kIfE_0, kIfE_1, kIfE_2, kAndV_0, kAndV_1, kOrV_0, kOrV_1, kNotV_0, kAC2_0, kAC2_1, kAC_0, kAC_1, kAF_0, kAF_1, kRds_0, kCall2_0, kCall2_1, kCall_0, kCall_1, kTup2_0, kTup2_1, kTup_0, kTup_1, kLst2_0, kLst2_1, kLst_0, kLst_1, kFCo_0, kFCo_1, kFCr_0, kFCr_1, kFCf_0, kFCf_1, kFC2_0, kFC2_1, kFC3_0, kFC3_1, kFC1_0, kFC1_1, kFC1_2, kFC_0, kFC_1, kSeq_0, kSeq_1, kSeq_2, kSeq_3, kSeq_4, kSeq_5, kDrop_0, kDrop_1, kRet_0, kRet_1, kIf_0, kIf_1, kIf_2, kTo_0, kTo_1, kNR_0, kNR_1, kNR_2, kNR_3, kNR_4, kNR_5, kAsg3_0, kAsg3_1, kAsg2_0, kAsg2_1, kAsg_0, kAsg_1, kGN_0, kGN_1, kGC_0, kGC_1, kUn2_0, kUn2_1, kUn_0, kUn_1, kMt4_0, kMt4_1, kMt3_0, kMt2_0, kMt2_1, kMt_0, kMt_1, kPut_0, kPut_1, kPut_2, kPut_3, kPut_4, kPut_5, kM12_0, kM12_1, kM11_0, kM11_1, kM1_0, kIsi3_0, kIsi3_1, kIsi2_0, kIsi2_1, kIsi_0, kIsi_1, kOSo_0, kSl4_0, kSl4_1, kSl3_0, kSl3_1, kSl2_0, kSl2_1, kSl_0, kSl_1, kNeg_0, kSX3_0, kSX3_1, kSX2_0, kSX2_1, kSX1_0, kSX0_0, kSX0_1, kSX_0, kSX_1, kAug3_0, kAug3_1, kAug2_0, kAug_0, kRes_0, kRes_1, kEnd2_0, kEnd2_1, kEnd_0, kEnd_1, kAny_0, kAny_1, kAny_2, kR1_0, kR2_0, kEn_0, kEn_1, kFor_0, kFor_1, kLc2_0, kLc2_1, kLc_0, kLc_1, kGG_0, kCh3_0, kCh3_1, kCh2_0, kCh2_1, kCh1_0, kCh1_1, kCh_0, kCh_1, kLRg_0, kLRh_0, kLRi_0, kMG_0, kDG2_0, kDG1_0, kDG1_1, kDG_0, kDG_1, kDI2_0, kDI2_1, kDI_0, kDI_1, kMP_0, kDP3_0, kDP3_1, kDP2_0, kDP2_1, kDP1_0, kDP1_1, kDP_0, kDP_1, kPar2_0, kPar2_1, kPar_0, gAdd, DL.gSub, gCmp, gLen, gMax, gMin, gInt, gList, gTuple, gApp, ix_l0, ix_l1, ix_l2, ix_t0, ix_t1, ix_t2, ix_t3, ix_tm2, ix_tm3, ix_tm4, gEq_int, gNe_int, eq_row_floor, eq_ring_floor, eq_floor_floor, eq_row_ring, eq_ring_ring, eq_floor_ring, eq_row_row, eq_ring_row, eq_floor_row, ne_row_floor, ne_ring_floor, ne_floor_floor, lim, ixN3_0, ixN3_1, ixN3_2, List.getElem?_cons_zero, List.getElem?_cons_succ, List.set_cons_zero, List.set_cons_succ, List.replicate_succ, List.replicate_zero, List.cons_append, List.nil_append, List.zipWith_cons_cons, List.zipWith_nil_left, List.zipWith_nil_right, List.length_cons, List.length_nil, Option.map_some, Option.map_none, Nat.reduceAdd, Nat.reduceSub, Nat.reduceLT, Nat.reduceLeDiff, Int.reduceAdd, Int.reduceLT, Int.reduceLE, Int.reduceNeg, Int.reduceSub, Int.reduceMul, Int.reduceEq, if_true, if_false, ite_true, ite_false, decide_true, decide_false, Bool.not_true, Bool.not_false, Bool.and_true, Bool.true_and, Bool.and_false, Bool.false_and, ↓reduceIte, eq_under.2.1, eq_over.2.1, m1, m2, n1, n2, Bool.false_eq_true]
    exact body'
  · have m1 : gMul (.int (x : Nat)) (.int 2) = some (.fz (.int ((2 * x : Nat) : Int))) := by rw [mul_small (by omega) (by decide)]; congr 3; omega
    have m2 : gMul (.int (V : Nat)) (.int 1) = some (.fz (.int (V : Nat))) := by rw [mul_small (by omega) (by decide), Int.mul_one]
    simp only [wipeD, restD, allFz, eVar_e, eC_e, rd_fz, rd_ow, rd_bw, fr_fz, fr_ow, fr_bw, dFr_e, dOp2_e, dTst_e, dAnd_e, dOr_e, dNot_e, dIfE_e, dAndV_e, dOrV_e, dNotV_e, dYes_e, aNil_e, aCons_e, aFr_e, rds_nil, rds_cons, dCall_e, eTup_e, eLst_e, dsOf_nil, dsOf_fz, fCall_e, bSeq_e, bNext_e, bBreak_e, bCont_e, bRetN_e, bDrop_e, bRet_e, bIf_e, to_fz, to_ow, to_bw, notRf_e, bAsg_e, gNm_e, gsNil_e, gsCons_e, gTp_e, bUnp_e, dMt_e, held_ow, held_rf, putS_e, dM1_e, dIsi_e, oSome_e, oNo_e, dSl_e, dNeg_e, bSetIx_e, bAug_e, res_fz, res_ow, res_bw, runF_e, fin_nil, fin_nil1, fin_rf, fin_fz, iAny_e, iRange1_e, iRange2_e, iEnumD_e, dChain_e, dLRg1_e, dLRg2_e, heldM_ow, heldM_rf, eDict_e, dDGet_e, dDIn_e, bDPut_e, bPar_e, nc0, nc1, nc2, nc3, nc4, nc5, nc6, nc7, nc8, nc9, nc36, kVar_0, kVar_1, kVar_2, kRd_0, kRd_1, kRd_2, kFr_0, kFr_1, kDFr_0, kDFr_1, kZ_0, kZ_1, kOp3_0, kOp2_0, kOp2_1, kOp_0, kOp_1, kTst_0, kAnd_0, kAnd_1, kAnd_2, kOr_0, kOr_1, kOr_2, kNot_0, kNot_1, kIfE_0, kIfE_1, kIfE_2, kAndV_0, kAndV_1, kOrV_0, kOrV_1, kNotV_0, kAC2_0, kAC2_1, kAC_0, kAC_1, kAF_0, kAF_1, kRds_0, kCall2_0, kCall2_1, kCall_0, kCall_1, kTup2_0, kTup2_1, kTup_0, kTup_1, kLst2_0, kLst2_1, kLst_0, kLst_1, kFCo_0, kFCo_1, kFCr_0, kFCr_1, kFCf_0, kFCf_1, kFC2_0, kFC2_1, kFC3_0, kFC3_1, kFC1_0, kFC1_1, kFC1_2, kFC_0, kFC_1, kSeq_0, kSeq_1, kSeq_2, kSeq_3, kSeq_4, kSeq_5, kDrop_0, kDrop_1, kRet_0, kRet_1, kIf_0, kIf_1, kIf_2, kTo_0, kTo_1, kNR_0, kNR_1, kNR_2, kNR_3, kNR_4, kNR_5, kAsg3_0, kAsg3_1, kAsg2_0, kAsg2_1, kAsg_0, kAsg_1, kGN_0, kGN_1, kGC_0, kGC_1, kUn2_0, kUn2_1, kUn_0, kUn_1, kMt4_0, kMt4_1, kMt3_0, kMt2_0, kMt2_1, kMt_0, kMt_1, kPut_0, kPut_1, kPut_2, kPut_3, kPut_4, kPut_5, kM12_0, kM12_1, kM11_0, kM11_1, kM1_0, kIsi3_0, kIsi3_1, kIsi2_0, kIsi2_1, kIsi_0, kIsi_1, kOSo_0, kSl4_0, kSl4_1, kSl3_0, kSl3_1, kSl2_0, kSl2_1, kSl_0, kSl_1, kNeg_0, kSX3_0, kSX3_1, kSX2_0, kSX2_1, kSX1_0, kSX0_0, kSX0_1, kSX_0, kSX_1, kAug3_0, kAug3_1, kAug2_0, kAug_0, kRes_0, kRes_1, kEnd2_0, kEnd2_1, kEnd_0, kEnd_1, kAny_0, kAny_1, kAny_2, kR1_0, kR2_0, kEn_0, kEn_1, kFor_0, kFor_1, kLc2_0, kLc2_1, kLc_0, kLc_1, kGG_0, kCh3_0, kCh3_1, kCh2_0, kCh2_1, kCh1_0, kCh1_1, kCh_0, kCh_1, kLRg_0, kLRh_0, kLRi_0, kMG_0, kDG2_0, kDG1_0, kDG1_1, kDG_0, kDG_1, kDI2_0, kDI2_1, kDI_0, kDI_1, kMP_0, kDP3_0, kDP3_1, kDP2_0, kDP2_1, kDP1_0, kDP1_1, kDP_0, kDP_1, kPar2_0, kPar2_1, kPar_0, gAdd, DL.gSub, gCmp, gLen, gMax, gMin, gInt, gList, gTuple, gApp, ix_l0, ix_l1, ix_l2, ix_t0, ix_t1, ix_t2, ix_t3, ix_tm2, ix_tm3, ix_tm4, gEq_int, gNe_int, eq_row_floor, eq_ring_floor, eq_floor_floor, eq_row_ring, eq_ring_ring, eq_floor_ring, eq_row_row, eq_ring_row, eq_floor_row, ne_row_floor, ne_ring_floor, ne_floor_floor, lim, ixN3_0, ixN3_1, ixN3_2, List.getElem?_cons_zero, List.getElem?_cons_succ, List.set_cons_zero, List.set_cons_succ, List.replicate_succ, List.replicate_zero, List.cons_append, List.nil_append, List.zipWith_cons_cons, List.zipWith_nil_left, List.zipWith_nil_right, List.length_cons, List.length_nil, Option.map_some, Option.map_none, Nat.reduceAdd, Nat.reduceSub, Nat.reduceLT, Nat.reduceLeDiff, Int.reduceAdd, Int.reduceLT, Int.reduceLE, Int.reduceNeg, Int.reduceSub, Int.reduceMul, Int.reduceEq, if_true, if_false, ite_true, ite_false, decide_true, decide_false, Bool.not_true, Bool.not_false, Bool.and_true, Bool.true_and, Bool.and_false, Bool.false_and, ↓reduceIte, Bd.d, Ru.d] at body' ⊢
    simp only [wipeD, restD, allFz, eVar_e, eC_e, rd_fz, rd_ow, rd_bw, fr_fz, fr_ow, fr_bw, dFr_e, dOp2_e, dTst_e, dAnd_e, dOr_e, dNot_e, dIfE_e, dAndV_e, dOrV_e, dNotV_e, dYes_e, aNil_e, aCons_e, aFr_e, rds_nil, rds_cons, dCall_e, eTup_e, eLst_e, dsOf_nil, dsOf_fz, fCall_e, bSeq_e, bNext_e, bBreak_e, bCont_e, bRetN_e, bDrop_e, bRet_e, bIf_e, to_fz, to_ow, to_bw, notRf_e, bAsg_e, gNm_e, gsNil_e, gsCons_e, gTp_e, bUnp_e, dMt_e, held_ow, held_rf, putS_e, dM1_e, dIsi_e, oSome_e, oNo_e, dSl_e, dNeg_e, bSetIx_e, bAug_e, res_fz, res_ow, res_bw, runF_e, fin_nil, fin_nil1, fin_rf, fin_fz, iAny_e, iRange1_e, iRange2_e, iEnumD_e, dChain_e, dLRg1_e, dLRg2_e, heldM_ow, heldM_rf, eDict_e, dDGet_e, dDIn_e, bDPut_e, bPar_e, nc0, nc1, nc2, nc3, nc4, nc5, nc6, nc7, nc8, nc9, nc36, kVar_0, kVar_1, kVar_2, kRd_0, kRd_1, kRd_2, kFr_0, kFr_1, kDFr_0, kDFr_1, kZ_0, kZ_1, kOp3_0, kOp2_0, kOp2_1, kOp_0, kOp_1, kTst_0, kAnd_0, kAnd_1, kAnd_2, kOr_0, kOr_1, kOr_2, kNot_0, kNot_1, kIfE_0, kIfE_1, kIfE_2, kAndV_0, kAndV_1, kOrV_0, kOrV_1, kNotV_0, kAC2_0, kAC2_1, kAC_0, kAC_1, kAF_0, kAF_1, kRds_0, kCall2_0, kCall2_1, kCall_0, kCall_1, kTup2_0, kTup2_1, kTup_0, kTup_1, kLst2_0, kLst2_1, kLst_0, kLst_1, kFCo_0, kFCo_1, kFCr_0, kFCr_1, kFCf_0, kFCf_1, kFC2_0, kFC2_1, kFC3_0, kFC3_1, kFC1_0, kFC1_1, kFC1_2, kFC_0, kFC_1, kSeq_0, kSeq_1, kSeq_2, kSeq_3, kSeq_4, kSeq_5, kDrop_0, kDrop_1, kRet_0, kRet_1, kIf_0, kIf_1, kIf_2, kTo_0, kTo_1, kNR_0, kNR_1, kNR_2, kNR_3, kNR_4, kNR_5, kAsg3_0, kAsg3_1, kAsg2_0, kAsg2_1, kAsg_0, kAsg_1, kGN_0, kGN_1, kGC_0, kGC_1, kUn2_0, kUn2_1, kUn_0, kUn_1, kMt4_0, kMt4_1, kMt3_0, kMt2_0, kMt2_1, kMt_0, kMt_1, kPut_0, kPut_1, kPut_2, kPut_3, kPut_4, kPut_5, kM12_0, kM12_1, kM11_0, kM11_1, kM1_0, kIsi3_0, kIsi3_1, kIsi2_0, kIsi2_1, kIsi_0, kIsi_1, kOSo_0, kSl4_0, kSl4_1, kSl3_0, kSl3_1, kSl2_0, kSl2_1, kSl_0, kSl_1, kNeg_0, kSX3_0, kSX3_1, kSX2_0, kSX2_1, kSX1_0, kSX0_0, kSX0_1, kSX_0, kSX_1, kAug3_0, kAug3_1, kAug2_0, kAug_0, kRes_0, kRes_1, kEnd2_0, kEnd2_1, kEnd_0, kEnd_1, kAny_0, kAny_1, kAny_2, kR1_0, kR2_0, kEn_0, kEn_1, kFor_0, kFor_1, kLc2_0, kLc2_1, kLc_0, kLc_1, kGG_0, kCh3_0, kCh3_1, kCh2_0, kCh2_1, kCh1_0, kCh1_1, kCh_0, kCh_1, kLRg_0, kLRh_0, kLRi_0, kMG_0, kDG2_0, kDG1_0, kDG1_1, kDG_0, kDG_1, kDI2_0, kDI2_1, kDI_0, kDI_1, kMP_0, kDP3_0, kDP3_1, kDP2_0, kDP2_1, kDP1_0, kDP1_1, kDP_0, kDP_1, kPar2_0, kPar2_1, kPar_0, gAdd, DL.gSub, gCmp, gLen, gMax, gMin, gInt, gList, gTuple, gApp, ix_l0, ix_l1, ix_l2, ix_t0, ix_t1, ix_t2, ix_t3, ix_tm2, ix_tm3, ix_tm4, gEq_int, gNe_int, eq_row_floor, eq_ring_floor, eq_floor_floor, eq_row_ring, eq_ring_ring, eq_floor_ring, eq_row_row, eq_ring_row, eq_floor_row, ne_row_floor, ne_ring_floor, ne_floor_floor, lim, ixN3_0, ixN3_1, ixN3_2, List.getElem?_cons_zero, List.getElem?_cons_succ, List.set_cons_zero, List.set_cons_succ, List.replicate_succ, List.replicate_zero, List.cons_append, List.nil_append, List.zipWith_cons_cons, List.zipWith_nil_left, List.zipWith_nil_right, List.length_cons, List.length_nil, Option.map_some, Option.map_none, Nat.reduceAdd, Nat.reduceSub, Nat.reduceLT, Nat.reduceLeDiff, Int.reduceAdd, Int.reduceLT, Int.reduceLE, Int.reduceNeg, Int.reduceSub, Int.reduceMul, Int.reduceEq, if_true, if_false, ite_true, ite_false, decide_true, decide_false, Bool.not_true, Bool.not_false, Bool.and_true, Bool.true_and, Bool.and_false, Bool.false_and, ↓reduceIte, eq_under.2.2, eq_over.2.2, m1, m2, n1, n2, Bool.false_eq_true]
    exact body'
theorem places_ok {b : Bd} {r : Ru} (hb : b.ok 36) (h : r.fits b) : F__law_places [.fz b.d, .fz r.d] = some (.ow (.l ((cellsAt b r).map dN)), [.fz b.d, .fz r.d]) := by
  cases b with
  | row n =>
    cases r with
    | swap k c =>
      obtain ⟨hk, hn, hc⟩ := h
      have hn36 := hb.2
      have hz : (n : Int) - 2 * (k : Int) + 1 = ((n - 2 * k + 1 : Nat) : Int) := by omega
      have e := lrg1_ok (f := dOp2 gAdd (dOp2 DL.gSub (dOp2 gIx (eVar 0) (eC (.int 1))) (dOp2 gMul (eC (.int 2)) (dOp2 gIx (eVar 1) (eC (.int 1))))) (eC (.int 1))) (n := n - 2 * k + 1) (ρ := [.fz (Bd.d (.row n)), .fz (Ru.d (.swap k c)), .un, .un, .un, .un, .un, .un, .un, .un]) (ρ1 := [.fz (Bd.d (.row n)), .fz (Ru.d (.swap k c)), .un, .un, .un, .un, .un, .un, .un, .un]) (by simp only [wipeD, restD, allFz, eVar_e, eC_e, rd_fz, rd_ow, rd_bw, fr_fz, fr_ow, fr_bw, dFr_e, dOp2_e, dTst_e, dAnd_e, dOr_e, dNot_e, dIfE_e, dAndV_e, dOrV_e, dNotV_e, dYes_e, aNil_e, aCons_e, aFr_e, rds_nil, rds_cons, dCall_e, eTup_e, eLst_e, dsOf_nil, dsOf_fz, fCall_e, bSeq_e, bNext_e, bBreak_e, bCont_e, bRetN_e, bDrop_e, bRet_e, bIf_e, to_fz, to_ow, to_bw, notRf_e, bAsg_e, gNm_e, gsNil_e, gsCons_e, gTp_e, bUnp_e, dMt_e, held_ow, held_rf, putS_e, dM1_e, dIsi_e, oSome_e, oNo_e, dSl_e, dNeg_e, bSetIx_e, bAug_e, res_fz, res_ow, res_bw, runF_e, fin_nil, fin_nil1, fin_rf, fin_fz, iAny_e, iRange1_e, iRange2_e, iEnumD_e, dChain_e, dLRg1_e, dLRg2_e, heldM_ow, heldM_rf, eDict_e, dDGet_e, dDIn_e, bDPut_e, bPar_e, nc0, nc1, nc2, nc3, nc4, nc5, nc6, nc7, nc8, nc9, nc36, kVar_0, kVar_1, kVar_2, kRd_0, kRd_1, kRd_2, kFr_0, kFr_1, kDFr_0, kDFr_1, kZ_0, kZ_1, kOp3_0, kOp2_0, kOp2_1, kOp_0, kOp_1, kTst_0, kAnd_0, kAnd_1, kAnd_2, kOr_0, kOr_1, kOr_2, kNot_0, kNot_1, kIfE_0, kIfE_1, kIfE_2, kAndV_0, kAndV_1, kOrV_0, kOrV_1, kNotV_0, kAC2_0, kAC2_1, kAC_0, kAC_1, kAF_0, kAF_1, kRds_0, kCall2_0, kCall2_1, kCall_0, kCall_1, kTup2_0, kTup2_1, kTup_0, kTup_1, kLst2_0, kLst2_1, kLst_0, kLst_1, kFCo_0, kFCo_1, kFCr_0, kFCr_1, kFCf_0, kFCf_1, kFC2_0, kFC2_1, kFC3_0, kFC3_1, kFC1_0, kFC1_1, kFC1_2, kFC_0, kFC_1, kSeq_0, kSeq_1, kSeq_2, kSeq_3, kSeq_4, kSeq_5, kDrop_0, kDrop_1, kRet_0, kRet_1, kIf_0, kIf_1, kIf_2, kTo_0, kTo_1, kNR_0, kNR_1, kNR_2, kNR_3, kNR_4, kNR_5, kAsg3_0, kAsg3_1, kAsg2_0, kAsg2_1, kAsg_0, kAsg_1, kGN_0, kGN_1, kGC_0, kGC_1, kUn2_0, kUn2_1, kUn_0, kUn_1, kMt4_0, kMt4_1, kMt3_0, kMt2_0, kMt2_1, kMt_0, kMt_1, kPut_0, kPut_1, kPut_2, kPut_3, kPut_4, kPut_5, kM12_0, kM12_1, kM11_0, kM11_1, kM1_0, kIsi3_0, kIsi3_1, kIsi2_0, kIsi2_1, kIsi_0, kIsi_1, kOSo_0, kSl4_0, kSl4_1, kSl3_0, kSl3_1, kSl2_0, kSl2_1, kSl_0, kSl_1, kNeg_0, kSX3_0, kSX3_1, kSX2_0, kSX2_1, kSX1_0, kSX0_0, kSX0_1, kSX_0, kSX_1, kAug3_0, kAug3_1, kAug2_0, kAug_0, kRes_0, kRes_1, kEnd2_0, kEnd2_1, kEnd_0, kEnd_1, kAny_0, kAny_1, kAny_2, kR1_0, kR2_0, kEn_0, kEn_1, kFor_0, kFor_1, kLc2_0, kLc2_1, kLc_0, kLc_1, kGG_0, kCh3_0, kCh3_1, kCh2_0, kCh2_1, kCh1_0, kCh1_1, kCh_0, kCh_1, kLRg_0, kLRh_0, kLRi_0, kMG_0, kDG2_0, kDG1_0, kDG1_1, kDG_0, kDG_1, kDI2_0, kDI2_1, kDI_0, kDI_1, kMP_0, kDP3_0, kDP3_1, kDP2_0, kDP2_1, kDP1_0, kDP1_1, kDP_0, kDP_1, kPar2_0, kPar2_1, kPar_0, gAdd, DL.gSub, gCmp, gLen, gMax, gMin, gInt, gList, gTuple, gApp, ix_l0, ix_l1, ix_l2, ix_t0, ix_t1, ix_t2, ix_t3, ix_tm2, ix_tm3, ix_tm4, gEq_int, gNe_int, eq_row_floor, eq_ring_floor, eq_floor_floor, eq_row_ring, eq_ring_ring, eq_floor_ring, eq_row_row, eq_ring_row, eq_floor_row, ne_row_floor, ne_ring_floor, ne_floor_floor, lim, ixN3_0, ixN3_1, ixN3_2, List.getElem?_cons_zero, List.getElem?_cons_succ, List.set_cons_zero, List.set_cons_succ, List.replicate_succ, List.replicate_zero, List.cons_append, List.nil_append, List.zipWith_cons_cons, List.zipWith_nil_left, List.zipWith_nil_right, List.length_cons, List.length_nil, Option.map_some, Option.map_none, Nat.reduceAdd, Nat.reduceSub, Nat.reduceLT, Nat.reduceLeDiff, Int.reduceAdd, Int.reduceLT, Int.reduceLE, Int.reduceNeg, Int.reduceSub, Int.reduceMul, Int.reduceEq, if_true, if_false, ite_true, ite_false, decide_true, decide_false, Bool.not_true, Bool.not_false, Bool.and_true, Bool.true_and, Bool.and_false, Bool.false_and, ↓reduceIte, Bd.d, Ru.d, mul2 (show k ≤ 1000000 by omega), hz]) (by omega)
      rw [rangeD_map] at e
      simp only [wipeD, restD, allFz, eVar_e, eC_e, rd_fz, rd_ow, rd_bw, fr_fz, fr_ow, fr_bw, dFr_e, dOp2_e, dTst_e, dAnd_e, dOr_e, dNot_e, dIfE_e, dAndV_e, dOrV_e, dNotV_e, dYes_e, aNil_e, aCons_e, aFr_e, rds_nil, rds_cons, dCall_e, eTup_e, eLst_e, dsOf_nil, dsOf_fz, fCall_e, bSeq_e, bNext_e, bBreak_e, bCont_e, bRetN_e, bDrop_e, bRet_e, bIf_e, to_fz, to_ow, to_bw, notRf_e, bAsg_e, gNm_e, gsNil_e, gsCons_e, gTp_e, bUnp_e, dMt_e, held_ow, held_rf, putS_e, dM1_e, dIsi_e, oSome_e, oNo_e, dSl_e, dNeg_e, bSetIx_e, bAug_e, res_fz, res_ow, res_bw, runF_e, fin_nil, fin_nil1, fin_rf, fin_fz, iAny_e, iRange1_e, iRange2_e, iEnumD_e, dChain_e, dLRg1_e, dLRg2_e, heldM_ow, heldM_rf, eDict_e, dDGet_e, dDIn_e, bDPut_e, bPar_e, nc0, nc1, nc2, nc3, nc4, nc5, nc6, nc7, nc8, nc9, nc36, kVar_0, kVar_1, kVar_2, kRd_0, kRd_1, kRd_2, kFr_0, kFr_1, kDFr_0, kDFr_1, kZ_0, kZ_1, kOp3_0, kOp2_0, kOp2_1, kOp_0, kOp_1, kTst_0, kAnd_0, kAnd_1, kAnd_2, kOr_0, kOr_1, kOr_2, kNot_0, kNot_1, kIfE_0, kIfE_1, kIfE_2, kAndV_0, kAndV_1, kOrV_0, kOrV_1, kNotV_0, kAC2_0, kAC2_1, kAC_0, kAC_1, kAF_0, kAF_1, kRds_0, kCall2_0, kCall2_1, kCall_0, kCall_1, kTup2_0, kTup2_1, kTup_0, kTup_1, kLst2_0, kLst2_1, kLst_0, kLst_1, kFCo_0, kFCo_1, kFCr_0, kFCr_1, kFCf_0, kFCf_1, kFC2_0, kFC2_1, kFC3_0, kFC3_1, kFC1_0, kFC1_1, kFC1_2, kFC_0, kFC_1, kSeq_0, kSeq_1, kSeq_2, kSeq_3, kSeq_4, kSeq_5, kDrop_0, kDrop_1, kRet_0, kRet_1, kIf_0, kIf_1, kIf_2, kTo_0, kTo_1, kNR_0, kNR_1, kNR_2, kNR_3, kNR_4, kNR_5, kAsg3_0, kAsg3_1, kAsg2_0, kAsg2_1, kAsg_0, kAsg_1, kGN_0, kGN_1, kGC_0, kGC_1, kUn2_0, kUn2_1, kUn_0, kUn_1, kMt4_0, kMt4_1, kMt3_0, kMt2_0, kMt2_1, kMt_0, kMt_1, kPut_0, kPut_1, kPut_2, kPut_3, kPut_4, kPut_5, kM12_0, kM12_1, kM11_0, kM11_1, kM1_0, kIsi3_0, kIsi3_1, kIsi2_0, kIsi2_1, kIsi_0, kIsi_1, kOSo_0, kSl4_0, kSl4_1, kSl3_0, kSl3_1, kSl2_0, kSl2_1, kSl_0, kSl_1, kNeg_0, kSX3_0, kSX3_1, kSX2_0, kSX2_1, kSX1_0, kSX0_0, kSX0_1, kSX_0, kSX_1, kAug3_0, kAug3_1, kAug2_0, kAug_0, kRes_0, kRes_1, kEnd2_0, kEnd2_1, kEnd_0, kEnd_1, kAny_0, kAny_1, kAny_2, kR1_0, kR2_0, kEn_0, kEn_1, kFor_0, kFor_1, kLc2_0, kLc2_1, kLc_0, kLc_1, kGG_0, kCh3_0, kCh3_1, kCh2_0, kCh2_1, kCh1_0, kCh1_1, kCh_0, kCh_1, kLRg_0, kLRh_0, kLRi_0, kMG_0, kDG2_0, kDG1_0, kDG1_1, kDG_0, kDG_1, kDI2_0, kDI2_1, kDI_0, kDI_1, kMP_0, kDP3_0, kDP3_1, kDP2_0, kDP2_1, kDP1_0, kDP1_1, kDP_0, kDP_1, kPar2_0, kPar2_1, kPar_0, gAdd, DL.gSub, gCmp, gLen, gMax, gMin, gInt, gList, gTuple, gApp, ix_l0, ix_l1, ix_l2, ix_t0, ix_t1, ix_t2, ix_t3, ix_tm2, ix_tm3, ix_tm4, gEq_int, gNe_int, eq_row_floor, eq_ring_floor, eq_floor_floor, eq_row_ring, eq_ring_ring, eq_floor_ring, eq_row_row, eq_ring_row, eq_floor_row, ne_row_floor, ne_ring_floor, ne_floor_floor, lim, ixN3_0, ixN3_1, ixN3_2, List.getElem?_cons_zero, List.getElem?_cons_succ, List.set_cons_zero, List.set_cons_succ, List.replicate_succ, List.replicate_zero, List.cons_append, List.nil_append, List.zipWith_cons_cons, List.zipWith_nil_left, List.zipWith_nil_right, List.length_cons, List.length_nil, Option.map_some, Option.map_none, Nat.reduceAdd, Nat.reduceSub, Nat.reduceLT, Nat.reduceLeDiff, Int.reduceAdd, Int.reduceLT, Int.reduceLE, Int.reduceNeg, Int.reduceSub, Int.reduceMul, Int.reduceEq, if_true, if_false, ite_true, ite_false, decide_true, decide_false, Bool.not_true, Bool.not_false, Bool.and_true, Bool.true_and, Bool.and_false, Bool.false_and, ↓reduceIte, Bd.d, Ru.d] at e ⊢
      simp only [wipeD, restD, allFz, eVar_e, eC_e, rd_fz, rd_ow, rd_bw, fr_fz, fr_ow, fr_bw, dFr_e, dOp2_e, dTst_e, dAnd_e, dOr_e, dNot_e, dIfE_e, dAndV_e, dOrV_e, dNotV_e, dYes_e, aNil_e, aCons_e, aFr_e, rds_nil, rds_cons, dCall_e, eTup_e, eLst_e, dsOf_nil, dsOf_fz, fCall_e, bSeq_e, bNext_e, bBreak_e, bCont_e, bRetN_e, bDrop_e, bRet_e, bIf_e, to_fz, to_ow, to_bw, notRf_e, bAsg_e, gNm_e, gsNil_e, gsCons_e, gTp_e, bUnp_e, dMt_e, held_ow, held_rf, putS_e, dM1_e, dIsi_e, oSome_e, oNo_e, dSl_e, dNeg_e, bSetIx_e, bAug_e, res_fz, res_ow, res_bw, runF_e, fin_nil, fin_nil1, fin_rf, fin_fz, iAny_e, iRange1_e, iRange2_e, iEnumD_e, dChain_e, dLRg1_e, dLRg2_e, heldM_ow, heldM_rf, eDict_e, dDGet_e, dDIn_e, bDPut_e, bPar_e, nc0, nc1, nc2, nc3, nc4, nc5, nc6, nc7, nc8, nc9, nc36, kVar_0, kVar_1, kVar_2, kRd_0, kRd_1, kRd_2, kFr_0, kFr_1, kDFr_0, kDFr_1, kZ_0, kZ_1, kOp3_0, kOp2_0, kOp2_1, kOp_0, kOp_1, kTst_0, kAnd_0, kAnd_1, kAnd_2, kOr_0, kOr_1, kOr_2, kNot_0, kNot_1, kIfE_0, kIfE_1, kIfE_2, kAndV_0, kAndV_1, kOrV_0, kOrV_1, kNotV_0, kAC2_0, kAC2_1, kAC_0, kAC_1, kAF_0, kAF_1, kRds_0, kCall2_0, kCall2_1, kCall_0, kCall_1, kTup2_0, kTup2_1, kTup_0, kTup_1, kLst2_0, kLst2_1, kLst_0, kLst_1, kFCo_0, kFCo_1, kFCr_0, kFCr_1, kFCf_0, kFCf_1, kFC2_0, kFC2_1, kFC3_0, kFC3_1, kFC1_0, kFC1_1, kFC1_2, kFC_0, kFC_1, kSeq_0, kSeq_1, kSeq_2, kSeq_3, kSeq_4, kSeq_5, kDrop_0, kDrop_1, kRet_0, kRet_1, kIf_0, kIf_1, kIf_2, kTo_0, kTo_1, kNR_0, kNR_1, kNR_2, kNR_3, kNR_4, kNR_5, kAsg3_0, kAsg3_1, kAsg2_0, kAsg2_1, kAsg_0, kAsg_1, kGN_0, kGN_1, kGC_0, kGC_1, kUn2_0, kUn2_1, kUn_0, kUn_1, kMt4_0, kMt4_1, kMt3_0, kMt2_0, kMt2_1, kMt_0, kMt_1, kPut_0, kPut_1, kPut_2, kPut_3, kPut_4, kPut_5, kM12_0, kM12_1, kM11_0, kM11_1, kM1_0, kIsi3_0, kIsi3_1, kIsi2_0, kIsi2_1, kIsi_0, kIsi_1, kOSo_0, kSl4_0, kSl4_1, kSl3_0, kSl3_1, kSl2_0, kSl2_1, kSl_0, kSl_1, kNeg_0, kSX3_0, kSX3_1, kSX2_0, kSX2_1, kSX1_0, kSX0_0, kSX0_1, kSX_0, kSX_1, kAug3_0, kAug3_1, kAug2_0, kAug_0, kRes_0, kRes_1, kEnd2_0, kEnd2_1, kEnd_0, kEnd_1, kAny_0, kAny_1, kAny_2, kR1_0, kR2_0, kEn_0, kEn_1, kFor_0, kFor_1, kLc2_0, kLc2_1, kLc_0, kLc_1, kGG_0, kCh3_0, kCh3_1, kCh2_0, kCh2_1, kCh1_0, kCh1_1, kCh_0, kCh_1, kLRg_0, kLRh_0, kLRi_0, kMG_0, kDG2_0, kDG1_0, kDG1_1, kDG_0, kDG_1, kDI2_0, kDI2_1, kDI_0, kDI_1, kMP_0, kDP3_0, kDP3_1, kDP2_0, kDP2_1, kDP1_0, kDP1_1, kDP_0, kDP_1, kPar2_0, kPar2_1, kPar_0, gAdd, DL.gSub, gCmp, gLen, gMax, gMin, gInt, gList, gTuple, gApp, ix_l0, ix_l1, ix_l2, ix_t0, ix_t1, ix_t2, ix_t3, ix_tm2, ix_tm3, ix_tm4, gEq_int, gNe_int, eq_row_floor, eq_ring_floor, eq_floor_floor, eq_row_ring, eq_ring_ring, eq_floor_ring, eq_row_row, eq_ring_row, eq_floor_row, ne_row_floor, ne_ring_floor, ne_floor_floor, lim, ixN3_0, ixN3_1, ixN3_2, List.getElem?_cons_zero, List.getElem?_cons_succ, List.set_cons_zero, List.set_cons_succ, List.replicate_succ, List.replicate_zero, List.cons_append, List.nil_append, List.zipWith_cons_cons, List.zipWith_nil_left, List.zipWith_nil_right, List.length_cons, List.length_nil, Option.map_some, Option.map_none, Nat.reduceAdd, Nat.reduceSub, Nat.reduceLT, Nat.reduceLeDiff, Int.reduceAdd, Int.reduceLT, Int.reduceLE, Int.reduceNeg, Int.reduceSub, Int.reduceMul, Int.reduceEq, if_true, if_false, ite_true, ite_false, decide_true, decide_false, Bool.not_true, Bool.not_false, Bool.and_true, Bool.true_and, Bool.and_false, Bool.false_and, ↓reduceIte, F__law_places, d__law_places, e, cellsAt]
    | over _ _ _ => cases h
    | under _ _ _ => cases h
  | ring n =>
    cases r with
    | swap k c =>
      obtain ⟨hk, hn, hc⟩ := h
      have hn36 := hb.2
      have e := lrg1_ok (f := dOp2 gIx (eVar 0) (eC (.int 1))) (n := n) (ρ := [.fz (Bd.d (.ring n)), .fz (Ru.d (.swap k c)), .un, .un, .un, .un, .un, .un, .un, .un]) (ρ1 := [.fz (Bd.d (.ring n)), .fz (Ru.d (.swap k c)), .un, .un, .un, .un, .un, .un, .un, .un]) (by simp only [wipeD, restD, allFz, eVar_e, eC_e, rd_fz, rd_ow, rd_bw, fr_fz, fr_ow, fr_bw, dFr_e, dOp2_e, dTst_e, dAnd_e, dOr_e, dNot_e, dIfE_e, dAndV_e, dOrV_e, dNotV_e, dYes_e, aNil_e, aCons_e, aFr_e, rds_nil, rds_cons, dCall_e, eTup_e, eLst_e, dsOf_nil, dsOf_fz, fCall_e, bSeq_e, bNext_e, bBreak_e, bCont_e, bRetN_e, bDrop_e, bRet_e, bIf_e, to_fz, to_ow, to_bw, notRf_e, bAsg_e, gNm_e, gsNil_e, gsCons_e, gTp_e, bUnp_e, dMt_e, held_ow, held_rf, putS_e, dM1_e, dIsi_e, oSome_e, oNo_e, dSl_e, dNeg_e, bSetIx_e, bAug_e, res_fz, res_ow, res_bw, runF_e, fin_nil, fin_nil1, fin_rf, fin_fz, iAny_e, iRange1_e, iRange2_e, iEnumD_e, dChain_e, dLRg1_e, dLRg2_e, heldM_ow, heldM_rf, eDict_e, dDGet_e, dDIn_e, bDPut_e, bPar_e, nc0, nc1, nc2, nc3, nc4, nc5, nc6, nc7, nc8, nc9, nc36, kVar_0, kVar_1, kVar_2, kRd_0, kRd_1, kRd_2, kFr_0, kFr_1, kDFr_0, kDFr_1, kZ_0, kZ_1, kOp3_0, kOp2_0, kOp2_1, kOp_0, kOp_1, kTst_0, kAnd_0, kAnd_1, kAnd_2, kOr_0, kOr_1, kOr_2, kNot_0, kNot_1, kIfE_0, kIfE_1, kIfE_2, kAndV_0, kAndV_1, kOrV_0, kOrV_1, kNotV_0, kAC2_0, kAC2_1, kAC_0, kAC_1, kAF_0, kAF_1, kRds_0, kCall2_0, kCall2_1, kCall_0, kCall_1, kTup2_0, kTup2_1, kTup_0, kTup_1, kLst2_0, kLst2_1, kLst_0, kLst_1, kFCo_0, kFCo_1, kFCr_0, kFCr_1, kFCf_0, kFCf_1, kFC2_0, kFC2_1, kFC3_0, kFC3_1, kFC1_0, kFC1_1, kFC1_2, kFC_0, kFC_1, kSeq_0, kSeq_1, kSeq_2, kSeq_3, kSeq_4, kSeq_5, kDrop_0, kDrop_1, kRet_0, kRet_1, kIf_0, kIf_1, kIf_2, kTo_0, kTo_1, kNR_0, kNR_1, kNR_2, kNR_3, kNR_4, kNR_5, kAsg3_0, kAsg3_1, kAsg2_0, kAsg2_1, kAsg_0, kAsg_1, kGN_0, kGN_1, kGC_0, kGC_1, kUn2_0, kUn2_1, kUn_0, kUn_1, kMt4_0, kMt4_1, kMt3_0, kMt2_0, kMt2_1, kMt_0, kMt_1, kPut_0, kPut_1, kPut_2, kPut_3, kPut_4, kPut_5, kM12_0, kM12_1, kM11_0, kM11_1, kM1_0, kIsi3_0, kIsi3_1, kIsi2_0, kIsi2_1, kIsi_0, kIsi_1, kOSo_0, kSl4_0, kSl4_1, kSl3_0, kSl3_1, kSl2_0, kSl2_1, kSl_0, kSl_1, kNeg_0, kSX3_0, kSX3_1, kSX2_0, kSX2_1, kSX1_0, kSX0_0, kSX0_1, kSX_0, kSX_1, kAug3_0, kAug3_1, kAug2_0, kAug_0, kRes_0, kRes_1, kEnd2_0, kEnd2_1, kEnd_0, kEnd_1, kAny_0, kAny_1, kAny_2, kR1_0, kR2_0, kEn_0, kEn_1, kFor_0, kFor_1, kLc2_0, kLc2_1, kLc_0, kLc_1, kGG_0, kCh3_0, kCh3_1, kCh2_0, kCh2_1, kCh1_0, kCh1_1, kCh_0, kCh_1, kLRg_0, kLRh_0, kLRi_0, kMG_0, kDG2_0, kDG1_0, kDG1_1, kDG_0, kDG_1, kDI2_0, kDI2_1, kDI_0, kDI_1, kMP_0, kDP3_0, kDP3_1, kDP2_0, kDP2_1, kDP1_0, kDP1_1, kDP_0, kDP_1, kPar2_0, kPar2_1, kPar_0, gAdd, DL.gSub, gCmp, gLen, gMax, gMin, gInt, gList, gTuple, gApp, ix_l0, ix_l1, ix_l2, ix_t0, ix_t1, ix_t2, ix_t3, ix_tm2, ix_tm3, ix_tm4, gEq_int, gNe_int, eq_row_floor, eq_ring_floor, eq_floor_floor, eq_row_ring, eq_ring_ring, eq_floor_ring, eq_row_row, eq_ring_row, eq_floor_row, ne_row_floor, ne_ring_floor, ne_floor_floor, lim, ixN3_0, ixN3_1, ixN3_2, List.getElem?_cons_zero, List.getElem?_cons_succ, List.set_cons_zero, List.set_cons_succ, List.replicate_succ, List.replicate_zero, List.cons_append, List.nil_append, List.zipWith_cons_cons, List.zipWith_nil_left, List.zipWith_nil_right, List.length_cons, List.length_nil, Option.map_some, Option.map_none, Nat.reduceAdd, Nat.reduceSub, Nat.reduceLT, Nat.reduceLeDiff, Int.reduceAdd, Int.reduceLT, Int.reduceLE, Int.reduceNeg, Int.reduceSub, Int.reduceMul, Int.reduceEq, if_true, if_false, ite_true, ite_false, decide_true, decide_false, Bool.not_true, Bool.not_false, Bool.and_true, Bool.true_and, Bool.and_false, Bool.false_and, ↓reduceIte, Bd.d]) (by omega)
      rw [rangeD_map] at e
      simp only [wipeD, restD, allFz, eVar_e, eC_e, rd_fz, rd_ow, rd_bw, fr_fz, fr_ow, fr_bw, dFr_e, dOp2_e, dTst_e, dAnd_e, dOr_e, dNot_e, dIfE_e, dAndV_e, dOrV_e, dNotV_e, dYes_e, aNil_e, aCons_e, aFr_e, rds_nil, rds_cons, dCall_e, eTup_e, eLst_e, dsOf_nil, dsOf_fz, fCall_e, bSeq_e, bNext_e, bBreak_e, bCont_e, bRetN_e, bDrop_e, bRet_e, bIf_e, to_fz, to_ow, to_bw, notRf_e, bAsg_e, gNm_e, gsNil_e, gsCons_e, gTp_e, bUnp_e, dMt_e, held_ow, held_rf, putS_e, dM1_e, dIsi_e, oSome_e, oNo_e, dSl_e, dNeg_e, bSetIx_e, bAug_e, res_fz, res_ow, res_bw, runF_e, fin_nil, fin_nil1, fin_rf, fin_fz, iAny_e, iRange1_e, iRange2_e, iEnumD_e, dChain_e, dLRg1_e, dLRg2_e, heldM_ow, heldM_rf, eDict_e, dDGet_e, dDIn_e, bDPut_e, bPar_e, nc0, nc1, nc2, nc3, nc4, nc5, nc6, nc7, nc8, nc9, nc36, kVar_0, kVar_1, kVar_2, kRd_0, kRd_1, kRd_2, kFr_0, kFr_1, kDFr_0, kDFr_1, kZ_0, kZ_1, kOp3_0, kOp2_0, kOp2_1, kOp_0, kOp_1, kTst_0, kAnd_0, kAnd_1, kAnd_2, kOr_0, kOr_1, kOr_2, kNot_0, kNot_1, kIfE_0, kIfE_1, kIfE_2, kAndV_0, kAndV_1, kOrV_0, kOrV_1, kNotV_0, kAC2_0, kAC2_1, kAC_0, kAC_1, kAF_0, kAF_1, kRds_0, kCall2_0, kCall2_1, kCall_0, kCall_1, kTup2_0, kTup2_1, kTup_0, kTup_1, kLst2_0, kLst2_1, kLst_0, kLst_1, kFCo_0, kFCo_1, kFCr_0, kFCr_1, kFCf_0, kFCf_1, kFC2_0, kFC2_1, kFC3_0, kFC3_1, kFC1_0, kFC1_1, kFC1_2, kFC_0, kFC_1, kSeq_0, kSeq_1, kSeq_2, kSeq_3, kSeq_4, kSeq_5, kDrop_0, kDrop_1, kRet_0, kRet_1, kIf_0, kIf_1, kIf_2, kTo_0, kTo_1, kNR_0, kNR_1, kNR_2, kNR_3, kNR_4, kNR_5, kAsg3_0, kAsg3_1, kAsg2_0, kAsg2_1, kAsg_0, kAsg_1, kGN_0, kGN_1, kGC_0, kGC_1, kUn2_0, kUn2_1, kUn_0, kUn_1, kMt4_0, kMt4_1, kMt3_0, kMt2_0, kMt2_1, kMt_0, kMt_1, kPut_0, kPut_1, kPut_2, kPut_3, kPut_4, kPut_5, kM12_0, kM12_1, kM11_0, kM11_1, kM1_0, kIsi3_0, kIsi3_1, kIsi2_0, kIsi2_1, kIsi_0, kIsi_1, kOSo_0, kSl4_0, kSl4_1, kSl3_0, kSl3_1, kSl2_0, kSl2_1, kSl_0, kSl_1, kNeg_0, kSX3_0, kSX3_1, kSX2_0, kSX2_1, kSX1_0, kSX0_0, kSX0_1, kSX_0, kSX_1, kAug3_0, kAug3_1, kAug2_0, kAug_0, kRes_0, kRes_1, kEnd2_0, kEnd2_1, kEnd_0, kEnd_1, kAny_0, kAny_1, kAny_2, kR1_0, kR2_0, kEn_0, kEn_1, kFor_0, kFor_1, kLc2_0, kLc2_1, kLc_0, kLc_1, kGG_0, kCh3_0, kCh3_1, kCh2_0, kCh2_1, kCh1_0, kCh1_1, kCh_0, kCh_1, kLRg_0, kLRh_0, kLRi_0, kMG_0, kDG2_0, kDG1_0, kDG1_1, kDG_0, kDG_1, kDI2_0, kDI2_1, kDI_0, kDI_1, kMP_0, kDP3_0, kDP3_1, kDP2_0, kDP2_1, kDP1_0, kDP1_1, kDP_0, kDP_1, kPar2_0, kPar2_1, kPar_0, gAdd, DL.gSub, gCmp, gLen, gMax, gMin, gInt, gList, gTuple, gApp, ix_l0, ix_l1, ix_l2, ix_t0, ix_t1, ix_t2, ix_t3, ix_tm2, ix_tm3, ix_tm4, gEq_int, gNe_int, eq_row_floor, eq_ring_floor, eq_floor_floor, eq_row_ring, eq_ring_ring, eq_floor_ring, eq_row_row, eq_ring_row, eq_floor_row, ne_row_floor, ne_ring_floor, ne_floor_floor, lim, ixN3_0, ixN3_1, ixN3_2, List.getElem?_cons_zero, List.getElem?_cons_succ, List.set_cons_zero, List.set_cons_succ, List.replicate_succ, List.replicate_zero, List.cons_append, List.nil_append, List.zipWith_cons_cons, List.zipWith_nil_left, List.zipWith_nil_right, List.length_cons, List.length_nil, Option.map_some, Option.map_none, Nat.reduceAdd, Nat.reduceSub, Nat.reduceLT, Nat.reduceLeDiff, Int.reduceAdd, Int.reduceLT, Int.reduceLE, Int.reduceNeg, Int.reduceSub, Int.reduceMul, Int.reduceEq, if_true, if_false, ite_true, ite_false, decide_true, decide_false, Bool.not_true, Bool.not_false, Bool.and_true, Bool.true_and, Bool.and_false, Bool.false_and, ↓reduceIte, Bd.d, Ru.d] at e ⊢
      simp only [wipeD, restD, allFz, eVar_e, eC_e, rd_fz, rd_ow, rd_bw, fr_fz, fr_ow, fr_bw, dFr_e, dOp2_e, dTst_e, dAnd_e, dOr_e, dNot_e, dIfE_e, dAndV_e, dOrV_e, dNotV_e, dYes_e, aNil_e, aCons_e, aFr_e, rds_nil, rds_cons, dCall_e, eTup_e, eLst_e, dsOf_nil, dsOf_fz, fCall_e, bSeq_e, bNext_e, bBreak_e, bCont_e, bRetN_e, bDrop_e, bRet_e, bIf_e, to_fz, to_ow, to_bw, notRf_e, bAsg_e, gNm_e, gsNil_e, gsCons_e, gTp_e, bUnp_e, dMt_e, held_ow, held_rf, putS_e, dM1_e, dIsi_e, oSome_e, oNo_e, dSl_e, dNeg_e, bSetIx_e, bAug_e, res_fz, res_ow, res_bw, runF_e, fin_nil, fin_nil1, fin_rf, fin_fz, iAny_e, iRange1_e, iRange2_e, iEnumD_e, dChain_e, dLRg1_e, dLRg2_e, heldM_ow, heldM_rf, eDict_e, dDGet_e, dDIn_e, bDPut_e, bPar_e, nc0, nc1, nc2, nc3, nc4, nc5, nc6, nc7, nc8, nc9, nc36, kVar_0, kVar_1, kVar_2, kRd_0, kRd_1, kRd_2, kFr_0, kFr_1, kDFr_0, kDFr_1, kZ_0, kZ_1, kOp3_0, kOp2_0, kOp2_1, kOp_0, kOp_1, kTst_0, kAnd_0, kAnd_1, kAnd_2, kOr_0, kOr_1, kOr_2, kNot_0, kNot_1, kIfE_0, kIfE_1, kIfE_2, kAndV_0, kAndV_1, kOrV_0, kOrV_1, kNotV_0, kAC2_0, kAC2_1, kAC_0, kAC_1, kAF_0, kAF_1, kRds_0, kCall2_0, kCall2_1, kCall_0, kCall_1, kTup2_0, kTup2_1, kTup_0, kTup_1, kLst2_0, kLst2_1, kLst_0, kLst_1, kFCo_0, kFCo_1, kFCr_0, kFCr_1, kFCf_0, kFCf_1, kFC2_0, kFC2_1, kFC3_0, kFC3_1, kFC1_0, kFC1_1, kFC1_2, kFC_0, kFC_1, kSeq_0, kSeq_1, kSeq_2, kSeq_3, kSeq_4, kSeq_5, kDrop_0, kDrop_1, kRet_0, kRet_1, kIf_0, kIf_1, kIf_2, kTo_0, kTo_1, kNR_0, kNR_1, kNR_2, kNR_3, kNR_4, kNR_5, kAsg3_0, kAsg3_1, kAsg2_0, kAsg2_1, kAsg_0, kAsg_1, kGN_0, kGN_1, kGC_0, kGC_1, kUn2_0, kUn2_1, kUn_0, kUn_1, kMt4_0, kMt4_1, kMt3_0, kMt2_0, kMt2_1, kMt_0, kMt_1, kPut_0, kPut_1, kPut_2, kPut_3, kPut_4, kPut_5, kM12_0, kM12_1, kM11_0, kM11_1, kM1_0, kIsi3_0, kIsi3_1, kIsi2_0, kIsi2_1, kIsi_0, kIsi_1, kOSo_0, kSl4_0, kSl4_1, kSl3_0, kSl3_1, kSl2_0, kSl2_1, kSl_0, kSl_1, kNeg_0, kSX3_0, kSX3_1, kSX2_0, kSX2_1, kSX1_0, kSX0_0, kSX0_1, kSX_0, kSX_1, kAug3_0, kAug3_1, kAug2_0, kAug_0, kRes_0, kRes_1, kEnd2_0, kEnd2_1, kEnd_0, kEnd_1, kAny_0, kAny_1, kAny_2, kR1_0, kR2_0, kEn_0, kEn_1, kFor_0, kFor_1, kLc2_0, kLc2_1, kLc_0, kLc_1, kGG_0, kCh3_0, kCh3_1, kCh2_0, kCh2_1, kCh1_0, kCh1_1, kCh_0, kCh_1, kLRg_0, kLRh_0, kLRi_0, kMG_0, kDG2_0, kDG1_0, kDG1_1, kDG_0, kDG_1, kDI2_0, kDI2_1, kDI_0, kDI_1, kMP_0, kDP3_0, kDP3_1, kDP2_0, kDP2_1, kDP1_0, kDP1_1, kDP_0, kDP_1, kPar2_0, kPar2_1, kPar_0, gAdd, DL.gSub, gCmp, gLen, gMax, gMin, gInt, gList, gTuple, gApp, ix_l0, ix_l1, ix_l2, ix_t0, ix_t1, ix_t2, ix_t3, ix_tm2, ix_tm3, ix_tm4, gEq_int, gNe_int, eq_row_floor, eq_ring_floor, eq_floor_floor, eq_row_ring, eq_ring_ring, eq_floor_ring, eq_row_row, eq_ring_row, eq_floor_row, ne_row_floor, ne_ring_floor, ne_floor_floor, lim, ixN3_0, ixN3_1, ixN3_2, List.getElem?_cons_zero, List.getElem?_cons_succ, List.set_cons_zero, List.set_cons_succ, List.replicate_succ, List.replicate_zero, List.cons_append, List.nil_append, List.zipWith_cons_cons, List.zipWith_nil_left, List.zipWith_nil_right, List.length_cons, List.length_nil, Option.map_some, Option.map_none, Nat.reduceAdd, Nat.reduceSub, Nat.reduceLT, Nat.reduceLeDiff, Int.reduceAdd, Int.reduceLT, Int.reduceLE, Int.reduceNeg, Int.reduceSub, Int.reduceMul, Int.reduceEq, if_true, if_false, ite_true, ite_false, decide_true, decide_false, Bool.not_true, Bool.not_false, Bool.and_true, Bool.true_and, Bool.and_false, Bool.false_and, ↓reduceIte, F__law_places, d__law_places, e, cellsAt]
    | over _ _ _ => cases h
    | under _ _ _ => cases h
  | floor H W =>
    have h36 := hb.2.2.1
    have hH : H ≤ 36 := Nat.le_trans (Nat.le_mul_of_pos_right H hb.2.1) h36
    have hW : W ≤ 36 := Nat.le_trans (Nat.le_mul_of_pos_left W hb.1) h36
    cases r with
    | swap _ _ => cases h
    | over x y c =>
      obtain ⟨h1, h2, h3, h4, hc⟩ := h
      obtain ⟨a, b, c', e, hf⟩ := places_loop (U := x) (V := 2 * y) hH hW (by omega) (by omega) (by omega) (by omega) (places_step hH hW (by omega) (by omega) (.inl ⟨rfl, rfl, rfl⟩) (r := .over x y c))
      have hr := range1_ok (fa := aFr (eVar 3) aNil) (n := H) (ρ := [.fz (Bd.d (.floor H W)), .fz (Ru.d (.over x y c)), .fz (.str "floor"), .fz (.int (H : Nat)), .fz (.int (W : Nat)), .ow (.l []), .un, .un, .un, .un]) (ρ1 := [.fz (Bd.d (.floor H W)), .fz (Ru.d (.over x y c)), .fz (.str "floor"), .fz (.int (H : Nat)), .fz (.int (W : Nat)), .ow (.l []), .un, .un, .un, .un]) (by simp only [wipeD, restD, allFz, eVar_e, eC_e, rd_fz, rd_ow, rd_bw, fr_fz, fr_ow, fr_bw, dFr_e, dOp2_e, dTst_e, dAnd_e, dOr_e, dNot_e, dIfE_e, dAndV_e, dOrV_e, dNotV_e, dYes_e, aNil_e, aCons_e, aFr_e, rds_nil, rds_cons, dCall_e, eTup_e, eLst_e, dsOf_nil, dsOf_fz, fCall_e, bSeq_e, bNext_e, bBreak_e, bCont_e, bRetN_e, bDrop_e, bRet_e, bIf_e, to_fz, to_ow, to_bw, notRf_e, bAsg_e, gNm_e, gsNil_e, gsCons_e, gTp_e, bUnp_e, dMt_e, held_ow, held_rf, putS_e, dM1_e, dIsi_e, oSome_e, oNo_e, dSl_e, dNeg_e, bSetIx_e, bAug_e, res_fz, res_ow, res_bw, runF_e, fin_nil, fin_nil1, fin_rf, fin_fz, iAny_e, iRange1_e, iRange2_e, iEnumD_e, dChain_e, dLRg1_e, dLRg2_e, heldM_ow, heldM_rf, eDict_e, dDGet_e, dDIn_e, bDPut_e, bPar_e, nc0, nc1, nc2, nc3, nc4, nc5, nc6, nc7, nc8, nc9, nc36, kVar_0, kVar_1, kVar_2, kRd_0, kRd_1, kRd_2, kFr_0, kFr_1, kDFr_0, kDFr_1, kZ_0, kZ_1, kOp3_0, kOp2_0, kOp2_1, kOp_0, kOp_1, kTst_0, kAnd_0, kAnd_1, kAnd_2, kOr_0, kOr_1, kOr_2, kNot_0, kNot_1, kIfE_0, kIfE_1, kIfE_2, kAndV_0, kAndV_1, kOrV_0, kOrV_1, kNotV_0, kAC2_0, kAC2_1, kAC_0, kAC_1, kAF_0, kAF_1, kRds_0, kCall2_0, kCall2_1, kCall_0, kCall_1, kTup2_0, kTup2_1, kTup_0, kTup_1, kLst2_0, kLst2_1, kLst_0, kLst_1, kFCo_0, kFCo_1, kFCr_0, kFCr_1, kFCf_0, kFCf_1, kFC2_0, kFC2_1, kFC3_0, kFC3_1, kFC1_0, kFC1_1, kFC1_2, kFC_0, kFC_1, kSeq_0, kSeq_1, kSeq_2, kSeq_3, kSeq_4, kSeq_5, kDrop_0, kDrop_1, kRet_0, kRet_1, kIf_0, kIf_1, kIf_2, kTo_0, kTo_1, kNR_0, kNR_1, kNR_2, kNR_3, kNR_4, kNR_5, kAsg3_0, kAsg3_1, kAsg2_0, kAsg2_1, kAsg_0, kAsg_1, kGN_0, kGN_1, kGC_0, kGC_1, kUn2_0, kUn2_1, kUn_0, kUn_1, kMt4_0, kMt4_1, kMt3_0, kMt2_0, kMt2_1, kMt_0, kMt_1, kPut_0, kPut_1, kPut_2, kPut_3, kPut_4, kPut_5, kM12_0, kM12_1, kM11_0, kM11_1, kM1_0, kIsi3_0, kIsi3_1, kIsi2_0, kIsi2_1, kIsi_0, kIsi_1, kOSo_0, kSl4_0, kSl4_1, kSl3_0, kSl3_1, kSl2_0, kSl2_1, kSl_0, kSl_1, kNeg_0, kSX3_0, kSX3_1, kSX2_0, kSX2_1, kSX1_0, kSX0_0, kSX0_1, kSX_0, kSX_1, kAug3_0, kAug3_1, kAug2_0, kAug_0, kRes_0, kRes_1, kEnd2_0, kEnd2_1, kEnd_0, kEnd_1, kAny_0, kAny_1, kAny_2, kR1_0, kR2_0, kEn_0, kEn_1, kFor_0, kFor_1, kLc2_0, kLc2_1, kLc_0, kLc_1, kGG_0, kCh3_0, kCh3_1, kCh2_0, kCh2_1, kCh1_0, kCh1_1, kCh_0, kCh_1, kLRg_0, kLRh_0, kLRi_0, kMG_0, kDG2_0, kDG1_0, kDG1_1, kDG_0, kDG_1, kDI2_0, kDI2_1, kDI_0, kDI_1, kMP_0, kDP3_0, kDP3_1, kDP2_0, kDP2_1, kDP1_0, kDP1_1, kDP_0, kDP_1, kPar2_0, kPar2_1, kPar_0, gAdd, DL.gSub, gCmp, gLen, gMax, gMin, gInt, gList, gTuple, gApp, ix_l0, ix_l1, ix_l2, ix_t0, ix_t1, ix_t2, ix_t3, ix_tm2, ix_tm3, ix_tm4, gEq_int, gNe_int, eq_row_floor, eq_ring_floor, eq_floor_floor, eq_row_ring, eq_ring_ring, eq_floor_ring, eq_row_row, eq_ring_row, eq_floor_row, ne_row_floor, ne_ring_floor, ne_floor_floor, lim, ixN3_0, ixN3_1, ixN3_2, List.getElem?_cons_zero, List.getElem?_cons_succ, List.set_cons_zero, List.set_cons_succ, List.replicate_succ, List.replicate_zero, List.cons_append, List.nil_append, List.zipWith_cons_cons, List.zipWith_nil_left, List.zipWith_nil_right, List.length_cons, List.length_nil, Option.map_some, Option.map_none, Nat.reduceAdd, Nat.reduceSub, Nat.reduceLT, Nat.reduceLeDiff, Int.reduceAdd, Int.reduceLT, Int.reduceLE, Int.reduceNeg, Int.reduceSub, Int.reduceMul, Int.reduceEq, if_true, if_false, ite_true, ite_false, decide_true, decide_false, Bool.not_true, Bool.not_false, Bool.and_true, Bool.true_and, Bool.and_false, Bool.false_and, ↓reduceIte]) (by omega)
      have hF := bFor_eq hr hf
      simp only [wipeD, restD, allFz, eVar_e, eC_e, rd_fz, rd_ow, rd_bw, fr_fz, fr_ow, fr_bw, dFr_e, dOp2_e, dTst_e, dAnd_e, dOr_e, dNot_e, dIfE_e, dAndV_e, dOrV_e, dNotV_e, dYes_e, aNil_e, aCons_e, aFr_e, rds_nil, rds_cons, dCall_e, eTup_e, eLst_e, dsOf_nil, dsOf_fz, fCall_e, bSeq_e, bNext_e, bBreak_e, bCont_e, bRetN_e, bDrop_e, bRet_e, bIf_e, to_fz, to_ow, to_bw, notRf_e, bAsg_e, gNm_e, gsNil_e, gsCons_e, gTp_e, bUnp_e, dMt_e, held_ow, held_rf, putS_e, dM1_e, dIsi_e, oSome_e, oNo_e, dSl_e, dNeg_e, bSetIx_e, bAug_e, res_fz, res_ow, res_bw, runF_e, fin_nil, fin_nil1, fin_rf, fin_fz, iAny_e, iRange1_e, iRange2_e, iEnumD_e, dChain_e, dLRg1_e, dLRg2_e, heldM_ow, heldM_rf, eDict_e, dDGet_e, dDIn_e, bDPut_e, bPar_e, nc0, nc1, nc2, nc3, nc4, nc5, nc6, nc7, nc8, nc9, nc36, kVar_0, kVar_1, kVar_2, kRd_0, kRd_1, kRd_2, kFr_0, kFr_1, kDFr_0, kDFr_1, kZ_0, kZ_1, kOp3_0, kOp2_0, kOp2_1, kOp_0, kOp_1, kTst_0, kAnd_0, kAnd_1, kAnd_2, kOr_0, kOr_1, kOr_2, kNot_0, kNot_1, kIfE_0, kIfE_1, kIfE_2, kAndV_0, kAndV_1, kOrV_0, kOrV_1, kNotV_0, kAC2_0, kAC2_1, kAC_0, kAC_1, kAF_0, kAF_1, kRds_0, kCall2_0, kCall2_1, kCall_0, kCall_1, kTup2_0, kTup2_1, kTup_0, kTup_1, kLst2_0, kLst2_1, kLst_0, kLst_1, kFCo_0, kFCo_1, kFCr_0, kFCr_1, kFCf_0, kFCf_1, kFC2_0, kFC2_1, kFC3_0, kFC3_1, kFC1_0, kFC1_1, kFC1_2, kFC_0, kFC_1, kSeq_0, kSeq_1, kSeq_2, kSeq_3, kSeq_4, kSeq_5, kDrop_0, kDrop_1, kRet_0, kRet_1, kIf_0, kIf_1, kIf_2, kTo_0, kTo_1, kNR_0, kNR_1, kNR_2, kNR_3, kNR_4, kNR_5, kAsg3_0, kAsg3_1, kAsg2_0, kAsg2_1, kAsg_0, kAsg_1, kGN_0, kGN_1, kGC_0, kGC_1, kUn2_0, kUn2_1, kUn_0, kUn_1, kMt4_0, kMt4_1, kMt3_0, kMt2_0, kMt2_1, kMt_0, kMt_1, kPut_0, kPut_1, kPut_2, kPut_3, kPut_4, kPut_5, kM12_0, kM12_1, kM11_0, kM11_1, kM1_0, kIsi3_0, kIsi3_1, kIsi2_0, kIsi2_1, kIsi_0, kIsi_1, kOSo_0, kSl4_0, kSl4_1, kSl3_0, kSl3_1, kSl2_0, kSl2_1, kSl_0, kSl_1, kNeg_0, kSX3_0, kSX3_1, kSX2_0, kSX2_1, kSX1_0, kSX0_0, kSX0_1, kSX_0, kSX_1, kAug3_0, kAug3_1, kAug2_0, kAug_0, kRes_0, kRes_1, kEnd2_0, kEnd2_1, kEnd_0, kEnd_1, kAny_0, kAny_1, kAny_2, kR1_0, kR2_0, kEn_0, kEn_1, kFor_0, kFor_1, kLc2_0, kLc2_1, kLc_0, kLc_1, kGG_0, kCh3_0, kCh3_1, kCh2_0, kCh2_1, kCh1_0, kCh1_1, kCh_0, kCh_1, kLRg_0, kLRh_0, kLRi_0, kMG_0, kDG2_0, kDG1_0, kDG1_1, kDG_0, kDG_1, kDI2_0, kDI2_1, kDI_0, kDI_1, kMP_0, kDP3_0, kDP3_1, kDP2_0, kDP2_1, kDP1_0, kDP1_1, kDP_0, kDP_1, kPar2_0, kPar2_1, kPar_0, gAdd, DL.gSub, gCmp, gLen, gMax, gMin, gInt, gList, gTuple, gApp, ix_l0, ix_l1, ix_l2, ix_t0, ix_t1, ix_t2, ix_t3, ix_tm2, ix_tm3, ix_tm4, gEq_int, gNe_int, eq_row_floor, eq_ring_floor, eq_floor_floor, eq_row_ring, eq_ring_ring, eq_floor_ring, eq_row_row, eq_ring_row, eq_floor_row, ne_row_floor, ne_ring_floor, ne_floor_floor, lim, ixN3_0, ixN3_1, ixN3_2, List.getElem?_cons_zero, List.getElem?_cons_succ, List.set_cons_zero, List.set_cons_succ, List.replicate_succ, List.replicate_zero, List.cons_append, List.nil_append, List.zipWith_cons_cons, List.zipWith_nil_left, List.zipWith_nil_right, List.length_cons, List.length_nil, Option.map_some, Option.map_none, Nat.reduceAdd, Nat.reduceSub, Nat.reduceLT, Nat.reduceLeDiff, Int.reduceAdd, Int.reduceLT, Int.reduceLE, Int.reduceNeg, Int.reduceSub, Int.reduceMul, Int.reduceEq, if_true, if_false, ite_true, ite_false, decide_true, decide_false, Bool.not_true, Bool.not_false, Bool.and_true, Bool.true_and, Bool.and_false, Bool.false_and, ↓reduceIte, Bd.d, Ru.d] at hF ⊢
      simp only [wipeD, restD, allFz, eVar_e, eC_e, rd_fz, rd_ow, rd_bw, fr_fz, fr_ow, fr_bw, dFr_e, dOp2_e, dTst_e, dAnd_e, dOr_e, dNot_e, dIfE_e, dAndV_e, dOrV_e, dNotV_e, dYes_e, aNil_e, aCons_e, aFr_e, rds_nil, rds_cons, dCall_e, eTup_e, eLst_e, dsOf_nil, dsOf_fz, fCall_e, bSeq_e, bNext_e, bBreak_e, bCont_e, bRetN_e, bDrop_e, bRet_e, bIf_e, to_fz, to_ow, to_bw, notRf_e, bAsg_e, gNm_e, gsNil_e, gsCons_e, gTp_e, bUnp_e, dMt_e, held_ow, held_rf, putS_e, dM1_e, dIsi_e, oSome_e, oNo_e, dSl_e, dNeg_e, bSetIx_e, bAug_e, res_fz, res_ow, res_bw, runF_e, fin_nil, fin_nil1, fin_rf, fin_fz, iAny_e, iRange1_e, iRange2_e, iEnumD_e, dChain_e, dLRg1_e, dLRg2_e, heldM_ow, heldM_rf, eDict_e, dDGet_e, dDIn_e, bDPut_e, bPar_e, nc0, nc1, nc2, nc3, nc4, nc5, nc6, nc7, nc8, nc9, nc36, kVar_0, kVar_1, kVar_2, kRd_0, kRd_1, kRd_2, kFr_0, kFr_1, kDFr_0, kDFr_1, kZ_0, kZ_1, kOp3_0, kOp2_0, kOp2_1, kOp_0, kOp_1, kTst_0, kAnd_0, kAnd_1, kAnd_2, kOr_0, kOr_1, kOr_2, kNot_0, kNot_1, kIfE_0, kIfE_1, kIfE_2, kAndV_0, kAndV_1, kOrV_0, kOrV_1, kNotV_0, kAC2_0, kAC2_1, kAC_0, kAC_1, kAF_0, kAF_1, kRds_0, kCall2_0, kCall2_1, kCall_0, kCall_1, kTup2_0, kTup2_1, kTup_0, kTup_1, kLst2_0, kLst2_1, kLst_0, kLst_1, kFCo_0, kFCo_1, kFCr_0, kFCr_1, kFCf_0, kFCf_1, kFC2_0, kFC2_1, kFC3_0, kFC3_1, kFC1_0, kFC1_1, kFC1_2, kFC_0, kFC_1, kSeq_0, kSeq_1, kSeq_2, kSeq_3, kSeq_4, kSeq_5, kDrop_0, kDrop_1, kRet_0, kRet_1, kIf_0, kIf_1, kIf_2, kTo_0, kTo_1, kNR_0, kNR_1, kNR_2, kNR_3, kNR_4, kNR_5, kAsg3_0, kAsg3_1, kAsg2_0, kAsg2_1, kAsg_0, kAsg_1, kGN_0, kGN_1, kGC_0, kGC_1, kUn2_0, kUn2_1, kUn_0, kUn_1, kMt4_0, kMt4_1, kMt3_0, kMt2_0, kMt2_1, kMt_0, kMt_1, kPut_0, kPut_1, kPut_2, kPut_3, kPut_4, kPut_5, kM12_0, kM12_1, kM11_0, kM11_1, kM1_0, kIsi3_0, kIsi3_1, kIsi2_0, kIsi2_1, kIsi_0, kIsi_1, kOSo_0, kSl4_0, kSl4_1, kSl3_0, kSl3_1, kSl2_0, kSl2_1, kSl_0, kSl_1, kNeg_0, kSX3_0, kSX3_1, kSX2_0, kSX2_1, kSX1_0, kSX0_0, kSX0_1, kSX_0, kSX_1, kAug3_0, kAug3_1, kAug2_0, kAug_0, kRes_0, kRes_1, kEnd2_0, kEnd2_1, kEnd_0, kEnd_1, kAny_0, kAny_1, kAny_2, kR1_0, kR2_0, kEn_0, kEn_1, kFor_0, kFor_1, kLc2_0, kLc2_1, kLc_0, kLc_1, kGG_0, kCh3_0, kCh3_1, kCh2_0, kCh2_1, kCh1_0, kCh1_1, kCh_0, kCh_1, kLRg_0, kLRh_0, kLRi_0, kMG_0, kDG2_0, kDG1_0, kDG1_1, kDG_0, kDG_1, kDI2_0, kDI2_1, kDI_0, kDI_1, kMP_0, kDP3_0, kDP3_1, kDP2_0, kDP2_1, kDP1_0, kDP1_1, kDP_0, kDP_1, kPar2_0, kPar2_1, kPar_0, gAdd, DL.gSub, gCmp, gLen, gMax, gMin, gInt, gList, gTuple, gApp, ix_l0, ix_l1, ix_l2, ix_t0, ix_t1, ix_t2, ix_t3, ix_tm2, ix_tm3, ix_tm4, gEq_int, gNe_int, eq_row_floor, eq_ring_floor, eq_floor_floor, eq_row_ring, eq_ring_ring, eq_floor_ring, eq_row_row, eq_ring_row, eq_floor_row, ne_row_floor, ne_ring_floor, ne_floor_floor, lim, ixN3_0, ixN3_1, ixN3_2, List.getElem?_cons_zero, List.getElem?_cons_succ, List.set_cons_zero, List.set_cons_succ, List.replicate_succ, List.replicate_zero, List.cons_append, List.nil_append, List.zipWith_cons_cons, List.zipWith_nil_left, List.zipWith_nil_right, List.length_cons, List.length_nil, Option.map_some, Option.map_none, Nat.reduceAdd, Nat.reduceSub, Nat.reduceLT, Nat.reduceLeDiff, Int.reduceAdd, Int.reduceLT, Int.reduceLE, Int.reduceNeg, Int.reduceSub, Int.reduceMul, Int.reduceEq, if_true, if_false, ite_true, ite_false, decide_true, decide_false, Bool.not_true, Bool.not_false, Bool.and_true, Bool.true_and, Bool.and_false, Bool.false_and, ↓reduceIte, F__law_places, d__law_places, hF, cellsAt]
    | under x y c =>
      obtain ⟨h1, h2, h3, h4, hc⟩ := h
      obtain ⟨a, b, c', e, hf⟩ := places_loop (U := 2 * x) (V := y) hH hW (by omega) (by omega) (by omega) (by omega) (places_step hH hW (by omega) (by omega) (.inr ⟨rfl, rfl, rfl⟩) (r := .under x y c))
      have hr := range1_ok (fa := aFr (eVar 3) aNil) (n := H) (ρ := [.fz (Bd.d (.floor H W)), .fz (Ru.d (.under x y c)), .fz (.str "floor"), .fz (.int (H : Nat)), .fz (.int (W : Nat)), .ow (.l []), .un, .un, .un, .un]) (ρ1 := [.fz (Bd.d (.floor H W)), .fz (Ru.d (.under x y c)), .fz (.str "floor"), .fz (.int (H : Nat)), .fz (.int (W : Nat)), .ow (.l []), .un, .un, .un, .un]) (by simp only [wipeD, restD, allFz, eVar_e, eC_e, rd_fz, rd_ow, rd_bw, fr_fz, fr_ow, fr_bw, dFr_e, dOp2_e, dTst_e, dAnd_e, dOr_e, dNot_e, dIfE_e, dAndV_e, dOrV_e, dNotV_e, dYes_e, aNil_e, aCons_e, aFr_e, rds_nil, rds_cons, dCall_e, eTup_e, eLst_e, dsOf_nil, dsOf_fz, fCall_e, bSeq_e, bNext_e, bBreak_e, bCont_e, bRetN_e, bDrop_e, bRet_e, bIf_e, to_fz, to_ow, to_bw, notRf_e, bAsg_e, gNm_e, gsNil_e, gsCons_e, gTp_e, bUnp_e, dMt_e, held_ow, held_rf, putS_e, dM1_e, dIsi_e, oSome_e, oNo_e, dSl_e, dNeg_e, bSetIx_e, bAug_e, res_fz, res_ow, res_bw, runF_e, fin_nil, fin_nil1, fin_rf, fin_fz, iAny_e, iRange1_e, iRange2_e, iEnumD_e, dChain_e, dLRg1_e, dLRg2_e, heldM_ow, heldM_rf, eDict_e, dDGet_e, dDIn_e, bDPut_e, bPar_e, nc0, nc1, nc2, nc3, nc4, nc5, nc6, nc7, nc8, nc9, nc36, kVar_0, kVar_1, kVar_2, kRd_0, kRd_1, kRd_2, kFr_0, kFr_1, kDFr_0, kDFr_1, kZ_0, kZ_1, kOp3_0, kOp2_0, kOp2_1, kOp_0, kOp_1, kTst_0, kAnd_0, kAnd_1, kAnd_2, kOr_0, kOr_1, kOr_2, kNot_0, kNot_1, kIfE_0, kIfE_1, kIfE_2, kAndV_0, kAndV_1, kOrV_0, kOrV_1, kNotV_0, kAC2_0, kAC2_1, kAC_0, kAC_1, kAF_0, kAF_1, kRds_0, kCall2_0, kCall2_1, kCall_0, kCall_1, kTup2_0, kTup2_1, kTup_0, kTup_1, kLst2_0, kLst2_1, kLst_0, kLst_1, kFCo_0, kFCo_1, kFCr_0, kFCr_1, kFCf_0, kFCf_1, kFC2_0, kFC2_1, kFC3_0, kFC3_1, kFC1_0, kFC1_1, kFC1_2, kFC_0, kFC_1, kSeq_0, kSeq_1, kSeq_2, kSeq_3, kSeq_4, kSeq_5, kDrop_0, kDrop_1, kRet_0, kRet_1, kIf_0, kIf_1, kIf_2, kTo_0, kTo_1, kNR_0, kNR_1, kNR_2, kNR_3, kNR_4, kNR_5, kAsg3_0, kAsg3_1, kAsg2_0, kAsg2_1, kAsg_0, kAsg_1, kGN_0, kGN_1, kGC_0, kGC_1, kUn2_0, kUn2_1, kUn_0, kUn_1, kMt4_0, kMt4_1, kMt3_0, kMt2_0, kMt2_1, kMt_0, kMt_1, kPut_0, kPut_1, kPut_2, kPut_3, kPut_4, kPut_5, kM12_0, kM12_1, kM11_0, kM11_1, kM1_0, kIsi3_0, kIsi3_1, kIsi2_0, kIsi2_1, kIsi_0, kIsi_1, kOSo_0, kSl4_0, kSl4_1, kSl3_0, kSl3_1, kSl2_0, kSl2_1, kSl_0, kSl_1, kNeg_0, kSX3_0, kSX3_1, kSX2_0, kSX2_1, kSX1_0, kSX0_0, kSX0_1, kSX_0, kSX_1, kAug3_0, kAug3_1, kAug2_0, kAug_0, kRes_0, kRes_1, kEnd2_0, kEnd2_1, kEnd_0, kEnd_1, kAny_0, kAny_1, kAny_2, kR1_0, kR2_0, kEn_0, kEn_1, kFor_0, kFor_1, kLc2_0, kLc2_1, kLc_0, kLc_1, kGG_0, kCh3_0, kCh3_1, kCh2_0, kCh2_1, kCh1_0, kCh1_1, kCh_0, kCh_1, kLRg_0, kLRh_0, kLRi_0, kMG_0, kDG2_0, kDG1_0, kDG1_1, kDG_0, kDG_1, kDI2_0, kDI2_1, kDI_0, kDI_1, kMP_0, kDP3_0, kDP3_1, kDP2_0, kDP2_1, kDP1_0, kDP1_1, kDP_0, kDP_1, kPar2_0, kPar2_1, kPar_0, gAdd, DL.gSub, gCmp, gLen, gMax, gMin, gInt, gList, gTuple, gApp, ix_l0, ix_l1, ix_l2, ix_t0, ix_t1, ix_t2, ix_t3, ix_tm2, ix_tm3, ix_tm4, gEq_int, gNe_int, eq_row_floor, eq_ring_floor, eq_floor_floor, eq_row_ring, eq_ring_ring, eq_floor_ring, eq_row_row, eq_ring_row, eq_floor_row, ne_row_floor, ne_ring_floor, ne_floor_floor, lim, ixN3_0, ixN3_1, ixN3_2, List.getElem?_cons_zero, List.getElem?_cons_succ, List.set_cons_zero, List.set_cons_succ, List.replicate_succ, List.replicate_zero, List.cons_append, List.nil_append, List.zipWith_cons_cons, List.zipWith_nil_left, List.zipWith_nil_right, List.length_cons, List.length_nil, Option.map_some, Option.map_none, Nat.reduceAdd, Nat.reduceSub, Nat.reduceLT, Nat.reduceLeDiff, Int.reduceAdd, Int.reduceLT, Int.reduceLE, Int.reduceNeg, Int.reduceSub, Int.reduceMul, Int.reduceEq, if_true, if_false, ite_true, ite_false, decide_true, decide_false, Bool.not_true, Bool.not_false, Bool.and_true, Bool.true_and, Bool.and_false, Bool.false_and, ↓reduceIte]) (by omega)
      have hF := bFor_eq hr hf
      simp only [wipeD, restD, allFz, eVar_e, eC_e, rd_fz, rd_ow, rd_bw, fr_fz, fr_ow, fr_bw, dFr_e, dOp2_e, dTst_e, dAnd_e, dOr_e, dNot_e, dIfE_e, dAndV_e, dOrV_e, dNotV_e, dYes_e, aNil_e, aCons_e, aFr_e, rds_nil, rds_cons, dCall_e, eTup_e, eLst_e, dsOf_nil, dsOf_fz, fCall_e, bSeq_e, bNext_e, bBreak_e, bCont_e, bRetN_e, bDrop_e, bRet_e, bIf_e, to_fz, to_ow, to_bw, notRf_e, bAsg_e, gNm_e, gsNil_e, gsCons_e, gTp_e, bUnp_e, dMt_e, held_ow, held_rf, putS_e, dM1_e, dIsi_e, oSome_e, oNo_e, dSl_e, dNeg_e, bSetIx_e, bAug_e, res_fz, res_ow, res_bw, runF_e, fin_nil, fin_nil1, fin_rf, fin_fz, iAny_e, iRange1_e, iRange2_e, iEnumD_e, dChain_e, dLRg1_e, dLRg2_e, heldM_ow, heldM_rf, eDict_e, dDGet_e, dDIn_e, bDPut_e, bPar_e, nc0, nc1, nc2, nc3, nc4, nc5, nc6, nc7, nc8, nc9, nc36, kVar_0, kVar_1, kVar_2, kRd_0, kRd_1, kRd_2, kFr_0, kFr_1, kDFr_0, kDFr_1, kZ_0, kZ_1, kOp3_0, kOp2_0, kOp2_1, kOp_0, kOp_1, kTst_0, kAnd_0, kAnd_1, kAnd_2, kOr_0, kOr_1, kOr_2, kNot_0, kNot_1, kIfE_0, kIfE_1, kIfE_2, kAndV_0, kAndV_1, kOrV_0, kOrV_1, kNotV_0, kAC2_0, kAC2_1, kAC_0, kAC_1, kAF_0, kAF_1, kRds_0, kCall2_0, kCall2_1, kCall_0, kCall_1, kTup2_0, kTup2_1, kTup_0, kTup_1, kLst2_0, kLst2_1, kLst_0, kLst_1, kFCo_0, kFCo_1, kFCr_0, kFCr_1, kFCf_0, kFCf_1, kFC2_0, kFC2_1, kFC3_0, kFC3_1, kFC1_0, kFC1_1, kFC1_2, kFC_0, kFC_1, kSeq_0, kSeq_1, kSeq_2, kSeq_3, kSeq_4, kSeq_5, kDrop_0, kDrop_1, kRet_0, kRet_1, kIf_0, kIf_1, kIf_2, kTo_0, kTo_1, kNR_0, kNR_1, kNR_2, kNR_3, kNR_4, kNR_5, kAsg3_0, kAsg3_1, kAsg2_0, kAsg2_1, kAsg_0, kAsg_1, kGN_0, kGN_1, kGC_0, kGC_1, kUn2_0, kUn2_1, kUn_0, kUn_1, kMt4_0, kMt4_1, kMt3_0, kMt2_0, kMt2_1, kMt_0, kMt_1, kPut_0, kPut_1, kPut_2, kPut_3, kPut_4, kPut_5, kM12_0, kM12_1, kM11_0, kM11_1, kM1_0, kIsi3_0, kIsi3_1, kIsi2_0, kIsi2_1, kIsi_0, kIsi_1, kOSo_0, kSl4_0, kSl4_1, kSl3_0, kSl3_1, kSl2_0, kSl2_1, kSl_0, kSl_1, kNeg_0, kSX3_0, kSX3_1, kSX2_0, kSX2_1, kSX1_0, kSX0_0, kSX0_1, kSX_0, kSX_1, kAug3_0, kAug3_1, kAug2_0, kAug_0, kRes_0, kRes_1, kEnd2_0, kEnd2_1, kEnd_0, kEnd_1, kAny_0, kAny_1, kAny_2, kR1_0, kR2_0, kEn_0, kEn_1, kFor_0, kFor_1, kLc2_0, kLc2_1, kLc_0, kLc_1, kGG_0, kCh3_0, kCh3_1, kCh2_0, kCh2_1, kCh1_0, kCh1_1, kCh_0, kCh_1, kLRg_0, kLRh_0, kLRi_0, kMG_0, kDG2_0, kDG1_0, kDG1_1, kDG_0, kDG_1, kDI2_0, kDI2_1, kDI_0, kDI_1, kMP_0, kDP3_0, kDP3_1, kDP2_0, kDP2_1, kDP1_0, kDP1_1, kDP_0, kDP_1, kPar2_0, kPar2_1, kPar_0, gAdd, DL.gSub, gCmp, gLen, gMax, gMin, gInt, gList, gTuple, gApp, ix_l0, ix_l1, ix_l2, ix_t0, ix_t1, ix_t2, ix_t3, ix_tm2, ix_tm3, ix_tm4, gEq_int, gNe_int, eq_row_floor, eq_ring_floor, eq_floor_floor, eq_row_ring, eq_ring_ring, eq_floor_ring, eq_row_row, eq_ring_row, eq_floor_row, ne_row_floor, ne_ring_floor, ne_floor_floor, lim, ixN3_0, ixN3_1, ixN3_2, List.getElem?_cons_zero, List.getElem?_cons_succ, List.set_cons_zero, List.set_cons_succ, List.replicate_succ, List.replicate_zero, List.cons_append, List.nil_append, List.zipWith_cons_cons, List.zipWith_nil_left, List.zipWith_nil_right, List.length_cons, List.length_nil, Option.map_some, Option.map_none, Nat.reduceAdd, Nat.reduceSub, Nat.reduceLT, Nat.reduceLeDiff, Int.reduceAdd, Int.reduceLT, Int.reduceLE, Int.reduceNeg, Int.reduceSub, Int.reduceMul, Int.reduceEq, if_true, if_false, ite_true, ite_false, decide_true, decide_false, Bool.not_true, Bool.not_false, Bool.and_true, Bool.true_and, Bool.and_false, Bool.false_and, ↓reduceIte, Bd.d, Ru.d] at hF ⊢
      simp only [wipeD, restD, allFz, eVar_e, eC_e, rd_fz, rd_ow, rd_bw, fr_fz, fr_ow, fr_bw, dFr_e, dOp2_e, dTst_e, dAnd_e, dOr_e, dNot_e, dIfE_e, dAndV_e, dOrV_e, dNotV_e, dYes_e, aNil_e, aCons_e, aFr_e, rds_nil, rds_cons, dCall_e, eTup_e, eLst_e, dsOf_nil, dsOf_fz, fCall_e, bSeq_e, bNext_e, bBreak_e, bCont_e, bRetN_e, bDrop_e, bRet_e, bIf_e, to_fz, to_ow, to_bw, notRf_e, bAsg_e, gNm_e, gsNil_e, gsCons_e, gTp_e, bUnp_e, dMt_e, held_ow, held_rf, putS_e, dM1_e, dIsi_e, oSome_e, oNo_e, dSl_e, dNeg_e, bSetIx_e, bAug_e, res_fz, res_ow, res_bw, runF_e, fin_nil, fin_nil1, fin_rf, fin_fz, iAny_e, iRange1_e, iRange2_e, iEnumD_e, dChain_e, dLRg1_e, dLRg2_e, heldM_ow, heldM_rf, eDict_e, dDGet_e, dDIn_e, bDPut_e, bPar_e, nc0, nc1, nc2, nc3, nc4, nc5, nc6, nc7, nc8, nc9, nc36, kVar_0, kVar_1, kVar_2, kRd_0, kRd_1, kRd_2, kFr_0, kFr_1, kDFr_0, kDFr_1, kZ_0, kZ_1, kOp3_0, kOp2_0, kOp2_1, kOp_0, kOp_1, kTst_0, kAnd_0, kAnd_1, kAnd_2, kOr_0, kOr_1, kOr_2, kNot_0, kNot_1, kIfE_0, kIfE_1, kIfE_2, kAndV_0, kAndV_1, kOrV_0, kOrV_1, kNotV_0, kAC2_0, kAC2_1, kAC_0, kAC_1, kAF_0, kAF_1, kRds_0, kCall2_0, kCall2_1, kCall_0, kCall_1, kTup2_0, kTup2_1, kTup_0, kTup_1, kLst2_0, kLst2_1, kLst_0, kLst_1, kFCo_0, kFCo_1, kFCr_0, kFCr_1, kFCf_0, kFCf_1, kFC2_0, kFC2_1, kFC3_0, kFC3_1, kFC1_0, kFC1_1, kFC1_2, kFC_0, kFC_1, kSeq_0, kSeq_1, kSeq_2, kSeq_3, kSeq_4, kSeq_5, kDrop_0, kDrop_1, kRet_0, kRet_1, kIf_0, kIf_1, kIf_2, kTo_0, kTo_1, kNR_0, kNR_1, kNR_2, kNR_3, kNR_4, kNR_5, kAsg3_0, kAsg3_1, kAsg2_0, kAsg2_1, kAsg_0, kAsg_1, kGN_0, kGN_1, kGC_0, kGC_1, kUn2_0, kUn2_1, kUn_0, kUn_1, kMt4_0, kMt4_1, kMt3_0, kMt2_0, kMt2_1, kMt_0, kMt_1, kPut_0, kPut_1, kPut_2, kPut_3, kPut_4, kPut_5, kM12_0, kM12_1, kM11_0, kM11_1, kM1_0, kIsi3_0, kIsi3_1, kIsi2_0, kIsi2_1, kIsi_0, kIsi_1, kOSo_0, kSl4_0, kSl4_1, kSl3_0, kSl3_1, kSl2_0, kSl2_1, kSl_0, kSl_1, kNeg_0, kSX3_0, kSX3_1, kSX2_0, kSX2_1, kSX1_0, kSX0_0, kSX0_1, kSX_0, kSX_1, kAug3_0, kAug3_1, kAug2_0, kAug_0, kRes_0, kRes_1, kEnd2_0, kEnd2_1, kEnd_0, kEnd_1, kAny_0, kAny_1, kAny_2, kR1_0, kR2_0, kEn_0, kEn_1, kFor_0, kFor_1, kLc2_0, kLc2_1, kLc_0, kLc_1, kGG_0, kCh3_0, kCh3_1, kCh2_0, kCh2_1, kCh1_0, kCh1_1, kCh_0, kCh_1, kLRg_0, kLRh_0, kLRi_0, kMG_0, kDG2_0, kDG1_0, kDG1_1, kDG_0, kDG_1, kDI2_0, kDI2_1, kDI_0, kDI_1, kMP_0, kDP3_0, kDP3_1, kDP2_0, kDP2_1, kDP1_0, kDP1_1, kDP_0, kDP_1, kPar2_0, kPar2_1, kPar_0, gAdd, DL.gSub, gCmp, gLen, gMax, gMin, gInt, gList, gTuple, gApp, ix_l0, ix_l1, ix_l2, ix_t0, ix_t1, ix_t2, ix_t3, ix_tm2, ix_tm3, ix_tm4, gEq_int, gNe_int, eq_row_floor, eq_ring_floor, eq_floor_floor, eq_row_ring, eq_ring_ring, eq_floor_ring, eq_row_row, eq_ring_row, eq_floor_row, ne_row_floor, ne_ring_floor, ne_floor_floor, lim, ixN3_0, ixN3_1, ixN3_2, List.getElem?_cons_zero, List.getElem?_cons_succ, List.set_cons_zero, List.set_cons_succ, List.replicate_succ, List.replicate_zero, List.cons_append, List.nil_append, List.zipWith_cons_cons, List.zipWith_nil_left, List.zipWith_nil_right, List.length_cons, List.length_nil, Option.map_some, Option.map_none, Nat.reduceAdd, Nat.reduceSub, Nat.reduceLT, Nat.reduceLeDiff, Int.reduceAdd, Int.reduceLT, Int.reduceLE, Int.reduceNeg, Int.reduceSub, Int.reduceMul, Int.reduceEq, if_true, if_false, ite_true, ite_false, decide_true, decide_false, Bool.not_true, Bool.not_false, Bool.and_true, Bool.true_and, Bool.and_false, Bool.false_and, ↓reduceIte, F__law_places, d__law_places, hF, cellsAt]
/-! ### all deeds -/
def deedD (n c : Nat) : D := .tup [.int (n : Nat), .int (c : Nat)]
def deedsFrom (b : Bd) : Nat → List Ru → List (Nat × Nat)
  | _, [] => []
  | n, r :: rs => (cellsAt b r).map (fun c => (n, c)) ++ deedsFrom b (n + 1) rs
def deedsTo (b : Bd) (bk : List Ru) : Nat → List (Nat × Nat)
  | 0 => []
  | n + 1 => deedsTo b bk n ++ (match bk[n]? with | some r => (cellsAt b r).map (fun c => (n, c)) | none => [])
def pairD (p : Nat × Nat) : D := deedD p.1 p.2
theorem cellsAt_len {b : Bd} {r : Ru} (hb : b.ok 36) (h : r.fits b) : (cellsAt b r).length ≤ 1369 := by
  cases b with
  | row n =>
    have hn36 := hb.2
    cases r with
    | swap k c => show (List.range _).length ≤ _; rw [List.length_range]; omega
    | over _ _ _ => cases h
    | under _ _ _ => cases h
  | ring n =>
    have hn36 := hb.2
    cases r with
    | swap k c => show (List.range _).length ≤ _; rw [List.length_range]; omega
    | over _ _ _ => cases h
    | under _ _ _ => cases h
  | floor H W =>
    have h36 := hb.2.2.1
    have hH : H ≤ 36 := Nat.le_trans (Nat.le_mul_of_pos_right H hb.2.1) h36
    have hW : W ≤ 36 := Nat.le_trans (Nat.le_mul_of_pos_left W hb.1) h36
    cases r with
    | swap _ _ => cases h
    | over x y c =>
      have h1 := grid_len W (H - x + 1) (W - 2 * y + 1)
      have h2 : (H - x + 1) * (W - 2 * y + 1) ≤ 37 * 37 := Nat.mul_le_mul (by omega) (by omega)
      exact Nat.le_trans h1 h2
    | under x y c =>
      have h1 := grid_len W (H - 2 * x + 1) (W - y + 1)
      have h2 : (H - 2 * x + 1) * (W - y + 1) ≤ 37 * 37 := Nat.mul_le_mul (by omega) (by omega)
      exact Nat.le_trans h1 h2
theorem deedsTo_len {b : Bd} {bk : List Ru} (hb : b.ok 36) (h : ∀ r ∈ bk, r.fits b) : ∀ n, (deedsTo b bk n).length ≤ n * 1369
  | 0 => Nat.zero_le _
  | n + 1 => by
    have ih := deedsTo_len hb h n
    have h2 : (match bk[n]? with | some r => (cellsAt b r).map (fun c => (n, c)) | none => ([] : List (Nat × Nat))).length ≤ 1369 := by
      cases q : bk[n]? with
      | none => exact Nat.zero_le _
      | some r =>
        show ((cellsAt b r).map _).length ≤ _
        rw [List.length_map]
        exact cellsAt_len hb (h r (List.mem_of_getElem? q))
    show (deedsTo b bk n ++ _).length ≤ _
    rw [List.length_append, Nat.add_mul]
    omega
end G
set_option Elab.async false
set_option linter.all false
set_option maxRecDepth 100000
set_option maxHeartbeats 1000000
set_option pp.maxSteps 1500
namespace DL
open PySem PySem.Spec L2
def flatI (F : Nat → List D) : Nat → Nat → List D
  | _, 0 => []
  | s, n + 1 => F s ++ flatI F (s + 1) n
theorem flatI_succ (F : Nat → List D) : ∀ (n s : Nat), flatI F s (n + 1) = flatI F s n ++ F (s + n)
  | 0, s => by simp [flatI]
  | n + 1, s => by
    have ih := flatI_succ F n (s + 1)
    show F s ++ flatI F (s + 1) (n + 1) = (F s ++ flatI F (s + 1) n) ++ F (s + (n + 1))
    rw [ih, List.append_assoc, show s + 1 + n = s + (n + 1) by omega]
theorem lc2L_mapI {h h1 : Fg} {fi1 : Fi} {fe : Fe} {vs vs1 : List Nat} {ρ : En} (F : Nat → List D) : ∀ (xs : List D) (s : Nat) (acc : List D), acc.length + (flatI F s xs.length).length ≤ 1000000 →
    (∀ i d, xs[i]? = some d → ∃ ρ1 ys ρ3 g, h d ρ = some ρ1 ∧ fi1 ρ1 = some (ys, ρ3) ∧ F (s + i) = ys.map g ∧ (∀ y ∈ ys, ∃ ρ5 ρ6, h1 y (wipeD ρ3 vs1) = some ρ5 ∧ dFr fe ρ5 = some (g y, ρ6) ∧ wipeD ρ6 vs1 = wipeD ρ3 vs1) ∧ wipeD (wipeD ρ3 vs1) vs = ρ) →
    lc2L h dYes fi1 h1 dYes fe vs vs1 xs acc ρ = some (acc ++ flatI F s xs.length, ρ)
  | [], s, acc, _, _ => by
    show some (acc, ρ) = some (acc ++ [], ρ)
    rw [List.append_nil]
  | d :: xs, s, acc, hl, hs => by
    obtain ⟨ρ1, ys, ρ3, g, e1, e2, e3, e4, e5⟩ := hs 0 d rfl
    have e3' : F s = ys.map g := e3
    have fl : flatI F s (d :: xs).length = F s ++ flatI F (s + 1) xs.length := rfl
    rw [fl, List.length_append, e3', List.length_map] at hl
    have in_ := lcL_mapA (h := h1) (fe := fe) (vs := vs1) (ρ := wipeD ρ3 vs1) g ys acc (by omega) e4
    unfold lc2L
    simp only [e1, dYes, e2]
    have in' : lcL h1 dYes fe vs1 ys acc (wipeD ρ3 vs1) = some (acc ++ ys.map g, wipeD ρ3 vs1) := in_
    have in2 : lcL h1 (fun ρ => some (true, ρ)) fe vs1 ys acc (wipeD ρ3 vs1) = some (acc ++ ys.map g, wipeD ρ3 vs1) := in_
    first | rw [in'] | rw [in2]
    simp only [e5]
    have ih := lc2L_mapI (h := h) (h1 := h1) (fi1 := fi1) (fe := fe) (vs := vs) (vs1 := vs1) (ρ := ρ) F xs (s + 1) (acc ++ ys.map g) (by rw [List.length_append, List.length_map]; omega) fun i e he => by
      have := hs (i + 1) e (by simpa using he)
      rwa [show s + (i + 1) = s + 1 + i by omega] at this
    rw [fl, e3', ← List.append_assoc]
    exact ih
end DL
namespace G
open PySem PySem.Spec L2 DL
def deedsAt (b : Bd) (bk : List Ru) (n : Nat) : List (Nat × Nat) := match bk[n]? with
  | some r => (cellsAt b r).map (fun c => (n, c))
  | none => []
theorem deedsTo_succ (b : Bd) (bk : List Ru) (n : Nat) : deedsTo b bk (n + 1) = deedsTo b bk n ++ deedsAt b bk n := rfl
theorem deedsAt_some {b : Bd} {bk : List Ru} {n : Nat} {r : Ru} (h : bk[n]? = some r) : deedsAt b bk n = (cellsAt b r).map (fun c => (n, c)) := by unfold deedsAt; rw [h]
theorem deeds_flat (b : Bd) (bk : List Ru) : ∀ n, flatI (fun i => (deedsAt b bk i).map pairD) 0 n = (deedsTo b bk n).map pairD
  | 0 => rfl
  | n + 1 => by rw [flatI_succ, deeds_flat b bk n, deedsTo_succ, List.map_append, Nat.zero_add]
theorem at_pairs {b : Bd} {n : Nat} {r : Ru} : ((cellsAt b r).map (fun c => (n, c))).map pairD = ((cellsAt b r).map dN).map fun d => .tup [.int (n : Nat), d] := by
  rw [List.map_map, List.map_map]
  rfl
theorem law_deeds_ok {b : Bd} {bk : List Ru} (hb : b.ok 36) (h : BkOk b bk) : F__law_deeds [.fz b.d, .fz (.tup (bk.map Ru.d))] = some (.ow (.l ((deedsTo b bk bk.length).map pairD)), [.fz b.d, .fz (.tup (bk.map Ru.d))]) := by
  obtain ⟨h1, h2, h3, h4⟩ := h
  have lp := forL_inv (h := gNm 3) (B := bAsg 2 (dOp2 gAdd (eVar 2) (dLc (iAny (fCall F__law_places (aFr (eVar 0) (aFr (dOp2 gIx (eVar 1) (eVar 3)) aNil)))) (gNm 4) dYes (eTup (aFr (eVar 3) (aFr (eVar 4) aNil))) [4]))) (xs := rangeD 0 bk.length)
    (fun i ρ => ∃ x, ρ = [.fz b.d, .fz (.tup (bk.map Ru.d)), .ow (.l ((deedsTo b bk i).map pairD)), x, .un] ∧ kNR (some x) = true)
    (fun i d ρ hd ⟨x, hρ, n1⟩ => by
      obtain ⟨hi, rfl⟩ := rangeD_get0 hd
      subst hρ
      have hk := List.getElem?_eq_getElem hi
      generalize bk[i] = r at hk
      have hf := h4 r (List.mem_of_getElem? hk)
      have pl := places_ok hb hf
      have cl := cellsAt_len hb hf
      have dl := deedsTo_len hb h4 i
      have ix : gIx (.tup (bk.map Ru.d)) (.int (i : Nat)) = some (.fz r.d) := ix_tup (by rw [List.getElem?_map, hk]; rfl)
      let ρ0 : En := [.fz b.d, .fz (.tup (bk.map Ru.d)), .ow (.l ((deedsTo b bk i).map pairD)), .fz (.int (i : Nat)), .un]
      have hr : iAny (fCall F__law_places (aFr (eVar 0) (aFr (dOp2 gIx (eVar 1) (eVar 3)) aNil))) ρ0 = some ((cellsAt b r).map dN, ρ0) := by simp only [wipeD, restD, allFz, eVar_e, eC_e, rd_fz, rd_ow, rd_bw, fr_fz, fr_ow, fr_bw, dFr_e, dOp2_e, dTst_e, dAnd_e, dOr_e, dNot_e, dIfE_e, dAndV_e, dOrV_e, dNotV_e, dYes_e, aNil_e, aCons_e, aFr_e, rds_nil, rds_cons, dCall_e, eTup_e, eLst_e, dsOf_nil, dsOf_fz, fCall_e, bSeq_e, bNext_e, bBreak_e, bCont_e, bRetN_e, bDrop_e, bRet_e, bIf_e, to_fz, to_ow, to_bw, notRf_e, bAsg_e, gNm_e, gsNil_e, gsCons_e, gTp_e, bUnp_e, dMt_e, held_ow, held_rf, putS_e, dM1_e, dIsi_e, oSome_e, oNo_e, dSl_e, dNeg_e, bSetIx_e, bAug_e, res_fz, res_ow, res_bw, runF_e, fin_nil, fin_nil1, fin_rf, fin_fz, iAny_e, iRange1_e, iRange2_e, iEnumD_e, dChain_e, dLRg1_e, dLRg2_e, heldM_ow, heldM_rf, eDict_e, dDGet_e, dDIn_e, bDPut_e, bPar_e, nc0, nc1, nc2, nc3, nc4, nc5, nc6, nc7, nc8, nc9, nc36, kVar_0, kVar_1, kVar_2, kRd_0, kRd_1, kRd_2, kFr_0, kFr_1, kDFr_0, kDFr_1, kZ_0, kZ_1, kOp3_0, kOp2_0, kOp2_1, kOp_0, kOp_1, kTst_0, kAnd_0, kAnd_1, kAnd_2, kOr_0, kOr_1, kOr_2, kNot_0, kNot_1, kIfE_0, kIfE_1, kIfE_2, kAndV_0, kAndV_1, kOrV_0, kOrV_1, kNotV_0, kAC2_0, kAC2_1, kAC_0, kAC_1, kAF_0, kAF_1, kRds_0, kCall2_0, kCall2_1, kCall_0, kCall_1, kTup2_0, kTup2_1, kTup_0, kTup_1, kLst2_0, kLst2_1, kLst_0, kLst_1, kFCo_0, kFCo_1, kFCr_0, kFCr_1, kFCf_0, kFCf_1, kFC2_0, kFC2_1, kFC3_0, kFC3_1, kFC1_0, kFC1_1, kFC1_2, kFC_0, kFC_1, kSeq_0, kSeq_1, kSeq_2, kSeq_3, kSeq_4, kSeq_5, kDrop_0, kDrop_1, kRet_0, kRet_1, kIf_0, kIf_1, kIf_2, kTo_0, kTo_1, kNR_0, kNR_1, kNR_2, kNR_3, kNR_4, kNR_5, kAsg3_0, kAsg3_1, kAsg2_0, kAsg2_1, kAsg_0, kAsg_1, kGN_0, kGN_1, kGC_0, kGC_1, kUn2_0, kUn2_1, kUn_0, kUn_1, kMt4_0, kMt4_1, kMt3_0, kMt2_0, kMt2_1, kMt_0, kMt_1, kPut_0, kPut_1, kPut_2, kPut_3, kPut_4, kPut_5, kM12_0, kM12_1, kM11_0, kM11_1, kM1_0, kIsi3_0, kIsi3_1, kIsi2_0, kIsi2_1, kIsi_0, kIsi_1, kOSo_0, kSl4_0, kSl4_1, kSl3_0, kSl3_1, kSl2_0, kSl2_1, kSl_0, kSl_1, kNeg_0, kSX3_0, kSX3_1, kSX2_0, kSX2_1, kSX1_0, kSX0_0, kSX0_1, kSX_0, kSX_1, kAug3_0, kAug3_1, kAug2_0, kAug_0, kRes_0, kRes_1, kEnd2_0, kEnd2_1, kEnd_0, kEnd_1, kAny_0, kAny_1, kAny_2, kR1_0, kR2_0, kEn_0, kEn_1, kFor_0, kFor_1, kLc2_0, kLc2_1, kLc_0, kLc_1, kGG_0, kCh3_0, kCh3_1, kCh2_0, kCh2_1, kCh1_0, kCh1_1, kCh_0, kCh_1, kLRg_0, kLRh_0, kLRi_0, kMG_0, kDG2_0, kDG1_0, kDG1_1, kDG_0, kDG_1, kDI2_0, kDI2_1, kDI_0, kDI_1, kMP_0, kDP3_0, kDP3_1, kDP2_0, kDP2_1, kDP1_0, kDP1_1, kDP_0, kDP_1, kPar2_0, kPar2_1, kPar_0, gAdd, DL.gSub, gCmp, gLen, gMax, gMin, gInt, gList, gTuple, gApp, ix_l0, ix_l1, ix_l2, ix_t0, ix_t1, ix_t2, ix_t3, ix_tm2, ix_tm3, ix_tm4, gEq_int, gNe_int, eq_row_floor, eq_ring_floor, eq_floor_floor, eq_row_ring, eq_ring_ring, eq_floor_ring, eq_row_row, eq_ring_row, eq_floor_row, ne_row_floor, ne_ring_floor, ne_floor_floor, lim, ixN3_0, ixN3_1, ixN3_2, List.getElem?_cons_zero, List.getElem?_cons_succ, List.set_cons_zero, List.set_cons_succ, List.replicate_succ, List.replicate_zero, List.cons_append, List.nil_append, List.zipWith_cons_cons, List.zipWith_nil_left, List.zipWith_nil_right, List.length_cons, List.length_nil, Option.map_some, Option.map_none, Nat.reduceAdd, Nat.reduceSub, Nat.reduceLT, Nat.reduceLeDiff, Int.reduceAdd, Int.reduceLT, Int.reduceLE, Int.reduceNeg, Int.reduceSub, Int.reduceMul, Int.reduceEq, if_true, if_false, ite_true, ite_false, decide_true, decide_false, Bool.not_true, Bool.not_false, Bool.and_true, Bool.true_and, Bool.and_false, Bool.false_and, ↓reduceIte, ρ0, ix, pl]
      have lc := lcL_mapA (h := gNm 4) (fe := eTup (aFr (eVar 3) (aFr (eVar 4) aNil))) (vs := [4]) (ρ := ρ0) (fun d => .tup [.int (i : Nat), d]) ((cellsAt b r).map dN) [] (by rw [List.length_map]; show 0 + _ ≤ _; omega) fun d hd => by
        obtain ⟨c, hc, rfl⟩ := List.mem_map.mp hd
        refine ⟨[.fz b.d, .fz (.tup (bk.map Ru.d)), .ow (.l ((deedsTo b bk i).map pairD)), .fz (.int (i : Nat)), .fz (dN c)], [.fz b.d, .fz (.tup (bk.map Ru.d)), .ow (.l ((deedsTo b bk i).map pairD)), .fz (.int (i : Nat)), .fz (dN c)], rfl, ?_, rfl⟩
        simp only [wipeD, restD, allFz, eVar_e, eC_e, rd_fz, rd_ow, rd_bw, fr_fz, fr_ow, fr_bw, dFr_e, dOp2_e, dTst_e, dAnd_e, dOr_e, dNot_e, dIfE_e, dAndV_e, dOrV_e, dNotV_e, dYes_e, aNil_e, aCons_e, aFr_e, rds_nil, rds_cons, dCall_e, eTup_e, eLst_e, dsOf_nil, dsOf_fz, fCall_e, bSeq_e, bNext_e, bBreak_e, bCont_e, bRetN_e, bDrop_e, bRet_e, bIf_e, to_fz, to_ow, to_bw, notRf_e, bAsg_e, gNm_e, gsNil_e, gsCons_e, gTp_e, bUnp_e, dMt_e, held_ow, held_rf, putS_e, dM1_e, dIsi_e, oSome_e, oNo_e, dSl_e, dNeg_e, bSetIx_e, bAug_e, res_fz, res_ow, res_bw, runF_e, fin_nil, fin_nil1, fin_rf, fin_fz, iAny_e, iRange1_e, iRange2_e, iEnumD_e, dChain_e, dLRg1_e, dLRg2_e, heldM_ow, heldM_rf, eDict_e, dDGet_e, dDIn_e, bDPut_e, bPar_e, nc0, nc1, nc2, nc3, nc4, nc5, nc6, nc7, nc8, nc9, nc36, kVar_0, kVar_1, kVar_2, kRd_0, kRd_1, kRd_2, kFr_0, kFr_1, kDFr_0, kDFr_1, kZ_0, kZ_1, kOp3_0, kOp2_0, kOp2_1, kOp_0, kOp_1, kTst_0, kAnd_0, kAnd_1, kAnd_2, kOr_0, kOr_1, kOr_2, kNot_0, kNot_1, kIfE_0, kIfE_1, kIfE_2, kAndV_0, kAndV_1, kOrV_0, kOrV_1, kNotV_0, kAC2_0, kAC2_1, kAC_0, kAC_1, kAF_0, kAF_1, kRds_0, kCall2_0, kCall2_1, kCall_0, kCall_1, kTup2_0, kTup2_1, kTup_0, kTup_1, kLst2_0, kLst2_1, kLst_0, kLst_1, kFCo_0, kFCo_1, kFCr_0, kFCr_1, kFCf_0, kFCf_1, kFC2_0, kFC2_1, kFC3_0, kFC3_1, kFC1_0, kFC1_1, kFC1_2, kFC_0, kFC_1, kSeq_0, kSeq_1, kSeq_2, kSeq_3, kSeq_4, kSeq_5, kDrop_0, kDrop_1, kRet_0, kRet_1, kIf_0, kIf_1, kIf_2, kTo_0, kTo_1, kNR_0, kNR_1, kNR_2, kNR_3, kNR_4, kNR_5, kAsg3_0, kAsg3_1, kAsg2_0, kAsg2_1, kAsg_0, kAsg_1, kGN_0, kGN_1, kGC_0, kGC_1, kUn2_0, kUn2_1, kUn_0, kUn_1, kMt4_0, kMt4_1, kMt3_0, kMt2_0, kMt2_1, kMt_0, kMt_1, kPut_0, kPut_1, kPut_2, kPut_3, kPut_4, kPut_5, kM12_0, kM12_1, kM11_0, kM11_1, kM1_0, kIsi3_0, kIsi3_1, kIsi2_0, kIsi2_1, kIsi_0, kIsi_1, kOSo_0, kSl4_0, kSl4_1, kSl3_0, kSl3_1, kSl2_0, kSl2_1, kSl_0, kSl_1, kNeg_0, kSX3_0, kSX3_1, kSX2_0, kSX2_1, kSX1_0, kSX0_0, kSX0_1, kSX_0, kSX_1, kAug3_0, kAug3_1, kAug2_0, kAug_0, kRes_0, kRes_1, kEnd2_0, kEnd2_1, kEnd_0, kEnd_1, kAny_0, kAny_1, kAny_2, kR1_0, kR2_0, kEn_0, kEn_1, kFor_0, kFor_1, kLc2_0, kLc2_1, kLc_0, kLc_1, kGG_0, kCh3_0, kCh3_1, kCh2_0, kCh2_1, kCh1_0, kCh1_1, kCh_0, kCh_1, kLRg_0, kLRh_0, kLRi_0, kMG_0, kDG2_0, kDG1_0, kDG1_1, kDG_0, kDG_1, kDI2_0, kDI2_1, kDI_0, kDI_1, kMP_0, kDP3_0, kDP3_1, kDP2_0, kDP2_1, kDP1_0, kDP1_1, kDP_0, kDP_1, kPar2_0, kPar2_1, kPar_0, gAdd, DL.gSub, gCmp, gLen, gMax, gMin, gInt, gList, gTuple, gApp, ix_l0, ix_l1, ix_l2, ix_t0, ix_t1, ix_t2, ix_t3, ix_tm2, ix_tm3, ix_tm4, gEq_int, gNe_int, eq_row_floor, eq_ring_floor, eq_floor_floor, eq_row_ring, eq_ring_ring, eq_floor_ring, eq_row_row, eq_ring_row, eq_floor_row, ne_row_floor, ne_ring_floor, ne_floor_floor, lim, ixN3_0, ixN3_1, ixN3_2, List.getElem?_cons_zero, List.getElem?_cons_succ, List.set_cons_zero, List.set_cons_succ, List.replicate_succ, List.replicate_zero, List.cons_append, List.nil_append, List.zipWith_cons_cons, List.zipWith_nil_left, List.zipWith_nil_right, List.length_cons, List.length_nil, Option.map_some, Option.map_none, Nat.reduceAdd, Nat.reduceSub, Nat.reduceLT, Nat.reduceLeDiff, Int.reduceAdd, Int.reduceLT, Int.reduceLE, Int.reduceNeg, Int.reduceSub, Int.reduceMul, Int.reduceEq, if_true, if_false, ite_true, ite_false, decide_true, decide_false, Bool.not_true, Bool.not_false, Bool.and_true, Bool.true_and, Bool.and_false, Bool.false_and, ↓reduceIte]
      have hd := dLc_eq (h := gNm 4) (ft := dYes) (fe := eTup (aFr (eVar 3) (aFr (eVar 4) aNil))) (vs := [4]) hr lc
      have hd' : dLc (iAny (fCall F__law_places (aFr (eVar 0) (aFr (dOp2 gIx (eVar 1) (eVar 3)) aNil)))) (gNm 4) dYes (eTup (aFr (eVar 3) (aFr (eVar 4) aNil))) [4] [.fz b.d, .fz (.tup (bk.map Ru.d)), .ow (.l ((deedsTo b bk i).map pairD)), .fz (.int (i : Nat)), .un] = some (.ow (.l (((cellsAt b r).map dN).map fun d => .tup [.int (i : Nat), d])), [.fz b.d, .fz (.tup (bk.map Ru.d)), .ow (.l ((deedsTo b bk i).map pairD)), .fz (.int (i : Nat)), .un]) := hd
      have sz : ((deedsTo b bk i).map pairD).length + (((cellsAt b r).map dN).map fun d => D.tup [.int (i : Nat), d]).length ≤ 1000000 := by
        rw [List.length_map, List.length_map, List.length_map]
        have : i * 1369 ≤ 4 * 1369 := Nat.mul_le_mul_right _ (by omega)
        omega
      refine ⟨[.fz b.d, .fz (.tup (bk.map Ru.d)), .ow (.l ((deedsTo b bk i).map pairD)), .fz (.int (i : Nat)), .un], [.fz b.d, .fz (.tup (bk.map Ru.d)), .ow (.l ((deedsTo b bk (i + 1)).map pairD)), .fz (.int (i : Nat)), .un], by simp only [wipeD, restD, allFz, eVar_e, eC_e, rd_fz, rd_ow, rd_bw, fr_fz, fr_ow, fr_bw, dFr_e, dOp2_e, dTst_e, dAnd_e, dOr_e, dNot_e, dIfE_e, dAndV_e, dOrV_e, dNotV_e, dYes_e, aNil_e, aCons_e, aFr_e, rds_nil, rds_cons, dCall_e, eTup_e, eLst_e, dsOf_nil, dsOf_fz, fCall_e, bSeq_e, bNext_e, bBreak_e, bCont_e, bRetN_e, bDrop_e, bRet_e, bIf_e, to_fz, to_ow, to_bw, notRf_e, bAsg_e, gNm_e, gsNil_e, gsCons_e, gTp_e, bUnp_e, dMt_e, held_ow, held_rf, putS_e, dM1_e, dIsi_e, oSome_e, oNo_e, dSl_e, dNeg_e, bSetIx_e, bAug_e, res_fz, res_ow, res_bw, runF_e, fin_nil, fin_nil1, fin_rf, fin_fz, iAny_e, iRange1_e, iRange2_e, iEnumD_e, dChain_e, dLRg1_e, dLRg2_e, heldM_ow, heldM_rf, eDict_e, dDGet_e, dDIn_e, bDPut_e, bPar_e, nc0, nc1, nc2, nc3, nc4, nc5, nc6, nc7, nc8, nc9, nc36, kVar_0, kVar_1, kVar_2, kRd_0, kRd_1, kRd_2, kFr_0, kFr_1, kDFr_0, kDFr_1, kZ_0, kZ_1, kOp3_0, kOp2_0, kOp2_1, kOp_0, kOp_1, kTst_0, kAnd_0, kAnd_1, kAnd_2, kOr_0, kOr_1, kOr_2, kNot_0, kNot_1, kIfE_0, kIfE_1, kIfE_2, kAndV_0, kAndV_1, kOrV_0, kOrV_1, kNotV_0, kAC2_0, kAC2_1, kAC_0, kAC_1, kAF_0, kAF_1, kRds_0, kCall2_0, kCall2_1, kCall_0, kCall_1, kTup2_0, kTup2_1, kTup_0, kTup_1, kLst2_0, kLst2_1, kLst_0, kLst_1, kFCo_0, kFCo_1, kFCr_0, kFCr_1, kFCf_0, kFCf_1, kFC2_0, kFC2_1, kFC3_0, kFC3_1, kFC1_0, kFC1_1, kFC1_2, kFC_0, kFC_1, kSeq_0, kSeq_1, kSeq_2, kSeq_3, kSeq_4, kSeq_5, kDrop_0, kDrop_1, kRet_0, kRet_1, kIf_0, kIf_1, kIf_2, kTo_0, kTo_1, kNR_0, kNR_1, kNR_2, kNR_3, kNR_4, kNR_5, kAsg3_0, kAsg3_1, kAsg2_0, kAsg2_1, kAsg_0, kAsg_1, kGN_0, kGN_1, kGC_0, kGC_1, kUn2_0, kUn2_1, kUn_0, kUn_1, kMt4_0, kMt4_1, kMt3_0, kMt2_0, kMt2_1, kMt_0, kMt_1, kPut_0, kPut_1, kPut_2, kPut_3, kPut_4, kPut_5, kM12_0, kM12_1, kM11_0, kM11_1, kM1_0, kIsi3_0, kIsi3_1, kIsi2_0, kIsi2_1, kIsi_0, kIsi_1, kOSo_0, kSl4_0, kSl4_1, kSl3_0, kSl3_1, kSl2_0, kSl2_1, kSl_0, kSl_1, kNeg_0, kSX3_0, kSX3_1, kSX2_0, kSX2_1, kSX1_0, kSX0_0, kSX0_1, kSX_0, kSX_1, kAug3_0, kAug3_1, kAug2_0, kAug_0, kRes_0, kRes_1, kEnd2_0, kEnd2_1, kEnd_0, kEnd_1, kAny_0, kAny_1, kAny_2, kR1_0, kR2_0, kEn_0, kEn_1, kFor_0, kFor_1, kLc2_0, kLc2_1, kLc_0, kLc_1, kGG_0, kCh3_0, kCh3_1, kCh2_0, kCh2_1, kCh1_0, kCh1_1, kCh_0, kCh_1, kLRg_0, kLRh_0, kLRi_0, kMG_0, kDG2_0, kDG1_0, kDG1_1, kDG_0, kDG_1, kDI2_0, kDI2_1, kDI_0, kDI_1, kMP_0, kDP3_0, kDP3_1, kDP2_0, kDP2_1, kDP1_0, kDP1_1, kDP_0, kDP_1, kPar2_0, kPar2_1, kPar_0, gAdd, DL.gSub, gCmp, gLen, gMax, gMin, gInt, gList, gTuple, gApp, ix_l0, ix_l1, ix_l2, ix_t0, ix_t1, ix_t2, ix_t3, ix_tm2, ix_tm3, ix_tm4, gEq_int, gNe_int, eq_row_floor, eq_ring_floor, eq_floor_floor, eq_row_ring, eq_ring_ring, eq_floor_ring, eq_row_row, eq_ring_row, eq_floor_row, ne_row_floor, ne_ring_floor, ne_floor_floor, lim, ixN3_0, ixN3_1, ixN3_2, List.getElem?_cons_zero, List.getElem?_cons_succ, List.set_cons_zero, List.set_cons_succ, List.replicate_succ, List.replicate_zero, List.cons_append, List.nil_append, List.zipWith_cons_cons, List.zipWith_nil_left, List.zipWith_nil_right, List.length_cons, List.length_nil, Option.map_some, Option.map_none, Nat.reduceAdd, Nat.reduceSub, Nat.reduceLT, Nat.reduceLeDiff, Int.reduceAdd, Int.reduceLT, Int.reduceLE, Int.reduceNeg, Int.reduceSub, Int.reduceMul, Int.reduceEq, if_true, if_false, ite_true, ite_false, decide_true, decide_false, Bool.not_true, Bool.not_false, Bool.and_true, Bool.true_and, Bool.and_false, Bool.false_and, ↓reduceIte, n1], .inl ?_, _, rfl, rfl⟩
      rw [deedsTo_succ, deedsAt_some hk, List.map_append, at_pairs]
      simp only [wipeD, restD, allFz, eVar_e, eC_e, rd_fz, rd_ow, rd_bw, fr_fz, fr_ow, fr_bw, dFr_e, dOp2_e, dTst_e, dAnd_e, dOr_e, dNot_e, dIfE_e, dAndV_e, dOrV_e, dNotV_e, dYes_e, aNil_e, aCons_e, aFr_e, rds_nil, rds_cons, dCall_e, eTup_e, eLst_e, dsOf_nil, dsOf_fz, fCall_e, bSeq_e, bNext_e, bBreak_e, bCont_e, bRetN_e, bDrop_e, bRet_e, bIf_e, to_fz, to_ow, to_bw, notRf_e, bAsg_e, gNm_e, gsNil_e, gsCons_e, gTp_e, bUnp_e, dMt_e, held_ow, held_rf, putS_e, dM1_e, dIsi_e, oSome_e, oNo_e, dSl_e, dNeg_e, bSetIx_e, bAug_e, res_fz, res_ow, res_bw, runF_e, fin_nil, fin_nil1, fin_rf, fin_fz, iAny_e, iRange1_e, iRange2_e, iEnumD_e, dChain_e, dLRg1_e, dLRg2_e, heldM_ow, heldM_rf, eDict_e, dDGet_e, dDIn_e, bDPut_e, bPar_e, nc0, nc1, nc2, nc3, nc4, nc5, nc6, nc7, nc8, nc9, nc36, kVar_0, kVar_1, kVar_2, kRd_0, kRd_1, kRd_2, kFr_0, kFr_1, kDFr_0, kDFr_1, kZ_0, kZ_1, kOp3_0, kOp2_0, kOp2_1, kOp_0, kOp_1, kTst_0, kAnd_0, kAnd_1, kAnd_2, kOr_0, kOr_1, kOr_2, kNot_0, kNot_1, kIfE_0, kIfE_1, kIfE_2, kAndV_0, kAndV_1, kOrV_0, kOrV_1, kNotV_0, kAC2_0, kAC2_1, kAC_0, kAC_1, kAF_0, kAF_1, kRds_0, kCall2_0, kCall2_1, kCall_0, kCall_1, kTup2_0, kTup2_1, kTup_0, kTup_1, kLst2_0, kLst2_1, kLst_0, kLst_1, kFCo_0, kFCo_1, kFCr_0, kFCr_1, kFCf_0, kFCf_1, kFC2_0, kFC2_1, kFC3_0, kFC3_1, kFC1_0, kFC1_1, kFC1_2, kFC_0, kFC_1, kSeq_0, kSeq_1, kSeq_2, kSeq_3, kSeq_4, kSeq_5, kDrop_0, kDrop_1, kRet_0, kRet_1, kIf_0, kIf_1, kIf_2, kTo_0, kTo_1, kNR_0, kNR_1, kNR_2, kNR_3, kNR_4, kNR_5, kAsg3_0, kAsg3_1, kAsg2_0, kAsg2_1, kAsg_0, kAsg_1, kGN_0, kGN_1, kGC_0, kGC_1, kUn2_0, kUn2_1, kUn_0, kUn_1, kMt4_0, kMt4_1, kMt3_0, kMt2_0, kMt2_1, kMt_0, kMt_1, kPut_0, kPut_1, kPut_2, kPut_3, kPut_4, kPut_5, kM12_0, kM12_1, kM11_0, kM11_1, kM1_0, kIsi3_0, kIsi3_1, kIsi2_0, kIsi2_1, kIsi_0, kIsi_1, kOSo_0, kSl4_0, kSl4_1, kSl3_0, kSl3_1, kSl2_0, kSl2_1, kSl_0, kSl_1, kNeg_0, kSX3_0, kSX3_1, kSX2_0, kSX2_1, kSX1_0, kSX0_0, kSX0_1, kSX_0, kSX_1, kAug3_0, kAug3_1, kAug2_0, kAug_0, kRes_0, kRes_1, kEnd2_0, kEnd2_1, kEnd_0, kEnd_1, kAny_0, kAny_1, kAny_2, kR1_0, kR2_0, kEn_0, kEn_1, kFor_0, kFor_1, kLc2_0, kLc2_1, kLc_0, kLc_1, kGG_0, kCh3_0, kCh3_1, kCh2_0, kCh2_1, kCh1_0, kCh1_1, kCh_0, kCh_1, kLRg_0, kLRh_0, kLRi_0, kMG_0, kDG2_0, kDG1_0, kDG1_1, kDG_0, kDG_1, kDI2_0, kDI2_1, kDI_0, kDI_1, kMP_0, kDP3_0, kDP3_1, kDP2_0, kDP2_1, kDP1_0, kDP1_1, kDP_0, kDP_1, kPar2_0, kPar2_1, kPar_0, gAdd, DL.gSub, gCmp, gLen, gMax, gMin, gInt, gList, gTuple, gApp, ix_l0, ix_l1, ix_l2, ix_t0, ix_t1, ix_t2, ix_t3, ix_tm2, ix_tm3, ix_tm4, gEq_int, gNe_int, eq_row_floor, eq_ring_floor, eq_floor_floor, eq_row_ring, eq_ring_ring, eq_floor_ring, eq_row_row, eq_ring_row, eq_floor_row, ne_row_floor, ne_ring_floor, ne_floor_floor, lim, ixN3_0, ixN3_1, ixN3_2, List.getElem?_cons_zero, List.getElem?_cons_succ, List.set_cons_zero, List.set_cons_succ, List.replicate_succ, List.replicate_zero, List.cons_append, List.nil_append, List.zipWith_cons_cons, List.zipWith_nil_left, List.zipWith_nil_right, List.length_cons, List.length_nil, Option.map_some, Option.map_none, Nat.reduceAdd, Nat.reduceSub, Nat.reduceLT, Nat.reduceLeDiff, Int.reduceAdd, Int.reduceLT, Int.reduceLE, Int.reduceNeg, Int.reduceSub, Int.reduceMul, Int.reduceEq, if_true, if_false, ite_true, ite_false, decide_true, decide_false, Bool.not_true, Bool.not_false, Bool.and_true, Bool.true_and, Bool.and_false, Bool.false_and, ↓reduceIte, hd', sz]) (ρ := [.fz b.d, .fz (.tup (bk.map Ru.d)), .ow (.l []), .un, .un]) ⟨_, rfl, rfl⟩
  obtain ⟨ρ', hf, x, rfl, _⟩ := lp
  rw [rangeD_len] at hf
  have hr := range1_ok (fa := aFr (dCall gLen (aCons (eVar 1) aNil)) aNil) (n := bk.length) (ρ := [.fz b.d, .fz (.tup (bk.map Ru.d)), .ow (.l []), .un, .un]) (ρ1 := [.fz b.d, .fz (.tup (bk.map Ru.d)), .ow (.l []), .un, .un]) (by simp only [wipeD, restD, allFz, eVar_e, eC_e, rd_fz, rd_ow, rd_bw, fr_fz, fr_ow, fr_bw, dFr_e, dOp2_e, dTst_e, dAnd_e, dOr_e, dNot_e, dIfE_e, dAndV_e, dOrV_e, dNotV_e, dYes_e, aNil_e, aCons_e, aFr_e, rds_nil, rds_cons, dCall_e, eTup_e, eLst_e, dsOf_nil, dsOf_fz, fCall_e, bSeq_e, bNext_e, bBreak_e, bCont_e, bRetN_e, bDrop_e, bRet_e, bIf_e, to_fz, to_ow, to_bw, notRf_e, bAsg_e, gNm_e, gsNil_e, gsCons_e, gTp_e, bUnp_e, dMt_e, held_ow, held_rf, putS_e, dM1_e, dIsi_e, oSome_e, oNo_e, dSl_e, dNeg_e, bSetIx_e, bAug_e, res_fz, res_ow, res_bw, runF_e, fin_nil, fin_nil1, fin_rf, fin_fz, iAny_e, iRange1_e, iRange2_e, iEnumD_e, dChain_e, dLRg1_e, dLRg2_e, heldM_ow, heldM_rf, eDict_e, dDGet_e, dDIn_e, bDPut_e, bPar_e, nc0, nc1, nc2, nc3, nc4, nc5, nc6, nc7, nc8, nc9, nc36, kVar_0, kVar_1, kVar_2, kRd_0, kRd_1, kRd_2, kFr_0, kFr_1, kDFr_0, kDFr_1, kZ_0, kZ_1, kOp3_0, kOp2_0, kOp2_1, kOp_0, kOp_1, kTst_0, kAnd_0, kAnd_1, kAnd_2, kOr_0, kOr_1, kOr_2, kNot_0, kNot_1, kIfE_0, kIfE_1, kIfE_2, kAndV_0, kAndV_1, kOrV_0, kOrV_1, kNotV_0, kAC2_0, kAC2_1, kAC_0, kAC_1, kAF_0, kAF_1, kRds_0, kCall2_0, kCall2_1, kCall_0, kCall_1, kTup2_0, kTup2_1, kTup_0, kTup_1, kLst2_0, kLst2_1, kLst_0, kLst_1, kFCo_0, kFCo_1, kFCr_0, kFCr_1, kFCf_0, kFCf_1, kFC2_0, kFC2_1, kFC3_0, kFC3_1, kFC1_0, kFC1_1, kFC1_2, kFC_0, kFC_1, kSeq_0, kSeq_1, kSeq_2, kSeq_3, kSeq_4, kSeq_5, kDrop_0, kDrop_1, kRet_0, kRet_1, kIf_0, kIf_1, kIf_2, kTo_0, kTo_1, kNR_0, kNR_1, kNR_2, kNR_3, kNR_4, kNR_5, kAsg3_0, kAsg3_1, kAsg2_0, kAsg2_1, kAsg_0, kAsg_1, kGN_0, kGN_1, kGC_0, kGC_1, kUn2_0, kUn2_1, kUn_0, kUn_1, kMt4_0, kMt4_1, kMt3_0, kMt2_0, kMt2_1, kMt_0, kMt_1, kPut_0, kPut_1, kPut_2, kPut_3, kPut_4, kPut_5, kM12_0, kM12_1, kM11_0, kM11_1, kM1_0, kIsi3_0, kIsi3_1, kIsi2_0, kIsi2_1, kIsi_0, kIsi_1, kOSo_0, kSl4_0, kSl4_1, kSl3_0, kSl3_1, kSl2_0, kSl2_1, kSl_0, kSl_1, kNeg_0, kSX3_0, kSX3_1, kSX2_0, kSX2_1, kSX1_0, kSX0_0, kSX0_1, kSX_0, kSX_1, kAug3_0, kAug3_1, kAug2_0, kAug_0, kRes_0, kRes_1, kEnd2_0, kEnd2_1, kEnd_0, kEnd_1, kAny_0, kAny_1, kAny_2, kR1_0, kR2_0, kEn_0, kEn_1, kFor_0, kFor_1, kLc2_0, kLc2_1, kLc_0, kLc_1, kGG_0, kCh3_0, kCh3_1, kCh2_0, kCh2_1, kCh1_0, kCh1_1, kCh_0, kCh_1, kLRg_0, kLRh_0, kLRi_0, kMG_0, kDG2_0, kDG1_0, kDG1_1, kDG_0, kDG_1, kDI2_0, kDI2_1, kDI_0, kDI_1, kMP_0, kDP3_0, kDP3_1, kDP2_0, kDP2_1, kDP1_0, kDP1_1, kDP_0, kDP_1, kPar2_0, kPar2_1, kPar_0, gAdd, DL.gSub, gCmp, gLen, gMax, gMin, gInt, gList, gTuple, gApp, ix_l0, ix_l1, ix_l2, ix_t0, ix_t1, ix_t2, ix_t3, ix_tm2, ix_tm3, ix_tm4, gEq_int, gNe_int, eq_row_floor, eq_ring_floor, eq_floor_floor, eq_row_ring, eq_ring_ring, eq_floor_ring, eq_row_row, eq_ring_row, eq_floor_row, ne_row_floor, ne_ring_floor, ne_floor_floor, lim, ixN3_0, ixN3_1, ixN3_2, List.getElem?_cons_zero, List.getElem?_cons_succ, List.set_cons_zero, List.set_cons_succ, List.replicate_succ, List.replicate_zero, List.cons_append, List.nil_append, List.zipWith_cons_cons, List.zipWith_nil_left, List.zipWith_nil_right, List.length_cons, List.length_nil, Option.map_some, Option.map_none, Nat.reduceAdd, Nat.reduceSub, Nat.reduceLT, Nat.reduceLeDiff, Int.reduceAdd, Int.reduceLT, Int.reduceLE, Int.reduceNeg, Int.reduceSub, Int.reduceMul, Int.reduceEq, if_true, if_false, ite_true, ite_false, decide_true, decide_false, Bool.not_true, Bool.not_false, Bool.and_true, Bool.true_and, Bool.and_false, Bool.false_and, ↓reduceIte, List.length_map]) (by omega)
  have hF := bFor_eq hr hf
  simp only [wipeD, restD, allFz, eVar_e, eC_e, rd_fz, rd_ow, rd_bw, fr_fz, fr_ow, fr_bw, dFr_e, dOp2_e, dTst_e, dAnd_e, dOr_e, dNot_e, dIfE_e, dAndV_e, dOrV_e, dNotV_e, dYes_e, aNil_e, aCons_e, aFr_e, rds_nil, rds_cons, dCall_e, eTup_e, eLst_e, dsOf_nil, dsOf_fz, fCall_e, bSeq_e, bNext_e, bBreak_e, bCont_e, bRetN_e, bDrop_e, bRet_e, bIf_e, to_fz, to_ow, to_bw, notRf_e, bAsg_e, gNm_e, gsNil_e, gsCons_e, gTp_e, bUnp_e, dMt_e, held_ow, held_rf, putS_e, dM1_e, dIsi_e, oSome_e, oNo_e, dSl_e, dNeg_e, bSetIx_e, bAug_e, res_fz, res_ow, res_bw, runF_e, fin_nil, fin_nil1, fin_rf, fin_fz, iAny_e, iRange1_e, iRange2_e, iEnumD_e, dChain_e, dLRg1_e, dLRg2_e, heldM_ow, heldM_rf, eDict_e, dDGet_e, dDIn_e, bDPut_e, bPar_e, nc0, nc1, nc2, nc3, nc4, nc5, nc6, nc7, nc8, nc9, nc36, kVar_0, kVar_1, kVar_2, kRd_0, kRd_1, kRd_2, kFr_0, kFr_1, kDFr_0, kDFr_1, kZ_0, kZ_1, kOp3_0, kOp2_0, kOp2_1, kOp_0, kOp_1, kTst_0, kAnd_0, kAnd_1, kAnd_2, kOr_0, kOr_1, kOr_2, kNot_0, kNot_1, kIfE_0, kIfE_1, kIfE_2, kAndV_0, kAndV_1, kOrV_0, kOrV_1, kNotV_0, kAC2_0, kAC2_1, kAC_0, kAC_1, kAF_0, kAF_1, kRds_0, kCall2_0, kCall2_1, kCall_0, kCall_1, kTup2_0, kTup2_1, kTup_0, kTup_1, kLst2_0, kLst2_1, kLst_0, kLst_1, kFCo_0, kFCo_1, kFCr_0, kFCr_1, kFCf_0, kFCf_1, kFC2_0, kFC2_1, kFC3_0, kFC3_1, kFC1_0, kFC1_1, kFC1_2, kFC_0, kFC_1, kSeq_0, kSeq_1, kSeq_2, kSeq_3, kSeq_4, kSeq_5, kDrop_0, kDrop_1, kRet_0, kRet_1, kIf_0, kIf_1, kIf_2, kTo_0, kTo_1, kNR_0, kNR_1, kNR_2, kNR_3, kNR_4, kNR_5, kAsg3_0, kAsg3_1, kAsg2_0, kAsg2_1, kAsg_0, kAsg_1, kGN_0, kGN_1, kGC_0, kGC_1, kUn2_0, kUn2_1, kUn_0, kUn_1, kMt4_0, kMt4_1, kMt3_0, kMt2_0, kMt2_1, kMt_0, kMt_1, kPut_0, kPut_1, kPut_2, kPut_3, kPut_4, kPut_5, kM12_0, kM12_1, kM11_0, kM11_1, kM1_0, kIsi3_0, kIsi3_1, kIsi2_0, kIsi2_1, kIsi_0, kIsi_1, kOSo_0, kSl4_0, kSl4_1, kSl3_0, kSl3_1, kSl2_0, kSl2_1, kSl_0, kSl_1, kNeg_0, kSX3_0, kSX3_1, kSX2_0, kSX2_1, kSX1_0, kSX0_0, kSX0_1, kSX_0, kSX_1, kAug3_0, kAug3_1, kAug2_0, kAug_0, kRes_0, kRes_1, kEnd2_0, kEnd2_1, kEnd_0, kEnd_1, kAny_0, kAny_1, kAny_2, kR1_0, kR2_0, kEn_0, kEn_1, kFor_0, kFor_1, kLc2_0, kLc2_1, kLc_0, kLc_1, kGG_0, kCh3_0, kCh3_1, kCh2_0, kCh2_1, kCh1_0, kCh1_1, kCh_0, kCh_1, kLRg_0, kLRh_0, kLRi_0, kMG_0, kDG2_0, kDG1_0, kDG1_1, kDG_0, kDG_1, kDI2_0, kDI2_1, kDI_0, kDI_1, kMP_0, kDP3_0, kDP3_1, kDP2_0, kDP2_1, kDP1_0, kDP1_1, kDP_0, kDP_1, kPar2_0, kPar2_1, kPar_0, gAdd, DL.gSub, gCmp, gLen, gMax, gMin, gInt, gList, gTuple, gApp, ix_l0, ix_l1, ix_l2, ix_t0, ix_t1, ix_t2, ix_t3, ix_tm2, ix_tm3, ix_tm4, gEq_int, gNe_int, eq_row_floor, eq_ring_floor, eq_floor_floor, eq_row_ring, eq_ring_ring, eq_floor_ring, eq_row_row, eq_ring_row, eq_floor_row, ne_row_floor, ne_ring_floor, ne_floor_floor, lim, ixN3_0, ixN3_1, ixN3_2, List.getElem?_cons_zero, List.getElem?_cons_succ, List.set_cons_zero, List.set_cons_succ, List.replicate_succ, List.replicate_zero, List.cons_append, List.nil_append, List.zipWith_cons_cons, List.zipWith_nil_left, List.zipWith_nil_right, List.length_cons, List.length_nil, Option.map_some, Option.map_none, Nat.reduceAdd, Nat.reduceSub, Nat.reduceLT, Nat.reduceLeDiff, Int.reduceAdd, Int.reduceLT, Int.reduceLE, Int.reduceNeg, Int.reduceSub, Int.reduceMul, Int.reduceEq, if_true, if_false, ite_true, ite_false, decide_true, decide_false, Bool.not_true, Bool.not_false, Bool.and_true, Bool.true_and, Bool.and_false, Bool.false_and, ↓reduceIte, F__law_deeds, d__law_deeds, hF]
theorem all_deeds_ok {b : Bd} {bk : List Ru} (hb : b.ok 36) (h : BkOk b bk) : F_all_deeds [.fz b.d, .fz (.tup (bk.map Ru.d))] = some (.fz (.tup ((deedsTo b bk bk.length).map pairD)), [.fz b.d, .fz (.tup (bk.map Ru.d))]) := by
  obtain ⟨h1, h2, h3, h4⟩ := h
  let ρ0 : En := [.fz b.d, .fz (.tup (bk.map Ru.d)), .un, .un, .un]
  have dl := deedsTo_len hb h4 bk.length
  have el : (enumD (bk.map Ru.d)).length = bk.length := by simp [enumD]
  have e1 : iEnumD (aFr (eVar 1) aNil) ρ0 = some (enumD (bk.map Ru.d), ρ0) := by simp only [wipeD, restD, allFz, eVar_e, eC_e, rd_fz, rd_ow, rd_bw, fr_fz, fr_ow, fr_bw, dFr_e, dOp2_e, dTst_e, dAnd_e, dOr_e, dNot_e, dIfE_e, dAndV_e, dOrV_e, dNotV_e, dYes_e, aNil_e, aCons_e, aFr_e, rds_nil, rds_cons, dCall_e, eTup_e, eLst_e, dsOf_nil, dsOf_fz, fCall_e, bSeq_e, bNext_e, bBreak_e, bCont_e, bRetN_e, bDrop_e, bRet_e, bIf_e, to_fz, to_ow, to_bw, notRf_e, bAsg_e, gNm_e, gsNil_e, gsCons_e, gTp_e, bUnp_e, dMt_e, held_ow, held_rf, putS_e, dM1_e, dIsi_e, oSome_e, oNo_e, dSl_e, dNeg_e, bSetIx_e, bAug_e, res_fz, res_ow, res_bw, runF_e, fin_nil, fin_nil1, fin_rf, fin_fz, iAny_e, iRange1_e, iRange2_e, iEnumD_e, dChain_e, dLRg1_e, dLRg2_e, heldM_ow, heldM_rf, eDict_e, dDGet_e, dDIn_e, bDPut_e, bPar_e, nc0, nc1, nc2, nc3, nc4, nc5, nc6, nc7, nc8, nc9, nc36, kVar_0, kVar_1, kVar_2, kRd_0, kRd_1, kRd_2, kFr_0, kFr_1, kDFr_0, kDFr_1, kZ_0, kZ_1, kOp3_0, kOp2_0, kOp2_1, kOp_0, kOp_1, kTst_0, kAnd_0, kAnd_1, kAnd_2, kOr_0, kOr_1, kOr_2, kNot_0, kNot_1, kIfE_0, kIfE_1, kIfE_2, kAndV_0, kAndV_1, kOrV_0, kOrV_1, kNotV_0, kAC2_0, kAC2_1, kAC_0, kAC_1, kAF_0, kAF_1, kRds_0, kCall2_0, kCall2_1, kCall_0, kCall_1, kTup2_0, kTup2_1, kTup_0, kTup_1, kLst2_0, kLst2_1, kLst_0, kLst_1, kFCo_0, kFCo_1, kFCr_0, kFCr_1, kFCf_0, kFCf_1, kFC2_0, kFC2_1, kFC3_0, kFC3_1, kFC1_0, kFC1_1, kFC1_2, kFC_0, kFC_1, kSeq_0, kSeq_1, kSeq_2, kSeq_3, kSeq_4, kSeq_5, kDrop_0, kDrop_1, kRet_0, kRet_1, kIf_0, kIf_1, kIf_2, kTo_0, kTo_1, kNR_0, kNR_1, kNR_2, kNR_3, kNR_4, kNR_5, kAsg3_0, kAsg3_1, kAsg2_0, kAsg2_1, kAsg_0, kAsg_1, kGN_0, kGN_1, kGC_0, kGC_1, kUn2_0, kUn2_1, kUn_0, kUn_1, kMt4_0, kMt4_1, kMt3_0, kMt2_0, kMt2_1, kMt_0, kMt_1, kPut_0, kPut_1, kPut_2, kPut_3, kPut_4, kPut_5, kM12_0, kM12_1, kM11_0, kM11_1, kM1_0, kIsi3_0, kIsi3_1, kIsi2_0, kIsi2_1, kIsi_0, kIsi_1, kOSo_0, kSl4_0, kSl4_1, kSl3_0, kSl3_1, kSl2_0, kSl2_1, kSl_0, kSl_1, kNeg_0, kSX3_0, kSX3_1, kSX2_0, kSX2_1, kSX1_0, kSX0_0, kSX0_1, kSX_0, kSX_1, kAug3_0, kAug3_1, kAug2_0, kAug_0, kRes_0, kRes_1, kEnd2_0, kEnd2_1, kEnd_0, kEnd_1, kAny_0, kAny_1, kAny_2, kR1_0, kR2_0, kEn_0, kEn_1, kFor_0, kFor_1, kLc2_0, kLc2_1, kLc_0, kLc_1, kGG_0, kCh3_0, kCh3_1, kCh2_0, kCh2_1, kCh1_0, kCh1_1, kCh_0, kCh_1, kLRg_0, kLRh_0, kLRi_0, kMG_0, kDG2_0, kDG1_0, kDG1_1, kDG_0, kDG_1, kDI2_0, kDI2_1, kDI_0, kDI_1, kMP_0, kDP3_0, kDP3_1, kDP2_0, kDP2_1, kDP1_0, kDP1_1, kDP_0, kDP_1, kPar2_0, kPar2_1, kPar_0, gAdd, DL.gSub, gCmp, gLen, gMax, gMin, gInt, gList, gTuple, gApp, ix_l0, ix_l1, ix_l2, ix_t0, ix_t1, ix_t2, ix_t3, ix_tm2, ix_tm3, ix_tm4, gEq_int, gNe_int, eq_row_floor, eq_ring_floor, eq_floor_floor, eq_row_ring, eq_ring_ring, eq_floor_ring, eq_row_row, eq_ring_row, eq_floor_row, ne_row_floor, ne_ring_floor, ne_floor_floor, lim, ixN3_0, ixN3_1, ixN3_2, List.getElem?_cons_zero, List.getElem?_cons_succ, List.set_cons_zero, List.set_cons_succ, List.replicate_succ, List.replicate_zero, List.cons_append, List.nil_append, List.zipWith_cons_cons, List.zipWith_nil_left, List.zipWith_nil_right, List.length_cons, List.length_nil, Option.map_some, Option.map_none, Nat.reduceAdd, Nat.reduceSub, Nat.reduceLT, Nat.reduceLeDiff, Int.reduceAdd, Int.reduceLT, Int.reduceLE, Int.reduceNeg, Int.reduceSub, Int.reduceMul, Int.reduceEq, if_true, if_false, ite_true, ite_false, decide_true, decide_false, Bool.not_true, Bool.not_false, Bool.and_true, Bool.true_and, Bool.and_false, Bool.false_and, ↓reduceIte, ρ0]
  have e2 := lc2L_mapI (h := gTp 2 (gsCons (gNm 2) (gsCons (gNm 3) gsNil))) (h1 := gNm 4) (fi1 := iAny (fCall F_first_cells (aFr (eVar 0) (aFr (eVar 3) aNil)))) (fe := eTup (aFr (eVar 2) (aFr (eVar 4) aNil))) (vs := [2, 3, 4]) (vs1 := [4]) (ρ := ρ0) (fun i => (deedsAt b bk i).map pairD) (enumD (bk.map Ru.d)) 0 [] (by
      rw [el, deeds_flat, List.length_map]
      have : bk.length * 1369 ≤ 4 * 1369 := Nat.mul_le_mul_right _ h2
      show 0 + _ ≤ _
      omega) (fun i d hd => by
      obtain ⟨z, hz, rfl⟩ := enumD_at hd
      rw [List.getElem?_map] at hz
      cases hk : bk[i]? with
      | none => rw [hk] at hz; cases hz
      | some r =>
        rw [hk] at hz
        cases hz
        have hf := h4 r (List.mem_of_getElem? hk)
        have fc := first_cells_ok hb hf
        refine ⟨[.fz b.d, .fz (.tup (bk.map Ru.d)), .fz (.int (i : Nat)), .fz r.d, .un], (cellsAt b r).map dN, [.fz b.d, .fz (.tup (bk.map Ru.d)), .fz (.int (i : Nat)), .fz r.d, .un], (fun d => .tup [.int (i : Nat), d]), by simp only [wipeD, restD, allFz, eVar_e, eC_e, rd_fz, rd_ow, rd_bw, fr_fz, fr_ow, fr_bw, dFr_e, dOp2_e, dTst_e, dAnd_e, dOr_e, dNot_e, dIfE_e, dAndV_e, dOrV_e, dNotV_e, dYes_e, aNil_e, aCons_e, aFr_e, rds_nil, rds_cons, dCall_e, eTup_e, eLst_e, dsOf_nil, dsOf_fz, fCall_e, bSeq_e, bNext_e, bBreak_e, bCont_e, bRetN_e, bDrop_e, bRet_e, bIf_e, to_fz, to_ow, to_bw, notRf_e, bAsg_e, gNm_e, gsNil_e, gsCons_e, gTp_e, bUnp_e, dMt_e, held_ow, held_rf, putS_e, dM1_e, dIsi_e, oSome_e, oNo_e, dSl_e, dNeg_e, bSetIx_e, bAug_e, res_fz, res_ow, res_bw, runF_e, fin_nil, fin_nil1, fin_rf, fin_fz, iAny_e, iRange1_e, iRange2_e, iEnumD_e, dChain_e, dLRg1_e, dLRg2_e, heldM_ow, heldM_rf, eDict_e, dDGet_e, dDIn_e, bDPut_e, bPar_e, nc0, nc1, nc2, nc3, nc4, nc5, nc6, nc7, nc8, nc9, nc36, kVar_0, kVar_1, kVar_2, kRd_0, kRd_1, kRd_2, kFr_0, kFr_1, kDFr_0, kDFr_1, kZ_0, kZ_1, kOp3_0, kOp2_0, kOp2_1, kOp_0, kOp_1, kTst_0, kAnd_0, kAnd_1, kAnd_2, kOr_0, kOr_1, kOr_2, kNot_0, kNot_1, kIfE_0, kIfE_1, kIfE_2, kAndV_0, kAndV_1, kOrV_0, kOrV_1, kNotV_0, kAC2_0, kAC2_1, kAC_0, kAC_1, kAF_0, kAF_1, kRds_0, kCall2_0, kCall2_1, kCall_0, kCall_1, kTup2_0, kTup2_1, kTup_0, kTup_1, kLst2_0, kLst2_1, kLst_0, kLst_1, kFCo_0, kFCo_1, kFCr_0, kFCr_1, kFCf_0, kFCf_1, kFC2_0, kFC2_1, kFC3_0, kFC3_1, kFC1_0, kFC1_1, kFC1_2, kFC_0, kFC_1, kSeq_0, kSeq_1, kSeq_2, kSeq_3, kSeq_4, kSeq_5, kDrop_0, kDrop_1, kRet_0, kRet_1, kIf_0, kIf_1, kIf_2, kTo_0, kTo_1, kNR_0, kNR_1, kNR_2, kNR_3, kNR_4, kNR_5, kAsg3_0, kAsg3_1, kAsg2_0, kAsg2_1, kAsg_0, kAsg_1, kGN_0, kGN_1, kGC_0, kGC_1, kUn2_0, kUn2_1, kUn_0, kUn_1, kMt4_0, kMt4_1, kMt3_0, kMt2_0, kMt2_1, kMt_0, kMt_1, kPut_0, kPut_1, kPut_2, kPut_3, kPut_4, kPut_5, kM12_0, kM12_1, kM11_0, kM11_1, kM1_0, kIsi3_0, kIsi3_1, kIsi2_0, kIsi2_1, kIsi_0, kIsi_1, kOSo_0, kSl4_0, kSl4_1, kSl3_0, kSl3_1, kSl2_0, kSl2_1, kSl_0, kSl_1, kNeg_0, kSX3_0, kSX3_1, kSX2_0, kSX2_1, kSX1_0, kSX0_0, kSX0_1, kSX_0, kSX_1, kAug3_0, kAug3_1, kAug2_0, kAug_0, kRes_0, kRes_1, kEnd2_0, kEnd2_1, kEnd_0, kEnd_1, kAny_0, kAny_1, kAny_2, kR1_0, kR2_0, kEn_0, kEn_1, kFor_0, kFor_1, kLc2_0, kLc2_1, kLc_0, kLc_1, kGG_0, kCh3_0, kCh3_1, kCh2_0, kCh2_1, kCh1_0, kCh1_1, kCh_0, kCh_1, kLRg_0, kLRh_0, kLRi_0, kMG_0, kDG2_0, kDG1_0, kDG1_1, kDG_0, kDG_1, kDI2_0, kDI2_1, kDI_0, kDI_1, kMP_0, kDP3_0, kDP3_1, kDP2_0, kDP2_1, kDP1_0, kDP1_1, kDP_0, kDP_1, kPar2_0, kPar2_1, kPar_0, gAdd, DL.gSub, gCmp, gLen, gMax, gMin, gInt, gList, gTuple, gApp, ix_l0, ix_l1, ix_l2, ix_t0, ix_t1, ix_t2, ix_t3, ix_tm2, ix_tm3, ix_tm4, gEq_int, gNe_int, eq_row_floor, eq_ring_floor, eq_floor_floor, eq_row_ring, eq_ring_ring, eq_floor_ring, eq_row_row, eq_ring_row, eq_floor_row, ne_row_floor, ne_ring_floor, ne_floor_floor, lim, ixN3_0, ixN3_1, ixN3_2, List.getElem?_cons_zero, List.getElem?_cons_succ, List.set_cons_zero, List.set_cons_succ, List.replicate_succ, List.replicate_zero, List.cons_append, List.nil_append, List.zipWith_cons_cons, List.zipWith_nil_left, List.zipWith_nil_right, List.length_cons, List.length_nil, Option.map_some, Option.map_none, Nat.reduceAdd, Nat.reduceSub, Nat.reduceLT, Nat.reduceLeDiff, Int.reduceAdd, Int.reduceLT, Int.reduceLE, Int.reduceNeg, Int.reduceSub, Int.reduceMul, Int.reduceEq, if_true, if_false, ite_true, ite_false, decide_true, decide_false, Bool.not_true, Bool.not_false, Bool.and_true, Bool.true_and, Bool.and_false, Bool.false_and, ↓reduceIte, ρ0], by simp only [wipeD, restD, allFz, eVar_e, eC_e, rd_fz, rd_ow, rd_bw, fr_fz, fr_ow, fr_bw, dFr_e, dOp2_e, dTst_e, dAnd_e, dOr_e, dNot_e, dIfE_e, dAndV_e, dOrV_e, dNotV_e, dYes_e, aNil_e, aCons_e, aFr_e, rds_nil, rds_cons, dCall_e, eTup_e, eLst_e, dsOf_nil, dsOf_fz, fCall_e, bSeq_e, bNext_e, bBreak_e, bCont_e, bRetN_e, bDrop_e, bRet_e, bIf_e, to_fz, to_ow, to_bw, notRf_e, bAsg_e, gNm_e, gsNil_e, gsCons_e, gTp_e, bUnp_e, dMt_e, held_ow, held_rf, putS_e, dM1_e, dIsi_e, oSome_e, oNo_e, dSl_e, dNeg_e, bSetIx_e, bAug_e, res_fz, res_ow, res_bw, runF_e, fin_nil, fin_nil1, fin_rf, fin_fz, iAny_e, iRange1_e, iRange2_e, iEnumD_e, dChain_e, dLRg1_e, dLRg2_e, heldM_ow, heldM_rf, eDict_e, dDGet_e, dDIn_e, bDPut_e, bPar_e, nc0, nc1, nc2, nc3, nc4, nc5, nc6, nc7, nc8, nc9, nc36, kVar_0, kVar_1, kVar_2, kRd_0, kRd_1, kRd_2, kFr_0, kFr_1, kDFr_0, kDFr_1, kZ_0, kZ_1, kOp3_0, kOp2_0, kOp2_1, kOp_0, kOp_1, kTst_0, kAnd_0, kAnd_1, kAnd_2, kOr_0, kOr_1, kOr_2, kNot_0, kNot_1, kIfE_0, kIfE_1, kIfE_2, kAndV_0, kAndV_1, kOrV_0, kOrV_1, kNotV_0, kAC2_0, kAC2_1, kAC_0, kAC_1, kAF_0, kAF_1, kRds_0, kCall2_0, kCall2_1, kCall_0, kCall_1, kTup2_0, kTup2_1, kTup_0, kTup_1, kLst2_0, kLst2_1, kLst_0, kLst_1, kFCo_0, kFCo_1, kFCr_0, kFCr_1, kFCf_0, kFCf_1, kFC2_0, kFC2_1, kFC3_0, kFC3_1, kFC1_0, kFC1_1, kFC1_2, kFC_0, kFC_1, kSeq_0, kSeq_1, kSeq_2, kSeq_3, kSeq_4, kSeq_5, kDrop_0, kDrop_1, kRet_0, kRet_1, kIf_0, kIf_1, kIf_2, kTo_0, kTo_1, kNR_0, kNR_1, kNR_2, kNR_3, kNR_4, kNR_5, kAsg3_0, kAsg3_1, kAsg2_0, kAsg2_1, kAsg_0, kAsg_1, kGN_0, kGN_1, kGC_0, kGC_1, kUn2_0, kUn2_1, kUn_0, kUn_1, kMt4_0, kMt4_1, kMt3_0, kMt2_0, kMt2_1, kMt_0, kMt_1, kPut_0, kPut_1, kPut_2, kPut_3, kPut_4, kPut_5, kM12_0, kM12_1, kM11_0, kM11_1, kM1_0, kIsi3_0, kIsi3_1, kIsi2_0, kIsi2_1, kIsi_0, kIsi_1, kOSo_0, kSl4_0, kSl4_1, kSl3_0, kSl3_1, kSl2_0, kSl2_1, kSl_0, kSl_1, kNeg_0, kSX3_0, kSX3_1, kSX2_0, kSX2_1, kSX1_0, kSX0_0, kSX0_1, kSX_0, kSX_1, kAug3_0, kAug3_1, kAug2_0, kAug_0, kRes_0, kRes_1, kEnd2_0, kEnd2_1, kEnd_0, kEnd_1, kAny_0, kAny_1, kAny_2, kR1_0, kR2_0, kEn_0, kEn_1, kFor_0, kFor_1, kLc2_0, kLc2_1, kLc_0, kLc_1, kGG_0, kCh3_0, kCh3_1, kCh2_0, kCh2_1, kCh1_0, kCh1_1, kCh_0, kCh_1, kLRg_0, kLRh_0, kLRi_0, kMG_0, kDG2_0, kDG1_0, kDG1_1, kDG_0, kDG_1, kDI2_0, kDI2_1, kDI_0, kDI_1, kMP_0, kDP3_0, kDP3_1, kDP2_0, kDP2_1, kDP1_0, kDP1_1, kDP_0, kDP_1, kPar2_0, kPar2_1, kPar_0, gAdd, DL.gSub, gCmp, gLen, gMax, gMin, gInt, gList, gTuple, gApp, ix_l0, ix_l1, ix_l2, ix_t0, ix_t1, ix_t2, ix_t3, ix_tm2, ix_tm3, ix_tm4, gEq_int, gNe_int, eq_row_floor, eq_ring_floor, eq_floor_floor, eq_row_ring, eq_ring_ring, eq_floor_ring, eq_row_row, eq_ring_row, eq_floor_row, ne_row_floor, ne_ring_floor, ne_floor_floor, lim, ixN3_0, ixN3_1, ixN3_2, List.getElem?_cons_zero, List.getElem?_cons_succ, List.set_cons_zero, List.set_cons_succ, List.replicate_succ, List.replicate_zero, List.cons_append, List.nil_append, List.zipWith_cons_cons, List.zipWith_nil_left, List.zipWith_nil_right, List.length_cons, List.length_nil, Option.map_some, Option.map_none, Nat.reduceAdd, Nat.reduceSub, Nat.reduceLT, Nat.reduceLeDiff, Int.reduceAdd, Int.reduceLT, Int.reduceLE, Int.reduceNeg, Int.reduceSub, Int.reduceMul, Int.reduceEq, if_true, if_false, ite_true, ite_false, decide_true, decide_false, Bool.not_true, Bool.not_false, Bool.and_true, Bool.true_and, Bool.and_false, Bool.false_and, ↓reduceIte, fc], ?_, fun y hy => ?_, rfl⟩
        · rw [Nat.zero_add]
          show (deedsAt b bk i).map pairD = _
          rw [deedsAt_some hk, at_pairs]
        · obtain ⟨c, hc, rfl⟩ := List.mem_map.mp hy
          refine ⟨[.fz b.d, .fz (.tup (bk.map Ru.d)), .fz (.int (i : Nat)), .fz r.d, .fz (dN c)], [.fz b.d, .fz (.tup (bk.map Ru.d)), .fz (.int (i : Nat)), .fz r.d, .fz (dN c)], rfl, ?_, rfl⟩
          simp only [wipeD, restD, allFz, eVar_e, eC_e, rd_fz, rd_ow, rd_bw, fr_fz, fr_ow, fr_bw, dFr_e, dOp2_e, dTst_e, dAnd_e, dOr_e, dNot_e, dIfE_e, dAndV_e, dOrV_e, dNotV_e, dYes_e, aNil_e, aCons_e, aFr_e, rds_nil, rds_cons, dCall_e, eTup_e, eLst_e, dsOf_nil, dsOf_fz, fCall_e, bSeq_e, bNext_e, bBreak_e, bCont_e, bRetN_e, bDrop_e, bRet_e, bIf_e, to_fz, to_ow, to_bw, notRf_e, bAsg_e, gNm_e, gsNil_e, gsCons_e, gTp_e, bUnp_e, dMt_e, held_ow, held_rf, putS_e, dM1_e, dIsi_e, oSome_e, oNo_e, dSl_e, dNeg_e, bSetIx_e, bAug_e, res_fz, res_ow, res_bw, runF_e, fin_nil, fin_nil1, fin_rf, fin_fz, iAny_e, iRange1_e, iRange2_e, iEnumD_e, dChain_e, dLRg1_e, dLRg2_e, heldM_ow, heldM_rf, eDict_e, dDGet_e, dDIn_e, bDPut_e, bPar_e, nc0, nc1, nc2, nc3, nc4, nc5, nc6, nc7, nc8, nc9, nc36, kVar_0, kVar_1, kVar_2, kRd_0, kRd_1, kRd_2, kFr_0, kFr_1, kDFr_0, kDFr_1, kZ_0, kZ_1, kOp3_0, kOp2_0, kOp2_1, kOp_0, kOp_1, kTst_0, kAnd_0, kAnd_1, kAnd_2, kOr_0, kOr_1, kOr_2, kNot_0, kNot_1, kIfE_0, kIfE_1, kIfE_2, kAndV_0, kAndV_1, kOrV_0, kOrV_1, kNotV_0, kAC2_0, kAC2_1, kAC_0, kAC_1, kAF_0, kAF_1, kRds_0, kCall2_0, kCall2_1, kCall_0, kCall_1, kTup2_0, kTup2_1, kTup_0, kTup_1, kLst2_0, kLst2_1, kLst_0, kLst_1, kFCo_0, kFCo_1, kFCr_0, kFCr_1, kFCf_0, kFCf_1, kFC2_0, kFC2_1, kFC3_0, kFC3_1, kFC1_0, kFC1_1, kFC1_2, kFC_0, kFC_1, kSeq_0, kSeq_1, kSeq_2, kSeq_3, kSeq_4, kSeq_5, kDrop_0, kDrop_1, kRet_0, kRet_1, kIf_0, kIf_1, kIf_2, kTo_0, kTo_1, kNR_0, kNR_1, kNR_2, kNR_3, kNR_4, kNR_5, kAsg3_0, kAsg3_1, kAsg2_0, kAsg2_1, kAsg_0, kAsg_1, kGN_0, kGN_1, kGC_0, kGC_1, kUn2_0, kUn2_1, kUn_0, kUn_1, kMt4_0, kMt4_1, kMt3_0, kMt2_0, kMt2_1, kMt_0, kMt_1, kPut_0, kPut_1, kPut_2, kPut_3, kPut_4, kPut_5, kM12_0, kM12_1, kM11_0, kM11_1, kM1_0, kIsi3_0, kIsi3_1, kIsi2_0, kIsi2_1, kIsi_0, kIsi_1, kOSo_0, kSl4_0, kSl4_1, kSl3_0, kSl3_1, kSl2_0, kSl2_1, kSl_0, kSl_1, kNeg_0, kSX3_0, kSX3_1, kSX2_0, kSX2_1, kSX1_0, kSX0_0, kSX0_1, kSX_0, kSX_1, kAug3_0, kAug3_1, kAug2_0, kAug_0, kRes_0, kRes_1, kEnd2_0, kEnd2_1, kEnd_0, kEnd_1, kAny_0, kAny_1, kAny_2, kR1_0, kR2_0, kEn_0, kEn_1, kFor_0, kFor_1, kLc2_0, kLc2_1, kLc_0, kLc_1, kGG_0, kCh3_0, kCh3_1, kCh2_0, kCh2_1, kCh1_0, kCh1_1, kCh_0, kCh_1, kLRg_0, kLRh_0, kLRi_0, kMG_0, kDG2_0, kDG1_0, kDG1_1, kDG_0, kDG_1, kDI2_0, kDI2_1, kDI_0, kDI_1, kMP_0, kDP3_0, kDP3_1, kDP2_0, kDP2_1, kDP1_0, kDP1_1, kDP_0, kDP_1, kPar2_0, kPar2_1, kPar_0, gAdd, DL.gSub, gCmp, gLen, gMax, gMin, gInt, gList, gTuple, gApp, ix_l0, ix_l1, ix_l2, ix_t0, ix_t1, ix_t2, ix_t3, ix_tm2, ix_tm3, ix_tm4, gEq_int, gNe_int, eq_row_floor, eq_ring_floor, eq_floor_floor, eq_row_ring, eq_ring_ring, eq_floor_ring, eq_row_row, eq_ring_row, eq_floor_row, ne_row_floor, ne_ring_floor, ne_floor_floor, lim, ixN3_0, ixN3_1, ixN3_2, List.getElem?_cons_zero, List.getElem?_cons_succ, List.set_cons_zero, List.set_cons_succ, List.replicate_succ, List.replicate_zero, List.cons_append, List.nil_append, List.zipWith_cons_cons, List.zipWith_nil_left, List.zipWith_nil_right, List.length_cons, List.length_nil, Option.map_some, Option.map_none, Nat.reduceAdd, Nat.reduceSub, Nat.reduceLT, Nat.reduceLeDiff, Int.reduceAdd, Int.reduceLT, Int.reduceLE, Int.reduceNeg, Int.reduceSub, Int.reduceMul, Int.reduceEq, if_true, if_false, ite_true, ite_false, decide_true, decide_false, Bool.not_true, Bool.not_false, Bool.and_true, Bool.true_and, Bool.and_false, Bool.false_and, ↓reduceIte])
  have e3 := dLc2_eq e1 e2
  rw [List.nil_append, el, deeds_flat] at e3
  have e3' : dLc2 (iEnumD (aFr (eVar 1) aNil)) (gTp 2 (gsCons (gNm 2) (gsCons (gNm 3) gsNil))) dYes (iAny (fCall F_first_cells (aFr (eVar 0) (aFr (eVar 3) aNil)))) (gNm 4) dYes (eTup (aFr (eVar 2) (aFr (eVar 4) aNil))) [2, 3, 4] [4] [.fz b.d, .fz (.tup (bk.map Ru.d)), .un, .un, .un] = some (.ow (.l ((deedsTo b bk bk.length).map pairD)), [.fz b.d, .fz (.tup (bk.map Ru.d)), .un, .un, .un]) := e3
  simp only [wipeD, restD, allFz, eVar_e, eC_e, rd_fz, rd_ow, rd_bw, fr_fz, fr_ow, fr_bw, dFr_e, dOp2_e, dTst_e, dAnd_e, dOr_e, dNot_e, dIfE_e, dAndV_e, dOrV_e, dNotV_e, dYes_e, aNil_e, aCons_e, aFr_e, rds_nil, rds_cons, dCall_e, eTup_e, eLst_e, dsOf_nil, dsOf_fz, fCall_e, bSeq_e, bNext_e, bBreak_e, bCont_e, bRetN_e, bDrop_e, bRet_e, bIf_e, to_fz, to_ow, to_bw, notRf_e, bAsg_e, gNm_e, gsNil_e, gsCons_e, gTp_e, bUnp_e, dMt_e, held_ow, held_rf, putS_e, dM1_e, dIsi_e, oSome_e, oNo_e, dSl_e, dNeg_e, bSetIx_e, bAug_e, res_fz, res_ow, res_bw, runF_e, fin_nil, fin_nil1, fin_rf, fin_fz, iAny_e, iRange1_e, iRange2_e, iEnumD_e, dChain_e, dLRg1_e, dLRg2_e, heldM_ow, heldM_rf, eDict_e, dDGet_e, dDIn_e, bDPut_e, bPar_e, nc0, nc1, nc2, nc3, nc4, nc5, nc6, nc7, nc8, nc9, nc36, kVar_0, kVar_1, kVar_2, kRd_0, kRd_1, kRd_2, kFr_0, kFr_1, kDFr_0, kDFr_1, kZ_0, kZ_1, kOp3_0, kOp2_0, kOp2_1, kOp_0, kOp_1, kTst_0, kAnd_0, kAnd_1, kAnd_2, kOr_0, kOr_1, kOr_2, kNot_0, kNot_1, kIfE_0, kIfE_1, kIfE_2, kAndV_0, kAndV_1, kOrV_0, kOrV_1, kNotV_0, kAC2_0, kAC2_1, kAC_0, kAC_1, kAF_0, kAF_1, kRds_0, kCall2_0, kCall2_1, kCall_0, kCall_1, kTup2_0, kTup2_1, kTup_0, kTup_1, kLst2_0, kLst2_1, kLst_0, kLst_1, kFCo_0, kFCo_1, kFCr_0, kFCr_1, kFCf_0, kFCf_1, kFC2_0, kFC2_1, kFC3_0, kFC3_1, kFC1_0, kFC1_1, kFC1_2, kFC_0, kFC_1, kSeq_0, kSeq_1, kSeq_2, kSeq_3, kSeq_4, kSeq_5, kDrop_0, kDrop_1, kRet_0, kRet_1, kIf_0, kIf_1, kIf_2, kTo_0, kTo_1, kNR_0, kNR_1, kNR_2, kNR_3, kNR_4, kNR_5, kAsg3_0, kAsg3_1, kAsg2_0, kAsg2_1, kAsg_0, kAsg_1, kGN_0, kGN_1, kGC_0, kGC_1, kUn2_0, kUn2_1, kUn_0, kUn_1, kMt4_0, kMt4_1, kMt3_0, kMt2_0, kMt2_1, kMt_0, kMt_1, kPut_0, kPut_1, kPut_2, kPut_3, kPut_4, kPut_5, kM12_0, kM12_1, kM11_0, kM11_1, kM1_0, kIsi3_0, kIsi3_1, kIsi2_0, kIsi2_1, kIsi_0, kIsi_1, kOSo_0, kSl4_0, kSl4_1, kSl3_0, kSl3_1, kSl2_0, kSl2_1, kSl_0, kSl_1, kNeg_0, kSX3_0, kSX3_1, kSX2_0, kSX2_1, kSX1_0, kSX0_0, kSX0_1, kSX_0, kSX_1, kAug3_0, kAug3_1, kAug2_0, kAug_0, kRes_0, kRes_1, kEnd2_0, kEnd2_1, kEnd_0, kEnd_1, kAny_0, kAny_1, kAny_2, kR1_0, kR2_0, kEn_0, kEn_1, kFor_0, kFor_1, kLc2_0, kLc2_1, kLc_0, kLc_1, kGG_0, kCh3_0, kCh3_1, kCh2_0, kCh2_1, kCh1_0, kCh1_1, kCh_0, kCh_1, kLRg_0, kLRh_0, kLRi_0, kMG_0, kDG2_0, kDG1_0, kDG1_1, kDG_0, kDG_1, kDI2_0, kDI2_1, kDI_0, kDI_1, kMP_0, kDP3_0, kDP3_1, kDP2_0, kDP2_1, kDP1_0, kDP1_1, kDP_0, kDP_1, kPar2_0, kPar2_1, kPar_0, gAdd, DL.gSub, gCmp, gLen, gMax, gMin, gInt, gList, gTuple, gApp, ix_l0, ix_l1, ix_l2, ix_t0, ix_t1, ix_t2, ix_t3, ix_tm2, ix_tm3, ix_tm4, gEq_int, gNe_int, eq_row_floor, eq_ring_floor, eq_floor_floor, eq_row_ring, eq_ring_ring, eq_floor_ring, eq_row_row, eq_ring_row, eq_floor_row, ne_row_floor, ne_ring_floor, ne_floor_floor, lim, ixN3_0, ixN3_1, ixN3_2, List.getElem?_cons_zero, List.getElem?_cons_succ, List.set_cons_zero, List.set_cons_succ, List.replicate_succ, List.replicate_zero, List.cons_append, List.nil_append, List.zipWith_cons_cons, List.zipWith_nil_left, List.zipWith_nil_right, List.length_cons, List.length_nil, Option.map_some, Option.map_none, Nat.reduceAdd, Nat.reduceSub, Nat.reduceLT, Nat.reduceLeDiff, Int.reduceAdd, Int.reduceLT, Int.reduceLE, Int.reduceNeg, Int.reduceSub, Int.reduceMul, Int.reduceEq, if_true, if_false, ite_true, ite_false, decide_true, decide_false, Bool.not_true, Bool.not_false, Bool.and_true, Bool.true_and, Bool.and_false, Bool.false_and, ↓reduceIte, F_all_deeds, d_all_deeds, e3', gTuple]
end G
set_option Elab.async false
set_option linter.all false
set_option maxRecDepth 100000
set_option maxHeartbeats 1000000
set_option pp.maxSteps 1500
namespace G
open PySem PySem.Spec L2 DL
theorem grid_lt {W R C c : Nat} (hR : R ≤ 37) (hC : C ≤ 37) (hW : W ≤ 36) (h : c ∈ grid W R C) : c < 2000 := by
  obtain ⟨i, hi, hc⟩ := List.mem_flatMap.mp h
  obtain ⟨j, hj, rfl⟩ := List.mem_map.mp hc
  rw [List.mem_range] at hi hj
  have : i * W ≤ 37 * 36 := Nat.mul_le_mul (by omega) hW
  omega
theorem cellsAt_lt {b : Bd} {r : Ru} {c : Nat} (hb : b.ok 36) (h : r.fits b) (hc : c ∈ cellsAt b r) : c < 2000 := by
  cases b with
  | row n =>
    have hn36 := hb.2
    cases r with
    | swap k e =>
      have := List.mem_range.mp (show c ∈ List.range (n - 2 * k + 1) from hc)
      omega
    | over _ _ _ => cases h
    | under _ _ _ => cases h
  | ring n =>
    have hn36 := hb.2
    cases r with
    | swap k e =>
      have := List.mem_range.mp (show c ∈ List.range n from hc)
      omega
    | over _ _ _ => cases h
    | under _ _ _ => cases h
  | floor H W =>
    have h36 := hb.2.2.1
    have hH : H ≤ 36 := Nat.le_trans (Nat.le_mul_of_pos_right H hb.2.1) h36
    have hW : W ≤ 36 := Nat.le_trans (Nat.le_mul_of_pos_left W hb.1) h36
    cases r with
    | swap _ _ => cases h
    | over x y e => exact grid_lt (by omega) (by omega) hW hc
    | under x y e => exact grid_lt (by omega) (by omega) hW hc
theorem deedsTo_mem {b : Bd} {bk : List Ru} (hb : b.ok 36) (h : ∀ r ∈ bk, r.fits b) : ∀ n, ∀ p ∈ deedsTo b bk n, p.1 < n ∧ ∃ r, bk[p.1]? = some r ∧ p.2 ∈ cellsAt b r
  | 0, p, hp => by cases hp
  | n + 1, p, hp => by
    rw [deedsTo_succ] at hp
    rcases List.mem_append.mp hp with hp | hp
    · obtain ⟨h1, h2⟩ := deedsTo_mem hb h n p hp
      exact ⟨by omega, h2⟩
    · cases q : bk[n]? with
      | none =>
        unfold deedsAt at hp
        rw [q] at hp
        cases hp
      | some r =>
        rw [deedsAt_some q] at hp
        obtain ⟨c, hc, rfl⟩ := List.mem_map.mp hp
        exact ⟨Nat.lt_succ_self n, r, q, hc⟩
theorem deeds_shw {b : Bd} {bk : List Ru} (hb : b.ok 36) (h : BkOk b bk) : Shw 2 500000 (.tup ((deedsTo b bk bk.length).map pairD)) := by
  obtain ⟨h1, h2, h3, h4⟩ := h
  have dl := deedsTo_len hb h4 bk.length
  refine .tup (w := 82) (fun d hd => ?_) (by
    rw [List.length_map]
    have : bk.length * 1369 ≤ 4 * 1369 := Nat.mul_le_mul_right _ h2
    omega)
  obtain ⟨p, hp, rfl⟩ := List.mem_map.mp hd
  obtain ⟨a1, r, a2, a3⟩ := deedsTo_mem hb h4 _ p hp
  have := cellsAt_lt hb (h4 r (List.mem_of_getElem? a2)) a3
  refine .tup (w := 40) (fun d hd => ?_) (by simp)
  rcases List.mem_cons.mp hd with rfl | hd
  · exact .int (by omega) (by omega)
  · rw [List.mem_singleton.mp hd]
    exact .int (by omega) (by omega)
end G
set_option Elab.async false
set_option linter.all false
set_option maxRecDepth 100000
set_option maxHeartbeats 1000000
set_option pp.maxSteps 1500
namespace G
open PySem PySem.Spec L2 DL
theorem isnot_non : gIsNot .non .non = some (.fz (.bl false)) := id rfl
theorem law_pure (ns : List Int) (hn : ns.length ≤ 63) : ∃ ρ', F_law [.fz (.scr ns)] = some (.fz (.bl true), ρ') := by
  obtain ⟨t, ht2, hr⟩ := script_range hn 5 (by decide) (by decide) [.un, .un, .un, .un, .un]
  have lp := forL_inv (h := gNm 1) (B := (bSeq (bAsg 2 (fCall F__law_pot (aFr (eVar 0) (aFr (eVar 1) aNil))))
  (bSeq (bAsg 3 (fCall F__law_board (aCons (eVar 2) (aFr (eC (.int 36)) aNil))))
  (bSeq (bAsg 4 (fCall F__law_book (aCons (eVar 2) (aFr (eVar 3) aNil))))
  (bSeq (bAsg 5 (dCall gTuple (aCons (fCall F__law_deeds (aFr (eVar 3) (aFr (eVar 4) aNil))) aNil)))
  (bSeq (bIf (dOr (dTst (dOp2 gIsNot (fCall F_need_book (aFr (eVar 3) (aFr (eVar 4) aNil))) (eC .non))) (dTst (dOp2 gNe (dCall gRepr (aCons (fCall F_all_deeds (aFr (eVar 3) (aFr (eVar 4) aNil))) aNil)) (dCall gRepr (aCons (eVar 5) aNil))))) (bRet (eC (.bl false))) bNext)
  (bIf (dTst (dOp2 gNe (dCall gRepr (aCons (fCall F_all_deeds (aFr (eVar 3) (aFr (eVar 4) aNil))) aNil)) (dCall gRepr (aCons (eVar 5) aNil)))) (bRet (eC (.bl false))) bNext))))))) (xs := rangeD 0 t)
    (fun i ρ => ∃ x1 x2 x3 x4 x5, ρ = [.fz (.scr ns), x1, x2, x3, x4, x5] ∧ kNR (some x1) = true ∧ kNR (some x2) = true ∧ kNR (some x3) = true ∧ kNR (some x4) = true ∧ kNR (some x5) = true)
    (fun i d ρ hd ⟨x1, x2, x3, x4, x5, hρ, n1, n2, n3, n4, n5⟩ => by
      obtain ⟨hi, rfl⟩ := rangeD_get0 hd
      subst hρ
      obtain ⟨p1, e1, k1⟩ := pot_ok ns i (by omega)
      obtain ⟨b, p2, e2, hb, k2⟩ := board_ok (m := 36) k1 (by decide) (by decide) (by decide)
      obtain ⟨bk, p3, e3, hbk, k3⟩ := book_ok k2 hb (by decide)
      replace e2 : F__law_board [.rf (.l p1), .fz (.int 36)] = some (.fz b.d, [.rf (.l p2), .fz (.int 36)]) := e2
      have e4 := law_deeds_ok hb hbk
      have e5 := need_book_ok hb hbk
      have e6 := all_deeds_ok hb hbk
      have rp := repr_tup (deeds_shw hb hbk) (by decide) (by decide)
      have g := gNe_str_self (D.tup ((deedsTo b bk bk.length).map pairD)).py.shown
      refine ⟨[.fz (.scr ns), .fz (.int (i : Nat)), x2, x3, x4, x5], [.fz (.scr ns), .fz (.int (i : Nat)), .ow (.l p3), .fz b.d, .fz (.tup (bk.map Ru.d)), .fz (.tup ((deedsTo b bk bk.length).map pairD))], by simp only [wipeD, restD, allFz, eVar_e, eC_e, rd_fz, rd_ow, rd_bw, fr_fz, fr_ow, fr_bw, dFr_e, dOp2_e, dTst_e, dAnd_e, dOr_e, dNot_e, dIfE_e, dAndV_e, dOrV_e, dNotV_e, dYes_e, aNil_e, aCons_e, aFr_e, rds_nil, rds_cons, dCall_e, eTup_e, eLst_e, dsOf_nil, dsOf_fz, fCall_e, bSeq_e, bNext_e, bBreak_e, bCont_e, bRetN_e, bDrop_e, bRet_e, bIf_e, to_fz, to_ow, to_bw, notRf_e, bAsg_e, gNm_e, gsNil_e, gsCons_e, gTp_e, bUnp_e, dMt_e, held_ow, held_rf, putS_e, dM1_e, dIsi_e, oSome_e, oNo_e, dSl_e, dNeg_e, bSetIx_e, bAug_e, res_fz, res_ow, res_bw, runF_e, fin_nil, fin_nil1, fin_rf, fin_fz, iAny_e, iRange1_e, iRange2_e, iEnumD_e, dChain_e, dLRg1_e, dLRg2_e, heldM_ow, heldM_rf, eDict_e, dDGet_e, dDIn_e, bDPut_e, bPar_e, nc0, nc1, nc2, nc3, nc4, nc5, nc6, nc7, nc8, nc9, nc36, kVar_0, kVar_1, kVar_2, kRd_0, kRd_1, kRd_2, kFr_0, kFr_1, kDFr_0, kDFr_1, kZ_0, kZ_1, kOp3_0, kOp2_0, kOp2_1, kOp_0, kOp_1, kTst_0, kAnd_0, kAnd_1, kAnd_2, kOr_0, kOr_1, kOr_2, kNot_0, kNot_1, kIfE_0, kIfE_1, kIfE_2, kAndV_0, kAndV_1, kOrV_0, kOrV_1, kNotV_0, kAC2_0, kAC2_1, kAC_0, kAC_1, kAF_0, kAF_1, kRds_0, kCall2_0, kCall2_1, kCall_0, kCall_1, kTup2_0, kTup2_1, kTup_0, kTup_1, kLst2_0, kLst2_1, kLst_0, kLst_1, kFCo_0, kFCo_1, kFCr_0, kFCr_1, kFCf_0, kFCf_1, kFC2_0, kFC2_1, kFC3_0, kFC3_1, kFC1_0, kFC1_1, kFC1_2, kFC_0, kFC_1, kSeq_0, kSeq_1, kSeq_2, kSeq_3, kSeq_4, kSeq_5, kDrop_0, kDrop_1, kRet_0, kRet_1, kIf_0, kIf_1, kIf_2, kTo_0, kTo_1, kNR_0, kNR_1, kNR_2, kNR_3, kNR_4, kNR_5, kAsg3_0, kAsg3_1, kAsg2_0, kAsg2_1, kAsg_0, kAsg_1, kGN_0, kGN_1, kGC_0, kGC_1, kUn2_0, kUn2_1, kUn_0, kUn_1, kMt4_0, kMt4_1, kMt3_0, kMt2_0, kMt2_1, kMt_0, kMt_1, kPut_0, kPut_1, kPut_2, kPut_3, kPut_4, kPut_5, kM12_0, kM12_1, kM11_0, kM11_1, kM1_0, kIsi3_0, kIsi3_1, kIsi2_0, kIsi2_1, kIsi_0, kIsi_1, kOSo_0, kSl4_0, kSl4_1, kSl3_0, kSl3_1, kSl2_0, kSl2_1, kSl_0, kSl_1, kNeg_0, kSX3_0, kSX3_1, kSX2_0, kSX2_1, kSX1_0, kSX0_0, kSX0_1, kSX_0, kSX_1, kAug3_0, kAug3_1, kAug2_0, kAug_0, kRes_0, kRes_1, kEnd2_0, kEnd2_1, kEnd_0, kEnd_1, kAny_0, kAny_1, kAny_2, kR1_0, kR2_0, kEn_0, kEn_1, kFor_0, kFor_1, kLc2_0, kLc2_1, kLc_0, kLc_1, kGG_0, kCh3_0, kCh3_1, kCh2_0, kCh2_1, kCh1_0, kCh1_1, kCh_0, kCh_1, kLRg_0, kLRh_0, kLRi_0, kMG_0, kDG2_0, kDG1_0, kDG1_1, kDG_0, kDG_1, kDI2_0, kDI2_1, kDI_0, kDI_1, kMP_0, kDP3_0, kDP3_1, kDP2_0, kDP2_1, kDP1_0, kDP1_1, kDP_0, kDP_1, kPar2_0, kPar2_1, kPar_0, gAdd, DL.gSub, gCmp, gLen, gMax, gMin, gInt, gList, gTuple, gApp, ix_l0, ix_l1, ix_l2, ix_t0, ix_t1, ix_t2, ix_t3, ix_tm2, ix_tm3, ix_tm4, gEq_int, gNe_int, eq_row_floor, eq_ring_floor, eq_floor_floor, eq_row_ring, eq_ring_ring, eq_floor_ring, eq_row_row, eq_ring_row, eq_floor_row, ne_row_floor, ne_ring_floor, ne_floor_floor, lim, ixN3_0, ixN3_1, ixN3_2, List.getElem?_cons_zero, List.getElem?_cons_succ, List.set_cons_zero, List.set_cons_succ, List.replicate_succ, List.replicate_zero, List.cons_append, List.nil_append, List.zipWith_cons_cons, List.zipWith_nil_left, List.zipWith_nil_right, List.length_cons, List.length_nil, Option.map_some, Option.map_none, Nat.reduceAdd, Nat.reduceSub, Nat.reduceLT, Nat.reduceLeDiff, Int.reduceAdd, Int.reduceLT, Int.reduceLE, Int.reduceNeg, Int.reduceSub, Int.reduceMul, Int.reduceEq, if_true, if_false, ite_true, ite_false, decide_true, decide_false, Bool.not_true, Bool.not_false, Bool.and_true, Bool.true_and, Bool.and_false, Bool.false_and, ↓reduceIte, n1], .inl ?_, _, _, _, _, _, rfl, rfl, rfl, rfl, rfl, rfl⟩
      simp only [wipeD, restD, allFz, eVar_e, eC_e, rd_fz, rd_ow, rd_bw, fr_fz, fr_ow, fr_bw, dFr_e, dOp2_e, dTst_e, dAnd_e, dOr_e, dNot_e, dIfE_e, dAndV_e, dOrV_e, dNotV_e, dYes_e, aNil_e, aCons_e, aFr_e, rds_nil, rds_cons, dCall_e, eTup_e, eLst_e, dsOf_nil, dsOf_fz, fCall_e, bSeq_e, bNext_e, bBreak_e, bCont_e, bRetN_e, bDrop_e, bRet_e, bIf_e, to_fz, to_ow, to_bw, notRf_e, bAsg_e, gNm_e, gsNil_e, gsCons_e, gTp_e, bUnp_e, dMt_e, held_ow, held_rf, putS_e, dM1_e, dIsi_e, oSome_e, oNo_e, dSl_e, dNeg_e, bSetIx_e, bAug_e, res_fz, res_ow, res_bw, runF_e, fin_nil, fin_nil1, fin_rf, fin_fz, iAny_e, iRange1_e, iRange2_e, iEnumD_e, dChain_e, dLRg1_e, dLRg2_e, heldM_ow, heldM_rf, eDict_e, dDGet_e, dDIn_e, bDPut_e, bPar_e, nc0, nc1, nc2, nc3, nc4, nc5, nc6, nc7, nc8, nc9, nc36, kVar_0, kVar_1, kVar_2, kRd_0, kRd_1, kRd_2, kFr_0, kFr_1, kDFr_0, kDFr_1, kZ_0, kZ_1, kOp3_0, kOp2_0, kOp2_1, kOp_0, kOp_1, kTst_0, kAnd_0, kAnd_1, kAnd_2, kOr_0, kOr_1, kOr_2, kNot_0, kNot_1, kIfE_0, kIfE_1, kIfE_2, kAndV_0, kAndV_1, kOrV_0, kOrV_1, kNotV_0, kAC2_0, kAC2_1, kAC_0, kAC_1, kAF_0, kAF_1, kRds_0, kCall2_0, kCall2_1, kCall_0, kCall_1, kTup2_0, kTup2_1, kTup_0, kTup_1, kLst2_0, kLst2_1, kLst_0, kLst_1, kFCo_0, kFCo_1, kFCr_0, kFCr_1, kFCf_0, kFCf_1, kFC2_0, kFC2_1, kFC3_0, kFC3_1, kFC1_0, kFC1_1, kFC1_2, kFC_0, kFC_1, kSeq_0, kSeq_1, kSeq_2, kSeq_3, kSeq_4, kSeq_5, kDrop_0, kDrop_1, kRet_0, kRet_1, kIf_0, kIf_1, kIf_2, kTo_0, kTo_1, kNR_0, kNR_1, kNR_2, kNR_3, kNR_4, kNR_5, kAsg3_0, kAsg3_1, kAsg2_0, kAsg2_1, kAsg_0, kAsg_1, kGN_0, kGN_1, kGC_0, kGC_1, kUn2_0, kUn2_1, kUn_0, kUn_1, kMt4_0, kMt4_1, kMt3_0, kMt2_0, kMt2_1, kMt_0, kMt_1, kPut_0, kPut_1, kPut_2, kPut_3, kPut_4, kPut_5, kM12_0, kM12_1, kM11_0, kM11_1, kM1_0, kIsi3_0, kIsi3_1, kIsi2_0, kIsi2_1, kIsi_0, kIsi_1, kOSo_0, kSl4_0, kSl4_1, kSl3_0, kSl3_1, kSl2_0, kSl2_1, kSl_0, kSl_1, kNeg_0, kSX3_0, kSX3_1, kSX2_0, kSX2_1, kSX1_0, kSX0_0, kSX0_1, kSX_0, kSX_1, kAug3_0, kAug3_1, kAug2_0, kAug_0, kRes_0, kRes_1, kEnd2_0, kEnd2_1, kEnd_0, kEnd_1, kAny_0, kAny_1, kAny_2, kR1_0, kR2_0, kEn_0, kEn_1, kFor_0, kFor_1, kLc2_0, kLc2_1, kLc_0, kLc_1, kGG_0, kCh3_0, kCh3_1, kCh2_0, kCh2_1, kCh1_0, kCh1_1, kCh_0, kCh_1, kLRg_0, kLRh_0, kLRi_0, kMG_0, kDG2_0, kDG1_0, kDG1_1, kDG_0, kDG_1, kDI2_0, kDI2_1, kDI_0, kDI_1, kMP_0, kDP3_0, kDP3_1, kDP2_0, kDP2_1, kDP1_0, kDP1_1, kDP_0, kDP_1, kPar2_0, kPar2_1, kPar_0, gAdd, DL.gSub, gCmp, gLen, gMax, gMin, gInt, gList, gTuple, gApp, ix_l0, ix_l1, ix_l2, ix_t0, ix_t1, ix_t2, ix_t3, ix_tm2, ix_tm3, ix_tm4, gEq_int, gNe_int, eq_row_floor, eq_ring_floor, eq_floor_floor, eq_row_ring, eq_ring_ring, eq_floor_ring, eq_row_row, eq_ring_row, eq_floor_row, ne_row_floor, ne_ring_floor, ne_floor_floor, lim, ixN3_0, ixN3_1, ixN3_2, List.getElem?_cons_zero, List.getElem?_cons_succ, List.set_cons_zero, List.set_cons_succ, List.replicate_succ, List.replicate_zero, List.cons_append, List.nil_append, List.zipWith_cons_cons, List.zipWith_nil_left, List.zipWith_nil_right, List.length_cons, List.length_nil, Option.map_some, Option.map_none, Nat.reduceAdd, Nat.reduceSub, Nat.reduceLT, Nat.reduceLeDiff, Int.reduceAdd, Int.reduceLT, Int.reduceLE, Int.reduceNeg, Int.reduceSub, Int.reduceMul, Int.reduceEq, if_true, if_false, ite_true, ite_false, decide_true, decide_false, Bool.not_true, Bool.not_false, Bool.and_true, Bool.true_and, Bool.and_false, Bool.false_and, ↓reduceIte, e1, e2, e3, e4, e5, e6, rp, g, n2, n3, n4, n5, isnot_non, gTuple]) (ρ := [.fz (.scr ns), .un, .un, .un, .un, .un]) ⟨_, _, _, _, _, rfl, rfl, rfl, rfl, rfl, rfl⟩
  obtain ⟨ρ', hf, x1, x2, x3, x4, x5, rfl, _⟩ := lp
  have hF := bFor_eq hr hf
  exact ⟨[.fz (.scr ns)], by simp only [wipeD, restD, allFz, eVar_e, eC_e, rd_fz, rd_ow, rd_bw, fr_fz, fr_ow, fr_bw, dFr_e, dOp2_e, dTst_e, dAnd_e, dOr_e, dNot_e, dIfE_e, dAndV_e, dOrV_e, dNotV_e, dYes_e, aNil_e, aCons_e, aFr_e, rds_nil, rds_cons, dCall_e, eTup_e, eLst_e, dsOf_nil, dsOf_fz, fCall_e, bSeq_e, bNext_e, bBreak_e, bCont_e, bRetN_e, bDrop_e, bRet_e, bIf_e, to_fz, to_ow, to_bw, notRf_e, bAsg_e, gNm_e, gsNil_e, gsCons_e, gTp_e, bUnp_e, dMt_e, held_ow, held_rf, putS_e, dM1_e, dIsi_e, oSome_e, oNo_e, dSl_e, dNeg_e, bSetIx_e, bAug_e, res_fz, res_ow, res_bw, runF_e, fin_nil, fin_nil1, fin_rf, fin_fz, iAny_e, iRange1_e, iRange2_e, iEnumD_e, dChain_e, dLRg1_e, dLRg2_e, heldM_ow, heldM_rf, eDict_e, dDGet_e, dDIn_e, bDPut_e, bPar_e, nc0, nc1, nc2, nc3, nc4, nc5, nc6, nc7, nc8, nc9, nc36, kVar_0, kVar_1, kVar_2, kRd_0, kRd_1, kRd_2, kFr_0, kFr_1, kDFr_0, kDFr_1, kZ_0, kZ_1, kOp3_0, kOp2_0, kOp2_1, kOp_0, kOp_1, kTst_0, kAnd_0, kAnd_1, kAnd_2, kOr_0, kOr_1, kOr_2, kNot_0, kNot_1, kIfE_0, kIfE_1, kIfE_2, kAndV_0, kAndV_1, kOrV_0, kOrV_1, kNotV_0, kAC2_0, kAC2_1, kAC_0, kAC_1, kAF_0, kAF_1, kRds_0, kCall2_0, kCall2_1, kCall_0, kCall_1, kTup2_0, kTup2_1, kTup_0, kTup_1, kLst2_0, kLst2_1, kLst_0, kLst_1, kFCo_0, kFCo_1, kFCr_0, kFCr_1, kFCf_0, kFCf_1, kFC2_0, kFC2_1, kFC3_0, kFC3_1, kFC1_0, kFC1_1, kFC1_2, kFC_0, kFC_1, kSeq_0, kSeq_1, kSeq_2, kSeq_3, kSeq_4, kSeq_5, kDrop_0, kDrop_1, kRet_0, kRet_1, kIf_0, kIf_1, kIf_2, kTo_0, kTo_1, kNR_0, kNR_1, kNR_2, kNR_3, kNR_4, kNR_5, kAsg3_0, kAsg3_1, kAsg2_0, kAsg2_1, kAsg_0, kAsg_1, kGN_0, kGN_1, kGC_0, kGC_1, kUn2_0, kUn2_1, kUn_0, kUn_1, kMt4_0, kMt4_1, kMt3_0, kMt2_0, kMt2_1, kMt_0, kMt_1, kPut_0, kPut_1, kPut_2, kPut_3, kPut_4, kPut_5, kM12_0, kM12_1, kM11_0, kM11_1, kM1_0, kIsi3_0, kIsi3_1, kIsi2_0, kIsi2_1, kIsi_0, kIsi_1, kOSo_0, kSl4_0, kSl4_1, kSl3_0, kSl3_1, kSl2_0, kSl2_1, kSl_0, kSl_1, kNeg_0, kSX3_0, kSX3_1, kSX2_0, kSX2_1, kSX1_0, kSX0_0, kSX0_1, kSX_0, kSX_1, kAug3_0, kAug3_1, kAug2_0, kAug_0, kRes_0, kRes_1, kEnd2_0, kEnd2_1, kEnd_0, kEnd_1, kAny_0, kAny_1, kAny_2, kR1_0, kR2_0, kEn_0, kEn_1, kFor_0, kFor_1, kLc2_0, kLc2_1, kLc_0, kLc_1, kGG_0, kCh3_0, kCh3_1, kCh2_0, kCh2_1, kCh1_0, kCh1_1, kCh_0, kCh_1, kLRg_0, kLRh_0, kLRi_0, kMG_0, kDG2_0, kDG1_0, kDG1_1, kDG_0, kDG_1, kDI2_0, kDI2_1, kDI_0, kDI_1, kMP_0, kDP3_0, kDP3_1, kDP2_0, kDP2_1, kDP1_0, kDP1_1, kDP_0, kDP_1, kPar2_0, kPar2_1, kPar_0, gAdd, DL.gSub, gCmp, gLen, gMax, gMin, gInt, gList, gTuple, gApp, ix_l0, ix_l1, ix_l2, ix_t0, ix_t1, ix_t2, ix_t3, ix_tm2, ix_tm3, ix_tm4, gEq_int, gNe_int, eq_row_floor, eq_ring_floor, eq_floor_floor, eq_row_ring, eq_ring_ring, eq_floor_ring, eq_row_row, eq_ring_row, eq_floor_row, ne_row_floor, ne_ring_floor, ne_floor_floor, lim, ixN3_0, ixN3_1, ixN3_2, List.getElem?_cons_zero, List.getElem?_cons_succ, List.set_cons_zero, List.set_cons_succ, List.replicate_succ, List.replicate_zero, List.cons_append, List.nil_append, List.zipWith_cons_cons, List.zipWith_nil_left, List.zipWith_nil_right, List.length_cons, List.length_nil, Option.map_some, Option.map_none, Nat.reduceAdd, Nat.reduceSub, Nat.reduceLT, Nat.reduceLeDiff, Int.reduceAdd, Int.reduceLT, Int.reduceLE, Int.reduceNeg, Int.reduceSub, Int.reduceMul, Int.reduceEq, if_true, if_false, ite_true, ite_false, decide_true, decide_false, Bool.not_true, Bool.not_false, Bool.and_true, Bool.true_and, Bool.and_false, Bool.false_and, ↓reduceIte, F_law, d_law, hF]⟩
end G
namespace G
open PySem PySem.Spec L2 DL
theorem facts {P : Program} {w : World} {K : PySem.W.Frag} {h : Heap} {mg : Str → Option Value} {f : Addr} (X : K.In h) (Gh : h.Ns mainGlobals mg) (hfa : mg ("law" : Str) = some (.ref f)) (c : He.SaysD fa fn K)
    (pure_ : ∀ ns : List Int, ns.length ≤ 63 → ∃ ρ', F_law [.fz (.scr ns)] = some (.fz (.bl true), ρ')) :
    ∃ fd : FuncData, (∀ (s : Shared) (v : Value), BindsTo s fd ⟨[v], []⟩ [("script", v)]) ∧ ∀ base : Heap, K.In base → base.Ns mainGlobals mg → FnG P w K mg base 4 f fd ["script"] (DL.spLaw K) := by
  have T := txMk X Gh c
  obtain ⟨fd, F⟩ := c.def_ 13 (d := df_law) rfl
  have e := hfa.symm.trans (T.gl 25 (x := "law") rfl)
  cases e
  have b := FunD.bindsA (ps := ["script"]) F fun _ _ _ _ _ _ us hl => match us, hl with | [_], _ => rfl
  refine ⟨fd, fun s v => b s [v] rfl, fun base _ _ => ?_⟩
  have D_cells_many := ok_cells_many (P := P) (w := w) (base := base) T 
  have D_is_rule := ok_is_rule (P := P) (w := w) (base := base) T 
  have D_rule_fits := ok_rule_fits (P := P) (w := w) (base := base) T 
  have D_need_book := ok_need_book (P := P) (w := w) (base := base) T D_is_rule D_rule_fits
  have D_first_cells := ok_first_cells (P := P) (w := w) (base := base) T D_cells_many
  have D_all_deeds := ok_all_deeds (P := P) (w := w) (base := base) T D_first_cells
  have D__law_pot := ok__law_pot (P := P) (w := w) (base := base) T 
  have D__law_dip := ok__law_dip (P := P) (w := w) (base := base) T 
  have D__law_board := ok__law_board (P := P) (w := w) (base := base) T D__law_dip
  have D__law_rules := ok__law_rules (P := P) (w := w) (base := base) T 
  have D__law_book := ok__law_book (P := P) (w := w) (base := base) T D__law_rules D__law_dip
  have D__law_places := ok__law_places (P := P) (w := w) (base := base) T 
  have D__law_deeds := ok__law_deeds (P := P) (w := w) (base := base) T D__law_places
  exact lawG_of (okL_law (P := P) (w := w) (base := base) T F D__law_pot D__law_board D__law_book D__law_deeds D_need_book D_all_deeds) pure_
abbrev R : PySem.W.OpenRow := PySem.W.OpenLaw.row PySem.Challenge.rw_stridelots_k06_all_deeds
abbrev hk : PySem.W.Hook := He.hookD 5 fa fn
def ob (s : PySem.W.SharedT) : He.AlD := He.obsDG 5 fa fn (HandSHeadRun.getT s)
theorem ob_eq (s : PySem.W.SharedT) : ob s = hk.obs s.abs := He.obsDG_eq (HandSHeadRun.getT_eq s)
def loose : List PySem.Str := (["cells_many", "StrideError", "NoBook", "MOST_RULES", "is_rule", "rule_fits", "need_book", "first_cells", "all_deeds", "_law_pot", "_law_dip", "_law_board", "_law_rules", "_law_book", "_law_places", "_law_deeds"] : List PySem.Str)
theorem run (w : World) : HandSHeadRun.RunEq R (PySem.W.view R.prog [20]) hk ob 4000 loose w := by
  intro os
  kernel_rfl
end G
open PySem PySem.W PySem.Calls PyProof.Rows
set_option maxHeartbeats 0 in
theorem PySem.Challenge.cw_stridelots_k06_all_deeds_holds : PySem.Challenge.rw_stridelots_k06_all_deeds.Holds := by
  w_on; o_law
  refine HandSHeadRun.head_any (r := OpenLaw.row PySem.Challenge.rw_stridelots_k06_all_deeds) (q := view (OpenLaw.row PySem.Challenge.rw_stridelots_k06_all_deeds).prog [20]) (H := G.hk) (ob := G.ob) (M := 4000) (loose := G.loose) (d := HandSHeadRun.topDef (OpenLaw.row PySem.Challenge.rw_stridelots_k06_all_deeds).prog 20) (kwd := []) G.ob_eq
    (by kernel_rfl) (fun s => by kernel_rfl) G.run (by kernel_rfl) (by kernel_rfl) (by kernel_rfl) (by rfl) (by first | assumption | decide +kernel) (by decide +kernel) ⟨rfl, rfl, rfl, rfl, rfl, by decide +kernel⟩ ?hw ?hc
  case hw => w_witness2
  case hc =>
    refine DL.walk_go (l := PySem.Challenge.rw_stridelots_k06_all_deeds) (n := 63) (k := 4) (x := "script") rfl (by decide) (by kernel_rfl) ⟨rfl, by decide, by decide⟩ ?F
    intro w mg fa h Y Gns hmg0
    obtain ⟨K, KX, c⟩ := Y
    have hmg : mg ("law" : PySem.Str) = some (.ref fa) := by
      have e : (HandSHeadRun.topDef (OpenLaw.row PySem.Challenge.rw_stridelots_k06_all_deeds).prog 20).name = ("law" : PySem.Str) := by kernel_rfl
      rw [← e]
      exact hmg0
    obtain ⟨fd, hb, hF⟩ := G.facts (P := (PySem.Challenge.rw_stridelots_k06_all_deeds).prog) (w := w) KX Gns hmg c G.law_pure
    exact ⟨K, fd, DL.spLaw K, KX, hb, fun H a ns hl _ hS => ⟨a, ns, rfl, hS, hl, fun _ => rfl⟩, hF⟩
