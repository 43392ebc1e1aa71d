import PyProof.Rows.All
import Wide.All
import OpenK.AllK
import Wide.FinOn
import HandS.ForMost
import HandS.Walk
import HandS.Wide
import HandS.IsInst
import HandS.TupAny
import HandS.TupMul
import HandS.Deep
import HandS.Zip
import KE.GoesMore
import HandS.Head0
import HandS.Head1
import HandS.Head2
import HandS.HeadEnd
import HandS.HeadHook1
import HandS.HeadHook2
import HandS.Conv
import HandS.Ends
import HandS.Exc
import HandS.ExcInit
import HandS.ExcOwn
import HandS.SetFor
import HandS.SortInts
import HandS.Strs
import HandS.Style
import KE.GoesZip
import KE.KDictCopyH
import PyProof.ReprRoads
import PySem.Challenge.RW_stridelots_k14_whole_even_by_lengths
set_option Elab.async false
set_option linter.all false
set_option maxRecDepth 100000
set_option maxHeartbeats 2000000
/-! A layer of data over the hand layer: each def's body is told by a function on plain data; lists and dicts that a def alone holds are told by value. -/
namespace DL
open PySem PySem.Spec L2
/-- a caught exception's object -/
def xho (a : Addr) (cls : Value) (d : Option Addr) : HO := .ext fun h => ∃ (oe : Obj) (vs : Array Value), h.get? a = some oe ∧ Zc cls d oe ∧ oe.data = .fields vs
/-- plain data -/
inductive D where
  | non | bl (b : Bool) | int (i : Int) | str (s : Str)
  | tup (xs : List D) | lst (xs : List D) | ins (C : Addr) (ns : List Str) (xs : List D) | scr (ns : List Int) | exn (C : Addr) (ns : List Str) (xs : List D)
  /-- dicts that stay: keys that are ints and texts; tuples of them -/
  | dk (ks : List Key) (xs : List D) | dt (ks : List (List Key)) (xs : List D)
mutual
/-- the value v stands for the datum in a heap -/
inductive Rp (K : PySem.W.Frag) (H : Hp) : V → D → Prop
  | non : Rp K H .non .non
  | bl (b : Bool) : Rp K H (.bl b) (.bl b)
  | int (i : Int) : Rp K H (.int i) (.int i)
  | str (x : Str) : Rp K H (.str x) (.str x)
  | lst {a : Addr} {xs : List V} {ds : List D} : H a = some (.lst xs) → Rps K H xs ds → Rp K H (.ref a) (.lst ds)
  | tup {a : Addr} {xs : List V} {ds : List D} : H a = some (.tup xs) → Rps K H xs ds → Rp K H (.ref a) (.tup ds)
  | scr {a : Addr} {ns : List Int} : SqL K H a (ns.map V.int) → Rp K H (.ref a) (.scr ns)
  | ins {a C dx : Addr} {ns : List Str} {xs : List V} {ds : List D} : H a = some (.ins C dx (ns.zip xs)) → Rps K H xs ds → ns.length = xs.length → Rp K H (.ref a) (.ins C ns ds)
  | exn {a C d : Addr} {ns : List Str} {xs : List V} {ds : List D} : H a = some (xho a (.ref C) (some d)) → H d = some (.xd (ns.zip xs)) → Rps K H xs ds → ns.length = xs.length → Rp K H (.ref a) (.exn C ns ds)
  | dk {a : Addr} {od : Obj} {ks : List Key} {xs : List V} {ds : List D} : H a = some (.frz od (.dK (ks.zip xs))) → Rps K H xs ds → ks.length = xs.length → Rp K H (.ref a) (.dk ks ds)
  | dt {a : Addr} {od : Obj} {ks : List (List Key)} {xs : List V} {ds : List D} : H a = some (.frz od (.dT (ks.zip xs))) → Rps K H xs ds → ks.length = xs.length → Rp K H (.ref a) (.dt ks ds)
inductive Rps (K : PySem.W.Frag) (H : Hp) : List V → List D → Prop
  | nil : Rps K H [] []
  | cons {v : V} {vs : List V} {d : D} {ds : List D} : Rp K H v d → Rps K H vs ds → Rps K H (v :: vs) (d :: ds)
end
abbrev Ex (H H' : Hp) : Prop := Same H H'
theorem ex_new {H : Hp} {p : Addr} {o : HO} (h : H p = none) : Ex H (upd H p o) := fun a u e => by
  rw [upd_ne (ne_of_none e h)]
  exact e
theorem ex_sqT {K : PySem.W.Frag} {H H' : Hp} {a : Addr} {xs : List V} (e : Ex H H') (h : SqT K H a xs) : SqT K H' a xs := by
  rcases h with (h | ⟨o, h⟩) | h
  · exact .inl (.inl (e _ _ h))
  · exact .inl (.inr ⟨o, e _ _ h⟩)
  · exact .inr h
section
variable {K : PySem.W.Frag} {H H' : Hp}
mutual
theorem Rp.mono (e : Ex H H') : ∀ (d : D) (v : V), Rp K H v d → Rp K H' v d
  | .non, _, h => by cases h; exact .non
  | .bl b, _, h => by cases h; exact .bl b
  | .int i, _, h => by cases h; exact .int i
  | .str x, _, h => by cases h; exact .str x
  | .lst ds, _, h => by
    cases h with
    | lst h1 h2 => exact .lst (e _ _ h1) (Rps.mono e ds _ h2)
  | .tup ds, _, h => by
    cases h with
    | tup h1 h2 => exact .tup (e _ _ h1) (Rps.mono e ds _ h2)
  | .ins C ns ds, _, h => by
    cases h with
    | ins h1 h2 h3 => exact .ins (e _ _ h1) (Rps.mono e ds _ h2) h3
  | .scr ns, _, h => by
    cases h with
    | scr h1 => exact .scr (e.seq h1)
  | .exn C ns ds, _, h => by
    cases h with
    | exn h1 h2 h3 h4 => exact .exn (e _ _ h1) (e _ _ h2) (Rps.mono e ds _ h3) h4
  | .dk ks ds, _, h => by
    cases h with
    | dk h1 h2 h3 => exact .dk (e _ _ h1) (Rps.mono e ds _ h2) h3
  | .dt ks ds, _, h => by
    cases h with
    | dt h1 h2 h3 => exact .dt (e _ _ h1) (Rps.mono e ds _ h2) h3
theorem Rps.mono (e : Ex H H') : ∀ (ds : List D) (vs : List V), Rps K H vs ds → Rps K H' vs ds
  | [], _, h => by cases h; exact .nil
  | d :: ds, _, h => by
    cases h with
    | cons h1 h2 => exact .cons (Rp.mono e d _ h1) (Rps.mono e ds _ h2)
end
theorem Rp.up {v : V} {d : D} (h : Rp K H v d) (e : Ex H H') : Rp K H' v d := Rp.mono e d v h
theorem Rps.up {vs : List V} {ds : List D} (h : Rps K H vs ds) (e : Ex H H') : Rps K H' vs ds := Rps.mono e ds vs h
theorem Rps.len : ∀ {vs : List V} {ds : List D}, Rps K H vs ds → vs.length = ds.length
  | _, _, .nil => rfl
  | _, _, .cons _ t => by simp [Rps.len t]
theorem Rps.app : ∀ {vs ws : List V} {ds es : List D}, Rps K H vs ds → Rps K H ws es → Rps K H (vs ++ ws) (ds ++ es)
  | _, _, _, _, .nil, h => h
  | _, _, _, _, .cons a b, h => .cons a (Rps.app b h)
theorem Rps.one {v : V} {d : D} (h : Rp K H v d) : Rps K H [v] [d] := .cons h .nil
theorem Rps.get : ∀ {vs : List V} {ds : List D} {i : Nat} {d : D}, Rps K H vs ds → ds[i]? = some d → ∃ v, vs[i]? = some v ∧ Rp K H v d
  | _, _, _, _, .nil, e => by simp at e
  | _, _, 0, _, .cons r _, e => by simp at e; subst e; exact ⟨_, rfl, r⟩
  | _, _, i + 1, d, .cons _ t, e => by
    obtain ⟨v, h1, h2⟩ := Rps.get (i := i) (d := d) t (by simpa using e)
    exact ⟨v, by simpa using h1, h2⟩
theorem Rps.getV : ∀ {vs : List V} {ds : List D} {i : Nat} {v : V}, Rps K H vs ds → vs[i]? = some v → ∃ d, ds[i]? = some d ∧ Rp K H v d
  | _, _, _, _, .nil, e => by simp at e
  | _, _, 0, _, .cons r _, e => by simp at e; subst e; exact ⟨_, rfl, r⟩
  | _, _, i + 1, v, .cons _ t, e => by
    obtain ⟨d, h1, h2⟩ := Rps.getV (i := i) (v := v) t (by simpa using e)
    exact ⟨d, by simpa using h1, h2⟩
theorem Rps.set {v : V} {d : D} (r : Rp K H v d) : ∀ {vs : List V} {ds : List D} (i : Nat), Rps K H vs ds → Rps K H (vs.set i v) (ds.set i d)
  | _, _, _, .nil => .nil
  | _, _, 0, .cons _ t => .cons r t
  | _, _, i + 1, .cons q t => .cons q (Rps.set r i t)
theorem Rps.erase : ∀ {vs : List V} {ds : List D} (i : Nat), Rps K H vs ds → Rps K H (vs.eraseIdx i) (ds.eraseIdx i)
  | _, _, _, .nil => .nil
  | _, _, 0, .cons _ t => t
  | _, _, i + 1, .cons q t => .cons q (Rps.erase i t)
theorem Rps.take : ∀ {vs : List V} {ds : List D} (i : Nat), Rps K H vs ds → Rps K H (vs.take i) (ds.take i)
  | _, _, 0, _ => .nil
  | _, _, _ + 1, .nil => .nil
  | _, _, i + 1, .cons q t => .cons q (Rps.take i t)
theorem Rps.drop : ∀ {vs : List V} {ds : List D} (i : Nat), Rps K H vs ds → Rps K H (vs.drop i) (ds.drop i)
  | _, _, 0, h => h
  | _, _, _ + 1, .nil => .nil
  | _, _, i + 1, .cons q t => Rps.drop i t
theorem Rps.dropLast : ∀ {vs : List V} {ds : List D}, Rps K H vs ds → Rps K H vs.dropLast ds.dropLast := fun {vs ds} h => by
  rw [List.dropLast_eq_take, List.dropLast_eq_take, h.len]
  exact h.take _
theorem Rps.rev : ∀ {vs : List V} {ds : List D}, Rps K H vs ds → Rps K H vs.reverse ds.reverse
  | _, _, .nil => .nil
  | _, _, .cons q t => by
    rw [List.reverse_cons, List.reverse_cons]
    exact (Rps.rev t).app (.one q)
/-- what is told by the datum alone -/
theorem Rp.of_int {v : V} {i : Int} (h : Rp K H v (.int i)) : v = .int i := by cases h; rfl
theorem Rp.of_bl {v : V} {b : Bool} (h : Rp K H v (.bl b)) : v = .bl b := by cases h; rfl
theorem Rp.of_str {v : V} {s : Str} (h : Rp K H v (.str s)) : v = .str s := by cases h; rfl
theorem Rp.of_non {v : V} (h : Rp K H v .non) : v = .non := by cases h; rfl
theorem Rps.ints : ∀ {ns : List Int} {vs : List V}, Rps K H vs (ns.map D.int) → vs = ns.map V.int
  | [], _, h => by cases h; rfl
  | n :: ns, _, h => by
    cases h with
    | cons h1 h2 => rw [h1.of_int, Rps.ints h2]; rfl
theorem Rps.of_ints : ∀ {ns : List Int}, Rps K H (ns.map V.int) (ns.map D.int)
  | [] => .nil
  | n :: _ => .cons (.int n) Rps.of_ints
theorem Rps.strs : ∀ {ns : List Str} {vs : List V}, Rps K H vs (ns.map D.str) → vs = ns.map V.str
  | [], _, h => by cases h; rfl
  | n :: ns, _, h => by
    cases h with
    | cons h1 h2 => rw [h1.of_str, Rps.strs h2]; rfl
theorem Rps.of_strs : ∀ {ns : List Str}, Rps K H (ns.map V.str) (ns.map D.str)
  | [] => .nil
  | n :: _ => .cons (.str n) Rps.of_strs
theorem Rps.bls : ∀ {ns : List Bool} {vs : List V}, Rps K H vs (ns.map D.bl) → vs = ns.map V.bl
  | [], _, h => by cases h; rfl
  | n :: ns, _, h => by
    cases h with
    | cons h1 h2 => rw [h1.of_bl, Rps.bls h2]; rfl
end
/-- what is held by one name alone: a list; a dict whose keys are ints and texts, or (t) tuples of them -/
inductive Mu where
  | l (xs : List D)
  | k (kvs : List (Key × D))
  | t (kvs : List (List Key × D))
inductive RpKV {κ : Type} (K : PySem.W.Frag) (G : Hp) : List (κ × V) → List (κ × D) → Prop
  | nil : RpKV K G [] []
  | cons {k : κ} {v : V} {d : D} {vs : List (κ × V)} {ds : List (κ × D)} : Rp K G v d → RpKV K G vs ds → RpKV K G ((k, v) :: vs) ((k, d) :: ds)
inductive MuOk (K : PySem.W.Frag) (G : Hp) : HO → Mu → Prop
  | l {vs : List V} {xs : List D} : Rps K G vs xs → MuOk K G (.lst vs) (.l xs)
  | k {vs : List (Key × V)} {xs : List (Key × D)} : RpKV K G vs xs → MuOk K G (.dK vs) (.k xs)
  | t {vs : List (List Key × V)} {xs : List (List Key × D)} : RpKV K G vs xs → MuOk K G (.dT vs) (.t xs)
theorem RpKV.up {κ : Type} {K : PySem.W.Frag} {G G' : Hp} (e : Ex G G') : ∀ {vs : List (κ × V)} {ds : List (κ × D)}, RpKV K G vs ds → RpKV K G' vs ds
  | _, _, .nil => .nil
  | _, _, .cons h t => .cons (h.up e) (RpKV.up e t)
theorem MuOk.up {K : PySem.W.Frag} {G G' : Hp} {o : HO} {m : Mu} (h : MuOk K G o m) (e : Ex G G') : MuOk K G' o m := by
  cases h with
  | l h => exact .l (h.up e)
  | k h => exact .k (h.up e)
  | t h => exact .t (h.up e)
/-- a slot: not known; a datum that stays; held alone; lent by the caller; (a result only) what slot i holds -/
inductive Sl where
  | un | fz (d : D) | ow (m : Mu) | rf (m : Mu) | bw (i : Nat)
abbrev En := List Sl
def SlOk (K : PySem.W.Frag) (G H : Hp) (s : Option V) : Sl → Prop
  | .un => True
  | .fz d => ∃ v, s = some v ∧ Rp K G v d
  | .ow m => ∃ p o, s = some (.ref p) ∧ G p = none ∧ H p = some o ∧ MuOk K G o m
  | .rf m => ∃ p o, s = some (.ref p) ∧ G p = none ∧ H p = some o ∧ MuOk K G o m
  | .bw _ => False
def Own (σ : L2.St) (ρ : En) (i : Nat) (p : Addr) : Prop := σ[i]? = some (some (.ref p)) ∧ ((∃ m, ρ[i]? = some (.ow m)) ∨ ∃ m, ρ[i]? = some (.rf m))
def OwnA (σ : L2.St) (ρ : En) (p : Addr) : Prop := ∃ i, Own σ ρ i p
/-- G: what stays; H: all -/
structure Good (K : PySem.W.Frag) (G H : Hp) (σ : L2.St) (ρ : En) : Prop where
  ex : Ex G H
  len : σ.length = ρ.length
  sl : ∀ (i : Nat) (s : Option V) (r : Sl), σ[i]? = some s → ρ[i]? = some r → SlOk K G H s r
  nd : ∀ i j p, Own σ ρ i p → Own σ ρ j p → i = j
/-- no tuple -/
def NT : HO → Prop
  | .tup _ => False
  | _ => True
theorem MuOk.nt {K : PySem.W.Frag} {G : Hp} {o : HO} {m : Mu} (h : MuOk K G o m) : NT o := by
  cases h <;> trivial
structure Aft (K : PySem.W.Frag) (G H : Hp) (σ : L2.St) (ρ : En) (G' H' : Hp) (σ' : L2.St) (ρ' : En) : Prop where
  good : Good K G' H' σ' ρ'
  ex : Ex G G'
  keep : ∀ a o, H a = some o → ¬ OwnA σ ρ a → H' a = some o ∧ (G a = none → NT o → G' a = none)
  dom : ∀ a o, H a = some o → ∃ o', H' a = some o'
  own : ∀ i p, Own σ' ρ' i p → OwnA σ ρ p ∨ H p = none
  rf : ∀ (i : Nat) (m : Mu), ρ[i]? = some (.rf m) → σ'[i]? = σ[i]? ∧ ∃ m', ρ'[i]? = some (.rf m')
  len : ρ'.length = ρ.length
section
variable {K : PySem.W.Frag} {G H G1 H1 G2 H2 G' H' : Hp} {σ σ1 σ2 : L2.St} {ρ ρ1 ρ2 : En}
theorem Aft.refl (g : Good K G H σ ρ) : Aft K G H σ ρ G H σ ρ :=
  ⟨g, Same.refl G, fun _ _ e _ => ⟨e, fun h _ => h⟩, fun _ o e => ⟨o, e⟩, fun i p h => .inl ⟨i, h⟩, fun i m h => ⟨rfl, m, h⟩, rfl⟩
theorem none_back (a : ∀ a o, H a = some o → ∃ o', H1 a = some o') {p : Addr} (h : H1 p = none) : H p = none := by
  cases e : H p with
  | none => rfl
  | some o =>
    obtain ⟨o', e'⟩ := a p o e
    rw [h] at e'
    cases e'
theorem Aft.back (a : Aft K G H σ ρ G1 H1 σ1 ρ1) {p : Addr} (h : H1 p = none) : H p = none := none_back a.dom h
theorem Aft.nown (a : Aft K G H σ ρ G1 H1 σ1 ρ1) {p : Addr} {o : HO} (h : H p = some o) (n : ¬ OwnA σ ρ p) : ¬ OwnA σ1 ρ1 p := fun ⟨i, q⟩ => by
  rcases a.own i p q with z | z
  · exact n z
  · rw [h] at z
    cases z
theorem Aft.trans (a : Aft K G H σ ρ G1 H1 σ1 ρ1) (b : Aft K G1 H1 σ1 ρ1 G2 H2 σ2 ρ2) : Aft K G H σ ρ G2 H2 σ2 ρ2 where
  good := b.good
  ex := a.ex.trans b.ex
  keep := fun x o e n => by
    obtain ⟨e1, k1⟩ := a.keep x o e n
    obtain ⟨e2, k2⟩ := b.keep x o e1 (a.nown e n)
    exact ⟨e2, fun z y => k2 (k1 z y) y⟩
  dom := fun x o e => by
    obtain ⟨o', e'⟩ := a.dom x o e
    exact b.dom x o' e'
  own := fun i p q => by
    rcases b.own i p q with ⟨j, z⟩ | z
    · exact a.own j p z
    · exact .inr (a.back z)
  rf := fun i m e => by
    obtain ⟨q1, m1, e1⟩ := a.rf i m e
    obtain ⟨q2, m2, e2⟩ := b.rf i m1 e1
    exact ⟨q2.trans q1, m2, e2⟩
  len := b.len.trans a.len
/-- a new object that stays -/
theorem Good.laid {p : Addr} {o : HO} (g : Good K G H σ ρ) (h : H p = none) : Good K (upd G p o) (upd H p o) σ ρ := by
  have gp : G p = none := g.ex.free h
  refine ⟨fun a u e => ?_, g.len, fun i s r e1 e2 => ?_, g.nd⟩
  · by_cases q : a = p
    · subst q
      rw [upd_same] at e ⊢
      exact e
    · rw [upd_ne q] at e ⊢
      exact g.ex a u e
  · have k := g.sl i s r e1 e2
    cases r with
    | un => trivial
    | fz d =>
      obtain ⟨v, h1, h2⟩ := k
      exact ⟨v, h1, h2.up (ex_new gp)⟩
    | ow m =>
      obtain ⟨q, u, h1, h2, h3, h4⟩ := k
      have ne : q ≠ p := ne_of_none h3 h
      exact ⟨q, u, h1, by rw [upd_ne ne]; exact h2, by rw [upd_ne ne]; exact h3, h4.up (ex_new gp)⟩
    | rf m =>
      obtain ⟨q, u, h1, h2, h3, h4⟩ := k
      have ne : q ≠ p := ne_of_none h3 h
      exact ⟨q, u, h1, by rw [upd_ne ne]; exact h2, by rw [upd_ne ne]; exact h3, h4.up (ex_new gp)⟩
    | bw i => exact k
theorem Aft.laid {p : Addr} {o : HO} (g : Good K G H σ ρ) (h : H p = none) : Aft K G H σ ρ (upd G p o) (upd H p o) σ ρ :=
  ⟨g.laid h, ex_new (g.ex.free h), fun a u e _ => ⟨by rw [upd_ne (ne_of_none e h)]; exact e, fun z _ => by rw [upd_ne (ne_of_none e h)]; exact z⟩,
    fun a u e => ⟨u, by rw [upd_ne (ne_of_none e h)]; exact e⟩, fun i q z => .inl ⟨i, z⟩, fun i m e => ⟨rfl, m, e⟩, rfl⟩
/-- an object that no slot holds and that does not stay is new, or changes -/
theorem Good.mut {p : Addr} {o : HO} (g : Good K G H σ ρ) (h : G p = none) (n : ¬ OwnA σ ρ p) : Good K G (upd H p o) σ ρ := by
  refine ⟨fun a u e => ?_, g.len, fun i s r e1 e2 => ?_, g.nd⟩
  · rw [upd_ne (ne_of_none e h)]
    exact g.ex a u e
  · have k := g.sl i s r e1 e2
    cases r with
    | un => trivial
    | fz d => exact k
    | ow m =>
      obtain ⟨q, u, h1, h2, h3, h4⟩ := k
      have ne : q ≠ p := fun z => n ⟨i, by rw [e1, h1, z], .inl ⟨m, e2⟩⟩
      exact ⟨q, u, h1, h2, by rw [upd_ne ne]; exact h3, h4⟩
    | rf m =>
      obtain ⟨q, u, h1, h2, h3, h4⟩ := k
      have ne : q ≠ p := fun z => n ⟨i, by rw [e1, h1, z], .inr ⟨m, e2⟩⟩
      exact ⟨q, u, h1, h2, by rw [upd_ne ne]; exact h3, h4⟩
    | bw i => exact k
theorem Own.there (g : Good K G H σ ρ) {i : Nat} {p : Addr} (q : Own σ ρ i p) : G p = none ∧ ∃ o, H p = some o := by
  obtain ⟨e, ⟨m, k⟩ | ⟨m, k⟩⟩ := q
  · obtain ⟨q, u, h1, h2, h3, h4⟩ := g.sl i _ _ e k
    cases h1
    exact ⟨h2, u, h3⟩
  · obtain ⟨q, u, h1, h2, h3, h4⟩ := g.sl i _ _ e k
    cases h1
    exact ⟨h2, u, h3⟩
theorem Good.notOwn (g : Good K G H σ ρ) {p : Addr} (h : H p = none) : ¬ OwnA σ ρ p := fun ⟨i, q⟩ => by
  obtain ⟨_, o, e⟩ := Own.there g q
  rw [h] at e
  cases e
/-- a new object, or one that was new at the start, changed; it does not stay -/
theorem Aft.mutO {p : Addr} {o : HO} (a : Aft K G H σ ρ G1 H1 σ1 ρ1) (h0 : H p = none ∨ OwnA σ ρ p) (h : G1 p = none) (n : ¬ OwnA σ1 ρ1 p) : Aft K G H σ ρ G1 (upd H1 p o) σ1 ρ1 :=
  ⟨a.good.mut h n, a.ex, fun b u e z => by
    obtain ⟨k1, k2⟩ := a.keep b u e z
    have ne : b ≠ p := fun y => by
      subst y
      rcases h0 with h0 | h0
      · rw [h0] at e
        cases e
      · exact z h0
    exact ⟨by rw [upd_ne ne]; exact k1, k2⟩, fun b u e => by
    obtain ⟨u', k⟩ := a.dom b u e
    by_cases y : b = p
    · subst y
      exact ⟨o, upd_same⟩
    · exact ⟨u', by rw [upd_ne y]; exact k⟩, a.own, a.rf, a.len⟩
theorem Aft.mut {p : Addr} {o : HO} (a : Aft K G H σ ρ G1 H1 σ1 ρ1) (h0 : H p = none) (h : G1 p = none) (n : ¬ OwnA σ1 ρ1 p) : Aft K G H σ ρ G1 (upd H1 p o) σ1 ρ1 := a.mutO (.inl h0) h n
/-- such an object stays from here on -/
theorem Good.stay {p : Addr} {o : HO} (g : Good K G H σ ρ) (h : G p = none) (e : H p = some o) (n : ¬ OwnA σ ρ p) : Good K (upd G p o) H σ ρ := by
  refine ⟨fun a u q => ?_, g.len, fun i s r e1 e2 => ?_, g.nd⟩
  · by_cases z : a = p
    · subst z
      rw [upd_same] at q
      cases q
      exact e
    · rw [upd_ne z] at q
      exact g.ex a u q
  · have k := g.sl i s r e1 e2
    cases r with
    | un => trivial
    | fz d =>
      obtain ⟨v, h1, h2⟩ := k
      exact ⟨v, h1, h2.up (ex_new h)⟩
    | ow m =>
      obtain ⟨q, u, h1, h2, h3, h4⟩ := k
      have ne : q ≠ p := fun z => n ⟨i, by rw [e1, h1, z], .inl ⟨m, e2⟩⟩
      exact ⟨q, u, h1, by rw [upd_ne ne]; exact h2, h3, h4.up (ex_new h)⟩
    | rf m =>
      obtain ⟨q, u, h1, h2, h3, h4⟩ := k
      have ne : q ≠ p := fun z => n ⟨i, by rw [e1, h1, z], .inr ⟨m, e2⟩⟩
      exact ⟨q, u, h1, by rw [upd_ne ne]; exact h2, h3, h4.up (ex_new h)⟩
    | bw i => exact k
theorem Aft.stayO {p : Addr} {o : HO} (a : Aft K G H σ ρ G1 H1 σ1 ρ1) (h0 : H p = none ∨ OwnA σ ρ p ∨ ¬ NT o) (h : G1 p = none) (e : H1 p = some o) (n : ¬ OwnA σ1 ρ1 p) : Aft K G H σ ρ (upd G1 p o) H1 σ1 ρ1 :=
  ⟨a.good.stay h e n, a.ex.trans (ex_new h), fun b u q z => by
    obtain ⟨k1, k2⟩ := a.keep b u q z
    refine ⟨k1, fun y nt => ?_⟩
    have ne : b ≠ p := fun w => by
      subst w
      rcases h0 with h0 | h0 | h0
      · rw [h0] at q
        cases q
      · exact z h0
      · rw [k1] at e
        cases e
        exact h0 nt
    rw [upd_ne ne]
    exact k2 y nt, a.dom, a.own, a.rf, a.len⟩
theorem Aft.stay {p : Addr} {o : HO} (a : Aft K G H σ ρ G1 H1 σ1 ρ1) (h0 : H p = none) (h : G1 p = none) (e : H1 p = some o) (n : ¬ OwnA σ1 ρ1 p) : Aft K G H σ ρ (upd G1 p o) H1 σ1 ρ1 := a.stayO (.inl h0) h e n
/-- a tuple that was not yet told to stay stays -/
theorem Aft.stayT {p : Addr} {xs : List V} (a : Aft K G H σ ρ G1 H1 σ1 ρ1) (h : G1 p = none) (e : H1 p = some (.tup xs)) : Aft K G H σ ρ (upd G1 p (.tup xs)) H1 σ1 ρ1 := by
  refine a.stayO (.inr (.inr fun z => z)) h e fun ⟨i, o1, o2⟩ => ?_
  have go : ∀ r, ρ1[i]? = some r → (∃ m, r = .ow m) ∨ (∃ m, r = .rf m) → False := fun r q z => by
    have s := a.good.sl i _ _ o1 q
    rcases z with ⟨m, rfl⟩ | ⟨m, rfl⟩
    · obtain ⟨p', o', h1, _, h3, h4⟩ := s
      cases h1
      rw [e] at h3
      cases h3
      exact h4.nt
    · obtain ⟨p', o', h1, _, h3, h4⟩ := s
      cases h1
      rw [e] at h3
      cases h3
      exact h4.nt
  rcases o2 with ⟨m, o2⟩ | ⟨m, o2⟩
  · exact go _ o2 (.inl ⟨m, rfl⟩)
  · exact go _ o2 (.inr ⟨m, rfl⟩)
theorem getElem?_set_cases {α : Type} {l : List α} {i j : Nat} {x y : α} (h : (l.set i x)[j]? = some y) : (j = i ∧ y = x) ∨ (j ≠ i ∧ l[j]? = some y) := by
  by_cases e : i = j
  · subst e
    by_cases hi : i < l.length
    · rw [List.getElem?_set_self hi] at h
      exact .inl ⟨rfl, (Option.some.inj h).symm⟩
    · rw [List.getElem?_eq_none (by simpa using hi)] at h
      cases h
  · rw [List.getElem?_set_ne e] at h
    exact .inr ⟨fun z => e z.symm, h⟩
/-- what slot i holds alone stays from here on -/
theorem Good.freeze {i : Nat} {p : Addr} {o : HO} {m : Mu} {d : D} (g : Good K G H σ ρ) (e1 : σ[i]? = some (some (.ref p))) (e2 : ρ[i]? = some (.ow m)) (e : H p = some o) (r : Rp K (upd G p o) (.ref p) d) : Good K (upd G p o) H σ (ρ.set i (.fz d)) := by
  obtain ⟨q, u, h1, h2, h3, h4⟩ := g.sl i _ _ e1 e2
  cases h1
  have ownOld : ∀ j a, Own σ (ρ.set i (.fz d)) j a → Own σ ρ j a ∧ j ≠ i := fun j a ⟨z1, z2⟩ => by
    have ne : j ≠ i := fun y => by
      subst y
      rcases z2 with ⟨m', z2⟩ | ⟨m', z2⟩
      · rcases getElem?_set_cases z2 with ⟨_, y⟩ | ⟨y, _⟩
        · cases y
        · exact y rfl
      · rcases getElem?_set_cases z2 with ⟨_, y⟩ | ⟨y, _⟩
        · cases y
        · exact y rfl
    rw [List.getElem?_set_ne (Ne.symm ne)] at z2
    exact ⟨⟨z1, z2⟩, ne⟩
  refine ⟨fun a u q => ?_, by simpa using g.len, fun j s r' e3 e4 => ?_, fun j k a z1 z2 => g.nd j k a (ownOld j a z1).1 (ownOld k a z2).1⟩
  · by_cases z : a = p
    · subst z
      rw [upd_same] at q
      cases q
      exact e
    · rw [upd_ne z] at q
      exact g.ex a u q
  · rcases getElem?_set_cases e4 with ⟨y1, y2⟩ | ⟨y1, y2⟩
    · subst y1
      subst y2
      rw [e1] at e3
      cases e3
      exact ⟨_, rfl, r⟩
    · have k := g.sl j s r' e3 y2
      cases r' with
      | un => trivial
      | fz d' =>
        obtain ⟨v, h1, h2'⟩ := k
        exact ⟨v, h1, h2'.up (ex_new h2)⟩
      | ow m' =>
        obtain ⟨q, u', k1, k2, k3, k4⟩ := k
        have ne : q ≠ p := fun z => y1 (g.nd j i p ⟨by rw [e3, k1, z], .inl ⟨m', y2⟩⟩ ⟨e1, .inl ⟨m, e2⟩⟩)
        exact ⟨q, u', k1, by rw [upd_ne ne]; exact k2, k3, k4.up (ex_new h2)⟩
      | rf m' =>
        obtain ⟨q, u', k1, k2, k3, k4⟩ := k
        have ne : q ≠ p := fun z => y1 (g.nd j i p ⟨by rw [e3, k1, z], .inr ⟨m', y2⟩⟩ ⟨e1, .inl ⟨m, e2⟩⟩)
        exact ⟨q, u', k1, by rw [upd_ne ne]; exact k2, k3, k4.up (ex_new h2)⟩
      | bw _ => exact k
theorem Aft.freeze {i : Nat} {p : Addr} {o : HO} {m : Mu} {d : D} (g : Good K G H σ ρ) (e1 : σ[i]? = some (some (.ref p))) (e2 : ρ[i]? = some (.ow m)) (e : H p = some o) (r : Rp K (upd G p o) (.ref p) d) :
    Aft K G H σ ρ (upd G p o) H σ (ρ.set i (.fz d)) := by
  have gp : G p = none := (Own.there g ⟨e1, .inl ⟨m, e2⟩⟩).1
  refine ⟨g.freeze e1 e2 e r, ex_new gp, fun a u q z => ⟨q, fun y _ => ?_⟩, fun a u q => ⟨u, q⟩, fun j a ⟨z1, z2⟩ => .inl ⟨j, z1, ?_⟩, fun j m' q => ⟨rfl, m', ?_⟩, by simp⟩
  · rw [upd_ne fun w => z ⟨i, by rw [e1, w], .inl ⟨m, e2⟩⟩]
    exact y
  · rcases z2 with ⟨m', z2⟩ | ⟨m', z2⟩
    · rcases getElem?_set_cases z2 with ⟨_, y⟩ | ⟨_, y⟩
      · cases y
      · exact .inl ⟨m', y⟩
    · rcases getElem?_set_cases z2 with ⟨_, y⟩ | ⟨_, y⟩
      · cases y
      · exact .inr ⟨m', y⟩
  · rw [List.getElem?_set_ne fun z => ?_]
    · exact q
    · subst z
      rw [e2] at q
      cases q
/-- a slot's own object changes in place -/
inductive Held : Sl → Mu → Prop
  | ow (m : Mu) : Held (.ow m) m
  | rf (m : Mu) : Held (.rf m) m
def Sl.put (m : Mu) : Sl → Sl
  | .rf _ => .rf m
  | _ => .ow m
theorem Good.change {i : Nat} {p : Addr} {o : HO} {r : Sl} {m m' : Mu} (g : Good K G H σ ρ) (e1 : σ[i]? = some (some (.ref p))) (e2 : ρ[i]? = some r) (hr : Held r m) (ok : MuOk K G o m') : Good K G (upd H p o) σ (ρ.set i (r.put m')) := by
  have ow : Own σ ρ i p := ⟨e1, by cases hr with | ow m => exact .inl ⟨m, e2⟩ | rf m => exact .inr ⟨m, e2⟩⟩
  have gp := (Own.there g ow).1
  have ownOld : ∀ j a, Own σ (ρ.set i (r.put m')) j a → Own σ ρ j a := fun j a ⟨z1, z2⟩ => by
    by_cases ne : j = i
    · subst ne
      rw [e1] at z1
      cases z1
      exact ow
    · rw [List.getElem?_set_ne (Ne.symm ne)] at z2
      exact ⟨z1, z2⟩
  refine ⟨fun a u q => ?_, by simpa using g.len, fun j s r' e3 e4 => ?_, fun j k a z1 z2 => g.nd j k a (ownOld j a z1) (ownOld k a z2)⟩
  · rw [upd_ne (ne_of_none q gp)]
    exact g.ex a u q
  · rcases getElem?_set_cases e4 with ⟨y1, y2⟩ | ⟨y1, y2⟩
    · subst y1
      subst y2
      rw [e1] at e3
      cases e3
      cases hr with
      | ow m => exact ⟨p, o, rfl, gp, upd_same, ok⟩
      | rf m => exact ⟨p, o, rfl, gp, upd_same, ok⟩
    · have k := g.sl j s r' e3 y2
      cases r' with
      | un => trivial
      | fz d' => exact k
      | ow m' =>
        obtain ⟨q, u', k1, k2, k3, k4⟩ := k
        have ne : q ≠ p := fun z => y1 (g.nd j i p ⟨by rw [e3, k1, z], .inl ⟨m', y2⟩⟩ ow)
        exact ⟨q, u', k1, k2, by rw [upd_ne ne]; exact k3, k4⟩
      | rf m' =>
        obtain ⟨q, u', k1, k2, k3, k4⟩ := k
        have ne : q ≠ p := fun z => y1 (g.nd j i p ⟨by rw [e3, k1, z], .inr ⟨m', y2⟩⟩ ow)
        exact ⟨q, u', k1, k2, by rw [upd_ne ne]; exact k3, k4⟩
      | bw _ => exact k
theorem Aft.change {i : Nat} {p : Addr} {o : HO} {r : Sl} {m m' : Mu} (g : Good K G H σ ρ) (e1 : σ[i]? = some (some (.ref p))) (e2 : ρ[i]? = some r) (hr : Held r m) (ok : MuOk K G o m') : Aft K G H σ ρ G (upd H p o) σ (ρ.set i (r.put m')) := by
  have ow : Own σ ρ i p := ⟨e1, by cases hr with | ow m => exact .inl ⟨m, e2⟩ | rf m => exact .inr ⟨m, e2⟩⟩
  refine ⟨g.change e1 e2 hr ok, Same.refl G, fun a u q z => ⟨?_, fun y _ => y⟩, fun a u q => ?_, fun j a ⟨z1, z2⟩ => .inl ?_, fun j m1 q => ⟨rfl, ?_⟩, by simp⟩
  · rw [upd_ne fun (w : a = p) => z ⟨i, by rw [w]; exact ow⟩]
    exact q
  · by_cases y : a = p
    · subst y
      exact ⟨o, upd_same⟩
    · exact ⟨u, by rw [upd_ne y]; exact q⟩
  · by_cases ne : j = i
    · subst ne
      rw [e1] at z1
      cases z1
      exact ⟨j, ow⟩
    · rw [List.getElem?_set_ne (Ne.symm ne)] at z2
      exact ⟨j, z1, z2⟩
  · by_cases ne : i = j
    · subst ne
      rw [e2] at q
      cases q
      have hi : i < ρ.length := (List.getElem?_eq_some_iff.mp e2).1
      exact ⟨m', by rw [List.getElem?_set_self hi]; rfl⟩
    · exact ⟨m1, by rw [List.getElem?_set_ne ne]; exact q⟩
/-- slot i is stored anew -/
theorem Good.store {i : Nat} {s : Option V} {r : Sl} (g : Good K G H σ ρ) (ok : SlOk K G H s r) (n : ∀ p, s = some (.ref p) → ((∃ m, r = .ow m) ∨ ∃ m, r = .rf m) → ¬ OwnA σ ρ p) : Good K G H (σ.set i s) (ρ.set i r) := by
  have cases_ : ∀ j p, Own (σ.set i s) (ρ.set i r) j p → (j = i ∧ s = some (.ref p) ∧ ((∃ m, r = .ow m) ∨ ∃ m, r = .rf m)) ∨ (j ≠ i ∧ Own σ ρ j p) := fun j p ⟨z1, z2⟩ => by
    by_cases ne : j = i
    · subst ne
      rcases getElem?_set_cases z1 with ⟨_, y⟩ | ⟨y, _⟩
      · refine .inl ⟨rfl, y.symm, ?_⟩
        rcases z2 with ⟨m, z2⟩ | ⟨m, z2⟩
        · rcases getElem?_set_cases z2 with ⟨_, y⟩ | ⟨y, _⟩
          · exact .inl ⟨m, y.symm⟩
          · exact absurd rfl y
        · rcases getElem?_set_cases z2 with ⟨_, y⟩ | ⟨y, _⟩
          · exact .inr ⟨m, y.symm⟩
          · exact absurd rfl y
      · exact absurd rfl y
    · rw [List.getElem?_set_ne (Ne.symm ne)] at z1 z2
      exact .inr ⟨ne, z1, z2⟩
  refine ⟨g.ex, by simpa using g.len, fun j s' r' e3 e4 => ?_, fun j k p z1 z2 => ?_⟩
  · by_cases ne : j = i
    · subst ne
      rcases getElem?_set_cases e3 with ⟨_, y⟩ | ⟨y, _⟩
      · rcases getElem?_set_cases e4 with ⟨_, y'⟩ | ⟨y', _⟩
        · subst y
          subst y'
          exact ok
        · exact absurd rfl y'
      · exact absurd rfl y
    · rw [List.getElem?_set_ne (Ne.symm ne)] at e3 e4
      exact g.sl j s' r' e3 e4
  · rcases cases_ j p z1 with ⟨y1, y2, y3⟩ | ⟨y1, y2⟩
    · rcases cases_ k p z2 with ⟨x1, _, _⟩ | ⟨_, x2⟩
      · rw [y1, x1]
      · exact absurd ⟨k, x2⟩ (n p y2 y3)
    · rcases cases_ k p z2 with ⟨x1, x2, x3⟩ | ⟨_, x2⟩
      · exact absurd ⟨j, y2⟩ (n p x2 x3)
      · exact g.nd j k p y2 x2
def notRf (ρ : En) (i : Nat) : Bool := match ρ[i]? with
  | some (.rf _) => false
  | some _ => true
  | none => false
theorem Aft.store {i : Nat} {s : Option V} {r : Sl} (a : Aft K G H σ ρ G1 H1 σ1 ρ1) (ok : SlOk K G1 H1 s r) (n : ∀ p, s = some (.ref p) → ((∃ m, r = .ow m) ∨ ∃ m, r = .rf m) → ¬ OwnA σ1 ρ1 p ∧ H p = none) (hr : notRf ρ1 i = true) :
    Aft K G H σ ρ G1 H1 (σ1.set i s) (ρ1.set i r) := by
  refine ⟨a.good.store ok fun p h1 h2 => (n p h1 h2).1, a.ex, a.keep, a.dom, fun j p ⟨z1, z2⟩ => ?_, fun j m e => ?_, by simpa using a.len⟩
  · by_cases ne : j = i
    · subst ne
      rcases getElem?_set_cases z1 with ⟨_, y⟩ | ⟨y, _⟩
      · refine .inr (n p y.symm ?_).2
        rcases z2 with ⟨m, z2⟩ | ⟨m, z2⟩
        · rcases getElem?_set_cases z2 with ⟨_, y⟩ | ⟨y, _⟩
          · exact .inl ⟨m, y.symm⟩
          · exact absurd rfl y
        · rcases getElem?_set_cases z2 with ⟨_, y⟩ | ⟨y, _⟩
          · exact .inr ⟨m, y.symm⟩
          · exact absurd rfl y
      · exact absurd rfl y
    · rw [List.getElem?_set_ne (Ne.symm ne)] at z1 z2
      exact a.own j p ⟨z1, z2⟩
  · obtain ⟨q1, m1, e1⟩ := a.rf j m e
    have ne : i ≠ j := fun z => by
      subst z
      unfold notRf at hr
      rw [e1] at hr
      cases hr
    exact ⟨by rw [List.getElem?_set_ne ne]; exact q1, m1, by rw [List.getElem?_set_ne ne]; exact e1⟩
end
end DL
set_option Elab.async false
set_option linter.all false
set_option maxRecDepth 100000
set_option maxHeartbeats 2000000
namespace DL
open PySem PySem.Spec L2
/-! ### results, readings -/
def ROk (K : PySem.W.Frag) (H0 G H : Hp) (σ : L2.St) (ρ : En) (v : V) : Sl → Prop
  | .fz d => Rp K G v d
  | .ow m => ∃ p o, v = .ref p ∧ H0 p = none ∧ G p = none ∧ H p = some o ∧ MuOk K G o m ∧ ¬ OwnA σ ρ p
  | .bw i => σ[i]? = some (some v)
  | _ => False
inductive RsOk (K : PySem.W.Frag) (H0 G H : Hp) (σ : L2.St) (ρ : En) : List V → List Sl → Prop
  | nil : RsOk K H0 G H σ ρ [] []
  | cons {v : V} {vs : List V} {r : Sl} {rs : List Sl} : ROk K H0 G H σ ρ v r → RsOk K H0 G H σ ρ vs rs → RsOk K H0 G H σ ρ (v :: vs) (r :: rs)
abbrev Fe := En → Option (Sl × En)
abbrev Ft := En → Option (Bool × En)
abbrev Fa := En → Option (List Sl × En)
abbrev Fd := En → Option (List D × En)
def teOf (K : PySem.W.Frag) (f : Fe) : TE := fun σ H Q => ∃ G ρ r ρ', Good K G H σ ρ ∧ f ρ = some (r, ρ') ∧ ∀ v G' H', Aft K G H σ ρ G' H' σ ρ' → ROk K H G' H' σ ρ' v r → Q v H'
def ttOf (K : PySem.W.Frag) (f : Ft) : TT := fun σ H Q => ∃ G ρ b ρ', Good K G H σ ρ ∧ f ρ = some (b, ρ') ∧ ∀ G' H', Aft K G H σ ρ G' H' σ ρ' → Q b H'
def taOf (K : PySem.W.Frag) (f : Fa) : TA := fun σ H Q => ∃ G ρ rs ρ', Good K G H σ ρ ∧ f ρ = some (rs, ρ') ∧ ∀ vs G' H', Aft K G H σ ρ G' H' σ ρ' → RsOk K H G' H' σ ρ' vs rs → Q vs H'
abbrev DE (X : Cx) (e : Expr) (f : Fe) : Prop := PE X e (teOf X.K f)
abbrev DT (X : Cx) (e : Expr) (f : Ft) : Prop := PT X e (ttOf X.K f)
abbrev DW (X : Cx) (e : Expr) (f : Ft) : Prop := PW X e (ttOf X.K f)
abbrev DA (X : Cx) (es : List Expr) (f : Fa) : Prop := PA X es (taOf X.K f)
theorem PE.weak {X : Cx} {e : Expr} {t t' : TE} (h : PE X e t) (w : ∀ σ H Q, t' σ H Q → t σ H Q) : PE X e t' := ⟨fun pins s σ H Q I q => h.run pins s σ H Q I (w σ H Q q)⟩
theorem PT.weak {X : Cx} {e : Expr} {t t' : TT} (h : PT X e t) (w : ∀ σ H Q, t' σ H Q → t σ H Q) : PT X e t' := ⟨fun pins s σ H Q I q => h.run pins s σ H Q I (w σ H Q q)⟩
theorem PW.weak {X : Cx} {e : Expr} {t t' : TT} (h : PW X e t) (w : ∀ σ H Q, t' σ H Q → t σ H Q) : PW X e t' := ⟨fun wh pins s σ H Q I q => h.run wh pins s σ H Q I (w σ H Q q)⟩
theorem PA.weak {X : Cx} {e : List Expr} {t t' : TA} (h : PA X e t) (w : ∀ σ H Q, t' σ H Q → t σ H Q) : PA X e t' := ⟨fun pos pins s σ H Q I q => h.run pos pins s σ H Q I (w σ H Q q)⟩
section
variable {K : PySem.W.Frag} {H0 G H G1 H1 G2 H2 G' H' : Hp} {σ : L2.St} {ρ ρ1 ρ2 ρ' : En} {v : V} {r : Sl} {d : D}
theorem ROk.aft (k : ROk K H0 G1 H1 σ ρ1 v r) (a : Aft K G1 H1 σ ρ1 G2 H2 σ ρ2) : ROk K H0 G2 H2 σ ρ2 v r := by
  cases r with
  | un => exact k
  | fz d => exact Rp.up k a.ex
  | rf m => exact k
  | bw i => exact k
  | ow m =>
    obtain ⟨p, o, rfl, h0, h1, h2, h3, h4⟩ := k
    obtain ⟨k1, k2⟩ := a.keep p o h2 h4
    exact ⟨p, o, rfl, h0, k2 h1 h3.nt, k1, h3.up a.ex, a.nown h2 h4⟩
theorem ROk.start (k : ROk K H1 G2 H2 σ ρ2 v r) (dom : ∀ a o, H0 a = some o → ∃ o', H1 a = some o') : ROk K H0 G2 H2 σ ρ2 v r := by
  cases r with
  | un => exact k
  | fz d => exact k
  | rf m => exact k
  | bw i => exact k
  | ow m =>
    obtain ⟨p, o, rfl, h0, h⟩ := k
    exact ⟨p, o, rfl, none_back dom h0, h⟩
theorem RsOk.aft {vs : List V} {rs : List Sl} (a : Aft K G1 H1 σ ρ1 G2 H2 σ ρ2) : ∀ {vs : List V} {rs : List Sl}, RsOk K H0 G1 H1 σ ρ1 vs rs → RsOk K H0 G2 H2 σ ρ2 vs rs
  | _, _, .nil => .nil
  | _, _, .cons h t => .cons (h.aft a) (RsOk.aft (vs := vs) (rs := rs) a t)
theorem RsOk.start (dom : ∀ a o, H0 a = some o → ∃ o', H1 a = some o') : ∀ {vs : List V} {rs : List Sl}, RsOk K H1 G2 H2 σ ρ2 vs rs → RsOk K H0 G2 H2 σ ρ2 vs rs
  | _, _, .nil => .nil
  | _, _, .cons h t => .cons (h.start dom) (RsOk.start dom t)
/-! ### what an operand is read as -/
def rd (ρ : En) : Sl → Option D
  | .fz d => some d
  | .ow (.l xs) => some (.lst xs)
  | .bw i => match ρ[i]? with
    | some (.fz d) => some d
    | some (.ow (.l xs)) => some (.lst xs)
    | some (.rf (.l xs)) => some (.lst xs)
    | _ => none
  | _ => none
/-- read now: a list whose items stay, or what stays -/
def Vw (K : PySem.W.Frag) (G H : Hp) (v : V) (d : D) : Prop := (∃ xs p vs, d = .lst xs ∧ v = .ref p ∧ H p = some (.lst vs) ∧ Rps K G vs xs) ∨ Rp K G v d
theorem rd_ok (g : Good K G H σ ρ) (k : ROk K H0 G H σ ρ v r) (e : rd ρ r = some d) : Vw K G H v d := by
  cases r with
  | un => cases e
  | rf m => cases e
  | fz d' => cases e; exact .inr k
  | ow m =>
    cases m with
    | k _ => cases e
    | t _ => cases e
    | l xs =>
      cases e
      obtain ⟨p, o, rfl, h0, h1, h2, h3, h4⟩ := k
      cases h3 with
      | l h3 => exact .inl ⟨xs, p, _, rfl, rfl, h2, h3⟩
  | bw i =>
    have e' : (match ρ[i]? with | some (.fz d) => some d | some (.ow (.l xs)) => some (.lst xs) | some (.rf (.l xs)) => some (.lst xs) | _ => none) = some d := e
    have k' : σ[i]? = some (some v) := k
    cases q : ρ[i]? with
    | none => rw [q] at e'; cases e'
    | some x =>
      rw [q] at e'
      have s := g.sl i _ _ k' q
      cases x with
      | un => cases e'
      | bw _ => cases e'
      | fz d' =>
        cases e'
        obtain ⟨v', h1, h2⟩ := s
        cases h1
        exact .inr h2
      | ow m =>
        cases m with
        | k _ => cases e'
        | t _ => cases e'
        | l xs =>
          cases e'
          obtain ⟨p, o, h1, h2, h3, h4⟩ := s
          cases h1
          cases h4 with
          | l h4 => exact .inl ⟨xs, p, _, rfl, rfl, h3, h4⟩
      | rf m =>
        cases m with
        | k _ => cases e'
        | t _ => cases e'
        | l xs =>
          cases e'
          obtain ⟨p, o, h1, h2, h3, h4⟩ := s
          cases h1
          cases h4 with
          | l h4 => exact .inl ⟨xs, p, _, rfl, rfl, h3, h4⟩
theorem Vw.rp (ex : Ex G H) (h : Vw K G H v d) : Rp K H v d := by
  rcases h with ⟨xs, p, vs, rfl, rfl, h1, h2⟩ | h
  · exact .lst h1 (h2.up ex)
  · exact h.up ex
theorem Vw.lst {xs : List D} (ex : Ex G H) (h : Vw K G H v (.lst xs)) : ∃ p vs, v = .ref p ∧ H p = some (.lst vs) ∧ Rps K G vs xs := by
  rcases h with ⟨ys, p, vs, e, rfl, h1, h2⟩ | h
  · cases e; exact ⟨p, vs, rfl, h1, h2⟩
  · cases h with
    | lst h1 h2 => exact ⟨_, _, rfl, ex _ _ h1, h2⟩
theorem Vw.tup {xs : List D} (ex : Ex G H) (h : Vw K G H v (.tup xs)) : ∃ p vs, v = .ref p ∧ G p = some (.tup vs) ∧ H p = some (.tup vs) ∧ Rps K G vs xs := by
  rcases h with ⟨ys, p, vs, e, rfl, h1, h2⟩ | h
  · cases e
  · cases h with
    | tup h1 h2 => exact ⟨_, _, rfl, h1, ex _ _ h1, h2⟩
theorem Vw.int {i : Int} (h : Vw K G H v (.int i)) : v = .int i := by
  rcases h with ⟨ys, p, vs, e, rfl, h1, h2⟩ | h
  · cases e
  · exact h.of_int
theorem Vw.bl {i : Bool} (h : Vw K G H v (.bl i)) : v = .bl i := by
  rcases h with ⟨ys, p, vs, e, rfl, h1, h2⟩ | h
  · cases e
  · exact h.of_bl
theorem Vw.str {i : Str} (h : Vw K G H v (.str i)) : v = .str i := by
  rcases h with ⟨ys, p, vs, e, rfl, h1, h2⟩ | h
  · cases e
  · exact h.of_str
theorem Vw.non (h : Vw K G H v .non) : v = .non := by
  rcases h with ⟨ys, p, vs, e, rfl, h1, h2⟩ | h
  · cases e
  · exact h.of_non
theorem Vw.scr {ns : List Int} (ex : Ex G H) (h : Vw K G H v (.scr ns)) : ∃ p, v = .ref p ∧ SqL K H p (ns.map V.int) := by
  rcases h with ⟨ys, p, vs, e, rfl, h1, h2⟩ | h
  · cases e
  · cases h with
    | scr h1 => exact ⟨_, rfl, ex.seq h1⟩
/-- lists of operands -/
inductive Vws (K : PySem.W.Frag) (G H : Hp) : List V → List D → Prop
  | nil : Vws K G H [] []
  | cons {v : V} {vs : List V} {d : D} {ds : List D} : Vw K G H v d → Vws K G H vs ds → Vws K G H (v :: vs) (d :: ds)
def rds (ρ : En) : List Sl → Option (List D)
  | [] => some []
  | r :: rs => match rd ρ r with
    | some d => match rds ρ rs with
      | some ds => some (d :: ds)
      | none => none
    | none => none
theorem rds_ok (g : Good K G H σ ρ) : ∀ {vs : List V} {rs : List Sl} {ds : List D}, RsOk K H0 G H σ ρ vs rs → rds ρ rs = some ds → Vws K G H vs ds
  | _, _, _, .nil, e => by cases e; exact .nil
  | _, _, _, .cons (r := r) (rs := rs) h t, e => by
    unfold rds at e
    cases q : rd ρ r with
    | none => rw [q] at e; cases e
    | some d =>
      rw [q] at e
      cases q2 : rds ρ rs with
      | none => rw [q2] at e; cases e
      | some ds =>
        rw [q2] at e
        cases e
        exact .cons (rd_ok g h q) (rds_ok g t q2)
/-! ### a result that stays -/
def fr (ρ : En) : Sl → Option (D × En)
  | .fz d => some (d, ρ)
  | .ow (.l xs) => some (.lst xs, ρ)
  | .bw i => match ρ[i]? with
    | some (.fz d) => some (d, ρ)
    | some (.ow (.l xs)) => some (.lst xs, ρ.set i (.fz (.lst xs)))
    | _ => none
  | _ => none
theorem fr_ok {ρ0 : En} {Hs : Hp} {Gs : Hp} (a : Aft K Gs Hs σ ρ0 G H σ ρ) (k : ROk K Hs G H σ ρ v r) (e : fr ρ r = some (d, ρ')) : ∃ G', Aft K Gs Hs σ ρ0 G' H σ ρ' ∧ Rp K G' v d := by
  cases r with
  | un => cases e
  | rf m => cases e
  | fz d' => cases e; exact ⟨G, a, k⟩
  | ow m =>
    cases m with
    | k _ => cases e
    | t _ => cases e
    | l xs =>
      cases e
      obtain ⟨p, o, rfl, h0, h1, h2, h3, h4⟩ := k
      cases h3 with
      | l h3 => exact ⟨_, a.stay h0 h1 h2 h4, .lst upd_same (h3.up (ex_new h1))⟩
  | bw i =>
    have e' : (match ρ[i]? with | some (.fz d) => some (d, ρ) | some (.ow (.l xs)) => some (.lst xs, ρ.set i (.fz (.lst xs))) | _ => none) = some (d, ρ') := e
    have k' : σ[i]? = some (some v) := k
    cases q : ρ[i]? with
    | none => rw [q] at e'; cases e'
    | some x =>
      rw [q] at e'
      have s := a.good.sl i _ _ k' q
      cases x with
      | un => cases e'
      | bw _ => cases e'
      | rf m => cases e'
      | fz d' =>
        cases e'
        obtain ⟨v', h1, h2⟩ := s
        cases h1
        exact ⟨G, a, h2⟩
      | ow m =>
        cases m with
        | k _ => cases e'
        | t _ => cases e'
        | l xs =>
          cases e'
          obtain ⟨p, o, h1, h2, h3, h4⟩ := s
          cases h1
          cases h4 with
          | l h4 =>
            have rr : Rp K (upd G p (.lst _)) (.ref p) (.lst xs) := .lst upd_same (h4.up (ex_new h2))
            exact ⟨_, a.trans (Aft.freeze a.good k' q h3 rr), rr⟩
end
/-- a dict that stays from here on -/
def frK (ρ : En) : Sl → Option (D × En)
  | .ow (.k kvs) => some (.dk (kvs.map (·.1)) (kvs.map (·.2)), ρ)
  | .bw i => match ρ[i]? with
    | some (.ow (.k kvs)) => some (.dk (kvs.map (·.1)) (kvs.map (·.2)), ρ.set i (.fz (.dk (kvs.map (·.1)) (kvs.map (·.2)))))
    | _ => none
  | _ => none
def fr2 (ρ : En) (r : Sl) : Option (D × En) := match fr ρ r with
  | some x => some x
  | none => frK ρ r
theorem RpKV.parts {κ : Type} {K : PySem.W.Frag} {G : Hp} : ∀ {vs : List (κ × V)} {ds : List (κ × D)}, RpKV K G vs ds → vs = (ds.map (·.1)).zip (vs.map (·.2)) ∧ Rps K G (vs.map (·.2)) (ds.map (·.2)) ∧ (ds.map (·.1)).length = (vs.map (·.2)).length
  | _, _, .nil => ⟨rfl, .nil, rfl⟩
  | _, _, .cons h t => by
    obtain ⟨a, b, c⟩ := RpKV.parts t
    refine ⟨?_, .cons h b, by simpa using c⟩
    rw [List.map_cons, List.map_cons, List.zip_cons_cons, ← a]
section
variable {K : PySem.W.Frag} {G H Gs Hs : Hp} {σ : L2.St} {ρ ρ0 ρ' : En} {v : V} {r : Sl} {d : D}
theorem frK_ok (a : Aft K Gs Hs σ ρ0 G H σ ρ) (k : ROk K Hs G H σ ρ v r) (e : frK ρ r = some (d, ρ')) :
    ∃ p vs, v = .ref p ∧ H p = some (.dK vs) ∧ ∀ od, ∃ G', Aft K Gs Hs σ ρ0 G' (upd H p (.frz od (.dK vs))) σ ρ' ∧ Rp K G' v d := by
  cases r with
  | un => cases e
  | rf m => cases e
  | fz d' => cases e
  | ow m =>
    cases m with
    | l _ => cases e
    | t _ => cases e
    | k kvs =>
      cases e
      obtain ⟨p, o, rfl, h0, h1, h2, h3, h4⟩ := k
      cases h3 with
      | @k vs _ h3 =>
        refine ⟨p, vs, rfl, h2, fun od => ?_⟩
        have A1 := a.mut (o := .frz od (.dK vs)) h0 h1 h4
        have A2 := A1.stay h0 h1 upd_same h4
        obtain ⟨e1, e2, e3⟩ := h3.parts
        exact ⟨_, A2, .dk (od := od) (by rw [upd_same, ← e1]) (e2.up (ex_new h1)) e3⟩
  | bw i =>
    have e' : (match ρ[i]? with | some (.ow (.k kvs)) => some (D.dk (kvs.map (·.1)) (kvs.map (·.2)), ρ.set i (.fz (.dk (kvs.map (·.1)) (kvs.map (·.2))))) | _ => none) = some (d, ρ') := e
    have k' : σ[i]? = some (some v) := k
    split at e'
    · rename_i kvs q
      cases e'
      obtain ⟨p, o, h1, h2, h3, h4⟩ := a.good.sl i _ _ k' q
      cases h1
      cases h4 with
      | @k vs _ h4 =>
        refine ⟨p, vs, rfl, h3, fun od => ?_⟩
        have ni : notRf ρ i = true := by
          unfold notRf
          rw [q]
        have es : σ.set i (some (.ref p)) = σ := by
          apply List.ext_getElem?
          intro j
          by_cases z : i = j
          · subst z
            rw [k', List.getElem?_set_self (List.getElem?_eq_some_iff.mp k').1]
          · rw [List.getElem?_set_ne z]
        have A1 := a.store (i := i) (s := some (.ref p)) (r := .un) trivial (fun p _ z => by rcases z with ⟨m, z⟩ | ⟨m, z⟩ <;> cases z) ni
        rw [es] at A1
        have own : OwnA σ ρ p := ⟨i, k', .inl ⟨_, q⟩⟩
        have h0 : Hs p = none ∨ OwnA σ ρ0 p := (a.own i p ⟨k', .inl ⟨_, q⟩⟩).symm
        have no : ¬ OwnA σ (ρ.set i .un) p := fun ⟨j, o1, o2⟩ => by
          by_cases z : j = i
          · subst z
            rcases o2 with ⟨m, o2⟩ | ⟨m, o2⟩
            · rcases getElem?_set_cases o2 with ⟨_, y⟩ | ⟨y, _⟩
              · cases y
              · exact y rfl
            · rcases getElem?_set_cases o2 with ⟨_, y⟩ | ⟨y, _⟩
              · cases y
              · exact y rfl
          · rw [List.getElem?_set_ne (Ne.symm z)] at o2
            exact z (a.good.nd j i p ⟨o1, o2⟩ ⟨k', .inl ⟨_, q⟩⟩)
        have A2 := A1.mutO (o := .frz od (.dK vs)) h0 h2 no
        have A3 := A2.stayO (h0.elim .inl fun z => .inr (.inl z)) h2 upd_same no
        obtain ⟨e1, e2, e3⟩ := h4.parts
        have R : Rp K (upd G p (.frz od (.dK vs))) (.ref p) (.dk (kvs.map (·.1)) (kvs.map (·.2))) := .dk (od := od) (by rw [upd_same, ← e1]) (e2.up (ex_new h2)) e3
        have n2 : notRf (ρ.set i .un) i = true := by
          unfold notRf
          rw [List.getElem?_set_self (List.getElem?_eq_some_iff.mp q).1]
        have A4 := A3.store (i := i) (s := some (.ref p)) (r := .fz _) ⟨_, rfl, R⟩ (fun p _ z => by rcases z with ⟨m, z⟩ | ⟨m, z⟩ <;> cases z) n2
        rw [es, List.set_set] at A4
        exact ⟨_, A4, R⟩
    · cases e'
end
/-- evaluate and let it stay -/
def dFr (f : Fe) : En → Option (D × En) := fun ρ => match f ρ with
  | some (r, ρ1) => fr2 ρ1 r
  | none => none
def tdOf (K : PySem.W.Frag) (f : En → Option (D × En)) : TE := fun σ H Q => ∃ G ρ d ρ', Good K G H σ ρ ∧ f ρ = some (d, ρ') ∧ ∀ v G' H', Aft K G H σ ρ G' H' σ ρ' → Rp K G' v d → Q v H'
section
variable {X : Cx} {e a b c : Expr} {f fa fb fc : Fe} {pos : Pos}
theorem de_fr (h : DE X e f) : PE X e (tdOf X.K (dFr f)) := ⟨fun pins s σ H Q I ⟨G, ρ, d, ρ', g, e, k⟩ => by
  unfold dFr at e
  cases q : f ρ with
  | none => rw [q] at e; cases e
  | some x =>
    obtain ⟨r, ρ1⟩ := x
    rw [q] at e
    replace e : fr2 ρ1 r = some (d, ρ') := e
    unfold fr2 at e
    split at e
    · rename_i y q2
      cases e
      refine h.run pins s σ H Q I ⟨G, ρ, r, ρ1, g, q, fun v G1 H1 A1 R1 => ?_⟩
      obtain ⟨G2, A2, R2⟩ := fr_ok A1 R1 q2
      exact k v G2 H1 A2 R2
    · have h' := h.run pins s σ H (fun v H1 => ∃ p vs, v = .ref p ∧ H1 p = some (.dK vs) ∧ ∀ od, Q v (upd H1 p (.frz od (.dK vs)))) I ⟨G, ρ, r, ρ1, g, q, fun v G1 H1 A1 R1 => by
        obtain ⟨p, vs, h1, h2, h3⟩ := frK_ok A1 R1 e
        refine ⟨p, vs, h1, h2, fun od => ?_⟩
        obtain ⟨G2, A2, R2⟩ := h3 od
        exact k v G2 _ A2 R2⟩
      refine wpAny_mono h' (fun v s1 ⟨x, H1, I1, rx, p, vs, _, hp, hq⟩ => ?_) fun _ _ z => z
      obtain ⟨od, I2⟩ := I1.lock hp trivial
      exact ⟨x, _, I2, rx, hq od⟩⟩
/-! ### names and constants -/
def eVar (i : Nat) : Fe := fun ρ => match ρ[i]? with
  | some (.fz d) => some (.fz d, ρ)
  | some (.ow _) => some (.bw i, ρ)
  | some (.rf _) => some (.bw i, ρ)
  | _ => none
def eC (d : D) : Fe := fun ρ => some (.fz d, ρ)
theorem de_of_var {x : Expr} {i : Nat} (h : PE X x (tVar i)) : DE X x (eVar i) := PE.weak h fun σ H Q ⟨G, ρ, r, ρ', g, e, k⟩ => by
  have e' : (match ρ[i]? with | some (.fz d) => some (Sl.fz d, ρ) | some (.ow _) => some (.bw i, ρ) | some (.rf _) => some (.bw i, ρ) | _ => none) = some (r, ρ') := e
  cases q : ρ[i]? with
  | none => rw [q] at e'; cases e'
  | some z =>
    rw [q] at e'
    have hi : i < σ.length := by
      rw [g.len]
      exact (List.getElem?_eq_some_iff.mp q).1
    have hs : σ[i]? = some σ[i] := List.getElem?_eq_getElem hi
    have s := g.sl i _ _ hs q
    cases z with
    | un => cases e'
    | bw _ => cases e'
    | fz d =>
      cases e'
      obtain ⟨v, h1, h2⟩ := s
      exact ⟨v, by rw [hs, h1], k v G H (Aft.refl g) h2⟩
    | ow m =>
      cases e'
      obtain ⟨p, o, h1, _⟩ := s
      exact ⟨.ref p, by rw [hs, h1], k _ G H (Aft.refl g) (show σ[i]? = some (some (.ref p)) by rw [hs, h1])⟩
    | rf m =>
      cases e'
      obtain ⟨p, o, h1, _⟩ := s
      exact ⟨.ref p, by rw [hs, h1], k _ G H (Aft.refl g) (show σ[i]? = some (some (.ref p)) by rw [hs, h1])⟩
theorem de_of_c {x : Expr} {v : V} {d : D} (h : PE X x (tC v)) (r : ∀ G, Rp X.K G v d) : DE X x (eC d) := PE.weak h fun σ H Q ⟨G, ρ, z, ρ', g, e, k⟩ => by
  cases e
  exact k v G H (Aft.refl g) (r G)
theorem dv (i : Nat) {x : Str} {pos : Pos} (hN : X.N[i]? = some x := by rfl) (hv : Vis X.env.scope x := by first | exact Or.inl rfl | exact Or.inr (Or.inl rfl) | exact Or.inr (Or.inr rfl)) (hd : (x == ("__debug__" : Str)) = false := by decide)
    (hcd : (x == ("__classdict__" : Str)) = false := by decide) : DE X (.Name x pos) (eVar i) := de_of_var (pv i hN hv hd hcd)
theorem de_int {i j pos} : DE X (.Constant (.int i) j pos) (eC (.int i)) := de_of_c pe_int fun _ => .int i
theorem de_str {i j pos} : DE X (.Constant (.str i) j pos) (eC (.str i)) := de_of_c pe_str fun _ => .str i
theorem de_bl {i j pos} : DE X (.Constant (.bool i) j pos) (eC (.bl i)) := de_of_c pe_bl fun _ => .bl i
theorem de_non {j pos} : DE X (.Constant .none j pos) (eC .non) := de_of_c pe_non fun _ => .non
/-! ### two operands -/
def Op2 (K : PySem.W.Frag) (r : R2) (g : D → D → Option Sl) : Prop := ∀ {G H : Hp} {σ : L2.St} {ρ : En} {x y : V} {d e : D} {z : Sl} {Q : VK}, Good K G H σ ρ → Vw K G H x d → Vw K G H y e → g d e = some z →
  (∀ v G' H', Aft K G H σ ρ G' H' σ ρ → ROk K H G' H' σ ρ v z → Q v H') → r x y H Q
def dOp2 (g : D → D → Option Sl) (fa fb : Fe) : Fe := fun ρ => match fa ρ with
  | some (ra, ρ1) => match fb ρ1 with
    | some (rb, ρ2) => match rd ρ2 ra, rd ρ2 rb with
      | some d, some e => match g d e with
        | some z => some (z, ρ2)
        | none => none
      | _, _ => none
    | none => none
  | none => none
theorem dOp2_inv {g : D → D → Option Sl} {ρ ρ' : En} {z : Sl} (e : dOp2 g fa fb ρ = some (z, ρ')) : ∃ ra ρ1 rb da db, fa ρ = some (ra, ρ1) ∧ fb ρ1 = some (rb, ρ') ∧ rd ρ' ra = some da ∧ rd ρ' rb = some db ∧ g da db = some z := by
  unfold dOp2 at e
  cases q : fa ρ with
  | none => rw [q] at e; cases e
  | some x =>
    obtain ⟨ra, ρ1⟩ := x
    rw [q] at e
    cases q2 : fb ρ1 with
    | none => simp only [q2] at e; cases e
    | some y =>
      obtain ⟨rb, ρ2⟩ := y
      simp only [q2] at e
      cases q3 : rd ρ2 ra with
      | none => simp only [q3] at e; cases e
      | some da =>
        cases q4 : rd ρ2 rb with
        | none => simp only [q3, q4] at e; cases e
        | some db =>
          simp only [q3, q4] at e
          cases q5 : g da db with
          | none => simp only [q5] at e; cases e
          | some w =>
            simp only [q5] at e
            cases e
            exact ⟨ra, ρ1, rb, da, db, rfl, q2, q3, q4, q5⟩
theorem tOp_of {K : PySem.W.Frag} {r : R2} {g : D → D → Option Sl} (hg : Op2 K r g) : ∀ σ H Q, teOf K (dOp2 g fa fb) σ H Q → tOp r (teOf K fa) (teOf K fb) σ H Q := fun σ H Q ⟨G, ρ, z, ρ', gd, e, k⟩ => by
  obtain ⟨ra, ρ1, rb, da, db, q1, q2, q3, q4, q5⟩ := dOp2_inv e
  refine ⟨G, ρ, ra, ρ1, gd, q1, fun va G1 H1 A1 R1 => ⟨G1, ρ1, rb, ρ', A1.good, q2, fun vb G2 H2 A2 R2 => ?_⟩⟩
  refine hg A2.good (rd_ok A2.good (R1.aft A2) q3) (rd_ok A2.good R2 q4) q5 fun v G3 H3 A3 R3 => ?_
  exact k v G3 H3 ((A1.trans A2).trans A3) (R3.start (A1.trans A2).dom)
theorem de_op {op : Operator} {r : R2} {g : D → D → Option Sl} (ho : OpR X (binaryOp op) r) (hg : Op2 X.K r g) (ha : DE X a fa) (hb : DE X b fb) : DE X (.BinOp a op b pos) (dOp2 g fa fb) :=
  PE.weak (pe_op ho ha hb) (tOp_of hg)
theorem de_cmp {op : CmpOp} {r : R2} {g : D → D → Option Sl} (ho : OpR X (compareOp op) r) (hg : Op2 X.K r g) (ha : DE X a fa) (hb : DE X b fb) (hm : behindInMarks op b = false) : DE X (.Compare a [op] [b] pos) (dOp2 g fa fb) :=
  PE.weak (pe_cmpR ho ha hb hm) (tOp_of hg)
def dTst (f : Fe) : Ft := fun ρ => match f ρ with
  | some (.fz (.bl b), ρ1) => some (b, ρ1)
  | _ => none
theorem dTst_inv {ρ ρ' : En} {b : Bool} (e : dTst f ρ = some (b, ρ')) : f ρ = some (.fz (.bl b), ρ') := by
  unfold dTst at e
  split at e
  · cases e
    assumption
  · cases e
theorem tTest_of {K : PySem.W.Frag} : ∀ σ H Q, ttOf K (dTst f) σ H Q → tTest (teOf K f) σ H Q := fun σ H Q ⟨G, ρ, b, ρ', g, e, k⟩ =>
  ⟨G, ρ, _, ρ', g, dTst_inv e, fun v G1 H1 A1 R1 => ⟨b, Rp.of_bl R1, k G1 H1 A1⟩⟩
theorem tTest_mono {t t' : TE} {σ : L2.St} {H : Hp} {Q : Bool → Hp → Prop} (w : ∀ σ H Q, t' σ H Q → t σ H Q) (h : tTest t' σ H Q) : tTest t σ H Q := w σ H _ h
theorem dt_cmp {op : CmpOp} {r : R2} {g : D → D → Option Sl} (ho : OpR X (compareOp op) r) (hg : Op2 X.K r g) (ha : DE X a fa) (hb : DE X b fb) (hm : behindInMarks op b = false) : DT X (.Compare a [op] [b] pos) (dTst (dOp2 g fa fb)) :=
  PT.weak (pt_cmpR ho ha hb hm) fun σ H Q q => tTest_mono (tOp_of hg) (tTest_of σ H Q q)
/-- an expression that gives a truth, as a test -/
theorem dt_val (h : DE X e f) (he : ∀ whole, isTrue e X.env whole = (do let v ← whole; standAt e.pos; holding [v] (truthy v)) := by intro _; rfl) : DT X e (dTst f) :=
  PT.weak (pt_val h he) fun σ H Q q => tTest_of σ H Q q
/-! ### and, or, not, if -/
def dAnd (f g : Ft) : Ft := fun ρ => match f ρ with
  | some (true, ρ1) => g ρ1
  | some (false, ρ1) => some (false, ρ1)
  | none => none
def dOr (f g : Ft) : Ft := fun ρ => match f ρ with
  | some (false, ρ1) => g ρ1
  | some (true, ρ1) => some (true, ρ1)
  | none => none
def dNot (f : Ft) : Ft := fun ρ => match f ρ with
  | some (b, ρ1) => some (!b, ρ1)
  | none => none
def dIfE (t : Ft) (f g : Fe) : Fe := fun ρ => match t ρ with
  | some (true, ρ1) => f ρ1
  | some (false, ρ1) => g ρ1
  | none => none
variable {ft fu : Ft} {rest : List Expr}
theorem dw_and1 (ha : DT X a ft) : DW X (.BoolOp .And [a] pos) ft := pw_and1 ha
theorem dw_or1 (ha : DT X a ft) : DW X (.BoolOp .Or [a] pos) ft := pw_or1 ha
theorem dw_and (ha : DT X a ft) (hb : DW X (.BoolOp .And (b :: rest) pos) fu) : DW X (.BoolOp .And (a :: b :: rest) pos) (dAnd ft fu) := PW.weak (pw_and ha hb) fun σ H Q ⟨G, ρ, x, ρ', g, e, k⟩ => by
  unfold dAnd at e
  cases q : ft ρ with
  | none => rw [q] at e; cases e
  | some y =>
    obtain ⟨y, ρ1⟩ := y
    rw [q] at e
    refine ⟨G, ρ, y, ρ1, g, q, fun G1 H1 A1 => ?_⟩
    cases y with
    | true => exact iteT ⟨G1, ρ1, x, ρ', A1.good, e, fun G2 H2 A2 => k G2 H2 (A1.trans A2)⟩
    | false =>
      cases e
      exact iteF (k G1 H1 A1)
theorem dw_or (ha : DT X a ft) (hb : DW X (.BoolOp .Or (b :: rest) pos) fu) : DW X (.BoolOp .Or (a :: b :: rest) pos) (dOr ft fu) := PW.weak (pw_or ha hb) fun σ H Q ⟨G, ρ, x, ρ', g, e, k⟩ => by
  unfold dOr at e
  cases q : ft ρ with
  | none => rw [q] at e; cases e
  | some y =>
    obtain ⟨y, ρ1⟩ := y
    rw [q] at e
    refine ⟨G, ρ, y, ρ1, g, q, fun G1 H1 A1 => ?_⟩
    cases y with
    | false => exact iteF ⟨G1, ρ1, x, ρ', A1.good, e, fun G2 H2 A2 => k G2 H2 (A1.trans A2)⟩
    | true =>
      cases e
      exact iteT (k G1 H1 A1)
theorem dt_bool (h : DW X e ft) : DT X e ft := h.pt
theorem dt_not (ha : DT X a ft) : DT X (.UnaryOp .Not a pos) (dNot ft) := PT.weak (pt_not ha) fun σ H Q ⟨G, ρ, x, ρ', g, e, k⟩ => by
  unfold dNot at e
  cases q : ft ρ with
  | none => rw [q] at e; cases e
  | some y =>
    obtain ⟨y, ρ1⟩ := y
    rw [q] at e
    cases e
    exact ⟨G, ρ, y, _, g, q, k⟩
theorem de_if (hc : DT X c ft) (ha : DE X a fa) (hb : DE X b fb) : DE X (.IfExp c a b pos) (dIfE ft fa fb) := PE.weak (pe_ifExp hc ha hb) fun σ H Q ⟨G, ρ, x, ρ', g, e, k⟩ => by
  unfold dIfE at e
  cases q : ft ρ with
  | none => rw [q] at e; cases e
  | some y =>
    obtain ⟨y, ρ1⟩ := y
    rw [q] at e
    refine ⟨G, ρ, y, ρ1, g, q, fun G1 H1 A1 => ?_⟩
    cases y with
    | true => exact iteT ⟨G1, ρ1, x, ρ', A1.good, e, fun v G2 H2 A2 R2 => k v G2 H2 (A1.trans A2) (R2.start A1.dom)⟩
    | false => exact iteF ⟨G1, ρ1, x, ρ', A1.good, e, fun v G2 H2 A2 R2 => k v G2 H2 (A1.trans A2) (R2.start A1.dom)⟩
/-- values of and, or, not, all of them truths -/
def dAndV (f g : Fe) : Fe := fun ρ => match f ρ with
  | some (.fz (.bl true), ρ1) => g ρ1
  | some (.fz (.bl false), ρ1) => some (.fz (.bl false), ρ1)
  | _ => none
def dOrV (f g : Fe) : Fe := fun ρ => match f ρ with
  | some (.fz (.bl false), ρ1) => g ρ1
  | some (.fz (.bl true), ρ1) => some (.fz (.bl true), ρ1)
  | _ => none
theorem de_one {op} (h : DE X a fa) : DE X (.BoolOp op [a] pos) fa := pe_one h
theorem de_and (ha : DE X a fa) (hb : DE X (.BoolOp .And (b :: rest) pos) fb) : DE X (.BoolOp .And (a :: b :: rest) pos) (dAndV fa fb) := PE.weak (pe_and ha hb) fun σ H Q ⟨G, ρ, x, ρ', g, e, k⟩ => by
  unfold dAndV at e
  split at e
  · rename_i ρ1 q
    exact ⟨G, ρ, _, ρ1, g, q, fun v G1 H1 A1 R1 => ⟨true, Rp.of_bl R1, iteT ⟨G1, ρ1, x, ρ', A1.good, e, fun v G2 H2 A2 R2 => k v G2 H2 (A1.trans A2) (R2.start A1.dom)⟩⟩⟩
  · rename_i ρ1 q
    cases e
    exact ⟨G, ρ, _, _, g, q, fun v G1 H1 A1 R1 => ⟨false, Rp.of_bl R1, iteF (k _ G1 H1 A1 (.bl false))⟩⟩
  · cases e
theorem de_or (ha : DE X a fa) (hb : DE X (.BoolOp .Or (b :: rest) pos) fb) : DE X (.BoolOp .Or (a :: b :: rest) pos) (dOrV fa fb) := PE.weak (pe_or ha hb) fun σ H Q ⟨G, ρ, x, ρ', g, e, k⟩ => by
  unfold dOrV at e
  split at e
  · rename_i ρ1 q
    exact ⟨G, ρ, _, ρ1, g, q, fun v G1 H1 A1 R1 => ⟨false, Rp.of_bl R1, iteF ⟨G1, ρ1, x, ρ', A1.good, e, fun v G2 H2 A2 R2 => k v G2 H2 (A1.trans A2) (R2.start A1.dom)⟩⟩⟩
  · rename_i ρ1 q
    cases e
    exact ⟨G, ρ, _, _, g, q, fun v G1 H1 A1 R1 => ⟨true, Rp.of_bl R1, iteT (k _ G1 H1 A1 (.bl true))⟩⟩
  · cases e
def dNotV (f : Fe) : Fe := fun ρ => match f ρ with
  | some (.fz (.bl b), ρ1) => some (.fz (.bl (!b)), ρ1)
  | _ => none
theorem de_not (ha : DE X a fa) : DE X (.UnaryOp .Not a pos) (dNotV fa) := PE.weak (pe_not ha) fun σ H Q ⟨G, ρ, x, ρ', g, e, k⟩ => by
  unfold dNotV at e
  split at e
  · rename_i b ρ1 q
    cases e
    exact ⟨G, ρ, _, _, g, q, fun v G1 H1 A1 R1 => ⟨b, Rp.of_bl R1, k _ G1 H1 A1 (.bl _)⟩⟩
  · cases e
/-! ### arguments -/
def aNil : Fa := fun ρ => some ([], ρ)
def aCons (f : Fe) (g : Fa) : Fa := fun ρ => match f ρ with
  | some (r, ρ1) => match g ρ1 with
    | some (rs, ρ2) => some (r :: rs, ρ2)
    | none => none
  | none => none
/-- each let stay as it comes -/
def aFr (f : Fe) (g : Fa) : Fa := fun ρ => match dFr f ρ with
  | some (d, ρ1) => match g ρ1 with
    | some (rs, ρ2) => some (.fz d :: rs, ρ2)
    | none => none
  | none => none
variable {es : List Expr} {ga : Fa}
theorem da_nil : DA X [] aNil := PA.weak pa_nil fun σ H Q ⟨G, ρ, x, ρ', g, e, k⟩ => by
  cases e
  exact k [] G H (Aft.refl g) .nil
theorem da_cons (ha : DE X e f) (hr : DA X es ga) (hs : starEach (e :: es) X.env = (false, eval e X.env) :: starEach es X.env := by rfl) : DA X (e :: es) (aCons f ga) := PA.weak (pa_cons ha hr hs) fun σ H Q ⟨G, ρ, x, ρ', g, q, k⟩ => by
  unfold aCons at q
  cases q1 : f ρ with
  | none => rw [q1] at q; cases q
  | some y =>
    obtain ⟨r, ρ1⟩ := y
    rw [q1] at q
    cases q2 : ga ρ1 with
    | none => simp only [q2] at q; cases q
    | some y =>
      obtain ⟨rs, ρ2⟩ := y
      simp only [q2] at q
      cases q
      exact ⟨G, ρ, r, ρ1, g, q1, fun v G1 H1 A1 R1 => ⟨G1, ρ1, rs, _, A1.good, q2, fun vs G2 H2 A2 R2 => k (v :: vs) G2 H2 (A1.trans A2) (.cons (R1.aft A2) (R2.start A1.dom))⟩⟩
theorem da_fr (ha : DE X e f) (hr : DA X es ga) (hs : starEach (e :: es) X.env = (false, eval e X.env) :: starEach es X.env := by rfl) : DA X (e :: es) (aFr f ga) := PA.weak (pa_cons (de_fr ha) hr hs) fun σ H Q ⟨G, ρ, x, ρ', g, q, k⟩ => by
  unfold aFr at q
  cases q1 : dFr f ρ with
  | none => rw [q1] at q; cases q
  | some y =>
    obtain ⟨r, ρ1⟩ := y
    rw [q1] at q
    cases q2 : ga ρ1 with
    | none => simp only [q2] at q; cases q
    | some y =>
      obtain ⟨rs, ρ2⟩ := y
      simp only [q2] at q
      cases q
      refine ⟨G, ρ, r, ρ1, g, q1, fun v G1 H1 A1 R1 => ⟨G1, ρ1, rs, _, A1.good, q2, fun vs G2 H2 A2 R2 => k (v :: vs) G2 H2 (A1.trans A2) (.cons ?_ (R2.start A1.dom))⟩⟩
      exact Rp.up R1 A2.ex
/-! ### built-ins by values -/
def Cl (K : PySem.W.Frag) (r : List V → Hp → VK → Prop) (g : List D → Option Sl) : Prop := ∀ {G H : Hp} {σ : L2.St} {ρ : En} {xs : List V} {ds : List D} {z : Sl} {Q : VK}, Good K G H σ ρ → Vws K G H xs ds → g ds = some z →
  (∀ v G' H', Aft K G H σ ρ G' H' σ ρ → ROk K H G' H' σ ρ v z → Q v H') → r xs H Q
def dCall (g : List D → Option Sl) (fa : Fa) : Fe := fun ρ => match fa ρ with
  | some (rs, ρ1) => match rds ρ1 rs with
    | some ds => match g ds with
      | some z => some (z, ρ1)
      | none => none
    | none => none
  | none => none
theorem dCall_inv {g : List D → Option Sl} {ρ ρ' : En} {z : Sl} (e : dCall g ga ρ = some (z, ρ')) : ∃ rs ds, ga ρ = some (rs, ρ') ∧ rds ρ' rs = some ds ∧ g ds = some z := by
  unfold dCall at e
  cases q : ga ρ with
  | none => rw [q] at e; cases e
  | some x =>
    obtain ⟨rs, ρ1⟩ := x
    rw [q] at e
    cases q2 : rds ρ1 rs with
    | none => simp only [q2] at e; cases e
    | some ds =>
      simp only [q2] at e
      cases q3 : g ds with
      | none => simp only [q3] at e; cases e
      | some w =>
        simp only [q3] at e
        cases e
        exact ⟨rs, ds, rfl, q2, q3⟩
theorem tCB_of {K : PySem.W.Frag} {r : List V → Hp → VK → Prop} {g : List D → Option Sl} (hg : Cl K r g) : ∀ σ H Q, teOf K (dCall g ga) σ H Q → tCB r (taOf K ga) σ H Q := fun σ H Q ⟨G, ρ, z, ρ', gd, e, k⟩ => by
  obtain ⟨rs, ds, q1, q2, q3⟩ := dCall_inv e
  refine ⟨G, ρ, rs, ρ', gd, q1, fun vs G1 H1 A1 R1 => ?_⟩
  exact hg A1.good (rds_ok A1.good R1 q2) q3 fun v G3 H3 A3 R3 => k v G3 H3 (A1.trans A3) (R3.start A1.dom)
variable {x : Str} {p : Pos} {id T : String} {r : List V → Hp → VK → Prop} {g : List D → Option Sl}
theorem de_callB (hc : CallR X (.builtin id) r) (hg : Cl X.K r g) (hx : Gl X x) (hm : X.mg x = none) (hv : bootBuiltins x = some (.builtin id)) (ha : DA X (e :: es) ga) (hn : x ≠ "__name__" := by decide) (hdb : (x == ("__debug__" : Str)) = false := by decide)
    (he : starEach (e :: es) X.env = (false, eval e X.env) :: starEach es X.env := by rfl) (hpl : (backTo pos (starEach es X.env)).any (·.1) = false := by rfl) : DE X (.Call (.Name x p) (e :: es) [] pos) (dCall g ga) :=
  PE.weak (pe_callB hc hx hm hv ha hn hdb he hpl) (tCB_of hg)
theorem de_callTy (hc : CallR X (.type T) r) (hg : Cl X.K r g) (hx : Gl X x) (hm : X.mg x = none) (hv : bootBuiltins x = some (.type T)) (ha : DA X (e :: es) ga) (hn : x ≠ "__name__" := by decide) (hdb : (x == ("__debug__" : Str)) = false := by decide)
    (he : starEach (e :: es) X.env = (false, eval e X.env) :: starEach es X.env := by rfl) (hpl : (backTo pos (starEach es X.env)).any (·.1) = false := by rfl) : DE X (.Call (.Name x p) (e :: es) [] pos) (dCall g ga) :=
  PE.weak (pe_callTy hc hx hm hv ha hn hdb he hpl) (tCB_of hg)
end
end DL
set_option Elab.async false
set_option linter.all false
set_option maxRecDepth 100000
set_option maxHeartbeats 2000000
namespace DL
open PySem PySem.Spec L2
/-! ### statements -/
/-- how a statement ends -/
inductive Fl where
  | nx | bk | ct | rt (r : Sl) | ex (C : Addr) (ns : List Str) (ds : List D)
abbrev Fs := En → Option (Fl × En)
def EndsOk (K : PySem.W.Frag) (E : XK) (D : Ends) (H0 G' H' : Hp) (σ' : L2.St) (ρ' : En) : Fl → Prop
  | .nx => D.nx σ' H'
  | .bk => D.bk σ' H'
  | .ct => D.ct σ' H'
  | .rt r => ∀ v, ROk K H0 G' H' σ' ρ' v r → D.rt v H'
  | .ex C ns ds => ∀ d vs, H0 d = none → G' d = none → H' d = some (.xd (ns.zip vs)) → ns.length = vs.length → Rps K G' vs ds → E (.ref C) (some d) H'
def tsOf (K : PySem.W.Frag) (E : XK) (B : Fs) : TS := fun D σ H => ∃ G ρ fl ρ', Good K G H σ ρ ∧ B ρ = some (fl, ρ') ∧ ∀ σ' G' H', Aft K G H σ ρ G' H' σ' ρ' → EndsOk K E D H G' H' σ' ρ' fl
abbrev DS (X : Cx) (E : XK) (st : Stmt) (B : Fs) : Prop := PS X st (tsOf X.K E B)
abbrev DB (X : Cx) (E : XK) (st : List Stmt) (B : Fs) : Prop := PSs X st (tsOf X.K E B)
theorem PS.weak {X : Cx} {e : Stmt} {t t' : TS} (h : PS X e t) (w : ∀ D σ H, t' D σ H → t D σ H) : PS X e t' := ⟨fun pins s σ H Q I q => h.run pins s σ H Q I (w Q σ H q)⟩
theorem PSs.weak {X : Cx} {e : List Stmt} {t t' : TS} (h : PSs X e t) (w : ∀ D σ H, t' D σ H → t D σ H) : PSs X e t' := ⟨fun pins s σ H Q I q => h.run pins s σ H Q I (w Q σ H q)⟩
theorem EndsOk.start {K : PySem.W.Frag} {E : XK} {D : Ends} {H0 H1 G' H' : Hp} {σ' : L2.St} {ρ' : En} {fl : Fl} (k : EndsOk K E D H0 G' H' σ' ρ' fl) (dom : ∀ a o, H0 a = some o → ∃ o', H1 a = some o') : EndsOk K E D H1 G' H' σ' ρ' fl := by
  cases fl with
  | nx => exact k
  | bk => exact k
  | ct => exact k
  | rt r => exact fun v h => k v (h.start dom)
  | ex C ns ds => exact fun d vs h1 h2 h3 h4 h5 => k d vs (none_back dom h1) h2 h3 h4 h5
theorem EndsOk.nx_of {K : PySem.W.Frag} {E : XK} {D : Ends} {u : L2.St → Hp → Prop} {H0 G' H' : Hp} {σ' : L2.St} {ρ' : En} {fl : Fl} (n : fl ≠ .nx) (k : EndsOk K E D H0 G' H' σ' ρ' fl) : EndsOk K E { D with nx := u } H0 G' H' σ' ρ' fl := by
  cases fl with
  | nx => exact absurd rfl n
  | bk => exact k
  | ct => exact k
  | rt r => exact k
  | ex C ns ds => exact k
def bNext : Fs := fun ρ => some (.nx, ρ)
def bSeq (A B : Fs) : Fs := fun ρ => match A ρ with
  | some (.nx, ρ1) => B ρ1
  | o => o
section
variable {X : Cx} {E : XK} {e a b c : Expr} {f fa fb fc : Fe} {ft : Ft} {pos : Pos} {st : Stmt} {rest : List Stmt} {A B : Fs}
theorem db_nil : DB X E [] bNext := PSs.weak pss_nil fun D σ H ⟨G, ρ, fl, ρ', g, e, k⟩ => by
  cases e
  exact k σ G H (Aft.refl g)
theorem db_cons (h1 : DS X E st A) (h2 : DB X E rest B) : DB X E (st :: rest) (bSeq A B) := PSs.weak (pss_cons h1 h2) fun D σ H ⟨G, ρ, fl, ρ', g, e, k⟩ => by
  unfold bSeq at e
  split at e
  · rename_i ρ1 q
    refine ⟨G, ρ, .nx, ρ1, g, q, fun σ1 G1 H1 A1 => ?_⟩
    exact ⟨G1, ρ1, fl, ρ', A1.good, e, fun σ2 G2 H2 A2 => (k σ2 G2 H2 (A1.trans A2)).start A1.dom⟩
  · rename_i n
    refine ⟨G, ρ, fl, ρ', g, e, fun σ1 G1 H1 A1 => ?_⟩
    exact EndsOk.nx_of (fun z => n ρ' (by rw [e, z])) (k σ1 G1 H1 A1)
theorem db_one (h1 : DS X E st A) : DB X E [st] A := pss_one h1
theorem ds_pass : DS X E (.Pass pos) bNext := PS.weak ps_pass fun D σ H ⟨G, ρ, fl, ρ', g, e, k⟩ => by
  cases e
  exact k σ G H (Aft.refl g)
def bBreak : Fs := fun ρ => some (.bk, ρ)
def bCont : Fs := fun ρ => some (.ct, ρ)
theorem ds_break : DS X E (.Break pos) bBreak := PS.weak ps_break fun D σ H ⟨G, ρ, fl, ρ', g, e, k⟩ => by
  cases e
  exact k σ G H (Aft.refl g)
theorem ds_cont : DS X E (.Continue pos) bCont := PS.weak ps_continue fun D σ H ⟨G, ρ, fl, ρ', g, e, k⟩ => by
  cases e
  exact k σ G H (Aft.refl g)
/-- a statement that is never reached -/
def bNever : Fs := fun _ => none
theorem ds_never : DS X E st bNever := PS.weak ps_never fun D σ H ⟨G, ρ, fl, ρ', g, e, k⟩ => nomatch e
def bDrop (f : Fe) : Fs := fun ρ => match f ρ with
  | some (_, ρ1) => some (.nx, ρ1)
  | none => none
theorem ds_expr (h : DE X e f) (hs : swapsWith e none pos.line X.env = pure false := by rfl) : DS X E (.Expr e pos) (bDrop f) := PS.weak (ps_expr h hs) fun D σ H ⟨G, ρ, fl, ρ', g, e, k⟩ => by
  unfold bDrop at e
  cases q : f ρ with
  | none => rw [q] at e; cases e
  | some y =>
    obtain ⟨r, ρ1⟩ := y
    rw [q] at e
    cases e
    exact ⟨G, ρ, r, _, g, q, fun v G1 H1 A1 _ => k σ G1 H1 A1⟩
def bRet (f : Fe) : Fs := fun ρ => match f ρ with
  | some (r, ρ1) => some (.rt r, ρ1)
  | none => none
theorem ds_ret (h : DE X e f) : DS X E (.Return (some e) pos) (bRet f) := PS.weak (ps_ret h) fun D σ H ⟨G, ρ, fl, ρ', g, e, k⟩ => by
  unfold bRet at e
  cases q : f ρ with
  | none => rw [q] at e; cases e
  | some y =>
    obtain ⟨r, ρ1⟩ := y
    rw [q] at e
    cases e
    exact ⟨G, ρ, r, _, g, q, fun v G1 H1 A1 R1 => k σ G1 H1 A1 v R1⟩
def bRetN : Fs := fun ρ => some (.rt (.fz .non), ρ)
theorem ds_retN : DS X E (.Return none pos) bRetN := PS.weak ps_retN fun D σ H ⟨G, ρ, fl, ρ', g, e, k⟩ => by
  cases e
  exact k σ G H (Aft.refl g) .non .non
def bIf (t : Ft) (A B : Fs) : Fs := fun ρ => match t ρ with
  | some (true, ρ1) => A ρ1
  | some (false, ρ1) => B ρ1
  | none => none
theorem ds_if {as bs : List Stmt} (hc : DT X c ft) (ha : DB X E as A) (hb : DB X E bs B) : DS X E (.If c as bs pos) (bIf ft A B) := PS.weak (ps_if hc ha hb) fun D σ H ⟨G, ρ, fl, ρ', g, e, k⟩ => by
  unfold bIf at e
  cases q : ft ρ with
  | none => rw [q] at e; cases e
  | some y =>
    obtain ⟨y, ρ1⟩ := y
    rw [q] at e
    refine ⟨G, ρ, y, ρ1, g, q, fun G1 H1 A1 => ?_⟩
    cases y with
    | true => exact iteT ⟨G1, ρ1, fl, ρ', A1.good, e, fun σ2 G2 H2 A2 => (k σ2 G2 H2 (A1.trans A2)).start A1.dom⟩
    | false => exact iteF ⟨G1, ρ1, fl, ρ', A1.good, e, fun σ2 G2 H2 A2 => (k σ2 G2 H2 (A1.trans A2)).start A1.dom⟩
/-! ### x = e -/
/-- what a slot gets; another name's own thing stays from then on -/
def toSlot (ρ : En) : Sl → Option (Sl × En)
  | .fz d => some (.fz d, ρ)
  | .ow m => some (.ow m, ρ)
  | .bw j => match fr ρ (.bw j) with
    | some (d, ρ1) => some (.fz d, ρ1)
    | none => none
  | _ => none
def bAsg (i : Nat) (f : Fe) : Fs := fun ρ => match f ρ with
  | some (r, ρ1) => match toSlot ρ1 r with
    | some (z, ρ2) => if notRf ρ2 i then some (.nx, ρ2.set i z) else none
    | none => none
  | none => none
theorem asg_ok {K : PySem.W.Frag} {G H G1 H1 : Hp} {σ : L2.St} {ρ ρ1 ρ2 : En} {v : V} {r z : Sl} {i : Nat} (A1 : Aft K G H σ ρ G1 H1 σ ρ1) (R1 : ROk K H G1 H1 σ ρ1 v r) (e : toSlot ρ1 r = some (z, ρ2)) (n : notRf ρ2 i = true) :
    ∃ G2, Aft K G H σ ρ G2 H1 (σ.set i (some v)) (ρ2.set i z) := by
  cases r with
  | un => cases e
  | rf m => cases e
  | fz d =>
    cases e
    exact ⟨G1, A1.store ⟨v, rfl, R1⟩ (fun p h1 h2 => by rcases h2 with ⟨m, h2⟩ | ⟨m, h2⟩ <;> cases h2) n⟩
  | ow m =>
    cases e
    obtain ⟨p, o, rfl, h0, h1, h2, h3, h4⟩ := R1
    exact ⟨G1, A1.store ⟨p, o, rfl, h1, h2, h3⟩ (fun q h1 _ => by cases h1; exact ⟨h4, h0⟩) n⟩
  | bw j =>
    have e' : (match fr ρ1 (.bw j) with | some (d, ρ1) => some (Sl.fz d, ρ1) | none => none) = some (z, ρ2) := e
    cases q : fr ρ1 (.bw j) with
    | none => rw [q] at e'; cases e'
    | some y =>
      obtain ⟨d, ρ3⟩ := y
      rw [q] at e'
      cases e'
      obtain ⟨G2, A2, R2⟩ := fr_ok A1 R1 q
      exact ⟨G2, A2.store ⟨v, rfl, R2⟩ (fun p h1 h2 => by rcases h2 with ⟨m, h2⟩ | ⟨m, h2⟩ <;> cases h2) n⟩
theorem tAsg_of {K : PySem.W.Frag} {i : Nat} : ∀ D σ H, tsOf K E (bAsg i f) D σ H → tAsg (teOf K f) (gName i) D σ H := fun D σ H ⟨G, ρ, fl, ρ', g, e, k⟩ => by
  unfold bAsg at e
  cases q : f ρ with
  | none => rw [q] at e; cases e
  | some y =>
    obtain ⟨r, ρ1⟩ := y
    rw [q] at e
    cases q2 : toSlot ρ1 r with
    | none => simp only [q2] at e; cases e
    | some w =>
      obtain ⟨z, ρ2⟩ := w
      simp only [q2] at e
      split at e
      · rename_i n
        cases e
        refine ⟨G, ρ, r, ρ1, g, q, fun v G1 H1 A1 R1 => ?_⟩
        obtain ⟨G2, A2⟩ := asg_ok A1 R1 q2 n
        exact k _ G2 H1 A2
      · cases e
theorem ds_set {i : Nat} {x : Str} {e : Expr} {pos' : Pos} (hN : X.N.Nodup) (hi : X.N[i]? = some x) (hx : Loc X.env.scope x) (he : DE X e f) (hs : swapsWith e (some (.Name x pos')) pos.line X.env = pure false := by rfl) (hf : X.fn x = true ∨ X.env.scope.names.lookup x = some .local := by first | exact .inl rfl | exact .inr rfl | assumption) :
    DS X E (.Assign [.Name x pos'] e pos) (bAsg i f) := PS.weak (ps_set hN hi hx he hs hf) (tAsg_of)
/-! ### targets: names, tuples of targets -/
abbrev Fg := D → En → Option En
def tgOf (K : PySem.W.Frag) (h : Fg) (S : List Nat) : TG := fun v σ H Q => ∃ G ρ d ρ', Good K G H σ ρ ∧ Rp K G v d ∧ h d ρ = some ρ' ∧ ∀ σ', Aft K G H σ ρ G H σ' ρ' → σ'.length = σ.length → (∀ i, i ∉ S → σ'[i]? = σ[i]?) → Q σ' H
abbrev DG (X : Cx) (tg : Expr) (h : Fg) (S : List Nat) : Prop := PG X tg (tgOf X.K h S)
theorem PG.weak {tg : Expr} {t t' : TG} (h : PG X tg t) (w : ∀ v σ H Q, t' v σ H Q → t v σ H Q) : PG X tg t' := ⟨fun pins s σ H v u Q I r q => h.run pins s σ H v u Q I r (w v σ H Q q)⟩
def gNm (i : Nat) : Fg := fun d ρ => if notRf ρ i then some (ρ.set i (.fz d)) else none
theorem dg_name {i : Nat} {x : Str} (hN : X.N.Nodup) (hi : X.N[i]? = some x) (hx : Loc X.env.scope x) (hf : X.fn x = true ∨ X.env.scope.names.lookup x = some .local := by first | exact .inl rfl | exact .inr rfl | assumption) : DG X (.Name x pos) (gNm i) [i] :=
  PG.weak (pg_name hN hi hx hf) fun v σ H Q ⟨G, ρ, d, ρ', g, r, e, k⟩ => by
    unfold gNm at e
    split at e
    · rename_i n
      cases e
      refine k _ ((Aft.refl g).store ⟨v, rfl, r⟩ (fun p h1 h2 => by rcases h2 with ⟨m, h2⟩ | ⟨m, h2⟩ <;> cases h2) n) (by simp) fun j hj => ?_
      rw [List.getElem?_set_ne fun z => hj (by simp [z])]
    · cases e
abbrev Fgs := List D → En → Option En
def tgsOf (K : PySem.W.Frag) (h : Fgs) (S : List Nat) : TGs := fun vs σ H Q => ∃ G ρ ds ρ', Good K G H σ ρ ∧ Rps K G vs ds ∧ h ds ρ = some ρ' ∧ ∀ σ', Aft K G H σ ρ G H σ' ρ' → σ'.length = σ.length → (∀ i, i ∉ S → σ'[i]? = σ[i]?) → Q σ' H
abbrev DGs (X : Cx) (tg : List Expr) (h : Fgs) (S : List Nat) : Prop := PGs X tg (tgsOf X.K h S)
theorem PGs.weak {tg : List Expr} {t t' : TGs} (h : PGs X tg t) (w : ∀ v σ H Q, t' v σ H Q → t v σ H Q) : PGs X tg t' := ⟨fun pins s σ H v u Q I r q => h.run pins s σ H v u Q I r (w v σ H Q q)⟩
def gsNil : Fgs := fun ds ρ => match ds with
  | [] => some ρ
  | _ => none
def gsCons (h : Fg) (t : Fgs) : Fgs := fun ds ρ => match ds with
  | [] => none
  | d :: ds => match h d ρ with
    | some ρ1 => t ds ρ1
    | none => none
theorem dgs_nil : DGs X [] gsNil [] := PGs.weak pgs_nil fun vs σ H Q ⟨G, ρ, ds, ρ', g, r, e, k⟩ => by
  cases r with
  | nil =>
    cases e
    exact ⟨rfl, k σ (Aft.refl g) rfl fun _ _ => rfl⟩
  | cons _ _ => cases e
theorem dgs_cons {es : List Expr} {h : Fg} {t : Fgs} {S T : List Nat} (h1 : DG X e h S) (h2 : DGs X es t T) (hs : (assignEach (e :: es) X.env).map (·.2) = assign e X.env :: (assignEach es X.env).map (·.2) := by rfl) : DGs X (e :: es) (gsCons h t) (S ++ T) := by
  refine PGs.weak (pgs_cons h1 h2 hs) fun vs σ H Q ⟨G, ρ, ds, ρ', g, r, q, k⟩ => ?_
  cases r with
  | nil => cases q
  | @cons v vs d ds r1 r2 =>
    unfold gsCons at q
    cases q1 : h d ρ with
    | none => simp only [q1] at q; cases q
    | some ρ1 =>
      simp only [q1] at q
      refine ⟨v, vs, rfl, G, ρ, d, ρ1, g, r1, q1, fun σ1 A1 l1 s1 => ?_⟩
      exact ⟨G, ρ1, ds, ρ', A1.good, r2, q, fun σ2 A2 l2 s2 => k σ2 (A1.trans A2) (l2.trans l1) fun i hi => (s2 i fun z => hi (List.mem_append_right _ z)).trans (s1 i fun z => hi (List.mem_append_left _ z))⟩
def gTp (n : Nat) (t : Fgs) : Fg := fun d ρ => match d with
  | .tup ds => if ds.length = n then t ds ρ else none
  | _ => none
theorem dg_tup {es : List Expr} {k n : Nat} {t : Fgs} {S : List Nat} (hc : X.calm = true) (h : DGs X es t S) (hn : (assignEach es X.env).length = n := by rfl) (hst : (assignEach es X.env).findIdx? (·.1) = none := by rfl) : DG X (.Tuple es k pos) (gTp n t) S := by
  refine PG.weak (pg_tup hc h hn hst) fun v σ H Q ⟨G, ρ, d, ρ', g, r, q, k⟩ => ?_
  unfold gTp at q
  split at q
  · rename_i ds
    split at q
    · rename_i hl
      cases r with
      | tup r1 r2 => exact ⟨_, _, rfl, SqT.of (g.ex _ _ r1), r2.len.trans hl, G, ρ, ds, ρ', g, r2, q, k⟩
    · cases q
  · cases q
/-- a, b = e -/
def bUnp (h : Fg) (f : Fe) : Fs := fun ρ => match dFr f ρ with
  | some (d, ρ1) => match h d ρ1 with
    | some ρ2 => some (.nx, ρ2)
    | none => none
  | none => none
theorem ds_unp {tg : Expr} {h : Fg} {S : List Nat} (he : DE X e f) (hg : DG X tg h S) (hs : swapsWithSole [tg] e pos.line X.env = pure false := by rfl) (hw : swappedStores [tg] e X.env = pure none := by rfl) (h1 : (assignEach [tg] X.env).map (·.2) = [assign tg X.env] := by rfl) : DS X E (.Assign [tg] e pos) (bUnp h f) :=
  PS.weak (ps_asg (de_fr he) hg hs hw h1) fun D σ H ⟨G, ρ, fl, ρ', g, e, k⟩ => by
    unfold bUnp at e
    cases q : dFr f ρ with
    | none => rw [q] at e; cases e
    | some y =>
      obtain ⟨d, ρ1⟩ := y
      rw [q] at e
      cases q2 : h d ρ1 with
      | none => simp only [q2] at e; cases e
      | some ρ2 =>
        simp only [q2] at e
        cases e
        exact ⟨G, ρ, d, ρ1, g, q, fun v G1 H1 A1 R1 => ⟨G1, ρ1, d, _, A1.good, R1, q2, fun σ' A2 _ _ => k σ' G1 H1 (A1.trans A2)⟩⟩
/-! ### walks -/
abbrev Fi := En → Option (List D × En)
/-- one turn's item: it stays; or a new tuple -/
def ItemY (K : PySem.W.Frag) (G : Hp) (d : D) (H : Hp) (x : V) (H' : Hp) : Prop :=
  (H' = H ∧ Rp K G x d) ∨ ∃ T vs ds, x = .ref T ∧ d = .tup ds ∧ H T = none ∧ H' = upd H T (.tup vs) ∧ Rps K G vs ds
def ItOk (K : PySem.W.Frag) (G : Hp) (J : It) (xs : List D) : Prop := Walk J xs.length (fun H => Ex G H) (fun i H x H' => ∃ d, xs[i]? = some d ∧ ItemY K G d H x H')
def tiOf (K : PySem.W.Frag) (f : Fi) : TI := fun σ H R => ∃ G ρ xs ρ', Good K G H σ ρ ∧ f ρ = some (xs, ρ') ∧ ∀ J G' H', Aft K G H σ ρ G' H' σ ρ' → ItOk K G' J xs → R J H'
abbrev DI (X : Cx) (tg it : Expr) (f : Fi) : Prop := PI X tg it (tiOf X.K f)
theorem PI.weak {tg it : Expr} {t t' : TI} (h : PI X tg it t) (w : ∀ σ H R, t' σ H R → t σ H R) : PI X tg it t' := ⟨fun pins s σ H R I q => h.run pins s σ H R I (w σ H R q)⟩
theorem ItemY.take {K : PySem.W.Frag} {G G1 H H' : Hp} {d : D} {x : V} {σ : L2.St} {ρ : En} (g : Good K G1 H σ ρ) (ex : Ex G G1) (y : ItemY K G d H x H') : ∃ G2, Aft K G1 H σ ρ G2 H' σ ρ ∧ Rp K G2 x d := by
  rcases y with ⟨rfl, r⟩ | ⟨T, vs, ds, rfl, rfl, hT, rfl, r⟩
  · exact ⟨G1, Aft.refl g, r.up ex⟩
  · exact ⟨_, Aft.laid g hT, .tup upd_same (r.up (ex.trans (ex_new (g.ex.free hT))))⟩
/-- for -/
def forL (h : Fg) (B : Fs) : List D → En → Option (Fl × En)
  | [], ρ => some (.nx, ρ)
  | d :: ds, ρ => match h d ρ with
    | none => none
    | some ρ1 => match B ρ1 with
      | some (.nx, ρ2) => forL h B ds ρ2
      | some (.ct, ρ2) => forL h B ds ρ2
      | some (.bk, ρ2) => some (.nx, ρ2)
      | o => o
def bFor (fi : Fi) (h : Fg) (B : Fs) : Fs := fun ρ => match fi ρ with
  | some (xs, ρ1) => forL h B xs ρ1
  | none => none
theorem ds_for {iter tg : Expr} {body : List Stmt} {fi : Fi} {h : Fg} {S : List Nat} (hp : PassesOwn (model X.prog X.w) X.A X.env X.xe) (hc : X.calm = true) (hi : DI X tg iter fi) (hg : DG X tg h S) (hb : DB X E body B) (hs : ∀ x, foldedSetIterable iter X.env x = pure x := by intro _; rfl) : DS X E (.For tg iter body [] pos) (bFor fi h B) :=
  PS.weak (ps_for hp hc hi hg hb hs) fun D σ H ⟨G, ρ, fl, ρ', g, e, k⟩ => by
    unfold bFor at e
    cases q : fi ρ with
    | none => rw [q] at e; cases e
    | some y =>
      obtain ⟨xs, ρ1⟩ := y
      rw [q] at e
      replace e : forL h B xs ρ1 = some (fl, ρ') := e
      refine ⟨G, ρ, xs, ρ1, g, q, fun J G1 H1 A1 W => ?_⟩
      refine for_it W (fun i σ2 H2 => ∃ G2 ρ2, Aft X.K G H σ ρ G2 H2 σ2 ρ2 ∧ Ex G1 G2 ∧ forL h B (xs.drop i) ρ2 = some (fl, ρ')) ⟨G1, ρ1, A1, Same.refl _, by rw [List.drop_zero]; exact e⟩
        (fun i σ2 H2 _ ⟨G2, ρ2, A2, x2, _⟩ => x2.trans A2.good.ex) ?_ ?_
      · rintro i x σ2 H2 H3 hi ⟨G2, ρ2, A2, x2, e2⟩ ⟨d, hd, y⟩
        obtain ⟨G3, A3, R3⟩ := ItemY.take A2.good x2 y
        have hlt : i < xs.length := hi
        have hdr : xs.drop i = d :: xs.drop (i + 1) := by
          rw [List.drop_eq_getElem_cons hlt]
          rw [List.getElem?_eq_getElem hlt] at hd
          cases hd
          rfl
        rw [hdr] at e2
        unfold forL at e2
        cases q3 : h d ρ2 with
        | none => simp only [q3] at e2; cases e2
        | some ρ3 =>
          simp only [q3] at e2
          have A23 := A2.trans A3
          refine ⟨G3, ρ2, d, ρ3, A3.good, R3, q3, fun σ4 A4 _ _ => ?_⟩
          have A24 := A23.trans A4
          have x4 : Ex G1 G3 := x2.trans A3.ex
          split at e2
          · rename_i ρ5 q5
            exact ⟨G3, ρ3, .nx, ρ5, A4.good, q5, fun σ5 G5 H5 A5 => ⟨G5, ρ5, A24.trans A5, x4.trans A5.ex, e2⟩⟩
          · rename_i ρ5 q5
            exact ⟨G3, ρ3, .ct, ρ5, A4.good, q5, fun σ5 G5 H5 A5 => ⟨G5, ρ5, A24.trans A5, x4.trans A5.ex, e2⟩⟩
          · rename_i ρ5 q5
            cases e2
            exact ⟨G3, ρ3, .bk, _, A4.good, q5, fun σ5 G5 H5 A5 => k σ5 G5 H5 (A24.trans A5)⟩
          · rename_i n1 n2 n3
            refine ⟨G3, ρ3, fl, ρ', A4.good, e2, fun σ5 G5 H5 A5 => ?_⟩
            have r := (k σ5 G5 H5 (A24.trans A5)).start A24.dom
            cases fl with
            | nx => exact absurd e2 (n1 _)
            | ct => exact absurd e2 (n2 _)
            | bk => exact absurd e2 (n3 _)
            | rt r' => exact r
            | ex C ns ds => exact r
      · rintro σ2 H2 ⟨G2, ρ2, A2, x2, e2⟩
        rw [List.drop_eq_nil_of_le (Nat.le_refl _)] at e2
        cases e2
        exact k σ2 G2 H2 A2
/-- while, at most so many turns -/
def whileN (t : Ft) (B : Fs) : Nat → Fs
  | 0, _ => none
  | n + 1, ρ => match t ρ with
    | none => none
    | some (false, ρ1) => some (.nx, ρ1)
    | some (true, ρ1) => match B ρ1 with
      | some (.nx, ρ2) => whileN t B n ρ2
      | some (.ct, ρ2) => whileN t B n ρ2
      | some (.bk, ρ2) => some (.nx, ρ2)
      | o => o
/-- some number of turns will do -/
noncomputable def bWhile (t : Ft) (B : Fs) : Fs := fun ρ => open Classical in if h : ∃ r n, whileN t B n ρ = some r then some h.choose else none
theorem whileN_more {t : Ft} : ∀ {n : Nat} {ρ : En} {r : Fl × En}, whileN t B n ρ = some r → whileN t B (n + 1) ρ = some r
  | 0, _, _, h => nomatch h
  | n + 1, ρ, r, h => by
    unfold whileN at h ⊢
    split at h
    · cases h
    · exact h
    · split at h
      · exact whileN_more h
      · exact whileN_more h
      · exact h
      · exact h
theorem whileN_le {t : Ft} {n m : Nat} {ρ : En} {r : Fl × En} (h : whileN t B n ρ = some r) (l : n ≤ m) : whileN t B m ρ = some r := by
  induction l with
  | refl => exact h
  | step _ ih => exact whileN_more ih
theorem bWhile_eq {t : Ft} {n : Nat} {ρ : En} {r : Fl × En} (h : whileN t B n ρ = some r) : bWhile t B ρ = some r := by
  have hex : ∃ r n, whileN t B n ρ = some r := ⟨r, n, h⟩
  unfold bWhile
  rw [dif_pos hex]
  obtain ⟨m, hm⟩ := hex.choose_spec
  have e1 := whileN_le hm (Nat.le_max_right n m)
  have e2 := whileN_le h (Nat.le_max_left n m)
  rw [e1] at e2
  exact e2
theorem bWhile_inv {t : Ft} {ρ : En} {r : Fl × En} (h : bWhile t B ρ = some r) : ∃ n, whileN t B n ρ = some r := by
  unfold bWhile at h
  split at h
  · rename_i hex
    obtain ⟨m, hm⟩ := hex.choose_spec
    cases h
    exact ⟨m, hm⟩
  · cases h
theorem ds_while {body : List Stmt} {t : Ft} (hp : PassesOwn (model X.prog X.w) X.A X.env X.xe) (hc : DT X c t) (hb : DB X E body B) : DS X E (.While c body [] pos) (bWhile t B) :=
  PS.weak (ps_while hp hc hb) fun D σ H ⟨G, ρ, fl, ρ', g, e, k⟩ => by
    obtain ⟨n, hn⟩ := bWhile_inv e
    refine ⟨fun m σ2 H2 => ∃ G2 ρ2, Aft X.K G H σ ρ G2 H2 σ2 ρ2 ∧ whileN t B m ρ2 = some (fl, ρ'), ⟨n, G, ρ, Aft.refl g, hn⟩, ?_⟩
    rintro m σ2 H2 ⟨G2, ρ2, A2, e2⟩
    cases m with
    | zero => cases e2
    | succ m =>
      unfold whileN at e2
      cases q : t ρ2 with
      | none => rw [q] at e2; cases e2
      | some y =>
        obtain ⟨b, ρ3⟩ := y
        rw [q] at e2
        refine ⟨G2, ρ2, b, ρ3, A2.good, q, fun G3 H3 A3 => ?_⟩
        have A23 := A2.trans A3
        cases b with
        | false =>
          cases e2
          exact iteF (k σ2 G3 H3 A23)
        | true =>
          refine iteT ⟨fun σ' H' => ∃ G2 ρ2, Aft X.K G H σ ρ G2 H' σ' ρ2 ∧ whileN t B m ρ2 = some (fl, ρ'), fun σ' H' w => ⟨m, Nat.lt_succ_self m, w⟩, ?_⟩
          replace e2 : (match B ρ3 with | some (.nx, ρ2) => whileN t B m ρ2 | some (.ct, ρ2) => whileN t B m ρ2 | some (.bk, ρ2) => some (.nx, ρ2) | o => o) = some (fl, ρ') := e2
          split at e2
          · rename_i ρ5 q5
            exact ⟨G3, ρ3, .nx, ρ5, A3.good, q5, fun σ5 G5 H5 A5 => ⟨G5, ρ5, A23.trans A5, e2⟩⟩
          · rename_i ρ5 q5
            exact ⟨G3, ρ3, .ct, ρ5, A3.good, q5, fun σ5 G5 H5 A5 => ⟨G5, ρ5, A23.trans A5, e2⟩⟩
          · rename_i ρ5 q5
            cases e2
            exact ⟨G3, ρ3, .bk, _, A3.good, q5, fun σ5 G5 H5 A5 => k σ5 G5 H5 (A23.trans A5)⟩
          · rename_i n1 n2 n3
            refine ⟨G3, ρ3, fl, ρ', A3.good, e2, fun σ5 G5 H5 A5 => ?_⟩
            have r := (k σ5 G5 H5 (A23.trans A5)).start A23.dom
            cases fl with
            | nx => exact absurd e2 (n1 _)
            | ct => exact absurd e2 (n2 _)
            | bk => exact absurd e2 (n3 _)
            | rt r' => exact r
            | ex C ns ds => exact r
end
end DL
set_option Elab.async false
set_option linter.all false
set_option maxRecDepth 100000
set_option maxHeartbeats 2000000
namespace DL
open PySem PySem.Spec L2
/-! ### comprehensions -/
def wipeD (ρ : En) : List Nat → En
  | [] => ρ
  | v :: vs => (wipeD ρ vs).set v .un
def restD (ρ0 ρ : En) : List Nat → En
  | [] => ρ
  | v :: vs => match ρ0[v]? with
    | some x => (restD ρ0 ρ vs).set v x
    | none => restD ρ0 ρ vs
theorem wipeD_len (ρ : En) : ∀ vs, (wipeD ρ vs).length = ρ.length
  | [] => rfl
  | v :: vs => by unfold wipeD; rw [List.length_set, wipeD_len ρ vs]
theorem restD_len (ρ0 ρ : En) : ∀ vs, (restD ρ0 ρ vs).length = ρ.length
  | [] => rfl
  | v :: vs => by
    unfold restD
    split
    · rw [List.length_set, restD_len ρ0 ρ vs]
    · exact restD_len ρ0 ρ vs
theorem wipe_in (σ : L2.St) (i : Nat) (h : i < σ.length) : ∀ vs, i ∈ vs → (wipe σ vs)[i]? = some none
  | v :: vs, hi => by
    unfold wipe
    by_cases e : v = i
    · subst e
      rw [List.getElem?_set_self (by rw [wipe_length]; exact h)]
    · rw [List.getElem?_set_ne e]
      exact wipe_in σ i h vs ((List.mem_cons.mp hi).resolve_left fun z => e z.symm)
theorem wipe_out (σ : L2.St) (i : Nat) : ∀ vs, i ∉ vs → (wipe σ vs)[i]? = σ[i]?
  | [], _ => rfl
  | v :: vs, hi => by
    unfold wipe
    rw [List.getElem?_set_ne fun z => hi (by simp [z])]
    exact wipe_out σ i vs fun z => hi (List.mem_cons_of_mem _ z)
theorem wipeD_in (σ : En) (i : Nat) (h : i < σ.length) : ∀ vs, i ∈ vs → (wipeD σ vs)[i]? = some .un
  | v :: vs, hi => by
    unfold wipeD
    by_cases e : v = i
    · subst e
      rw [List.getElem?_set_self (by rw [wipeD_len]; exact h)]
    · rw [List.getElem?_set_ne e]
      exact wipeD_in σ i h vs ((List.mem_cons.mp hi).resolve_left fun z => e z.symm)
theorem wipeD_out (σ : En) (i : Nat) : ∀ vs, i ∉ vs → (wipeD σ vs)[i]? = σ[i]?
  | [], _ => rfl
  | v :: vs, hi => by
    unfold wipeD
    rw [List.getElem?_set_ne fun z => hi (by simp [z])]
    exact wipeD_out σ i vs fun z => hi (List.mem_cons_of_mem _ z)
theorem restD_in (ρ0 ρ : En) (i : Nat) (h : i < ρ.length) (hl : ρ0.length = ρ.length) : ∀ vs, i ∈ vs → (restD ρ0 ρ vs)[i]? = ρ0[i]?
  | v :: vs, hi => by
    unfold restD
    by_cases e : v = i
    · subst e
      have e1 : ρ0[v]? = some ρ0[v] := List.getElem?_eq_getElem (by rw [hl]; exact h)
      rw [e1]
      exact List.getElem?_set_self (by rw [restD_len]; exact h)
    · have ih := restD_in ρ0 ρ i h hl vs ((List.mem_cons.mp hi).resolve_left fun z => e z.symm)
      split
      · rw [List.getElem?_set_ne e]
        exact ih
      · exact ih
theorem restD_out (ρ0 ρ : En) (i : Nat) : ∀ vs, i ∉ vs → (restD ρ0 ρ vs)[i]? = ρ[i]?
  | [], _ => rfl
  | v :: vs, hi => by
    unfold restD
    have ih := restD_out ρ0 ρ i vs fun z => hi (List.mem_cons_of_mem _ z)
    split
    · rw [List.getElem?_set_ne fun z => hi (by simp [z])]
      exact ih
    · exact ih
theorem wipe_eq {σ σ' : L2.St} {vs : List Nat} (hl : σ'.length = (wipe σ vs).length) (h : ∀ i, i ∉ vs → σ'[i]? = (wipe σ vs)[i]?) : wipe σ' vs = wipe σ vs := by
  apply List.ext_getElem?
  intro i
  rw [wipe_length] at hl
  by_cases hv : i ∈ vs
  · by_cases hi : i < σ.length
    · rw [wipe_in σ i hi vs hv, wipe_in σ' i (by omega) vs hv]
    · rw [List.getElem?_eq_none (by rw [wipe_length]; omega), List.getElem?_eq_none (by rw [wipe_length]; omega)]
  · rw [wipe_out σ' i vs hv]
    exact h i hv
section
variable {K : PySem.W.Frag} {G H G1 H1 G' H' : Hp} {σ σ' : L2.St} {ρ ρ' ρe : En} {vs : List Nat}
theorem own_wipe (hl : σ.length = ρ.length) {i : Nat} {p : Addr} (o : Own (wipe σ vs) (wipeD ρ vs) i p) : i ∉ vs ∧ Own σ ρ i p := by
  obtain ⟨h1, h2⟩ := o
  have hi : i ∉ vs := fun z => by
    by_cases l : i < σ.length
    · rw [wipe_in σ i l vs z] at h1
      cases h1
    · rw [List.getElem?_eq_none (by rw [wipe_length]; omega)] at h1
      cases h1
  rw [wipe_out σ i vs hi] at h1
  rw [wipeD_out ρ i vs hi] at h2
  exact ⟨hi, h1, h2⟩
theorem Good.wipe (g : Good K G H σ ρ) : Good K G H (wipe σ vs) (wipeD ρ vs) := by
  refine ⟨g.ex, by rw [wipe_length, wipeD_len]; exact g.len, fun i s r e1 e2 => ?_, fun i j p a b => g.nd i j p (own_wipe g.len a).2 (own_wipe g.len b).2⟩
  by_cases hv : i ∈ vs
  · by_cases l : i < ρ.length
    · rw [wipeD_in ρ i l vs hv] at e2
      cases e2
      trivial
    · rw [List.getElem?_eq_none (by rw [wipeD_len]; omega)] at e2
      cases e2
  · rw [wipe_out σ i vs hv] at e1
    rw [wipeD_out ρ i vs hv] at e2
    exact g.sl i s r e1 e2
theorem Aft.wipe (a : Aft K G H σ ρ G1 H1 σ' ρ') (hr : ∀ i m, i ∈ vs → ρ[i]? ≠ some (.rf m)) : Aft K G H σ ρ G1 H1 (wipe σ' vs) (wipeD ρ' vs) := by
  refine ⟨a.good.wipe, a.ex, a.keep, a.dom, fun i p o => a.own i p (own_wipe a.good.len o).2, fun i m e => ?_, by rw [wipeD_len]; exact a.len⟩
  have hv : i ∉ vs := fun z => hr i m z e
  obtain ⟨h1, m', h2⟩ := a.rf i m e
  exact ⟨by rw [wipe_out σ' i vs hv]; exact h1, m', by rw [wipeD_out ρ' i vs hv]; exact h2⟩
theorem Aft.rest (g : Good K G H σ ρ) (a : Aft K G H (L2.wipe σ vs) (wipeD ρ vs) G1 H1 (L2.wipe σ vs) ρe) : Aft K G H σ ρ G1 H1 σ (restD ρ ρe vs) := by
  have hl : ρe.length = ρ.length := by
    have := a.good.len
    rw [wipe_length] at this
    rw [← this]
    exact g.len
  have notW : ∀ i p, i ∈ vs → Own σ ρ i p → ¬ OwnA (L2.wipe σ vs) (wipeD ρ vs) p := fun i p hi o ⟨j, oj⟩ => by
    obtain ⟨hj, oj⟩ := own_wipe g.len oj
    exact hj (g.nd i j p o oj ▸ hi)
  have split_ : ∀ i p, Own σ (restD ρ ρe vs) i p → (i ∈ vs ∧ Own σ ρ i p) ∨ (i ∉ vs ∧ Own (L2.wipe σ vs) ρe i p) := fun i p ⟨h1, h2⟩ => by
    by_cases hv : i ∈ vs
    · have l : i < ρe.length := by
        rw [hl, ← g.len]
        exact (List.getElem?_eq_some_iff.mp h1).1
      rw [restD_in ρ ρe i l hl.symm vs hv] at h2
      exact .inl ⟨hv, h1, h2⟩
    · rw [restD_out ρ ρe i vs hv] at h2
      exact .inr ⟨hv, by rw [wipe_out σ i vs hv]; exact h1, h2⟩
  refine ⟨⟨a.good.ex, by rw [restD_len, hl]; exact g.len, fun i s r e1 e2 => ?_, fun i j p oi oj => ?_⟩, a.ex, fun x o e n => a.keep x o e fun ⟨j, oj⟩ => n ⟨j, (own_wipe g.len oj).2⟩, a.dom, fun i p o => ?_, fun i m e => ⟨rfl, ?_⟩, by rw [restD_len, hl]⟩
  · by_cases hv : i ∈ vs
    · have l : i < ρe.length := by
        rw [hl, ← g.len]
        exact (List.getElem?_eq_some_iff.mp e1).1
      rw [restD_in ρ ρe i l hl.symm vs hv] at e2
      have k := g.sl i s r e1 e2
      cases r with
      | un => trivial
      | fz d =>
        obtain ⟨v, h1, h2⟩ := k
        exact ⟨v, h1, h2.up a.ex⟩
      | ow m =>
        obtain ⟨p, o, h1, h2, h3, h4⟩ := k
        obtain ⟨k1, k2⟩ := a.keep p o h3 (notW i p hv ⟨by rw [e1, h1], .inl ⟨m, e2⟩⟩)
        exact ⟨p, o, h1, k2 h2 h4.nt, k1, h4.up a.ex⟩
      | rf m =>
        obtain ⟨p, o, h1, h2, h3, h4⟩ := k
        obtain ⟨k1, k2⟩ := a.keep p o h3 (notW i p hv ⟨by rw [e1, h1], .inr ⟨m, e2⟩⟩)
        exact ⟨p, o, h1, k2 h2 h4.nt, k1, h4.up a.ex⟩
      | bw _ => exact k
    · rw [restD_out ρ ρe i vs hv] at e2
      exact a.good.sl i s r (by rw [wipe_out σ i vs hv]; exact e1) e2
  · have mix : ∀ i j, i ∈ vs → Own σ ρ i p → Own (L2.wipe σ vs) ρe j p → False := fun i j hi oi oj => by
      rcases a.own j p oj with z | z
      · exact notW i p hi oi z
      · obtain ⟨_, u, e⟩ := Own.there g oi
        rw [z] at e
        cases e
    rcases split_ i p oi with ⟨hi, oi⟩ | ⟨hi, oi⟩
    · rcases split_ j p oj with ⟨hj, oj⟩ | ⟨hj, oj⟩
      · exact g.nd i j p oi oj
      · exact (mix i j hi oi oj).elim
    · rcases split_ j p oj with ⟨hj, oj⟩ | ⟨hj, oj⟩
      · exact (mix j i hj oj oi).elim
      · exact a.good.nd i j p oi oj
  · rcases split_ i p o with ⟨_, oi⟩ | ⟨_, oi⟩
    · exact .inl ⟨i, oi⟩
    · rcases a.own i p oi with ⟨j, oj⟩ | z
      · exact .inl ⟨j, (own_wipe g.len oj).2⟩
      · exact .inr z
  · by_cases hv : i ∈ vs
    · have l : i < ρe.length := by
        rw [hl]
        exact (List.getElem?_eq_some_iff.mp e).1
      exact ⟨m, by rw [restD_in ρ ρe i l hl.symm vs hv]; exact e⟩
    · obtain ⟨_, m', e'⟩ := a.rf i m (by rw [wipeD_out ρ i vs hv]; exact e)
      exact ⟨m', by rw [restD_out ρ ρe i vs hv]; exact e'⟩
end
def lcL (h : Fg) (ft : Ft) (fe : Fe) (vs : List Nat) : List D → List D → En → Option (List D × En)
  | [], acc, ρ => some (acc, ρ)
  | d :: ds, acc, ρ => match h d ρ with
    | none => none
    | some ρ1 => match ft ρ1 with
      | none => none
      | some (false, ρ2) => lcL h ft fe vs ds acc (wipeD ρ2 vs)
      | some (true, ρ2) => match dFr fe ρ2 with
        | none => none
        | some (y, ρ3) => if acc.length < 16000000 then lcL h ft fe vs ds (acc ++ [y]) (wipeD ρ3 vs) else none
def dLc (fi : Fi) (h : Fg) (ft : Ft) (fe : Fe) (vs : List Nat) : Fe := fun ρ => match fi ρ with
  | some (xs, ρ1) => match lcL h ft fe vs xs [] (wipeD ρ1 vs) with
    | some (acc, ρ2) => some (.ow (.l acc), restD ρ1 ρ2 vs)
    | none => none
  | none => none
theorem sz16 {n : Nat} (h : n < 16000000) : n < sizeLine := Nat.lt_trans h (by decide)
theorem tLc_of {K : PySem.W.Frag} {fi : Fi} {h : Fg} {ft : Ft} {fe : Fe} {vs S : List Nat} (hS : ∀ i ∈ S, i ∈ vs) : ∀ σ H Q, teOf K (dLc fi h ft fe vs) σ H Q → tLc (tiOf K fi) (tgOf K h S) (ttOf K ft) (tdOf K (dFr fe)) vs σ H Q := fun σ H Q ⟨G, ρ, z, ρ', g, e, k⟩ => by
  unfold dLc at e
  cases q : fi ρ with
  | none => rw [q] at e; cases e
  | some y =>
    obtain ⟨xs, ρ1⟩ := y
    rw [q] at e
    cases q2 : lcL h ft fe vs xs [] (wipeD ρ1 vs) with
    | none => simp only [q2] at e; cases e
    | some y =>
      obtain ⟨accE, ρ2⟩ := y
      simp only [q2] at e
      cases e
      refine ⟨G, ρ, xs, ρ1, g, q, fun J G1 H1 A1 W Dl hD => ?_⟩
      have gw : Good K G1 H1 (wipe σ vs) (wipeD ρ1 vs) := A1.good.wipe
      have hr : ∀ i m, i ∈ vs → (wipeD ρ1 vs)[i]? ≠ some (.rf m) := fun i m hi z => by
        have l : i < ρ1.length := by
          have := (List.getElem?_eq_some_iff.mp z).1
          rw [wipeD_len] at this
          exact this
        rw [wipeD_in ρ1 i l vs hi] at z
        cases z
      refine lc_it W (fun i H2 => ∃ G2 ρ3 accV acc, Aft K G1 H1 (wipe σ vs) (wipeD ρ1 vs) G2 H2 (wipe σ vs) ρ3 ∧ Ex G1 G2 ∧ G2 Dl = none ∧ ¬ OwnA (wipe σ vs) ρ3 Dl ∧ H2 Dl = some (.lst accV) ∧ Rps K G2 accV acc ∧ lcL h ft fe vs (xs.drop i) acc ρ3 = some (accE, ρ2))
        ⟨G1, wipeD ρ1 vs, [], [], (Aft.refl gw).mut hD (gw.ex.free hD) (gw.notOwn hD), Same.refl _, gw.ex.free hD, gw.notOwn hD, upd_same, .nil, by rw [List.drop_zero]; exact q2⟩
        (fun i H2 _ ⟨G2, ρ3, accV, acc, A2, x2, _⟩ => x2.trans A2.good.ex) ?_ ?_
      · rintro i x H2 H3 hi ⟨G2, ρ3, accV, acc, A2, x2, d2, n2, h2, r2, e2⟩ ⟨d, hd, y⟩
        obtain ⟨G3, A3, R3⟩ := ItemY.take A2.good x2 y
        have hlt : i < xs.length := hi
        have hdr : xs.drop i = d :: xs.drop (i + 1) := by
          rw [List.drop_eq_getElem_cons hlt]
          rw [List.getElem?_eq_getElem hlt] at hd
          cases hd
          rfl
        rw [hdr] at e2
        unfold lcL at e2
        cases q3 : h d ρ3 with
        | none => simp only [q3] at e2; cases e2
        | some ρ4 =>
          simp only [q3] at e2
          obtain ⟨k3a, k3b⟩ := A3.keep Dl _ h2 n2
          refine ⟨G3, ρ3, d, ρ4, A3.good, R3, q3, fun σ4 A4 l4 s4 => ⟨wipe_eq l4 fun j hj => s4 j fun z => hj (hS j z), ?_⟩⟩
          obtain ⟨k4a, k4b⟩ := A4.keep Dl _ k3a (A3.nown h2 n2)
          have n4 := A4.nown k3a (A3.nown h2 n2)
          have ew : wipe σ4 vs = wipe σ vs := wipe_eq l4 fun j hj => s4 j fun z => hj (hS j z)
          cases q4 : ft ρ4 with
          | none => simp only [q4] at e2; cases e2
          | some y =>
            obtain ⟨b, ρ5⟩ := y
            simp only [q4] at e2
            refine ⟨G3, ρ4, b, ρ5, A4.good, q4, fun G5 H5 A5 => ?_⟩
            obtain ⟨k5a, k5b⟩ := A5.keep Dl _ k4a n4
            have n5 := A5.nown k4a n4
            have A25 := ((A2.trans A3).trans A4).trans A5
            cases b with
            | false =>
              refine iteF ⟨G5, wipeD ρ5 vs, accV, acc, ?_, ?_, k5b (k4b (k3b d2 trivial) trivial) trivial, ?_, k5a, r2.up (A3.ex.trans A5.ex), e2⟩
              · have := A25.wipe (vs := vs) hr
                rw [ew] at this
                exact this
              · exact (x2.trans A3.ex).trans A5.ex
              · rw [← ew]
                exact fun ⟨j, oj⟩ => n5 ⟨j, (own_wipe A5.good.len oj).2⟩
            | true =>
              cases q5 : dFr fe ρ5 with
              | none => simp only [q5] at e2; cases e2
              | some y =>
                obtain ⟨y, ρ6⟩ := y
                simp only [q5] at e2
                split at e2
                · rename_i hsz
                  refine iteT ⟨G5, ρ5, y, ρ6, A5.good, q5, fun v G6 H6 A6 R6 => ?_⟩
                  obtain ⟨k6a, k6b⟩ := A6.keep Dl _ k5a n5
                  have n6 := A6.nown k5a n5
                  have A26 := A25.trans A6
                  have x6 : Ex G2 G6 := (A3.ex.trans A5.ex).trans A6.ex
                  have Aw : Aft K G1 H1 (wipe σ vs) (wipeD ρ1 vs) G6 H6 (wipe σ vs) (wipeD ρ6 vs) := by
                    have := A26.wipe (vs := vs) hr
                    rw [ew] at this
                    exact this
                  have nw : ¬ OwnA (wipe σ vs) (wipeD ρ6 vs) Dl := by
                    rw [← ew]
                    exact fun ⟨j, oj⟩ => n6 ⟨j, (own_wipe A6.good.len oj).2⟩
                  have g6 : G6 Dl = none := k6b (k5b (k4b (k3b d2 trivial) trivial) trivial) trivial
                  refine ⟨accV, k6a, by rw [r2.len]; exact sz16 hsz, G6, wipeD ρ6 vs, accV ++ [v], acc ++ [y], Aw.mut hD g6 nw, x2.trans x6, g6, nw, upd_same, (r2.up x6).app (.one R6), e2⟩
                · cases e2
      · rintro H2 ⟨G2, ρ3, accV, acc, A2, x2, d2, n2, h2, r2, e2⟩
        rw [List.drop_eq_nil_of_le (Nat.le_refl _)] at e2
        cases e2
        have Ar := Aft.rest A1.good A2
        refine k (.ref Dl) G2 H2 (A1.trans Ar) ⟨Dl, _, rfl, A1.back hD, d2, h2, .l r2, fun ⟨j, oj1, oj2⟩ => ?_⟩
        have l2 : ρ2.length = ρ1.length := by
          have := A2.good.len
          rw [wipe_length] at this
          rw [← this]
          exact A1.good.len
        by_cases hv : j ∈ vs
        · have l : j < ρ2.length := by
            rw [l2, ← A1.good.len]
            exact (List.getElem?_eq_some_iff.mp oj1).1
          rw [restD_in ρ1 ρ2 j l l2.symm vs hv] at oj2
          obtain ⟨_, u, e⟩ := Own.there A1.good ⟨oj1, oj2⟩
          rw [hD] at e
          cases e
        · rw [restD_out ρ1 ρ2 j vs hv] at oj2
          exact n2 ⟨j, by rw [wipe_out σ j vs hv]; exact oj1, oj2⟩
section
variable {X : Cx} {elt tg iter : Expr} {ifs : List Expr} {scope : Scope} {own : List (Str × Nat)} {pos spos : Pos} {fi : Fi} {h : Fg} {S : List Nat} {ft : Ft} {fe : Fe}
def dYes : Ft := fun ρ => some (true, ρ)
abbrev DTs (X : Cx) (ifs : List Expr) (f : Ft) : Prop := PTs X ifs (ttOf X.K f)
theorem PTs.weak {X : Cx} {e : List Expr} {t t' : TT} (h : PTs X e t) (w : ∀ σ H Q, t' σ H Q → t σ H Q) : PTs X e t' := ⟨fun pins s σ H Q I q => h.run pins s σ H Q I (w σ H Q q)⟩
theorem dts_nil : DTs X [] dYes := PTs.weak pts_nil fun σ H Q ⟨G, ρ, b, ρ', g, e, k⟩ => by
  cases e
  exact k G H (Aft.refl g)
theorem dts_one {c : Expr} (hc : DT X c ft) : DTs X [c] ft := pts_one hc
theorem de_lc (hc : X.calm = true) (hN : X.N.Nodup) (hi : DI X tg iter fi) (ok : BlkOk X.N X.env.scope scope own)
    (hg : ∀ (s : Shared) (H : Hp) (C : Addr) (cl : List (Str × Addr)) (fp : List Addr), DG (X.blk s H scope (compEnvC scope cl C X.env) fp) tg h S) (ht : ∀ (s : Shared) (H : Hp) (C : Addr) (cl : List (Str × Addr)) (fp : List Addr), DTs (X.blk s H scope (compEnvC scope cl C X.env) fp) ifs ft)
    (he : ∀ (s : Shared) (H : Hp) (C : Addr) (cl : List (Str × Addr)) (fp : List Addr), DE (X.blk s H scope (compEnvC scope cl C X.env) fp) elt fe) (hS : ∀ i ∈ S, i ∈ own.map (·.2) := by decide) (hs : ∀ x, foldedSetIterable iter X.env x = pure x := by intro _; rfl) :
    DE X (.ListComp elt [⟨tg, iter, ifs, 0⟩] scope pos) (dLc fi h ft fe (own.map (·.2))) :=
  PE.weak (pe_lc hc hN hi ok hg ht (fun s H C cl fp => de_fr (he s H C cl fp)) hs) (tLc_of hS)
end
end DL
set_option Elab.async false
set_option linter.all false
set_option maxRecDepth 100000
set_option maxHeartbeats 2000000
namespace DL
open PySem PySem.Spec L2
open PyProof.Rows (envOfC)
/-! ### defs -/
/-- from the arguments (data; lent things) to the result and what was lent -/
abbrev FF := En → Option (Sl × En)
def ArgsOk (ρ : En) : Prop := ∀ (i : Nat) (m : Mu), ρ[i]? ≠ some (.ow m)
def spD (K : PySem.W.Frag) (n : Nat) (F : FF) : Sp := fun vs H Q _ => ∃ G ρ r ρ', vs.length = n ∧ ArgsOk ρ ∧ Good K G H (vs.map some) ρ ∧ F ρ = some (r, ρ') ∧
  ∀ v G' H', Aft K G H (vs.map some) ρ G' H' (vs.map some) ρ' → ROk K H G' H' (vs.map some) ρ' v r → Q v H'
def resolve (ρ : En) : Sl → Option Sl
  | .fz d => some (.fz d)
  | .ow m => some (.ow m)
  | .bw i => match ρ[i]? with
    | some (.fz d) => some (.fz d)
    | some (.ow m) => some (.ow m)
    | _ => none
  | _ => none
def finS (a b : Sl) : Sl := match a with
  | .rf _ => b
  | .fz d => .fz d
  | _ => .un
def fin (ρ ρe : En) : En := List.zipWith finS ρ ρe
def endF (ρ : En) (o : Option (Fl × En)) : Option (Sl × En) := match o with
  | some (.nx, ρe) => some (.fz .non, fin ρ ρe)
  | some (.rt r, ρe) => match resolve ρe r with
    | some z => some (z, fin ρ ρe)
    | none => none
  | _ => none
def runF (k : Nat) (B : Fs) : FF := fun ρ => endF ρ (B (ρ ++ List.replicate k .un))
section
variable {K : PySem.W.Frag} {G H G' H' : Hp} {σ σ' : L2.St} {ρ ρe : En} {k : Nat} {vs : List V}
theorem pad_get {α : Type} {l : List α} {x : α} {i : Nat} {y : α} (h : (l ++ List.replicate k x)[i]? = some y) : l[i]? = some y ∨ y = x := by
  by_cases hi : i < l.length
  · rw [List.getElem?_append_left hi] at h
    exact .inl h
  · rw [List.getElem?_append_right (by omega)] at h
    rw [List.getElem?_replicate] at h
    split at h
    · cases h
      exact .inr rfl
    · cases h
theorem own_pad {i : Nat} {p : Addr} (o : Own (σ ++ List.replicate k none) (ρ ++ List.replicate k .un) i p) : Own σ ρ i p := by
  obtain ⟨h1, h2⟩ := o
  refine ⟨?_, ?_⟩
  · rcases pad_get h1 with z | z
    · exact z
    · cases z
  · rcases h2 with ⟨m, h2⟩ | ⟨m, h2⟩
    · rcases pad_get h2 with z | z
      · exact .inl ⟨m, z⟩
      · cases z
    · rcases pad_get h2 with z | z
      · exact .inr ⟨m, z⟩
      · cases z
theorem Good.pad (g : Good K G H σ ρ) : Good K G H (σ ++ List.replicate k none) (ρ ++ List.replicate k .un) := by
  refine ⟨g.ex, by simp [g.len], fun i s r e1 e2 => ?_, fun i j p a b => g.nd i j p (own_pad a) (own_pad b)⟩
  rcases pad_get e2 with z | z
  · have hi : i < σ.length := by
      rw [g.len]
      exact (List.getElem?_eq_some_iff.mp z).1
    rw [List.getElem?_append_left hi] at e1
    exact g.sl i s r e1 z
  · rw [z]
    trivial
theorem fin_get {i : Nat} {z : Sl} (h : (fin ρ ρe)[i]? = some z) : ∃ a b, ρ[i]? = some a ∧ ρe[i]? = some b ∧ z = finS a b := by
  unfold fin at h
  rw [List.getElem?_zipWith] at h
  cases h1 : ρ[i]? with
  | none => rw [h1] at h; cases h
  | some a =>
    cases h2 : ρe[i]? with
    | none => rw [h1, h2] at h; cases h
    | some b =>
      rw [h1, h2] at h
      cases h
      exact ⟨a, b, rfl, rfl, rfl⟩
theorem finS_own {a b : Sl} (h : (∃ m, finS a b = .ow m) ∨ ∃ m, finS a b = .rf m) : (∃ m, a = .rf m) ∧ finS a b = b := by
  cases a with
  | rf m => exact ⟨⟨m, rfl⟩, rfl⟩
  | un => rcases h with ⟨m, h⟩ | ⟨m, h⟩ <;> cases h
  | fz d => rcases h with ⟨m, h⟩ | ⟨m, h⟩ <;> cases h
  | ow d => rcases h with ⟨m, h⟩ | ⟨m, h⟩ <;> cases h
  | bw d => rcases h with ⟨m, h⟩ | ⟨m, h⟩ <;> cases h
theorem call_end (g : Good K G H (vs.map some) ρ) (a : Aft K G H (vs.map some ++ List.replicate k none) (ρ ++ List.replicate k .un) G' H' σ' ρe) : Aft K G H (vs.map some) ρ G' H' (vs.map some) (fin ρ ρe) := by
  have vlen : ∀ i (z : Sl), (fin ρ ρe)[i]? = some z → i < (vs.map some).length := fun i z h => by
    obtain ⟨x, y, h1, _⟩ := fin_get h
    rw [g.len]
    exact (List.getElem?_eq_some_iff.mp h1).1
  have sig : ∀ i m, ρ[i]? = some (Sl.rf m) → σ'[i]? = (vs.map some)[i]? ∧ ∃ m', ρe[i]? = some (Sl.rf m') := fun i m h => by
    have hi : i < ρ.length := (List.getElem?_eq_some_iff.mp h).1
    obtain ⟨h1, h2⟩ := a.rf i m (by rw [List.getElem?_append_left hi]; exact h)
    refine ⟨?_, h2⟩
    rw [h1, List.getElem?_append_left (by rw [g.len]; exact hi)]
  have own_ : ∀ i p, Own (vs.map some) (fin ρ ρe) i p → Own σ' ρe i p ∧ Own (vs.map some) ρ i p := fun i p ⟨h1, h2⟩ => by
    have h3 : ∃ z, (fin ρ ρe)[i]? = some z ∧ ((∃ m, z = .ow m) ∨ ∃ m, z = .rf m) := by
      rcases h2 with ⟨m, h2⟩ | ⟨m, h2⟩
      · exact ⟨_, h2, .inl ⟨m, rfl⟩⟩
      · exact ⟨_, h2, .inr ⟨m, rfl⟩⟩
    obtain ⟨z, hz, hm⟩ := h3
    obtain ⟨x, y, e1, e2, e3⟩ := fin_get hz
    subst e3
    obtain ⟨⟨m, rfl⟩, e4⟩ := finS_own hm
    obtain ⟨s1, m', s2⟩ := sig i m e1
    exact ⟨⟨by rw [s1]; exact h1, .inr ⟨m', s2⟩⟩, h1, .inr ⟨m, e1⟩⟩
  refine ⟨⟨a.good.ex, ?_, fun i s r e1 e2 => ?_, fun i j p oi oj => a.good.nd i j p (own_ i p oi).1 (own_ j p oj).1⟩, a.ex, fun x o e n => a.keep x o e fun ⟨j, oj⟩ => n ⟨j, own_pad oj⟩, a.dom, fun i p o => .inl ⟨i, (own_ i p o).2⟩, fun i m e => ⟨rfl, ?_⟩, ?_⟩
  · have h1 := a.good.len
    unfold fin
    rw [List.length_zipWith, g.len]
    have h2 := a.len
    rw [List.length_append] at h2
    omega
  · obtain ⟨x, y, h1, h2, rfl⟩ := fin_get e2
    cases x with
    | un => trivial
    | bw _ => trivial
    | ow _ => trivial
    | fz d =>
      obtain ⟨v, k1, k2⟩ := g.sl i s _ e1 h1
      exact ⟨v, k1, k2.up a.ex⟩
    | rf m =>
      obtain ⟨s1, m', s2⟩ := sig i m h1
      exact a.good.sl i s y (by rw [s1]; exact e1) h2
  · obtain ⟨s1, m', s2⟩ := sig i m e
    refine ⟨m', ?_⟩
    unfold fin
    rw [List.getElem?_zipWith, e, s2]
    rfl
  · have h2 := a.len
    rw [List.length_append] at h2
    unfold fin
    rw [List.length_zipWith]
    omega
theorem res_ok {r z : Sl} {v : V} (hA : ArgsOk ρ) (g : Good K G H (vs.map some) ρ) (a : Aft K G H (vs.map some ++ List.replicate k none) (ρ ++ List.replicate k .un) G' H' σ' ρe) (R : ROk K H G' H' σ' ρe v r) (e : resolve ρe r = some z) :
    ROk K H G' H' (vs.map some) (fin ρ ρe) v z := by
  have own_ : ∀ i p, Own (vs.map some) (fin ρ ρe) i p → Own σ' ρe i p ∧ ∃ m, ρ[i]? = some (Sl.rf m) := fun i p ⟨h1, h2⟩ => by
    have h3 : ∃ z, (fin ρ ρe)[i]? = some z ∧ ((∃ m, z = .ow m) ∨ ∃ m, z = .rf m) := by
      rcases h2 with ⟨m, h2⟩ | ⟨m, h2⟩
      · exact ⟨_, h2, .inl ⟨m, rfl⟩⟩
      · exact ⟨_, h2, .inr ⟨m, rfl⟩⟩
    obtain ⟨z, hz, hm⟩ := h3
    obtain ⟨x, y, e1, e2, e3⟩ := fin_get hz
    subst e3
    obtain ⟨⟨m, rfl⟩, e4⟩ := finS_own hm
    have hi : i < ρ.length := (List.getElem?_eq_some_iff.mp e1).1
    obtain ⟨s1, m', s2⟩ := a.rf i m (by rw [List.getElem?_append_left hi]; exact e1)
    rw [List.getElem?_append_left (by rw [g.len]; exact hi)] at s1
    exact ⟨⟨by rw [s1]; exact h1, .inr ⟨m', s2⟩⟩, m, e1⟩
  cases r with
  | un => cases e
  | rf m => cases e
  | fz d => cases e; exact R
  | ow m =>
    cases e
    obtain ⟨p, o, rfl, h0, h1, h2, h3, h4⟩ := R
    exact ⟨p, o, rfl, h0, h1, h2, h3, fun ⟨j, oj⟩ => h4 ⟨j, (own_ j p oj).1⟩⟩
  | bw i =>
    have e' : (match ρe[i]? with | some (.fz d) => some (Sl.fz d) | some (.ow m) => some (.ow m) | _ => none) = some z := e
    have R' : σ'[i]? = some (some v) := R
    cases q : ρe[i]? with
    | none => rw [q] at e'; cases e'
    | some x =>
      rw [q] at e'
      have s := a.good.sl i _ _ R' q
      cases x with
      | un => cases e'
      | bw _ => cases e'
      | rf m => cases e'
      | fz d =>
        cases e'
        obtain ⟨v', h1, h2⟩ := s
        cases h1
        exact h2
      | ow m =>
        cases e'
        obtain ⟨p, o, h1, h2, h3, h4⟩ := s
        cases h1
        have oi : Own σ' ρe i p := ⟨R', .inl ⟨m, q⟩⟩
        refine ⟨p, o, rfl, ?_, h2, h3, h4, fun ⟨j, oj⟩ => ?_⟩
        · rcases a.own i p oi with ⟨j, oj⟩ | z
          · exfalso
            obtain ⟨w1, w2⟩ := own_pad oj
            have hr : ∃ m, ρ[j]? = some (Sl.rf m) := by
              rcases w2 with ⟨m', w2⟩ | w2
              · exact absurd w2 (hA j m')
              · exact w2
            obtain ⟨m1, hr⟩ := hr
            have hj : j < ρ.length := (List.getElem?_eq_some_iff.mp hr).1
            obtain ⟨s1, m', s2⟩ := a.rf j m1 (by rw [List.getElem?_append_left hj]; exact hr)
            rw [List.getElem?_append_left (by rw [g.len]; exact hj)] at s1
            have e3 := a.good.nd i j p oi ⟨by rw [s1]; exact w1, .inr ⟨m', s2⟩⟩
            subst e3
            rw [q] at s2
            cases s2
          · exact z
        · obtain ⟨oj', m1, hr⟩ := own_ j p oj
          have e3 := a.good.nd i j p oi oj'
          subst e3
          have hj : i < ρ.length := (List.getElem?_eq_some_iff.mp hr).1
          obtain ⟨s1, m', s2⟩ := a.rf i m1 (by rw [List.getElem?_append_left hj]; exact hr)
          rw [q] at s2
          cases s2
end
section
variable {P : Program} {w : World} {K : PySem.W.Frag} {mg : Str → Option Value} {base : Heap}
/-- THE RULE for a def -/
theorem okD {x qual : Str} {st : Stmt} {f : Addr} {fd : FuncData} {N ps : List Str} {k : Nat} {B : Fs} (F : Fun K x qual st f fd) (S : FnScope N ps (defScope st))
    (hb : ∀ (cdv : Value) (A : Around) (outer : List Env) (s : Shared) (H : Hp), Room k (A.deeper (envOfC qual (defScope st) s.heap.objs.size f cdv)) → DB (cxOf CX0 P w K mg base N qual (defScope st) f cdv A outer s H E0).nox E0 (defBody st) B) :
    FnOk P w K mg base CX0 (k + 1) f fd ps (spD K ps.length (runF (N.length - ps.length) B)) := by
  obtain ⟨oc, od, kV, doc, pm, an, cdv, ct, osl, rfl, lk, hcd⟩ := F.ex
  refine fn_of lk hcd S (fun vs H Q E h => ?_) fun A outer s H vs Q E hr hsp => ?_
  · obtain ⟨G, ρ, r, ρ', h1, _⟩ := h
    exact h1
  · obtain ⟨G, ρ, r, ρ', h1, hA, g, e, k⟩ := hsp
    refine ⟨tsOf K E0 B, ?_, ?_⟩
    · have h0 := hb cdv A outer s H hr
      exact PSs.nox (X := cxOf CX0 P w K mg base N qual (defScope st) f cdv A outer s H E) (show PSs _ _ (tsOf K E0 B) from ⟨fun pins s1 σ H1 D I q => h0.run pins s1 σ H1 D I q⟩)
    · have e0 : L2.start N vs = vs.map some ++ List.replicate (N.length - ps.length) none := by
        unfold L2.start
        rw [h1]
      rw [e0]
      unfold runF at e
      cases q : B (ρ ++ List.replicate (N.length - ps.length) .un) with
      | none => rw [q] at e; cases e
      | some y =>
        obtain ⟨fl, ρe⟩ := y
        rw [q] at e
        refine ⟨G, _, fl, ρe, g.pad, q, fun σ' G' H' A' => ?_⟩
        have Ae := call_end g A'
        cases fl with
        | nx =>
          cases e
          exact k .non G' H' Ae .non
        | bk => cases e
        | ct => cases e
        | ex C ns ds => cases e
        | rt r1 =>
          intro v R
          replace e : (match resolve ρe r1 with | some z => some (z, fin ρ ρe) | none => none) = some (r, ρ') := e
          cases q2 : resolve ρe r1 with
          | none => rw [q2] at e; cases e
          | some z =>
            rw [q2] at e
            cases e
            exact k v G' H' Ae (res_ok hA g A' R q2)
end
/-! ### calls of defs -/
def allFz : List Sl → Bool
  | [] => true
  | .fz _ :: r => allFz r
  | _ => false
/-- the arguments as they come: let stay; or the first one lent -/
def isRes : Sl → Bool
  | .fz _ => true
  | .ow _ => true
  | _ => false
def fCall (F : FF) (fa : Fa) : Fe := fun ρ => match fa ρ with
  | some (rs, ρ1) => match rs with
    | .bw i :: rest => if allFz rest = true then (match ρ1[i]? with
        | some (.ow m) => match F (.rf m :: rest) with
          | some (z, .rf m' :: _) => if isRes z = true then some (z, ρ1.set i (.ow m')) else none
          | _ => none
        | some (.rf m) => match F (.rf m :: rest) with
          | some (z, .rf m' :: _) => if isRes z = true then some (z, ρ1.set i (.rf m')) else none
          | _ => none
        | _ => none) else none
    | rs => if allFz rs = true then (match F rs with
        | some (z, _) => if isRes z = true then some (z, ρ1) else none
        | none => none) else none
  | none => none
section
variable {K : PySem.W.Frag} {G H G1 H1 G2 H2 H0 : Hp} {σ : L2.St} {ρ ρ1 ρc ρc' : En} {vs : List V} {rs : List Sl}
theorem fz_slots : ∀ {vs : List V} {rs : List Sl}, RsOk K H0 G H σ ρ vs rs → allFz rs = true → vs.length = rs.length ∧ (∀ (i : Nat) (s : Option V) (r : Sl), (vs.map some)[i]? = some s → rs[i]? = some r → ∃ v d, s = some v ∧ r = .fz d ∧ Rp K G v d)
  | _, _, .nil, _ => ⟨rfl, fun i s r h _ => by simp at h⟩
  | _, _, .cons (v := v) (r := r) h t, f => by
    cases r with
    | fz d =>
      obtain ⟨h1, h2⟩ := fz_slots t f
      refine ⟨by simp [h1], fun i s r e1 e2 => ?_⟩
      cases i with
      | zero =>
        simp at e1 e2
        subst e1
        subst e2
        exact ⟨v, d, rfl, rfl, h⟩
      | succ i => exact h2 i s r (by simpa using e1) (by simpa using e2)
    | un => cases f
    | ow _ => cases f
    | rf _ => cases f
    | bw _ => cases f
/-- the caller's slots behind a call that was lent nothing of theirs -/
theorem Good.frame (g : Good K G1 H1 σ ρ) (ex : Ex G1 G2) (ex2 : Ex G2 H2) (k : ∀ a o, H1 a = some o → OwnA σ ρ a → H2 a = some o ∧ (G1 a = none → NT o → G2 a = none)) : Good K G2 H2 σ ρ := by
  refine ⟨ex2, g.len, fun i s r e1 e2 => ?_, g.nd⟩
  have q := g.sl i s r e1 e2
  cases r with
  | un => trivial
  | bw _ => exact q
  | fz d =>
    obtain ⟨v, h1, h2⟩ := q
    exact ⟨v, h1, h2.up ex⟩
  | ow m =>
    obtain ⟨p, o, h1, h2, h3, h4⟩ := q
    obtain ⟨k1, k2⟩ := k p o h3 ⟨i, by rw [e1, h1], .inl ⟨m, e2⟩⟩
    exact ⟨p, o, h1, k2 h2 h4.nt, k1, h4.up ex⟩
  | rf m =>
    obtain ⟨p, o, h1, h2, h3, h4⟩ := q
    obtain ⟨k1, k2⟩ := k p o h3 ⟨i, by rw [e1, h1], .inr ⟨m, e2⟩⟩
    exact ⟨p, o, h1, k2 h2 h4.nt, k1, h4.up ex⟩
/-- a call with all arguments standing -/
theorem call_fz {F : FF} {n : Nat} {z : Sl} {Q : VK} {E : XK} (g : Good K G1 H1 σ ρ1) (R : RsOk K H0 G1 H1 σ ρ1 vs rs) (hz : allFz rs = true) (e : F rs = some (z, ρc')) (hzr : isRes z = true) (hn : rs.length = n)
    (k : ∀ v G2 H2, Aft K G1 H1 σ ρ1 G2 H2 σ ρ1 → ROk K H1 G2 H2 σ ρ1 v z → Q v H2) : spD K n F vs H1 Q E := by
  obtain ⟨hl, hs⟩ := fz_slots R hz
  have noOwn : ∀ p, ¬ OwnA (vs.map some) rs p := fun p ⟨i, h1, h2⟩ => by
    rcases h2 with ⟨m, h2⟩ | ⟨m, h2⟩
    · obtain ⟨v, d, _, q, _⟩ := hs i _ _ h1 h2
      cases q
    · obtain ⟨v, d, _, q, _⟩ := hs i _ _ h1 h2
      cases q
  have gc : Good K G1 H1 (vs.map some) rs := ⟨g.ex, by simp [hl], fun i s r e1 e2 => by
    obtain ⟨v, d, rfl, rfl, h⟩ := hs i s r e1 e2
    exact ⟨v, rfl, h⟩, fun i j p o _ => absurd ⟨i, o⟩ (noOwn p)⟩
  refine ⟨G1, rs, z, ρc', hl.trans hn, fun i m q => ?_, gc, e, fun v G2 H2 A2 R2 => ?_⟩
  · have hi : i < (vs.map some).length := by
      rw [List.length_map, hl]
      exact (List.getElem?_eq_some_iff.mp q).1
    obtain ⟨v, d, _, q', _⟩ := hs i _ _ (List.getElem?_eq_getElem hi) q
    cases q'
  · have kk : ∀ a o, H1 a = some o → H2 a = some o ∧ (G1 a = none → NT o → G2 a = none) := fun a o q => A2.keep a o q (noOwn a)
    have g2 : Good K G2 H2 σ ρ1 := g.frame A2.ex A2.good.ex fun a o q _ => kk a o q
    refine k v G2 H2 ⟨g2, A2.ex, fun a o q _ => kk a o q, A2.dom, fun i p o => .inl ⟨i, o⟩, fun i m q => ⟨rfl, m, q⟩, rfl⟩ ?_
    cases z with
    | un => exact R2
    | rf m => exact R2
    | fz d => exact R2
    | ow m =>
      obtain ⟨p, o, rfl, h0, h1, h2, h3, h4⟩ := R2
      exact ⟨p, o, rfl, h0, h1, h2, h3, g.notOwn h0⟩
    | bw i => cases hzr
/-- a call whose first argument is lent -/
theorem call_rf {F : FF} {n i : Nat} {z : Sl} {v0 : V} {rest : List Sl} {r0 : Sl} {m m' : Mu} {more : En} {Q : VK} {E : XK} (g : Good K G1 H1 σ ρ1) (R : RsOk K H0 G1 H1 σ ρ1 vs rest) (hz : allFz rest = true) (hv : σ[i]? = some (some v0)) (hr : ρ1[i]? = some r0) (hh : Held r0 m)
    (e : F (.rf m :: rest) = some (z, .rf m' :: more)) (hzr : isRes z = true) (hn : rest.length + 1 = n)
    (k : ∀ v G2 H2, Aft K G1 H1 σ ρ1 G2 H2 σ (ρ1.set i (r0.put m')) → ROk K H1 G2 H2 σ (ρ1.set i (r0.put m')) v z → Q v H2) : spD K n F (v0 :: vs) H1 Q E := by
  obtain ⟨hl, hs⟩ := fz_slots R hz
  have sl0 : ∃ p o, v0 = .ref p ∧ G1 p = none ∧ H1 p = some o ∧ MuOk K G1 o m := by
    have q := g.sl i _ _ hv hr
    cases hh with
    | ow m =>
      obtain ⟨p, o, h1, h2⟩ := q
      exact ⟨p, o, by cases h1; rfl, h2⟩
    | rf m =>
      obtain ⟨p, o, h1, h2⟩ := q
      exact ⟨p, o, by cases h1; rfl, h2⟩
  obtain ⟨p, o, rfl, hp1, hp2, hp3⟩ := sl0
  have oi : Own σ ρ1 i p := ⟨hv, by cases hh with | ow m => exact .inl ⟨m, hr⟩ | rf m => exact .inr ⟨m, hr⟩⟩
  have onlyP : ∀ j q, Own ((V.ref p :: vs).map some) (.rf m :: rest) j q → j = 0 ∧ q = p := fun j q ⟨h1, h2⟩ => by
    cases j with
    | zero => exact ⟨rfl, by simpa using h1.symm⟩
    | succ j =>
      exfalso
      rcases h2 with ⟨m1, h2⟩ | ⟨m1, h2⟩
      · obtain ⟨v, d, _, q, _⟩ := hs j _ _ (show (vs.map some)[j]? = _ from h1) (show rest[j]? = _ from h2)
        cases q
      · obtain ⟨v, d, _, q, _⟩ := hs j _ _ (show (vs.map some)[j]? = _ from h1) (show rest[j]? = _ from h2)
        cases q
  have gc : Good K G1 H1 ((V.ref p :: vs).map some) (.rf m :: rest) := ⟨g.ex, by simp [hl], fun j s r e1 e2 => by
    cases j with
    | zero =>
      simp at e1 e2
      subst e1
      subst e2
      exact ⟨p, o, rfl, hp1, hp2, hp3⟩
    | succ j =>
      obtain ⟨v, d, rfl, rfl, h⟩ := hs j s r (by simpa using e1) (by simpa using e2)
      exact ⟨v, rfl, h⟩, fun j1 j2 q o1 o2 => (onlyP j1 q o1).1.trans (onlyP j2 q o2).1.symm⟩
  refine ⟨G1, _, z, _, by simp only [List.length_cons]; omega, fun j m1 q => ?_, gc, e, fun v G2 H2 A2 R2 => ?_⟩
  · cases j with
    | zero => simp at q
    | succ j =>
      have hi : j < (vs.map some).length := by
        rw [List.length_map, hl]
        exact (List.getElem?_eq_some_iff.mp (show rest[j]? = some _ by simpa using q)).1
      obtain ⟨v, d, _, q', _⟩ := hs j _ _ (List.getElem?_eq_getElem hi) (by simpa using q)
      cases q'
  · have kk : ∀ a o, H1 a = some o → a ≠ p → H2 a = some o ∧ (G1 a = none → NT o → G2 a = none) := fun a o q ne => A2.keep a o q fun ⟨j, oj⟩ => ne (onlyP j a oj).2
    -- the lent thing behind the call
    obtain ⟨p', o', h1, h2, h3, h4⟩ := A2.good.sl 0 _ _ rfl rfl
    have ep : p = p' := by simpa using h1
    subst ep
    have hi : i < ρ1.length := (List.getElem?_eq_some_iff.mp hr).1
    have ownOld : ∀ j q, Own σ (ρ1.set i (r0.put m')) j q → Own σ ρ1 j q := fun j q ⟨z1, z2⟩ => by
      by_cases ne : j = i
      · subst ne
        rw [hv] at z1
        cases z1
        exact oi
      · rw [List.getElem?_set_ne (Ne.symm ne)] at z2
        exact ⟨z1, z2⟩
    have g2 : Good K G2 H2 σ (ρ1.set i (r0.put m')) := by
      refine ⟨A2.good.ex, by simpa using g.len, fun j s r e1 e2 => ?_, fun j1 j2 q o1 o2 => g.nd j1 j2 q (ownOld _ _ o1) (ownOld _ _ o2)⟩
      rcases getElem?_set_cases e2 with ⟨y1, y2⟩ | ⟨y1, y2⟩
      · subst y1
        subst y2
        rw [hv] at e1
        cases e1
        cases hh with
        | ow m => exact ⟨p, o', rfl, h2, h3, h4⟩
        | rf m => exact ⟨p, o', rfl, h2, h3, h4⟩
      · have q := g.sl j s r e1 y2
        cases r with
        | un => trivial
        | bw _ => exact q
        | fz d =>
          obtain ⟨v, w1, w2⟩ := q
          exact ⟨v, w1, w2.up A2.ex⟩
        | ow m1 =>
          obtain ⟨q, u, w1, w2, w3, w4⟩ := q
          have ne : q ≠ p := fun z => y1 (g.nd j i p ⟨by rw [e1, w1, z], .inl ⟨m1, y2⟩⟩ oi)
          obtain ⟨k1, k2⟩ := kk q u w3 ne
          exact ⟨q, u, w1, k2 w2 w4.nt, k1, w4.up A2.ex⟩
        | rf m1 =>
          obtain ⟨q, u, w1, w2, w3, w4⟩ := q
          have ne : q ≠ p := fun z => y1 (g.nd j i p ⟨by rw [e1, w1, z], .inr ⟨m1, y2⟩⟩ oi)
          obtain ⟨k1, k2⟩ := kk q u w3 ne
          exact ⟨q, u, w1, k2 w2 w4.nt, k1, w4.up A2.ex⟩
    refine k v G2 H2 ⟨g2, A2.ex, fun a u q n => kk a u q fun z => n ⟨i, z ▸ oi⟩, A2.dom, fun j q oj => .inl ⟨j, ownOld j q oj⟩, fun j m1 q => ⟨rfl, ?_⟩, by simp⟩ ?_
    · by_cases ne : i = j
      · subst ne
        rw [hr] at q
        cases q
        exact ⟨m', by rw [List.getElem?_set_self hi]; cases hh; rfl⟩
      · exact ⟨m1, by rw [List.getElem?_set_ne ne]; exact q⟩
    · cases z with
      | un => exact R2
      | rf m => exact R2
      | fz d => exact R2
      | ow m1 =>
        obtain ⟨q, u, rfl, h0, w1, w2, w3, w4⟩ := R2
        exact ⟨q, u, rfl, h0, w1, w2, w3, fun ⟨j, oj⟩ => g.notOwn h0 ⟨j, ownOld j q oj⟩⟩
      | bw i => cases hzr
end
section
variable {X : Cx} {k : Nat} {f : Addr} {fd : FuncData} {ps : List Str} {F : FF} {x : Str} {p pos : Pos} {e : Expr} {es : List Expr} {fa : Fa}
theorem tCall_of {K : PySem.W.Frag} {n : Nat} {E : XK} (hl : ∀ ρ rs ρ', fa ρ = some (rs, ρ') → rs.length = n) : ∀ σ H Q, teOf K (fCall F fa) σ H Q → tCall (spD K n F) [] E (taOf K fa) σ H Q := fun σ H Q ⟨G, ρ, z, ρ', g, q, kk⟩ => by
  unfold fCall at q
  cases q1 : fa ρ with
  | none => rw [q1] at q; cases q
  | some y =>
    obtain ⟨rs, ρ1⟩ := y
    simp only [q1] at q
    have hn := hl ρ rs ρ1 q1
    refine ⟨G, ρ, rs, ρ1, g, q1, fun vs G1 H1 A1 R1 => ?_⟩
    show spD K n F (vs ++ []) H1 Q E
    rw [List.append_nil]
    split at q
    · rename_i i rest
      split at q
      · rename_i hz
        cases R1 with
        | cons r1 r2 =>
          have hv : σ[i]? = some (some _) := r1
          split at q
          · rename_i m hr
            split at q
            · rename_i z' m' more hF
              split at q
              · rename_i hres
                cases q
                refine call_rf A1.good r2 hz hv hr (.ow m) hF hres (by simpa using hn) fun v G2 H2 A2 R2 => kk v G2 H2 (A1.trans A2) (R2.start A1.dom)
              · cases q
            · cases q
          · rename_i m hr
            split at q
            · rename_i z' m' more hF
              split at q
              · rename_i hres
                cases q
                refine call_rf A1.good r2 hz hv hr (.rf m) hF hres (by simpa using hn) fun v G2 H2 A2 R2 => kk v G2 H2 (A1.trans A2) (R2.start A1.dom)
              · cases q
            · cases q
          · cases q
      · cases q
    · split at q
      · rename_i hz
        split at q
        · rename_i z' ρ2 hF
          split at q
          · rename_i hres
            cases q
            exact call_fz A1.good R1 hz hF hres hn fun v G2 H2 A2 R2 => kk v G2 H2 (A1.trans A2) (R2.start A1.dom)
          · cases q
        · cases q
      · cases q
/-- how many arguments -/
inductive Cnt : Fa → Nat → Prop
  | nil : Cnt aNil 0
  | cons {f : Fe} {g : Fa} {n : Nat} : Cnt g n → Cnt (aCons f g) (n + 1)
  | fr {f : Fe} {g : Fa} {n : Nat} : Cnt g n → Cnt (aFr f g) (n + 1)
theorem Cnt.len {g : Fa} {n : Nat} (c : Cnt g n) : ∀ ρ rs ρ', g ρ = some (rs, ρ') → rs.length = n := by
  induction c with
  | nil =>
    intro ρ rs ρ' e
    cases e
    rfl
  | @cons f g n _ ih =>
    intro ρ rs ρ' e
    unfold aCons at e
    cases q : f ρ with
    | none => rw [q] at e; cases e
    | some y =>
      obtain ⟨r, ρ1⟩ := y
      simp only [q] at e
      cases q2 : g ρ1 with
      | none => simp only [q2] at e; cases e
      | some y =>
        obtain ⟨rs', ρ2⟩ := y
        simp only [q2] at e
        cases e
        simp [ih _ _ _ q2]
  | @fr f g n _ ih =>
    intro ρ rs ρ' e
    unfold aFr at e
    cases q : dFr f ρ with
    | none => rw [q] at e; cases e
    | some y =>
      obtain ⟨r, ρ1⟩ := y
      simp only [q] at e
      cases q2 : g ρ1 with
      | none => simp only [q2] at e; cases e
      | some y =>
        obtain ⟨rs', ρ2⟩ := y
        simp only [q2] at e
        cases e
        simp [ih _ _ _ q2]
theorem de_call {n : Nat} (G : FnOk X.prog X.w X.K X.mg X.base CX0 k f fd ps (spD X.K n F)) (hr : Room k X.A) (hg : Gl X x) (hm : X.mg x = some (.ref f)) (hk : PySem.W.keepIn X.K (.ref f) = true) (hb : Binds X.K fd ps [])
    (ha : DA X (e :: es) fa) (hc : Cnt fa n) (hdb : (x == ("__debug__" : Str)) = false := by decide) (he : starEach (e :: es) X.env = (false, eval e X.env) :: starEach es X.env := by rfl) (hpl : (backTo pos (starEach es X.env)).any (·.1) = false := by rfl) :
    DE X (.Call (.Name x p) (e :: es) [] pos) (fCall F fa) := PE.weak (pe_call (E := E0) G hr hg hm hk hb .nil pass0 ha hdb he hpl) (tCall_of hc.len)
end
/-! ### the law -/
def spLaw (K : PySem.W.Frag) : Sp := fun vs H Q _ => ∃ (a : Addr) (ns : List Int), vs = [.ref a] ∧ SqL K H a (ns.map V.int) ∧ ns.length ≤ 63 ∧ ∀ H', Q (.bl true) H'
theorem spLaw_of {K : PySem.W.Frag} {F : FF} {vs : List V} {H : Hp} {Q : VK} {E : XK} (h : ∀ ns : List Int, ns.length ≤ 63 → ∃ ρ', F [.fz (.scr ns)] = some (.fz (.bl true), ρ')) (z : spLaw K vs H Q E) : spD K 1 F vs H Q E := by
    obtain ⟨a, ns, e, hS, hl, q⟩ := z
    subst e
    obtain ⟨ρ', h⟩ := h ns hl
    refine ⟨H, [.fz (.scr ns)], .fz (.bl true), ρ', rfl, fun i m z => ?_, ⟨Same.refl H, rfl, fun i s r e1 e2 => ?_, fun i j p o _ => ?_⟩, h, fun v G' H' _ R => ?_⟩
    · cases i with
      | zero => simp at z
      | succ i => simp at z
    · cases i with
      | zero =>
        simp at e1 e2
        subst e1
        subst e2
        exact ⟨_, rfl, .scr hS⟩
      | succ i => simp at e2
    · exfalso
      obtain ⟨_, h2⟩ := o
      cases i with
      | zero => rcases h2 with ⟨m, h2⟩ | ⟨m, h2⟩ <;> simp at h2
      | succ i => rcases h2 with ⟨m, h2⟩ | ⟨m, h2⟩ <;> simp at h2
    · rw [Rp.of_bl R]
      exact q H'
end DL
set_option Elab.async false
set_option linter.all false
set_option maxRecDepth 100000
set_option maxHeartbeats 2000000
namespace DL
open PySem PySem.Spec L2
open PyProof.Rows (envOfC boot_enumerate)
/-! ### rules of the machine that the hand layer lacks -/
section
variable {X : Cx}
/-- a text so many times -/
theorem op_mul_str : OpR X (binaryOp .Mult) (fun x y H Q => ∃ z n, x = .str z ∧ y = .int n ∧ MulOk z n ∧ Q (.str (Txt.mul z n)) H) := by
  intro pins s σ H x y v u Q I rx ry h
  obtain ⟨z, n, rfl, rfl, hm, q⟩ := h
  obtain ⟨t, rfl⟩ := rx
  obtain ⟨t', rfl⟩ := ry
  exact SB.mul hm fun t1 k => ⟨.str _, H, I.tok _, ⟨_, rfl⟩, q⟩
/-- a power whose bits are few -/
def CPowW (i j : Int) : Prop := 0 ≤ j ∧ (Builtin.Int.intBits i : Int) * j ≤ 2 ^ 27
theorem op_powW : OpR X (binaryOp .Pow) (rI CPowW fun i j => .int (i ^ j.toNat)) := opI fun _ _ _ _ _ _ _ hc q => PyProof.Rows.pow_int hc.1 hc.2 q
end
section
open AutoSeq1 (wpAny_loadPart')
theorem meets_enumerate_newT (l : Addr) (items : Array Value) (n : Nat) (dct : Option Addr) (sl : Array (Option Value)) :
    Meets (Builtin.«enumerate.__new__» ⟨[.type "enumerate", .ref l], []⟩) (fun _ R s => s.heap.get? l = some { cls := .type "tuple", dict := dct, data := .seq items n, slots := sl } ∧
      R (.ok (.ret (.ref (s.heap.push { cls := .type "tuple_iterator", data := .fields #[.ref l, .int 0 0] }).objs.size)))
        { s with heap := (s.heap.push { cls := .type "tuple_iterator", data := .fields #[.ref l, .int 0 0] }).push { cls := .type "enumerate", data := .fields #[.none, .bool false, .ref s.heap.objs.size, rawInt 0, .none, .none] } }) :=
  .of_wp fun prog w A R s h => by
    obtain ⟨hp, g, d, tk, os⟩ := s; obtain ⟨hl, h⟩ := h
    have hsub := sub_enumerate
    have hL : Heap.IsTuple (Shared.heap ⟨hp, g, d, tk, os⟩) l items := ⟨_, hl, rfl, n, rfl⟩
    wp_walk using wpAny_loadPart' hl
    refine wpAny_stack_any fun st => wpAny_pure ?_
    split
    · rename_i c _ _ _ _ _
      cases (c == Value.type "enumerate")
      · wp_walk using wpAny_loadPart' hl, wpAny_pyIter_tuple hL
        exact ⟨_, rfl, h⟩
      · wp_walk using wpAny_loadPart' hl, wpAny_pyIter_tuple hL
        exact ⟨_, rfl, h⟩
    · wp_walk using wpAny_loadPart' hl, wpAny_pyIter_tuple hL
      exact ⟨_, rfl, h⟩
theorem call_enumerate_tuple {prog : Program} {w : World} {A : Around} {E : Value → Shared → Prop} {s : Shared} {l : Addr} {items : Array Value} {Q : Value → Shared → Prop} (hL : s.heap.IsTuple l items)
    (h : ∀ h', IsEnum h' (s.heap.objs.size + 1) s.heap.objs.size 0 .none → h'.IsTupleIter s.heap.objs.size l 0 → h'.objs.size = s.heap.objs.size + 2 →
      (∀ b o, s.heap.get? b = some o → h'.get? b = some o) → Q (.ref (s.heap.objs.size + 1)) { s with heap := h' }) :
    wpAny (model prog w) A (call (.type "enumerate") [.ref l]) Q E s := by
  obtain ⟨⟨c, dct, dt, sl⟩, hl, hc, n, hd⟩ := hL
  replace hc : c = .type "tuple" := hc
  replace hd : dt = .seq items n := hd
  subst hc hd
  refine callType_new F.called_enumerate (by decide) (F.typeCall_enumerate_1 _) (F.newCall_enumerate_1 _) (fun obj => F.args_object_init_2 obj _) F.entry_enumerate_new
    (meets_enumerate_newT l items n dct sl) ⟨hl, ?_⟩
  have hz : (s.heap.push { cls := .type "tuple_iterator", data := .fields #[.ref l, .int 0 0] }).objs.size = s.heap.objs.size + 1 := Heap.size_push ..
  show _ ∧ _
  rw [hz]
  have he : IsEnum ((s.heap.push { cls := .type "tuple_iterator", data := .fields #[.ref l, .int 0 0] }).push
      { cls := .type "enumerate", data := .fields #[.none, .bool false, .ref s.heap.objs.size, rawInt 0, .none, .none] }) (s.heap.objs.size + 1) s.heap.objs.size 0 .none := by
    have := Heap.get?_push_size (s.heap.push { cls := .type "tuple_iterator", data := .fields #[.ref l, .int 0 0] })
      (o := { cls := .type "enumerate", data := .fields #[.none, .bool false, .ref s.heap.objs.size, rawInt 0, .none, .none] }) rfl
    rw [hz] at this; exact this
  refine ⟨⟨_, he, rfl⟩, h _ he ⟨_, Heap.get?_push_of_some _ (Heap.get?_push_size _ rfl), rfl, rfl⟩ (by rw [Heap.size_push, hz]) fun b o x => Heap.get?_push_of_some _ (Heap.get?_push_of_some _ x)⟩
end
/-- enumerate(tuple) -/
def IteT (K : PySem.W.Frag) (a : Addr) : It :=
  ⟨fun i H => ∃ (xs : List V) (x : V), SqT K H a xs ∧ xs[i]? = some x, fun i H v H' => ∃ T x, v = .ref T ∧ H T = none ∧ H' = upd H T (.tup [.int (i : Nat), x]) ∧ ∀ xs, SqT K H a xs → xs[i]? = some x, fun i H => ∃ xs : List V, SqT K H a xs ∧ xs.length = i⟩
theorem turn_enumT {P : Program} {w : World} {K : PySem.W.Frag} {elts : List Expr} {kk : Nat} {tpos : Pos} (a e it : Addr) :
    Turn P w K (.Tuple elts kk tpos) (IteT K a) [e, it] e (fun i h => (∃ old, IsEnum h e it ((i : Nat) : Int) old) ∧ h.IsTupleIter it a i ∧ e ≠ it ∧ a ≠ it ∧ a ≠ e) where
  mem := by simp
  obj := fun i h st b hb => by
    obtain ⟨⟨old, he⟩, ⟨o, ho, hc, hd⟩, _⟩ := st
    have e' : b = e ∨ b = it := by simpa using hb
    rcases e' with z | z
    · rw [z]; exact ⟨_, he, fun v q => nomatch q⟩
    · rw [z]; exact ⟨o, ho, fun v q => by rw [hd] at q; cases q⟩
  keep := fun i h h' st k => let ⟨⟨old, he⟩, hi, hne⟩ := st; ⟨⟨old, k e (by simp) _ he⟩, hi.at fun o q => k it (by simp) o q, hne⟩
  item := by
    intro X hP hw hK hc i pins s σ H E I hf st hg
    subst hP hw hK
    obtain ⟨⟨old, he⟩, hit, hne, hai, hae⟩ := st
    obtain ⟨xs, x, hq, hx⟩ := hg
    obtain ⟨its, rv, p, hz⟩ := I.tuple hq
    obtain ⟨u, hu, ru⟩ := rv.get hx
    have hel : e < s.heap.objs.size := Heap.lt_size he
    have hil : it < s.heap.objs.size := by obtain ⟨_, q, _⟩ := hit; exact Heap.lt_size q
    have hlt : i < its.toArray.size := by
      have := (List.getElem?_eq_some_iff.mp hu).1
      simpa using this
    refine wpAny_pyNext_enum_itemD (Draws.tuple (A := X.A.in1) (I.ok.hd hc) it a hai its.toArray) he ⟨hit, p⟩ hlt hne (by simp [hne, Ne.symm hae]) fun x' h' tk hx' ho hst' hT hsz hk => ?_
    have hit' := hst'.1
    have ex : x' = u := by
      have h1 : its[i]? = some x' := by simpa using hx'
      rw [hu] at h1
      exact (Option.some.inj h1).symm
    subst ex
    refine ⟨_, rfl, wpAny_letOwnedTupleGo_enum (s := { s with heap := h', toks := tk + 1 }) ho fun h'' he' sb => ?_⟩
    have hT2 : h''.get? s.heap.objs.size = some { cls := .type "tuple", data := .seq #[.int i tk, x'] } := (sb.2 _ (Nat.ne_of_gt hel)).trans hT
    have new : ObjOk X.prog X.w (upd H s.heap.objs.size (.tup [.int (i : Nat), x])) h'' s.heap.objs.size (.tup [.int (i : Nat), x]) :=
      ⟨by show 2 ≤ sizeLine; decide, [.int i tk, x'], .cons ⟨_, rfl⟩ (.cons ru .nil), ⟨_, hT2, rfl, _, rfl⟩⟩
    have I1 : Inv X pins σ (upd H s.heap.objs.size (.tup [.int (i : Nat), x])) { s with heap := h'', toks := tk + 1 } :=
      I.turnedNew (ch := [e, it]) (fun b ob hb q => (sb.2 b (fun z => hb (by simp [z]))).trans (hk b ob (fun z => hb (by simp [z])) (fun z => hb (by simp [z])) q)) hf (Nat.le_refl _) new
    refine ⟨.ref s.heap.objs.size, _, I1, rfl, ⟨_, x, rfl, I.hok.fresh (Nat.le_refl _), rfl, fun ys hy => by rw [I.tuple_inj hy hq]; exact hx⟩, ⟨⟨x', ?_⟩, hit'.at fun o q => (sb.2 it (Ne.symm hne)).trans q, hne, hai, hae⟩, fun b hb => ?_⟩
    · have e1 : ((i + 1 : Nat) : Int) = (i : Int) + 1 := by omega
      rw [e1]; exact he'
    · have hb' : b < s.heap.objs.size := by
        have e' : b = e ∨ b = it := by simpa using hb
        rcases e' with z | z
        · rw [z]; exact hel
        · rw [z]; exact hil
      rw [upd_ne (Nat.ne_of_lt hb')]
      exact (hf b hb).1
  done := by
    intro X hP hw hK hc i pins s σ H E I hf st hg
    subst hP hw hK
    obtain ⟨⟨old, he⟩, hit, hne, hai, hae⟩ := st
    obtain ⟨xs, hq, hx⟩ := hg
    obtain ⟨its, rv, p, hz⟩ := I.tuple hq
    obtain ⟨f0, f1, f2, f3, f4, f5⟩ := hf it (by simp)
    have hl := rv.length
    have hn : i = its.toArray.size := by simp; omega
    subst hn
    exact wpAny_pyNext_enum_endD (Draws.tuple (A := X.A.in1) (I.ok.hd hc) it a hai its.toArray) he ⟨hit, p⟩ fun h' eb => ⟨rfl, I.turned (t' := s.toks) (fun b o hb q => eb b o hb q) f0 f1 f3 f4 f5⟩
  self := fun A i s Q E st h => let ⟨⟨_, he⟩, _⟩ := st; wpAny_pyIter_enum he h
def iEnumT (K : PySem.W.Frag) (ta : TA) : TI := fun σ H R => ta σ H fun vs H1 => ∃ a xs, vs = [.ref a] ∧ ((SqL K H1 a xs ∧ R (Ite K a) H1) ∨ (SqT K H1 a xs ∧ R (IteT K a) H1))
theorem pi_enumA {X : Cx} {e : Expr} {ta : TA} {p pos tpos : Pos} {elts : List Expr} {kk : Nat} (hg : Gl X "enumerate") (hm : X.mg "enumerate" = none) (ha : PA X [e] ta) (hs : starEach [e] X.env = [(false, eval e X.env)] := by rfl) :
    PI X (.Tuple elts kk tpos) (.Call (.Name "enumerate" p) [e] [] pos) (iEnumT X.K ta) := by
  refine ⟨fun pins s σ H R I h => ?_⟩
  refine PyProof.Rows.Call_ (ld_blt I hg hm boot_enumerate (PyProof.Rows.callWith_type1 (thn (ha.run pos pins s σ H _ I h) fun us s1 ⟨vs, H1, I1, r1, q1⟩ => ?_) hs rfl))
  obtain ⟨a, xs, ex, q⟩ := q1
  subst ex
  cases r1 with
  | cons r rr =>
    cases rr
    cases r
    have fresh : ∀ b, b ∈ [s1.heap.objs.size + 1, s1.heap.objs.size] → FpOk X pins H1 b := fun b hb => by
      have e' : b = s1.heap.objs.size + 1 ∨ b = s1.heap.objs.size := by simpa using hb
      have hle : s1.heap.objs.size ≤ b := by
        rcases e' with z | z
        · rw [z]; exact Nat.le_add_right _ _
        · rw [z]; exact Nat.le_refl _
      exact I1.fpOk hle (I1.hok.fresh hle)
    rcases q with ⟨hq, q⟩ | ⟨hq, q⟩
    · obtain ⟨its, rv, p', hz⟩ := I1.list hq
      refine call_enumerate_list p'.isList fun h' he hit hsz hk => wpAny_pyIter_enum he ?_
      have I2 : Inv X pins σ H1 { s1 with heap := h' } := I1.kept (t' := s1.toks) hk
      exact ⟨s1.heap.objs.size + 1, [s1.heap.objs.size + 1, s1.heap.objs.size], _, _, H1, rfl, I2, turn_enum a (s1.heap.objs.size + 1) s1.heap.objs.size, ⟨⟨.none, he⟩, hit, Nat.succ_ne_self _⟩, fresh, q⟩
    · obtain ⟨its, rv, p', hz⟩ := I1.tuple hq
      obtain ⟨ob, hob, _⟩ := id p'
      have la : a < s1.heap.objs.size := Heap.lt_size hob
      refine call_enumerate_tuple (show s1.heap.IsTuple a its.toArray from p') fun h' he hit hsz hk => wpAny_pyIter_enum he ?_
      have I2 : Inv X pins σ H1 { s1 with heap := h' } := I1.kept (t' := s1.toks) hk
      exact ⟨s1.heap.objs.size + 1, [s1.heap.objs.size + 1, s1.heap.objs.size], _, _, H1, rfl, I2, turn_enumT a (s1.heap.objs.size + 1) s1.heap.objs.size, ⟨⟨.none, he⟩, hit, Nat.succ_ne_self _, Nat.ne_of_lt la, Nat.ne_of_lt (Nat.lt_succ_of_lt la)⟩, fresh, q⟩
theorem walk_enumT {K : PySem.W.Frag} {a : Addr} {xs : List V} : Walk (IteT K a) xs.length (fun H => SqT K H a xs) (YPair (fun i => some (.int (i : Nat))) (fun i => xs[i]?)) := by
  refine ⟨fun i _ hi q => ⟨xs, xs[i], q, by simp [hi]⟩, fun _ q => ⟨xs, q, rfl⟩, fun i H v H' _ q y => ?_⟩
  obtain ⟨T, x, h1, h2, h3, h4⟩ := y
  exact ⟨T, .int (i : Nat), x, h1, h2, h3, rfl, h4 xs q⟩
/-! ### data as the library's data, for == -/
mutual
def D.py : D → PyData
  | .non => .none
  | .bl b => .bool b
  | .int i => .int i
  | .str s => .str s
  | .tup xs => .tuple (D.pys xs)
  | .lst xs => .list (D.pys xs)
  | .ins _ _ _ => .none
  | .exn _ _ _ => .none
  | .dk _ _ => .none
  | .dt _ _ => .none
  | .scr ns => .list (ns.map .int)
def D.pys : List D → List PyData
  | [] => []
  | d :: ds => d.py :: D.pys ds
end
mutual
def D.plain : D → Bool
  | .ins _ _ _ => false
  | .exn _ _ _ => false
  | .dk _ _ => false
  | .dt _ _ => false
  | .scr _ => false
  | .tup xs => D.plains xs
  | .lst xs => D.plains xs
  | _ => true
def D.plains : List D → Bool
  | [] => true
  | d :: ds => d.plain && D.plains ds
end
section
variable {K : PySem.W.Frag} {H : Hp}
mutual
theorem Rp.dp : ∀ (d : D) (v : V), d.plain = true → Rp K H v d → Dp K H v d.py
  | .non, _, _, h => by cases h; rw [D.py]; exact .non
  | .bl b, _, _, h => by cases h; rw [D.py]; exact .bl b
  | .int b, _, _, h => by cases h; rw [D.py]; exact .int b
  | .str b, _, _, h => by cases h; rw [D.py]; exact .str b
  | .tup ds, _, p, h => by
    cases h with
    | tup h1 h2 =>
      rw [D.py]
      exact .tup (SqT.of h1) (Rps.dp ds _ (by rw [D.plain] at p; exact p) h2)
  | .lst ds, _, p, h => by
    cases h with
    | lst h1 h2 =>
      rw [D.py]
      exact .lst (SqL.of h1) (Rps.dp ds _ (by rw [D.plain] at p; exact p) h2)
  | .ins _ _ _, _, p, _ => by rw [D.plain] at p; cases p
  | .exn _ _ _, _, p, _ => by rw [D.plain] at p; cases p
  | .dk _ _, _, p, _ => by rw [D.plain] at p; cases p
  | .dt _ _, _, p, _ => by rw [D.plain] at p; cases p
  | .scr _, _, p, _ => by rw [D.plain] at p; cases p
theorem Rps.dp : ∀ (ds : List D) (vs : List V), D.plains ds = true → Rps K H vs ds → DpAll K H vs (D.pys ds)
  | [], _, _, h => by cases h; rw [D.pys]; exact .nil
  | d :: ds, _, p, h => by
    cases h with
    | cons h1 h2 =>
      rw [D.plains, Bool.and_eq_true] at p
      rw [D.pys]
      exact .cons (Rp.dp d _ p.1 h1) (Rps.dp ds _ p.2 h2)
end
end
def D.ok (d : D) : Bool := d.plain && SeqAt.shaped d.py
def D.eqv (d e : D) : Bool := PyData.eqv d.py e.py
/-! ### two-place operations on data -/
def lim : Nat := 1000000
theorem lim_le {n : Nat} (h : n ≤ lim) : n ≤ sizeLine := Nat.le_trans h (by decide)
theorem lim_lt {n : Nat} (h : n ≤ lim) : n < sizeLine := Nat.lt_of_le_of_lt h (by decide)
def rOr (r r' : R2) : R2 := fun x y H Q => r x y H Q ∨ r' x y H Q
section
variable {K : PySem.W.Frag} {G H : Hp} {σ : L2.St} {ρ : En} {Q : VK}
/-- results that make nothing -/
theorem give {v : V} {d : D} (g : Good K G H σ ρ) (r : Rp K G v d) (k : ∀ v G' H', Aft K G H σ ρ G' H' σ ρ → ROk K H G' H' σ ρ v (.fz d) → Q v H') : Q v H := k v G H (Aft.refl g) r
/-- a new list -/
theorem giveL {vs : List V} {ds : List D} (g : Good K G H σ ρ) (r : Rps K G vs ds) (k : ∀ v G' H', Aft K G H σ ρ G' H' σ ρ → ROk K H G' H' σ ρ v (.ow (.l ds)) → Q v H') : ∀ p, H p = none → Q (.ref p) (upd H p (.lst vs)) := fun p hp => by
  have gp : G p = none := g.ex.free hp
  exact k (.ref p) G _ ((Aft.refl g).mut hp gp (g.notOwn hp)) ⟨p, _, rfl, hp, gp, upd_same, .l r, g.notOwn hp⟩
/-- a new tuple -/
theorem giveT {vs : List V} {ds : List D} (g : Good K G H σ ρ) (r : Rps K G vs ds) (k : ∀ v G' H', Aft K G H σ ρ G' H' σ ρ → ROk K H G' H' σ ρ v (.fz (.tup ds)) → Q v H') : ∀ p, H p = none → Q (.ref p) (upd H p (.tup vs)) := fun p hp => by
  have gp : G p = none := g.ex.free hp
  exact k (.ref p) _ _ (Aft.laid g hp) (.tup upd_same (r.up (ex_new gp)))
end
def gAdd : D → D → Option Sl
  | .int i, .int j => some (.fz (.int (i + j)))
  | .str a, .str b => if a.length + b.length ≤ lim then some (.fz (.str (a ++ b))) else none
  | .lst xs, .lst ys => if xs.length + ys.length ≤ lim then some (.ow (.l (xs ++ ys))) else none
  | .tup xs, .tup ys => if xs.length + ys.length ≤ lim then some (.fz (.tup (xs ++ ys))) else none
  | _, _ => none
def rAddU (K : PySem.W.Frag) : R2 := rOr (rI0 fun i j => .int (i + j)) (rOr (fun x y H Q => ∃ i j, x = .str i ∧ y = .str j ∧ i.length + j.length ≤ sizeLine ∧ Q (.str (i ++ j)) H) (rOr rCat (rCatA K)))
theorem op_addU {X : Cx} : OpR X (binaryOp .Add) (rAddU X.K) := OpR.or op_add (OpR.or op_add_str (OpR.or op_cat op_catA))
theorem g_add {K : PySem.W.Frag} : Op2 K (rAddU K) gAdd := fun {G H σ ρ x y d e z Q} g hx hy he k => by
  unfold gAdd at he
  split at he
  · cases he
    exact .inl ⟨_, _, hx.int, hy.int, give g (.int _) k⟩
  · split at he
    · rename_i hl
      cases he
      exact .inr (.inl ⟨_, _, hx.str, hy.str, lim_le hl, give g (.str _) k⟩)
    · cases he
  · split at he
    · rename_i hl
      cases he
      obtain ⟨p, vs, rfl, h1, h2⟩ := hx.lst g.ex
      obtain ⟨q, ws, rfl, h3, h4⟩ := hy.lst g.ex
      exact .inr (.inr (.inl ⟨p, q, vs, ws, rfl, rfl, h1, h3, by rw [h2.len, h4.len]; exact lim_le hl, giveL g (h2.app h4) k⟩))
    · cases he
  · split at he
    · rename_i hl
      cases he
      obtain ⟨p, vs, rfl, h0, h1, h2⟩ := hx.tup g.ex
      obtain ⟨q, ws, rfl, h0', h3, h4⟩ := hy.tup g.ex
      refine .inr (.inr (.inr ⟨p, q, vs, ws, rfl, rfl, SqT.of h1, SqT.of h3, by rw [h2.len, h4.len]; exact lim_le hl, fun ev => ?_, fun _ ev => ?_, fun _ _ => giveT g (h2.app h4) k⟩))
      · subst ev
        cases h2
        exact k _ G H (Aft.refl g) (show Rp K G (.ref q) (.tup ([] ++ _)) from .tup h0' h4)
      · subst ev
        cases h4
        exact k _ G H (Aft.refl g) (show Rp K G (.ref p) (.tup (_ ++ [])) from by rw [List.append_nil]; exact .tup h0 h2)
    · cases he
  · cases he
def gSub : D → D → Option Sl
  | .int i, .int j => some (.fz (.int (i - j)))
  | _, _ => none
theorem g_sub {K : PySem.W.Frag} : Op2 K (rI0 fun i j => .int (i - j)) gSub := fun {G H σ ρ x y d e z Q} g hx hy he k => by
  unfold gSub at he
  split at he
  · cases he
    exact ⟨_, _, hx.int, hy.int, give g (.int _) k⟩
  · cases he
def gMul : D → D → Option Sl
  | .int i, .int j => if i.natAbs.log2 + j.natAbs.log2 < 1000000 then some (.fz (.int (i * j))) else none
  | .str a, .int j => if 0 ≤ j ∧ j ≤ 1000 ∧ a.length ≤ 1000 then some (.fz (.str (Txt.mul a j))) else none
  | .lst xs, .int j => if 0 ≤ j ∧ j ≤ 1000 ∧ xs.length ≤ 1000 then some (.ow (.l (List.replicate j.toNat xs).flatten)) else none
  | .tup xs, .int j => if xs ≠ [] ∧ 2 ≤ j ∧ j ≤ 1000 ∧ xs.length ≤ 1000 then some (.fz (.tup (List.replicate j.toNat xs).flatten)) else none
  | _, _ => none
def rMulU (K : PySem.W.Frag) : R2 := rOr (rI CMulW fun i j => .int (i * j)) (rOr (fun x y H Q => ∃ z n, x = .str z ∧ y = .int n ∧ MulOk z n ∧ Q (.str (Txt.mul z n)) H) (rOr rRep (rRepT K)))
theorem op_mulU {X : Cx} : OpR X (binaryOp .Mult) (rMulU X.K) := OpR.or op_mulW (OpR.or op_mul_str (OpR.or op_rep op_repT))
theorem mulOk_small {z : Str} {n : Int} (h : 0 ≤ n ∧ n ≤ 1000 ∧ z.length ≤ 1000) : MulOk z n := by
  obtain ⟨h0, h1, h2⟩ := h
  refine ⟨?_, fun h3 _ => ?_, fun h3 _ => ?_⟩
  · rw [decide_eq_false (by omega), decide_eq_false (by omega)]
    rfl
  · have e : (2 ^ 63 - 1) / 1000 ≤ ((2 ^ 63 - 1) / n : Int) := by
      rw [Int.le_ediv_iff_mul_le (by omega)]
      omega
    omega
  · have h4 : z.length * n.toNat ≤ 1000 * 1000 := Nat.mul_le_mul h2 (by omega)
    rw [Builtin.Str.tooLong]
    simp
    have := sizeLine_eq
    omega
theorem Rps.reps {K : PySem.W.Frag} {G : Hp} {vs : List V} {ds : List D} (h : Rps K G vs ds) : ∀ n : Nat, Rps K G (List.replicate n vs).flatten (List.replicate n ds).flatten
  | 0 => .nil
  | n + 1 => by
    rw [List.replicate_succ, List.replicate_succ, List.flatten_cons, List.flatten_cons]
    exact h.app (Rps.reps h n)
theorem g_mul {K : PySem.W.Frag} : Op2 K (rMulU K) gMul := fun {G H σ ρ x y d e z Q} g hx hy he k => by
  unfold gMul at he
  split at he
  · split at he
    · rename_i hl
      cases he
      exact .inl ⟨_, _, hx.int, hy.int, hl, give g (.int _) k⟩
    · cases he
  · split at he
    · rename_i hl
      cases he
      exact .inr (.inl ⟨_, _, hx.str, hy.int, mulOk_small hl, give g (.str _) k⟩)
    · cases he
  · split at he
    · rename_i hl
      cases he
      obtain ⟨p, vs, rfl, h1, h2⟩ := hx.lst g.ex
      obtain ⟨l0, l1, l2⟩ := hl
      refine .inr (.inr (.inl ⟨p, _, vs, rfl, hy.int, h1, by omega, by omega, ?_, giveL g (h2.reps _) k⟩))
      rw [h2.len]
      refine Nat.le_trans (Nat.mul_le_mul l2 (show Int.toNat _ ≤ 1000 by omega)) (by decide)
    · cases he
  · split at he
    · rename_i hl
      cases he
      obtain ⟨p, vs, rfl, h0, h1, h2⟩ := hx.tup g.ex
      obtain ⟨l0, l1, l2, l3⟩ := hl
      refine .inr (.inr (.inr ⟨p, _, vs, rfl, hy.int, SqT.of h1, fun ev => ?_, l1, l2, by rw [h2.len]; exact l3, giveT g (h2.reps _) k⟩))
      subst ev
      cases h2
      exact l0 rfl
    · cases he
  · cases he
def gDiv : D → D → Option Sl
  | .int i, .int j => if 0 < j ∧ j.natAbs.log2 < 9000 then some (.fz (.int (i / j))) else none
  | _, _ => none
theorem g_div {K : PySem.W.Frag} : Op2 K (rI CDivW fun i j => .int (i / j)) gDiv := fun {G H σ ρ x y d e z Q} g hx hy he k => by
  unfold gDiv at he
  split at he
  · split at he
    · rename_i hl
      cases he
      exact ⟨_, _, hx.int, hy.int, hl, give g (.int _) k⟩
    · cases he
  · cases he
def gMod : D → D → Option Sl
  | .int i, .int j => if 0 < j then some (.fz (.int (i % j))) else none
  | _, _ => none
theorem g_mod {K : PySem.W.Frag} : Op2 K (rI (fun _ j => 0 < j) fun i j => .int (i % j)) gMod := fun {G H σ ρ x y d e z Q} g hx hy he k => by
  unfold gMod at he
  split at he
  · split at he
    · rename_i hl
      cases he
      exact ⟨_, _, hx.int, hy.int, hl, give g (.int _) k⟩
    · cases he
  · cases he
def gPow : D → D → Option Sl
  | .int i, .int j => if 0 ≤ j ∧ (Builtin.Int.intBits i : Int) * j ≤ 2 ^ 27 then some (.fz (.int (i ^ j.toNat))) else none
  | _, _ => none
theorem g_pow {K : PySem.W.Frag} : Op2 K (rI CPowW fun i j => .int (i ^ j.toNat)) gPow := fun {G H σ ρ x y d e z Q} g hx hy he k => by
  unfold gPow at he
  split at he
  · split at he
    · rename_i hl
      cases he
      exact ⟨_, _, hx.int, hy.int, hl, give g (.int _) k⟩
    · cases he
  · cases he
def gCmp (p : Int → Int → Bool) : D → D → Option Sl
  | .int i, .int j => some (.fz (.bl (p i j)))
  | _, _ => none
theorem g_cmp {K : PySem.W.Frag} (p : Int → Int → Bool) : Op2 K (rI0 fun i j => .bl (p i j)) (gCmp p) := fun {G H σ ρ x y d e z Q} g hx hy he k => by
  unfold gCmp at he
  split at he
  · cases he
    exact ⟨_, _, hx.int, hy.int, give g (.bl _) k⟩
  · cases he
abbrev gLt : D → D → Option Sl := gCmp fun i j => decide (i < j)
abbrev gLe : D → D → Option Sl := gCmp fun i j => decide (i ≤ j)
abbrev gGt : D → D → Option Sl := gCmp fun i j => decide (j < i)
abbrev gGe : D → D → Option Sl := gCmp fun i j => decide (j ≤ i)
def gEq (d e : D) : Option Sl := match d, e with
  | .str i, .str j => some (.fz (.bl (decide (i = j))))
  | .int i, .int j => some (.fz (.bl (decide (i = j))))
  | d, e => if d.ok = true ∧ e.ok = true then some (.fz (.bl (d.eqv e))) else none
def gNe (d e : D) : Option Sl := match d, e with
  | .str i, .str j => some (.fz (.bl (!decide (i = j))))
  | .int i, .int j => some (.fz (.bl (!decide (i = j))))
  | d, e => if d.ok = true ∧ e.ok = true then some (.fz (.bl (!d.eqv e))) else none
theorem ok_parts {d : D} (h : d.ok = true) : d.plain = true ∧ SeqAt.shaped d.py = true := by
  unfold D.ok at h
  rw [Bool.and_eq_true] at h
  exact h
theorem scal_str {i j : Str} {H : Hp} {Q : VK} (h : Q (.bl (decide (i = j))) H) : rEq (.str i) (.str j) H Q := ⟨rfl, by rwa [show decide (V.str i = V.str j) = decide (i = j) by simp]⟩
theorem scal_int {i j : Int} {H : Hp} {Q : VK} (h : Q (.bl (decide (i = j))) H) : rEq (.int i) (.int j) H Q := ⟨rfl, by rwa [show decide (V.int i = V.int j) = decide (i = j) by simp]⟩
theorem scaln_str {i j : Str} {H : Hp} {Q : VK} (h : Q (.bl (!decide (i = j))) H) : rNe (.str i) (.str j) H Q := ⟨rfl, by rwa [show decide (V.str i = V.str j) = decide (i = j) by simp]⟩
theorem scaln_int {i j : Int} {H : Hp} {Q : VK} (h : Q (.bl (!decide (i = j))) H) : rNe (.int i) (.int j) H Q := ⟨rfl, by rwa [show decide (V.int i = V.int j) = decide (i = j) by simp]⟩
theorem g_eq {K : PySem.W.Frag} : Op2 K (rOr rEq (rEqD K)) gEq := fun {G H σ ρ x y d e z Q} g hx hy he k => by
  unfold gEq at he
  split at he
  · cases he
    rw [hx.str, hy.str]
    exact .inl (scal_str (give g (.bl _) k))
  · cases he
    rw [hx.int, hy.int]
    exact .inl (scal_int (give g (.bl _) k))
  · split at he
    · rename_i hl
      cases he
      obtain ⟨a1, a2⟩ := ok_parts hl.1
      obtain ⟨b1, b2⟩ := ok_parts hl.2
      exact .inr ⟨_, _, Rp.dp _ x a1 (hx.rp g.ex), Rp.dp _ y b1 (hy.rp g.ex), a2, b2, give g (.bl _) k⟩
    · cases he
theorem g_ne {K : PySem.W.Frag} : Op2 K (rOr rNe (rNeD K)) gNe := fun {G H σ ρ x y d e z Q} g hx hy he k => by
  unfold gNe at he
  split at he
  · cases he
    rw [hx.str, hy.str]
    exact .inl (scaln_str (give g (.bl _) k))
  · cases he
    rw [hx.int, hy.int]
    exact .inl (scaln_int (give g (.bl _) k))
  · split at he
    · rename_i hl
      cases he
      obtain ⟨a1, a2⟩ := ok_parts hl.1
      obtain ⟨b1, b2⟩ := ok_parts hl.2
      exact .inr ⟨_, _, Rp.dp _ x a1 (hx.rp g.ex), Rp.dp _ y b1 (hy.rp g.ex), a2, b2, give g (.bl _) k⟩
    · cases he
def D.isNon : D → Bool
  | .non => true
  | _ => false
theorem Vw.isNon {K : PySem.W.Frag} {G H : Hp} {v : V} {d : D} (h : Vw K G H v d) : decide (v = .non) = d.isNon := by
  rcases h with ⟨xs, p, vs, rfl, rfl, _, _⟩ | h
  · rfl
  · cases h <;> rfl
def gIs : D → D → Option Sl
  | d, .non => some (.fz (.bl d.isNon))
  | _, _ => none
def gIsNot : D → D → Option Sl
  | d, .non => some (.fz (.bl (!d.isNon)))
  | _, _ => none
theorem g_is {K : PySem.W.Frag} : Op2 K (fun x y H Q => y = .non ∧ Q (.bl (decide (x = .non))) H) gIs := fun {G H σ ρ x y d e z Q} g hx hy he k => by
  unfold gIs at he
  split at he
  · cases he
    exact ⟨hy.non, by rw [hx.isNon]; exact give g (.bl _) k⟩
  · cases he
theorem g_isnot {K : PySem.W.Frag} : Op2 K (fun x y H Q => y = .non ∧ Q (.bl (!decide (x = .non))) H) gIsNot := fun {G H σ ρ x y d e z Q} g hx hy he k => by
  unfold gIsNot at he
  split at he
  · cases he
    exact ⟨hy.non, by rw [hx.isNon]; exact give g (.bl _) k⟩
  · cases he
/-- x in a text (one sign), a list, a tuple of ints and texts -/
def D.flat : D → Bool
  | .non => true
  | .bl _ => true
  | .int _ => true
  | .str _ => true
  | _ => false
def gIn' : D → D → Option Bool
  | .str a, .str z => if a.cps.size = 1 then some (decide (a.cps.getD 0 0 ∈ z.cps.toList)) else none
  | d, .lst ys => if d.ok = true ∧ (D.lst ys).ok = true then some (ys.any fun y => y.eqv d) else none
  | d, .tup ys => if d.flat = true ∧ ys.all D.flat = true then some (ys.any fun y => y.eqv d) else if d.ok = true ∧ (D.tup ys).ok = true then some (ys.any fun y => y.eqv d) else none
  | _, _ => none
def gIn (d e : D) : Option Sl := (gIn' d e).map fun b => .fz (.bl b)
def gNotIn (d e : D) : Option Sl := (gIn' d e).map fun b => .fz (.bl !b)
/-- in a tuple of data of any depth -/
def rTupIn (K : PySem.W.Frag) (neg : Bool) : R2 := fun x y M Q => ∃ e es, Dp K M x e ∧ Dp K M y (.tuple es) ∧ SeqAt.shaped e = true ∧ SeqAt.shaped (.tuple es) = true ∧ Q (.bl (neg ^^ es.any fun z => PyData.eqv z e)) M
theorem op_tupIn {X : Cx} (room : X.A.units + 65 < cLine) : OpR X (compareOp .In) (rTupIn X.K false) := by
  rintro pins t σ M x y v u Q J rx ry ⟨e, es, p1, p2, c1, c2, k⟩
  obtain ⟨l1, r1⟩ := Dp.reads J e x v p1 rx
  obtain ⟨l2, r2⟩ := Dp.reads J (.tuple es) y u p2 ry
  refine SeqAt.in_tuple_reads r2 r1 (SeqAt.canLay_of_shaped c2) (SeqAt.canLay_of_shaped c1) (PyProof.Rows.room_in_shaped c1 room) ⟨.bl _, M, J, rfl, ?_⟩
  rwa [Bool.false_xor] at k
theorem op_tupNotIn {X : Cx} (room : X.A.units + 65 < cLine) : OpR X (compareOp .NotIn) (rTupIn X.K true) := by
  rintro pins t σ M x y v u Q J rx ry ⟨e, es, p1, p2, c1, c2, k⟩
  obtain ⟨l1, r1⟩ := Dp.reads J e x v p1 rx
  obtain ⟨l2, r2⟩ := Dp.reads J (.tuple es) y u p2 ry
  refine SeqAt.notIn_tuple_reads r2 r1 (SeqAt.canLay_of_shaped c2) (SeqAt.canLay_of_shaped c1) (PyProof.Rows.room_in_shaped c1 room) ⟨.bl _, M, J, rfl, ?_⟩
  rwa [Bool.true_xor] at k
def rInU (K : PySem.W.Frag) : R2 := rOr (fun x y H Q => ∃ (c : Nat) (z : Str), x = .str ⟨#[c]⟩ ∧ y = .str z ∧ Q (.bl (decide (c ∈ z.cps.toList))) H) (rOr (rInD K) (rOr (rIn K false) (rTupIn K false)))
def rNotInU (K : PySem.W.Frag) : R2 := rOr (fun x y H Q => ∃ (c : Nat) (z : Str), x = .str ⟨#[c]⟩ ∧ y = .str z ∧ Q (.bl (!decide (c ∈ z.cps.toList))) H) (rOr (rNotInD K) (rOr (rIn K true) (rTupIn K true)))
theorem op_inU {X : Cx} (hu : X.A.units + 65 < cLine) : OpR X (compareOp .In) (rInU X.K) := OpR.or op_in_sign (OpR.or (op_inD hu) (OpR.or op_in_seq (op_tupIn hu)))
theorem op_notInU {X : Cx} (hu : X.A.units + 65 < cLine) : OpR X (compareOp .NotIn) (rNotInU X.K) := OpR.or op_notIn_sign (OpR.or (op_notInD hu) (OpR.or op_notIn_seq (op_tupNotIn hu)))
theorem pys_any (d : D) : ∀ ys : List D, (D.pys ys).any (fun z => PyData.eqv z d.py) = ys.any fun y => y.eqv d
  | [] => by rw [D.pys]; rfl
  | y :: ys => by
    rw [D.pys, List.any_cons, List.any_cons, pys_any d ys]
    rfl
theorem flat_v {K : PySem.W.Frag} {G : Hp} {v : V} {d : D} (h : Rp K G v d) (f : d.flat = true) : flatV v = true := by
  cases h <;> first | rfl | cases f
theorem flat_eq {K : PySem.W.Frag} {G : Hp} {v u : V} {d e : D} (h : Rp K G v d) (h' : Rp K G u e) (f : d.flat = true) (f' : e.flat = true) : eqV v u = d.eqv e := by
  unfold D.eqv
  cases h <;> first | (cases (show false = true from f)) | skip
  all_goals cases h' <;> first | (cases (show false = true from f')) | (simp only [D.py, PyData.eqv, eqV] <;> done) | (simp only [D.py, PyData.eqv, eqV] <;> rfl)
theorem flat_all {K : PySem.W.Frag} {G : Hp} : ∀ {vs : List V} {ds : List D}, Rps K G vs ds → ds.all D.flat = true → vs.all flatV = true
  | _, _, .nil, _ => rfl
  | _, _, .cons h t, f => by
    rw [List.all_cons, Bool.and_eq_true] at f
    rw [List.all_cons, flat_v h f.1, flat_all t f.2]
    rfl
theorem flat_in {K : PySem.W.Frag} {G : Hp} {v : V} {d : D} (hd : Rp K G v d) (fd : d.flat = true) : ∀ {vs : List V} {ds : List D}, Rps K G vs ds → ds.all D.flat = true → inV v vs = ds.any fun y => y.eqv d
  | _, _, .nil, _ => rfl
  | _, _, .cons h t, f => by
    rw [List.all_cons, Bool.and_eq_true] at f
    have ih := flat_in hd fd t f.2
    unfold inV at ih ⊢
    rw [List.any_cons, List.any_cons, flat_eq h hd f.1 fd, ih]
theorem Vw.flat {K : PySem.W.Frag} {G H : Hp} {v : V} {d : D} (h : Vw K G H v d) (f : d.flat = true) : Rp K G v d := by
  rcases h with ⟨xs, p, vs, rfl, rfl, _, _⟩ | h
  · cases f
  · exact h
theorem one_sign {a : Str} (h : a.cps.size = 1) : a = ⟨#[a.cps.getD 0 0]⟩ := by
  obtain ⟨cps⟩ := a
  obtain ⟨l⟩ := cps
  match l, h with
  | [c], _ => rfl
theorem g_in' {K : PySem.W.Frag} {G H : Hp} {σ : L2.St} {ρ : En} {x y : V} {d e : D} {b : Bool} {Q : VK} (g : Good K G H σ ρ) (hx : Vw K G H x d) (hy : Vw K G H y e) (he : gIn' d e = some b) :
    (Q (.bl b) H → rInU K x y H Q) ∧ (Q (.bl !b) H → rNotInU K x y H Q) := by
  unfold gIn' at he
  split at he
  · split at he
    · rename_i a z hs
      cases he
      have e1 := hx.str
      rw [one_sign hs] at e1
      exact ⟨fun q => .inl ⟨_, _, e1, hy.str, q⟩, fun q => .inl ⟨_, _, e1, hy.str, q⟩⟩
    · cases he
  · split at he
    · rename_i ys hl
      cases he
      obtain ⟨a1, a2⟩ := ok_parts hl.1
      obtain ⟨b1, b2⟩ := ok_parts hl.2
      have q1 := Rp.dp d x a1 (hx.rp g.ex)
      have q2 := Rp.dp _ y b1 (hy.rp g.ex)
      rw [D.py] at q2 b2
      exact ⟨fun q => .inr (.inl ⟨_, _, q1, q2, a2, b2, by rw [pys_any]; exact q⟩), fun q => .inr (.inl ⟨_, _, q1, q2, a2, b2, by rw [pys_any]; exact q⟩)⟩
    · cases he
  · split at he
    · rename_i ys hl
      cases he
      obtain ⟨p, vs, rfl, h0, h1, h2⟩ := hy.tup g.ex
      have hx' := hx.flat hl.1
      refine ⟨fun q => .inr (.inr (.inl ⟨p, vs, rfl, .inr (SqT.of h1), flat_v hx' hl.1, flat_all h2 hl.2, ?_⟩)), fun q => .inr (.inr (.inl ⟨p, vs, rfl, .inr (SqT.of h1), flat_v hx' hl.1, flat_all h2 hl.2, ?_⟩))⟩
      · rw [flat_in hx' hl.1 h2 hl.2]
        exact q
      · rw [flat_in hx' hl.1 h2 hl.2]
        exact q
    · split at he
      · rename_i ys _ hl
        cases he
        obtain ⟨a1, a2⟩ := ok_parts hl.1
        obtain ⟨b1, b2⟩ := ok_parts hl.2
        have q1 := Rp.dp d x a1 (hx.rp g.ex)
        have q2 := Rp.dp _ y b1 (hy.rp g.ex)
        rw [D.py] at q2 b2
        exact ⟨fun q => .inr (.inr (.inr ⟨_, _, q1, q2, a2, b2, by rw [pys_any, Bool.false_xor]; exact q⟩)), fun q => .inr (.inr (.inr ⟨_, _, q1, q2, a2, b2, by rw [pys_any, Bool.true_xor]; exact q⟩))⟩
      · cases he
  · cases he
theorem g_in {K : PySem.W.Frag} : Op2 K (rInU K) gIn := fun {G H σ ρ x y d e z Q} g hx hy he k => by
  unfold gIn at he
  cases q : gIn' d e with
  | none => rw [q] at he; cases he
  | some b =>
    rw [q] at he
    cases he
    exact (g_in' g hx hy q).1 (give g (.bl _) k)
theorem g_notIn {K : PySem.W.Frag} : Op2 K (rNotInU K) gNotIn := fun {G H σ ρ x y d e z Q} g hx hy he k => by
  unfold gNotIn at he
  cases q : gIn' d e with
  | none => rw [q] at he; cases he
  | some b =>
    rw [q] at he
    cases he
    exact (g_in' g hx hy q).2 (give g (.bl _) k)
/-! ### subscripts -/
def gIx : D → D → Option Sl
  | .lst xs, .int i => (atI xs i).map .fz
  | .tup xs, .int i => (atI xs i).map .fz
  | .scr ns, .int i => (atI ns i).map fun n => .fz (.int n)
  | .str z, .int i => if z.length ≤ lim then (atI z.cps.toList i).map fun c => .fz (.str ⟨#[c]⟩) else none
  | _, _ => none
theorem atI_rel {K : PySem.W.Frag} {G : Hp} {vs : List V} {ds : List D} {i : Int} {d : D} (h : Rps K G vs ds) (e : atI ds i = some d) : ∃ v, atI vs i = some v ∧ Rp K G v d := by
  unfold atI at e ⊢
  rw [h.len]
  cases q : ixN ds.length i with
  | none => rw [q] at e; cases e
  | some j =>
    rw [q] at e
    exact h.get e
theorem g_ix {K : PySem.W.Frag} : Op2 K (rIx K) gIx := fun {G H σ ρ x y d e z Q} g hx hy he k => by
  unfold gIx at he
  split at he
  · rename_i xs i
    cases q : atI xs i with
    | none => rw [q] at he; cases he
    | some d =>
      rw [q] at he
      cases he
      obtain ⟨p, vs, rfl, h1, h2⟩ := hx.lst g.ex
      obtain ⟨v, e1, r⟩ := atI_rel h2 q
      exact .inl ⟨p, vs, i, v, rfl, hy.int, SqL.of h1, e1, give g r k⟩
  · rename_i xs i
    cases q : atI xs i with
    | none => rw [q] at he; cases he
    | some d =>
      rw [q] at he
      cases he
      obtain ⟨p, vs, rfl, h0, h1, h2⟩ := hx.tup g.ex
      obtain ⟨v, e1, r⟩ := atI_rel h2 q
      exact .inr (.inl ⟨p, vs, i, v, rfl, hy.int, SqT.of h1, e1, give g r k⟩)
  · rename_i ns i
    cases q : atI ns i with
    | none => rw [q] at he; cases he
    | some n =>
      rw [q] at he
      cases he
      obtain ⟨p, rfl, h1⟩ := hx.scr g.ex
      refine .inl ⟨p, _, i, .int n, rfl, hy.int, h1, ?_, give g (.int n) k⟩
      unfold atI at q ⊢
      rw [List.length_map]
      cases q2 : ixN ns.length i with
      | none => rw [q2] at q; cases q
      | some j =>
        rw [q2] at q
        show (ns.map V.int)[j]? = _
        rw [List.getElem?_map, show ns[j]? = some n from q]
        rfl
  · split at he
    · rename_i z i hl
      cases q : atI z.cps.toList i with
      | none => rw [q] at he; cases he
      | some c =>
        rw [q] at he
        cases he
        exact .inr (.inr ⟨z, i, c, hx.str, hy.int, lim_le hl, q, give g (.str _) k⟩)
    · cases he
  · cases he
theorem de_ix {X : Cx} {a b : Expr} {fa fb : Fe} {pos : Pos} (ha : DE X a fa) (hb : DE X b fb) (hs : PlainIx b := by first | exact fun _ _ => rfl | (intro _ _; rfl)) : DE X (.Subscript a b pos) (dOp2 gIx fa fb) := PE.weak (pe_ix ix_seq ha hb hs) (tOp_of g_ix)
/-! ### slices -/
abbrev Fo := En → Option (Option Int × En)
def toOf (K : PySem.W.Frag) (f : Fo) : TO := fun σ H Q => ∃ G ρ o ρ', Good K G H σ ρ ∧ f ρ = some (o, ρ') ∧ ∀ G' H', Aft K G H σ ρ G' H' σ ρ' → Q o H'
abbrev DO (X : Cx) (e : Option Expr) (f : Fo) : Prop := PO X e (toOf X.K f)
theorem PO.weak {X : Cx} {e : Option Expr} {t t' : TO} (h : PO X e t) (w : ∀ σ H Q, t' σ H Q → t σ H Q) : PO X e t' := ⟨fun pins s σ H Q I q => h.run pins s σ H Q I (w σ H Q q)⟩
def oNo : Fo := fun ρ => some (none, ρ)
def oSome (f : Fe) : Fo := fun ρ => match f ρ with
  | some (.fz (.int i), ρ1) => some (some i, ρ1)
  | _ => none
theorem do_no {X : Cx} : DO X none oNo := PO.weak po_none fun σ H Q ⟨G, ρ, o, ρ', g, e, k⟩ => by
  cases e
  exact k G H (Aft.refl g)
theorem do_some {X : Cx} {e : Expr} {f : Fe} (h : DE X e f) : DO X (some e) (oSome f) := PO.weak (po_some h) fun σ H Q ⟨G, ρ, o, ρ', g, e, k⟩ => by
  unfold oSome at e
  split at e
  · rename_i i ρ1 q
    cases e
    exact ⟨G, ρ, _, _, g, q, fun v G1 H1 A1 R1 => ⟨i, Rp.of_int R1, k G1 H1 A1⟩⟩
  · cases e
def cutD {α : Type} (xs : List α) (lo hi : Option Int) : List α := (xs.drop (HT.sIx xs.length 0 lo)).take (HT.sIx xs.length xs.length hi - HT.sIx xs.length 0 lo)
def gSl : D → Option Int → Option Int → Option Sl
  | .lst xs, lo, hi => some (.ow (.l (cutD xs lo hi)))
  | .tup xs, lo, hi => some (.fz (.tup (cutD xs lo hi)))
  | .str z, lo, hi => if z.length ≤ lim then some (.fz (.str (cutS z lo hi))) else none
  | _, _, _ => none
def dSl (f : Fe) (fl fh : Fo) : Fe := fun ρ => match f ρ with
  | none => none
  | some (r, ρ1) => match fl ρ1 with
    | none => none
    | some (lo, ρ2) => match fh ρ2 with
      | none => none
      | some (hi, ρ3) => match rd ρ3 r with
        | none => none
        | some d => match gSl d lo hi with
          | none => none
          | some z => some (z, ρ3)
def rSlU (K : PySem.W.Frag) : V → Option Int → Option Int → Hp → VK → Prop := fun x lo hi H Q => rSlL K x lo hi H Q ∨ (rSlA K x lo hi H Q ∨ rSlS x lo hi H Q)
theorem sl_u {X : Cx} : SlR X (rSlU X.K) := SlR.or sl_list (SlR.or sl_tupA sl_str)
theorem Rps.cut {K : PySem.W.Frag} {G : Hp} {vs : List V} {ds : List D} (h : Rps K G vs ds) (lo hi : Option Int) : Rps K G (cutV vs lo hi) (cutD ds lo hi) := by
  unfold cutV cutD
  rw [h.len]
  exact (h.drop _).take _
theorem de_sl {X : Cx} {e : Expr} {lo hi : Option Expr} {f : Fe} {fl fh : Fo} {pos p2 : Pos} (he : DE X e f) (hl : DO X lo fl) (hh : DO X hi fh) : DE X (.Subscript e (.Slice lo hi none p2) pos) (dSl f fl fh) :=
  PE.weak (pe_slice sl_u he hl hh) fun σ H Q ⟨G, ρ, z, ρ', g, q, k⟩ => by
    unfold dSl at q
    cases q1 : f ρ with
    | none => rw [q1] at q; cases q
    | some y =>
      obtain ⟨r, ρ1⟩ := y
      simp only [q1] at q
      cases q2 : fl ρ1 with
      | none => simp only [q2] at q; cases q
      | some y =>
        obtain ⟨l, ρ2⟩ := y
        simp only [q2] at q
        cases q3 : fh ρ2 with
        | none => simp only [q3] at q; cases q
        | some y =>
          obtain ⟨h, ρ3⟩ := y
          simp only [q3] at q
          cases q4 : rd ρ3 r with
          | none => simp only [q4] at q; cases q
          | some d =>
            simp only [q4] at q
            cases q5 : gSl d l h with
            | none => simp only [q5] at q; cases q
            | some w =>
              simp only [q5] at q
              cases q
              refine ⟨G, ρ, r, ρ1, g, q1, fun v G1 H1 A1 R1 => ⟨G1, ρ1, l, ρ2, A1.good, q2, fun G2 H2 A2 => ⟨G2, ρ2, h, _, A2.good, q3, fun G3 H3 A3 => ?_⟩⟩⟩
              have A13 := (A1.trans A2).trans A3
              have R3 := (R1.aft A2).aft A3
              have W := rd_ok A3.good R3 q4
              have k' : ∀ v G' H', Aft X.K G3 H3 σ ρ' G' H' σ ρ' → ROk X.K H3 G' H' σ ρ' v z → Q v H' := fun v G' H' A R => k v G' H' (A13.trans A) (R.start A13.dom)
              unfold gSl at q5
              split at q5
              · cases q5
                obtain ⟨p, vs, rfl, h1, h2⟩ := W.lst A3.good.ex
                exact .inl ⟨p, vs, rfl, SqL.of h1, giveL A3.good (h2.cut _ _) k'⟩
              · cases q5
                obtain ⟨p, vs, rfl, h0, h1, h2⟩ := W.tup A3.good.ex
                refine .inr (.inl ⟨p, vs, rfl, SqT.of h1, fun hw => ?_, fun hw => giveT A3.good (h2.cut _ _) k'⟩)
                refine k' (.ref p) G3 H3 (Aft.refl A3.good) (.tup h0 ?_)
                unfold cutD
                rw [← h2.len, hw.1, hw.2, List.drop_zero, Nat.sub_zero, h2.len, List.take_length]
                exact h2
              · split at q5
                · rename_i hz
                  cases q5
                  exact .inr (.inr ⟨_, W.str, lim_le hz, give A3.good (.str _) k'⟩)
                · cases q5
              · cases q5
end DL
set_option Elab.async false
set_option linter.all false
set_option maxRecDepth 100000
set_option maxHeartbeats 2000000
namespace DL
open PySem PySem.Spec L2
open PyProof.Rows (envOfC)
section
variable {K : PySem.W.Frag} {G H : Hp} {σ : L2.St} {ρ : En} {Q : VK}
theorem Vws.one {vs : List V} {d : D} (h : Vws K G H vs [d]) : ∃ v, vs = [v] ∧ Vw K G H v d := by
  cases h with
  | cons h1 h2 =>
    cases h2
    exact ⟨_, rfl, h1⟩
theorem Vws.two {vs : List V} {d e : D} (h : Vws K G H vs [d, e]) : ∃ v u, vs = [v, u] ∧ Vw K G H v d ∧ Vw K G H u e := by
  cases h with
  | cons h1 h2 =>
    obtain ⟨u, rfl, h3⟩ := h2.one
    exact ⟨_, u, rfl, h1, h3⟩
end
/-! ### built-ins -/
def gLen : List D → Option Sl
  | [.lst xs] => some (.fz (.int xs.length))
  | [.tup xs] => some (.fz (.int xs.length))
  | [.scr xs] => some (.fz (.int xs.length))
  | [.str z] => if z.length ≤ lim then some (.fz (.int z.length)) else none
  | _ => none
theorem c_len {K : PySem.W.Frag} : Cl K (fun xs H Q => ∃ x n, xs = [x] ∧ LenV K x H n ∧ Q (.int n) H) gLen := fun {G H σ ρ xs ds z Q} g hx he k => by
  unfold gLen at he
  split at he
  · cases he
    obtain ⟨v, rfl, h⟩ := hx.one
    obtain ⟨p, vs, rfl, h1, h2⟩ := h.lst g.ex
    exact ⟨_, _, rfl, .inl ⟨_, SqL.of h1, h2.len.symm⟩, give g (.int _) k⟩
  · cases he
    obtain ⟨v, rfl, h⟩ := hx.one
    obtain ⟨p, vs, rfl, h0, h1, h2⟩ := h.tup g.ex
    exact ⟨_, _, rfl, .inr ⟨_, SqT.of h1, h2.len.symm⟩, give g (.int _) k⟩
  · cases he
    obtain ⟨v, rfl, h⟩ := hx.one
    obtain ⟨p, rfl, h1⟩ := h.scr g.ex
    exact ⟨_, _, rfl, .inl ⟨_, h1, by simp⟩, give g (.int _) k⟩
  · split at he
    · rename_i hl
      cases he
      obtain ⟨v, rfl, h⟩ := hx.one
      exact ⟨_, _, rfl, by rw [h.str]; exact ⟨lim_le hl, rfl⟩, give g (.int _) k⟩
    · cases he
  · cases he
def gMax : List D → Option Sl
  | [.int i, .int j] => some (.fz (.int (if j > i then j else i)))
  | _ => none
def gMin : List D → Option Sl
  | [.int i, .int j] => some (.fz (.int (if j < i then j else i)))
  | _ => none
theorem c_max {K : PySem.W.Frag} : Cl K (fun xs H Q => ∃ i j, xs = [.int i, .int j] ∧ Q (.int (if j > i then j else i)) H) gMax := fun {G H σ ρ xs ds z Q} g hx he k => by
  unfold gMax at he
  split at he
  · cases he
    obtain ⟨v, u, rfl, h1, h2⟩ := hx.two
    rw [h1.int, h2.int]
    exact ⟨_, _, rfl, give g (.int _) k⟩
  · cases he
theorem c_min {K : PySem.W.Frag} : Cl K (fun xs H Q => ∃ i j, xs = [.int i, .int j] ∧ Q (.int (if j < i then j else i)) H) gMin := fun {G H σ ρ xs ds z Q} g hx he k => by
  unfold gMin at he
  split at he
  · cases he
    obtain ⟨v, u, rfl, h1, h2⟩ := hx.two
    rw [h1.int, h2.int]
    exact ⟨_, _, rfl, give g (.int _) k⟩
  · cases he
def gInt : List D → Option Sl
  | [.int i] => some (.fz (.int i))
  | [.bl b] => some (.fz (.int (if b then 1 else 0)))
  | _ => none
theorem c_int {K : PySem.W.Frag} : Cl K (fun xs H Q => (∃ i, xs = [.int i] ∧ Q (.int i) H) ∨ ∃ k, xs = [.bl k] ∧ Q (.int (if k then 1 else 0)) H) gInt := fun {G H σ ρ xs ds z Q} g hx he k => by
  unfold gInt at he
  split at he
  · cases he
    obtain ⟨v, rfl, h1⟩ := hx.one
    rw [h1.int]
    exact .inl ⟨_, rfl, give g (.int _) k⟩
  · cases he
    obtain ⟨v, rfl, h1⟩ := hx.one
    rw [h1.bl]
    exact .inr ⟨_, rfl, give g (.int _) k⟩
  · cases he
def gAbs : List D → Option Sl
  | [.int i] => some (.fz (.int (if i < 0 then -i else i)))
  | _ => none
theorem c_abs {K : PySem.W.Frag} : Cl K (fun xs H Q => ∃ i, xs = [.int i] ∧ Q (.int (if i < 0 then -i else i)) H) gAbs := fun {G H σ ρ xs ds z Q} g hx he k => by
  unfold gAbs at he
  split at he
  · cases he
    obtain ⟨v, rfl, h1⟩ := hx.one
    rw [h1.int]
    exact ⟨_, rfl, give g (.int _) k⟩
  · cases he
def gStr : List D → Option Sl
  | [.int i] => if i.natAbs.log2 < 1920 then some (.fz (.str (toString i))) else none
  | _ => none
theorem c_str {K : PySem.W.Frag} : Cl K (fun xs H Q => ∃ i, xs = [.int i] ∧ i.natAbs.log2 < 1920 ∧ Q (.str (toString i)) H) gStr := fun {G H σ ρ xs ds z Q} g hx he k => by
  unfold gStr at he
  split at he
  · split at he
    · rename_i hl
      cases he
      obtain ⟨v, rfl, h1⟩ := hx.one
      rw [h1.int]
      exact ⟨_, rfl, hl, give g (.str _) k⟩
    · cases he
  · cases he
def gList : List D → Option Sl
  | [.lst xs] => some (.ow (.l xs))
  | [.tup xs] => some (.ow (.l xs))
  | _ => none
theorem c_list {K : PySem.W.Frag} : Cl K (fun xs H Q => ∃ p ys, xs = [.ref p] ∧ (SqL K H p ys ∨ SqT K H p ys) ∧ ∀ l, H l = none → Q (.ref l) (upd H l (.lst ys))) gList := fun {G H σ ρ xs ds z Q} g hx he k => by
  unfold gList at he
  split at he
  · cases he
    obtain ⟨v, rfl, h⟩ := hx.one
    obtain ⟨p, vs, rfl, h1, h2⟩ := h.lst g.ex
    exact ⟨p, vs, rfl, .inl (SqL.of h1), giveL g h2 k⟩
  · cases he
    obtain ⟨v, rfl, h⟩ := hx.one
    obtain ⟨p, vs, rfl, h0, h1, h2⟩ := h.tup g.ex
    exact ⟨p, vs, rfl, .inr (SqT.of h1), giveL g h2 k⟩
  · cases he
def gTuple : List D → Option Sl
  | [.lst xs] => some (.fz (.tup xs))
  | [.tup xs] => some (.fz (.tup xs))
  | _ => none
theorem c_tuple {K : PySem.W.Frag} : Cl K (fun xs H Q => ∃ p ys, xs = [.ref p] ∧ ((SqL K H p ys ∧ ∀ l, H l = none → Q (.ref l) (upd H l (.tup ys))) ∨ (SqT K H p ys ∧ Q (.ref p) H))) gTuple := fun {G H σ ρ xs ds z Q} g hx he k => by
  unfold gTuple at he
  split at he
  · cases he
    obtain ⟨v, rfl, h⟩ := hx.one
    obtain ⟨p, vs, rfl, h1, h2⟩ := h.lst g.ex
    exact ⟨p, vs, rfl, .inl ⟨SqL.of h1, giveT g h2 k⟩⟩
  · cases he
    obtain ⟨v, rfl, h⟩ := hx.one
    obtain ⟨p, vs, rfl, h0, h1, h2⟩ := h.tup g.ex
    exact ⟨p, vs, rfl, .inr ⟨SqT.of h1, k (.ref p) G H (Aft.refl g) (.tup h0 h2)⟩⟩
  · cases he
def intsOf : List D → Option (List Int)
  | [] => some []
  | .int i :: r => (intsOf r).map (i :: ·)
  | _ => none
theorem intsOf_eq : ∀ {ds : List D} {ns : List Int}, intsOf ds = some ns → ds = ns.map .int
  | [], _, h => by cases h; rfl
  | d :: ds, ns, h => by
    cases d with
    | int i =>
      have h' : (intsOf ds).map (i :: ·) = some ns := h
      cases q : intsOf ds with
      | none => rw [q] at h'; cases h'
      | some ms =>
        rw [q] at h'
        cases h'
        rw [intsOf_eq q]
        rfl
    | _ => cases h
theorem intsOf_map (ns : List Int) : intsOf (ns.map .int) = some ns := by
  induction ns with
  | nil => rfl
  | cons n ns ih =>
    show (intsOf (ns.map .int)).map (n :: ·) = _
    rw [ih]
    rfl
def gSum : List D → Option Sl
  | [.lst xs] => (intsOf xs).map fun ns => .fz (.int ns.sum)
  | _ => none
theorem c_sum {K : PySem.W.Frag} : Cl K (rSum K) gSum := fun {G H σ ρ xs ds z Q} g hx he k => by
  unfold gSum at he
  split at he
  · rename_i ys
    cases q : intsOf ys with
    | none => rw [q] at he; cases he
    | some ns =>
      rw [q] at he
      cases he
      have e := intsOf_eq q
      subst e
      obtain ⟨v, rfl, h⟩ := hx.one
      obtain ⟨p, vs, rfl, h1, h2⟩ := h.lst g.ex
      rw [h2.ints] at h1
      exact ⟨p, ns, rfl, SqL.of h1, give g (.int _) k⟩
  · cases he
def blsOf : List D → Option (List Bool)
  | [] => some []
  | .bl i :: r => (blsOf r).map (i :: ·)
  | _ => none
theorem blsOf_eq : ∀ {ds : List D} {ns : List Bool}, blsOf ds = some ns → ds = ns.map .bl
  | [], _, h => by cases h; rfl
  | d :: ds, ns, h => by
    cases d with
    | bl i =>
      have h' : (blsOf ds).map (i :: ·) = some ns := h
      cases q : blsOf ds with
      | none => rw [q] at h'; cases h'
      | some ms =>
        rw [q] at h'
        cases h'
        rw [blsOf_eq q]
        rfl
    | _ => cases h
theorem blsOf_map (ns : List Bool) : blsOf (ns.map .bl) = some ns := by
  induction ns with
  | nil => rfl
  | cons n ns ih =>
    show (blsOf (ns.map .bl)).map (n :: ·) = _
    rw [ih]
    rfl
def gAll : List D → Option Sl
  | [.lst xs] => (blsOf xs).map fun ns => .fz (.bl (ns.all id))
  | _ => none
theorem c_all {K : PySem.W.Frag} : Cl K (rAll K) gAll := fun {G H σ ρ xs ds z Q} g hx he k => by
  unfold gAll at he
  split at he
  · rename_i ys
    cases q : blsOf ys with
    | none => rw [q] at he; cases he
    | some ns =>
      rw [q] at he
      cases he
      have e := blsOf_eq q
      subst e
      obtain ⟨v, rfl, h⟩ := hx.one
      obtain ⟨p, vs, rfl, h1, h2⟩ := h.lst g.ex
      rw [h2.bls] at h1
      exact ⟨p, ns, rfl, SqL.of h1, give g (.bl _) k⟩
  · cases he
/-! ### isinstance with a built-in class -/
def tyN : D → Option String
  | .non => some "NoneType"
  | .bl _ => some "bool"
  | .int _ => some "int"
  | .str _ => some "str"
  | .tup _ => some "tuple"
  | .lst _ => some "list"
  | _ => none
theorem tyN_ok {K : PySem.W.Frag} {G H : Hp} {v : V} {d : D} {n : String} (ex : Ex G H) (h : Vw K G H v d) (e : tyN d = some n) : TyX K H v (.type n) := by
  have r := h.rp ex
  cases r with
  | non => cases e; exact .base .non
  | bl b => cases e; exact .base (.bl b)
  | int b => cases e; exact .base (.int b)
  | str b => cases e; exact .base (.str b)
  | tup h1 _ => cases e; exact .base (.tup h1)
  | lst h1 _ => cases e; exact .base (.lst h1)
  | ins _ _ _ => cases e
  | exn _ _ _ => cases e
  | dk _ _ _ => cases e
  | dt _ _ _ => cases e
  | scr _ => cases e
/-- whether what stands first is of the class T -/
def isB (T : String) (d : D) : Option Bool := (tyN d).bind fun n => kitB n T
def dIsi (T : String) (f : Fe) : Fe := fun ρ => match f ρ with
  | none => none
  | some (r, ρ1) => match rd ρ1 r with
    | none => none
    | some d => match isB T d with
      | none => none
      | some b => some (.fz (.bl b), ρ1)
theorem de_isi {X : Cx} {x : Str} {p p2 pos : Pos} {e : Expr} {f : Fe} {y : Str} {T : String} (hx : Gl X x) (hm : X.mg x = none) (hv : bootBuiltins x = some (.builtin "isinstance")) (he : DE X e f) (hy : Gl X y) (hm2 : X.mg y = none) (hv2 : bootBuiltins y = some (.type T))
    (hn : x ≠ "__name__" := by decide) (hdb : (x == ("__debug__" : Str)) = false := by decide) (hn2 : y ≠ "__name__" := by decide) (hdb2 : (y == ("__debug__" : Str)) = false := by decide)
    (hs : starEach [e, .Name y p2] X.env = (false, eval e X.env) :: starEach [.Name y p2] X.env := by rfl) (hpl : (backTo pos (starEach [.Name y p2] X.env)).any (·.1) = false := by rfl)
    (hs2 : starEach [.Name y p2] X.env = (false, eval (.Name y p2) X.env) :: starEach [] X.env := by rfl) :
    DE X (.Call (.Name x p) [e, .Name y p2] [] pos) (dIsi T f) :=
  PE.weak (pe_callB call_isi hx hm hv (pa_cons he (pa_cons (pe_bltn (v := .ty T) hy hm2 hv2 rfl hn2 hdb2) pa_nil hs2) hs) hn hdb hs hpl) fun σ H Q ⟨G, ρ, z, ρ', g, q, k⟩ => by
    unfold dIsi at q
    cases q1 : f ρ with
    | none => rw [q1] at q; cases q
    | some y =>
      obtain ⟨r, ρ1⟩ := y
      simp only [q1] at q
      cases q4 : rd ρ1 r with
      | none => simp only [q4] at q; cases q
      | some d =>
        simp only [q4] at q
        cases q5 : isB T d with
        | none => simp only [q5] at q; cases q
        | some b =>
          simp only [q5] at q
          cases q
          refine ⟨G, ρ, r, _, g, q1, fun v G1 H1 A1 R1 => ?_⟩
          unfold isB at q5
          cases q6 : tyN d with
          | none => rw [q6] at q5; cases q5
          | some n =>
            rw [q6] at q5
            refine ⟨v, .ty T, .type n, .type T, b, rfl, .ty T, tyN_ok A1.good.ex (rd_ok A1.good R1 q4) q6, kit_ty q5, ?_⟩
            exact k _ G1 H1 A1 (.bl b)
/-! ### displays -/
/-- all of them standing -/
def dsOf : List Sl → Option (List D)
  | [] => some []
  | .fz d :: r => (dsOf r).map (d :: ·)
  | _ => none
theorem dsOf_ok {K : PySem.W.Frag} {H0 G H : Hp} {σ : L2.St} {ρ : En} : ∀ {vs : List V} {rs : List Sl} {ds : List D}, RsOk K H0 G H σ ρ vs rs → dsOf rs = some ds → Rps K G vs ds
  | _, _, _, .nil, e => by cases e; exact .nil
  | _, _, _, .cons (r := r) (rs := rs) h t, e => by
    cases r with
    | fz d =>
      have e' : (dsOf rs).map (d :: ·) = some _ := e
      cases q : dsOf rs with
      | none => rw [q] at e'; cases e'
      | some ds =>
        rw [q] at e'
        cases e'
        exact .cons h (dsOf_ok t q)
    | un => cases e
    | ow _ => cases e
    | rf _ => cases e
    | bw _ => cases e
def eTup (fa : Fa) : Fe := fun ρ => match fa ρ with
  | some (rs, ρ1) => match dsOf rs with
    | some ds => if ds.length ≤ lim then some (.fz (.tup ds), ρ1) else none
    | none => none
  | none => none
def eLst (fa : Fa) : Fe := fun ρ => match fa ρ with
  | some (rs, ρ1) => match dsOf rs with
    | some ds => if ds.length ≤ lim then some (.ow (.l ds), ρ1) else none
    | none => none
  | none => none
section
variable {X : Cx} {es : List Expr} {fa : Fa} {pos : Pos} {k : Nat}
theorem de_tup (ha : DA X es fa) : DE X (.Tuple es k pos) (eTup fa) := PE.weak (pe_tup ha) fun σ H Q ⟨G, ρ, z, ρ', g, q, kk⟩ => by
  unfold eTup at q
  cases q1 : fa ρ with
  | none => rw [q1] at q; cases q
  | some y =>
    obtain ⟨rs, ρ1⟩ := y
    simp only [q1] at q
    cases q2 : dsOf rs with
    | none => simp only [q2] at q; cases q
    | some ds =>
      simp only [q2] at q
      split at q
      · rename_i hl
        cases q
        refine ⟨G, ρ, rs, _, g, q1, fun vs G1 H1 A1 R1 => ?_⟩
        have r := dsOf_ok R1 q2
        exact ⟨by rw [r.len]; exact lim_le hl, giveT A1.good r fun v G' H' A R => kk v G' H' (A1.trans A) (R.start A1.dom)⟩
      · cases q
theorem de_lst (ha : DA X es fa) : DE X (.List es pos) (eLst fa) := PE.weak (pe_lst ha) fun σ H Q ⟨G, ρ, z, ρ', g, q, kk⟩ => by
  unfold eLst at q
  cases q1 : fa ρ with
  | none => rw [q1] at q; cases q
  | some y =>
    obtain ⟨rs, ρ1⟩ := y
    simp only [q1] at q
    cases q2 : dsOf rs with
    | none => simp only [q2] at q; cases q
    | some ds =>
      simp only [q2] at q
      split at q
      · rename_i hl
        cases q
        refine ⟨G, ρ, rs, _, g, q1, fun vs G1 H1 A1 R1 => ?_⟩
        have r := dsOf_ok R1 q2
        exact ⟨by rw [r.len]; exact lim_le hl, giveL A1.good r fun v G' H' A R => kk v G' H' (A1.trans A) (R.start A1.dom)⟩
      · cases q
end
/-! ### what is walked -/
section
variable {K : PySem.W.Frag} {G H : Hp}
theorem it_list {p : Addr} {vs : List V} {xs : List D} (h1 : G p = some (.lst vs)) (h2 : Rps K G vs xs) : ItOk K G (Itl K p) xs := by
  have w := (walk_list (K := K) (a := p) (xs := vs)).mono (G' := fun H => Ex G H) (Y' := fun i H x H' => ∃ d, xs[i]? = some d ∧ ItemY K G d H x H') (fun H e => SqL.of (e _ _ h1)) fun i H x H' hi e y => by
    obtain ⟨rfl, e1⟩ := y
    obtain ⟨d, e2, r⟩ := h2.getV e1
    exact ⟨d, e2, .inl ⟨rfl, r⟩⟩
  rw [h2.len] at w
  exact w
theorem it_tup {p : Addr} {vs : List V} {xs : List D} (h1 : G p = some (.tup vs)) (h2 : Rps K G vs xs) : ItOk K G (Itt K p) xs := by
  have w := (walk_tup (K := K) (a := p) (xs := vs)).mono (G' := fun H => Ex G H) (Y' := fun i H x H' => ∃ d, xs[i]? = some d ∧ ItemY K G d H x H') (fun H e => SqT.of (e _ _ h1)) fun i H x H' hi e y => by
    obtain ⟨rfl, e1⟩ := y
    obtain ⟨d, e2, r⟩ := h2.getV e1
    exact ⟨d, e2, .inl ⟨rfl, r⟩⟩
  rw [h2.len] at w
  exact w
def rangeD (lo : Int) (n : Nat) : List D := (List.range n).map fun i => .int (lo + (i : Nat))
theorem it_range {lo : Int} {n : Nat} : ItOk K G (Itr lo n) (rangeD lo n) := by
  have w := (walk_range (lo := lo) (n := n)).mono (G' := fun H => Ex G H) (Y' := fun i H x H' => ∃ d, (rangeD lo n)[i]? = some d ∧ ItemY K G d H x H') (fun _ _ => trivial) fun i H x H' hi e y => by
    obtain ⟨rfl, rfl⟩ := y
    exact ⟨.int (lo + (i : Nat)), by unfold rangeD; rw [List.getElem?_map, List.getElem?_range hi]; rfl, .inl ⟨rfl, .int _⟩⟩
  have e : (rangeD lo n).length = n := by unfold rangeD; simp
  unfold ItOk
  rw [e]
  exact w
def enumD (xs : List D) : List D := xs.zipIdx.map fun p => .tup [.int (p.2 : Nat), p.1]
theorem enumD_get (xs : List D) (i : Nat) : (enumD xs)[i]? = xs[i]?.map fun d => .tup [.int (i : Nat), d] := by
  unfold enumD
  rw [List.getElem?_map, List.getElem?_zipIdx]
  cases xs[i]? with
  | none => rfl
  | some d => simp
theorem it_enum {J : It} {vs : List V} {xs : List D} {P : Hp → Prop} (w : Walk J vs.length P (YPair (fun i => some (.int (i : Nat))) (fun i => vs[i]?))) (hp : ∀ H, Ex G H → P H) (h2 : Rps K G vs xs) : ItOk K G J (enumD xs) := by
  have w := w.mono (G' := fun H => Ex G H) (Y' := fun i H x H' => ∃ d, (enumD xs)[i]? = some d ∧ ItemY K G d H x H') hp fun i H x H' hi e y => by
    obtain ⟨T, a, b, rfl, h3, h4, h5, h6⟩ := y
    cases h5
    obtain ⟨d, e2, r⟩ := h2.getV h6
    exact ⟨.tup [.int (i : Nat), d], by rw [enumD_get, e2]; rfl, .inr ⟨T, _, _, rfl, rfl, h3, h4, .cons (.int _) (.one r)⟩⟩
  have e : (enumD xs).length = vs.length := by unfold enumD; simp [h2.len]
  unfold ItOk
  rw [e]
  exact w
end
/-- walked as it stands; from here on it stays -/
def iSeq (f : Fe) : Fi := fun ρ => match dFr f ρ with
  | some (.lst xs, ρ1) => some (xs, ρ1)
  | _ => none
def iTupD (f : Fe) : Fi := fun ρ => match dFr f ρ with
  | some (.tup xs, ρ1) => some (xs, ρ1)
  | _ => none
section
variable {X : Cx} {tg e : Expr} {f : Fe}
theorem di_list (h : DE X e f) : DI X tg e (iSeq f) := PI.weak (pi_list (de_fr h)) fun σ H R ⟨G, ρ, xs, ρ', g, q, k⟩ => by
  unfold iSeq at q
  split at q
  · rename_i ys ρ1 q1
    cases q
    refine ⟨G, ρ, _, _, g, q1, fun v G1 H1 A1 R1 => ?_⟩
    cases R1 with
    | lst h1 h2 => exact ⟨_, rfl, ⟨_, SqL.of (A1.good.ex _ _ h1)⟩, k _ G1 H1 A1 (it_list h1 h2)⟩
  · cases q
theorem di_tup (h : DE X e f) : DI X tg e (iTupD f) := PI.weak (pi_tup (de_fr h)) fun σ H R ⟨G, ρ, xs, ρ', g, q, k⟩ => by
  unfold iTupD at q
  split at q
  · rename_i ys ρ1 q1
    cases q
    refine ⟨G, ρ, _, _, g, q1, fun v G1 H1 A1 R1 => ?_⟩
    cases R1 with
    | tup h1 h2 => exact ⟨_, rfl, ⟨_, SqT.of (A1.good.ex _ _ h1)⟩, k _ G1 H1 A1 (it_tup h1 h2)⟩
  · cases q
/-- range(n), range(a, b) -/
def iRange1 (fa : Fa) : Fi := fun ρ => match fa ρ with
  | some ([.fz (.int n)], ρ1) => if n < 4000000000000000000 ∧ -4000000000000000000 ≤ n then some (rangeD 0 n.toNat, ρ1) else none
  | _ => none
def iRange2 (fa : Fa) : Fi := fun ρ => match fa ρ with
  | some ([.fz (.int m), .fz (.int n)], ρ1) => if n < 4000000000000000000 ∧ -4000000000000000000 ≤ n ∧ m < 4000000000000000000 ∧ -4000000000000000000 ≤ m then some (rangeD m (n - m).toNat, ρ1) else none
  | _ => none
theorem di_range1 {a : Expr} {fa : Fa} {p pos : Pos} (hg : Gl X "range") (hm : X.mg "range" = none) (ha : DA X [a] fa) (hs : starEach [a] X.env = [(false, eval a X.env)] := by rfl) : DI X tg (.Call (.Name "range" p) [a] [] pos) (iRange1 fa) :=
  PI.weak (pi_range1 hg hm ha hs) fun σ H R ⟨G, ρ, xs, ρ', g, q, k⟩ => by
    unfold iRange1 at q
    split at q
    · rename_i n ρ1 q1
      split at q
      · rename_i hl
        cases q
        refine ⟨G, ρ, _, _, g, q1, fun vs G1 H1 A1 R1 => ?_⟩
        cases R1 with
        | cons r1 r2 =>
          cases r2
          refine ⟨n, by rw [Rp.of_int r1], by omega, by omega, k _ G1 H1 A1 it_range⟩
      · cases q
    · cases q
theorem di_range2 {a b : Expr} {fa : Fa} {p pos : Pos} (hg : Gl X "range") (hm : X.mg "range" = none) (ha : DA X [a, b] fa) (hs : starEach [a, b] X.env = [(false, eval a X.env), (false, eval b X.env)] := by rfl) (hs2 : starEach [b] X.env = [(false, eval b X.env)] := by rfl) :
    DI X tg (.Call (.Name "range" p) [a, b] [] pos) (iRange2 fa) :=
  PI.weak (pi_range2 hg hm ha hs hs2) fun σ H R ⟨G, ρ, xs, ρ', g, q, k⟩ => by
    unfold iRange2 at q
    split at q
    · rename_i m n ρ1 q1
      split at q
      · rename_i hl
        cases q
        refine ⟨G, ρ, _, _, g, q1, fun vs G1 H1 A1 R1 => ?_⟩
        cases R1 with
        | cons r1 r2 =>
          cases r2 with
          | cons r2 r3 =>
            cases r3
            refine ⟨m, n, by rw [Rp.of_int r1, Rp.of_int r2], ⟨by omega, by omega, by omega, by omega⟩, k _ G1 H1 A1 it_range⟩
      · cases q
    · cases q
def iEnumD (fa : Fa) : Fi := fun ρ => match fa ρ with
  | some ([.fz (.lst xs)], ρ1) => some (enumD xs, ρ1)
  | some ([.fz (.tup xs)], ρ1) => some (enumD xs, ρ1)
  | _ => none
theorem di_enum {fa : Fa} {p pos tpos : Pos} {elts : List Expr} {kk : Nat} (hg : Gl X "enumerate") (hm : X.mg "enumerate" = none) (ha : DA X [e] fa) (hs : starEach [e] X.env = [(false, eval e X.env)] := by rfl) :
    DI X (.Tuple elts kk tpos) (.Call (.Name "enumerate" p) [e] [] pos) (iEnumD fa) := PI.weak (pi_enumA hg hm ha hs) fun σ H R ⟨G, ρ, xs, ρ', g, q, k⟩ => by
  unfold iEnumD at q
  split at q
  · rename_i ys ρ1 q1
    cases q
    refine ⟨G, ρ, _, _, g, q1, fun vs G1 H1 A1 R1 => ?_⟩
    cases R1 with
    | cons r1 r2 =>
      cases r2
      have r1' : Rp X.K G1 _ (.lst ys) := r1
      cases r1' with
      | lst h1 h2 => exact ⟨_, _, rfl, .inl ⟨SqL.of (A1.good.ex _ _ h1), k _ G1 H1 A1 (it_enum walk_enum (fun H e => SqL.of (e _ _ h1)) h2)⟩⟩
  · rename_i ys ρ1 q1
    cases q
    refine ⟨G, ρ, _, _, g, q1, fun vs G1 H1 A1 R1 => ?_⟩
    cases R1 with
    | cons r1 r2 =>
      cases r2
      have r1' : Rp X.K G1 _ (.tup ys) := r1
      cases r1' with
      | tup h1 h2 => exact ⟨_, _, rfl, .inr ⟨SqT.of (A1.good.ex _ _ h1), k _ G1 H1 A1 (it_enum walk_enumT (fun H e => SqT.of (e _ _ h1)) h2)⟩⟩
  · cases q
end
end DL
set_option Elab.async false
set_option linter.all false
set_option maxRecDepth 100000
set_option maxHeartbeats 2000000
namespace DL
open PySem PySem.Spec L2
/-! ### names of the module, -e -/
theorem de_gInt {X : Cx} {x : Str} {i : Int} {t : Tok} {pos : Pos} (hg : Gl X x) (hm : X.mg x = some (.int i t)) (hd : (x == ("__debug__" : Str)) = false := by decide) : DE X (.Name x pos) (eC (.int i)) := de_of_c (pe_glob (v := .int i) hg hm ⟨_, rfl⟩ hd) fun _ => .int i
theorem de_gStr {X : Cx} {x : Str} {i : Str} {t : Tok} {pos : Pos} (hg : Gl X x) (hm : X.mg x = some (.str i t)) (hd : (x == ("__debug__" : Str)) = false := by decide) : DE X (.Name x pos) (eC (.str i)) := de_of_c (pe_glob (v := .str i) hg hm ⟨_, rfl⟩ hd) fun _ => .str i
def dNeg (f : Fe) : Fe := fun ρ => match f ρ with
  | some (.fz (.int i), ρ1) => some (.fz (.int (-i)), ρ1)
  | _ => none
theorem de_neg {X : Cx} {a : Expr} {f : Fe} {pos : Pos} (ha : DE X a f) : DE X (.UnaryOp .USub a pos) (dNeg f) := PE.weak (pe_un un_neg ha) fun σ H Q ⟨G, ρ, z, ρ', g, q, k⟩ => by
  unfold dNeg at q
  split at q
  · rename_i i ρ1 q1
    cases q
    exact ⟨G, ρ, _, _, g, q1, fun v G1 H1 A1 R1 => ⟨i, Rp.of_int R1, k _ G1 H1 A1 (.int _)⟩⟩
  · cases q
/-! ### a list that a slot holds alone -/
def heldL : Option Sl → Option (List D)
  | some (.ow (.l xs)) => some xs
  | some (.rf (.l xs)) => some xs
  | _ => none
def putS (ρ : En) (i : Nat) (m : Mu) : En := match ρ[i]? with
  | some r => ρ.set i (r.put m)
  | none => ρ
theorem heldL_ok {o : Option Sl} {xs : List D} (h : heldL o = some xs) : ∃ r, o = some r ∧ Held r (.l xs) := by
  unfold heldL at h
  split at h
  · cases h; exact ⟨_, rfl, .ow _⟩
  · cases h; exact ⟨_, rfl, .rf _⟩
  · cases h
theorem held_at {K : PySem.W.Frag} {G H : Hp} {σ : L2.St} {ρ : En} {i : Nat} {xs : List D} (g : Good K G H σ ρ) (h : heldL ρ[i]? = some xs) : ∃ p vs, σ[i]? = some (some (.ref p)) ∧ H p = some (.lst vs) ∧ Rps K G vs xs ∧
    (∀ vs' ys, Rps K G vs' ys → Aft K G H σ ρ G (upd H p (.lst vs')) σ (putS ρ i (.l ys))) := by
  obtain ⟨r, e, hh⟩ := heldL_ok h
  have hi : i < σ.length := by
    rw [g.len]
    exact (List.getElem?_eq_some_iff.mp e).1
  have hs : σ[i]? = some σ[i] := List.getElem?_eq_getElem hi
  have s := g.sl i _ _ hs e
  have s' : ∃ p o, σ[i] = some (.ref p) ∧ G p = none ∧ H p = some o ∧ MuOk K G o (.l xs) := by
    cases hh with
    | ow => exact s
    | rf => exact s
  obtain ⟨p, o, e1, e2, e3, e4⟩ := s'
  cases e4 with
  | @l vs _ e4 =>
    rw [e1] at hs
    refine ⟨p, vs, hs, e3, e4, fun vs' ys r' => ?_⟩
    have := Aft.change (o := .lst vs') (m' := .l ys) g hs e hh (.l r')
    unfold putS
    rw [e]
    exact this
/-- by the list and the arguments: the answer, the list behind -/
abbrev Gm := List D → List D → Option (D × List D)
def MtL (K : PySem.W.Frag) (r : V → List V → Hp → VK → Prop) (g : Gm) : Prop := ∀ {G H : Hp} {p : Addr} {vs us : List V} {xs ds : List D} {d : D} {ys : List D} {Q : VK}, Ex G H → H p = some (.lst vs) → Rps K G vs xs → Rps K G us ds → g xs ds = some (d, ys) →
  (∀ v vs', Rp K G v d → Rps K G vs' ys → Q v (upd H p (.lst vs'))) → r (.ref p) us H Q
def dMt (i : Nat) (fa : Fa) (g : Gm) : Fe := fun ρ => match heldL ρ[i]? with
  | none => none
  | some _ => match fa ρ with
    | none => none
    | some (rs, ρ1) => match dsOf rs with
      | none => none
      | some ds => match heldL ρ1[i]? with
        | none => none
        | some xs => match g xs ds with
          | none => none
          | some (d, ys) => some (.fz d, putS ρ1 i (.l ys))
theorem dMt_inv {i : Nat} {fa : Fa} {g : Gm} {ρ ρ' : En} {z : Sl} (e : dMt i fa g ρ = some (z, ρ')) : ∃ xs0 rs ρ1 ds xs d ys, heldL ρ[i]? = some xs0 ∧ fa ρ = some (rs, ρ1) ∧ dsOf rs = some ds ∧ heldL ρ1[i]? = some xs ∧ g xs ds = some (d, ys) ∧ z = .fz d ∧ ρ' = putS ρ1 i (.l ys) := by
  unfold dMt at e
  cases q1 : heldL ρ[i]? with
  | none => simp only [q1] at e; cases e
  | some xs0 =>
    simp only [q1] at e
    cases q2 : fa ρ with
    | none => simp only [q2] at e; cases e
    | some y =>
      obtain ⟨rs, ρ1⟩ := y
      simp only [q2] at e
      cases q3 : dsOf rs with
      | none => simp only [q3] at e; cases e
      | some ds =>
        simp only [q3] at e
        cases q4 : heldL ρ1[i]? with
        | none => simp only [q4] at e; cases e
        | some xs =>
          simp only [q4] at e
          cases q5 : g xs ds with
          | none => simp only [q5] at e; cases e
          | some y =>
            obtain ⟨d, ys⟩ := y
            simp only [q5] at e
            cases e
            exact ⟨_, _, _, _, _, _, _, rfl, rfl, q3, q4, q5, rfl, rfl⟩
section
variable {X : Cx} {o e : Expr} {es : List Expr} {fa : Fa} {name : Str} {apos cpos : Pos} {id : String} {r : V → List V → Hp → VK → Prop} {g : Gm} {i : Nat}
theorem de_mt (slot : Slot "list" name id) (hty : typeOf (.builtin id) = pure (.type "method_descriptor")) (hm : MtR X id r) (hg : MtL X.K r g) (ho : PE X o (tVar i)) (ha : DA X (e :: es) fa)
    (hbase : attributeBase o name X.env (eval o X.env) = eval o X.env := by rfl)
    (hfew : ((backTo cpos (starEach (e :: es) X.env)).all (fun x => !x.1) && (backToKw cpos (keywordEach [] X.env)).all (fun x => x.1.isSome)
      && decide ((e :: es).length + ([] : List Keyword).length + (if ([] : List Keyword).isEmpty then 0 else 1) < 30)) = true := by rfl)
    (hline : (apos.endLine == cpos.line) = true := by rfl) (hs : starEach (e :: es) X.env = (false, eval e X.env) :: starEach es X.env := by rfl) (hplain : (backTo cpos (starEach es X.env)).any (·.1) = false := by rfl) :
    DE X (.Call (.Attribute o name apos) (e :: es) [] cpos) (dMt i fa g) :=
  PE.weak (pe_bm F.plainAttrs_list slot hty hm ho ha hbase hfew hline hs hplain) fun σ H Q ⟨G, ρ, z, ρ', gd, q, k⟩ => by
    obtain ⟨xs0, rs, ρ1, ds, xs, d, ys, q1, q2, q3, q4, q5, rfl, rfl⟩ := dMt_inv q
    obtain ⟨p, vs0, e1, e2, e3, _⟩ := held_at gd q1
    refine ⟨.ref p, e1, .inl ⟨rfl, _, SqL.of e2⟩, G, ρ, rs, ρ1, gd, q2, fun us G1 H1 A1 R1 => ?_⟩
    obtain ⟨p', vs, e4, e5, e6, A2⟩ := held_at A1.good q4
    rw [e1] at e4
    cases e4
    exact hg A1.good.ex e5 e6 (dsOf_ok R1 q3) q5 fun v vs' rv rvs => k v G1 _ (A1.trans (A2 vs' ys rvs)) rv
theorem de_mt0 (slot : Slot "list" name id) (hty : typeOf (.builtin id) = pure (.type "method_descriptor")) (hm : MtR X id r) (hg : MtL X.K r g) (ho : PE X o (tVar i))
    (hbase : attributeBase o name X.env (eval o X.env) = eval o X.env := by rfl) (hline : (apos.endLine == cpos.line) = true := by rfl) :
    DE X (.Call (.Attribute o name apos) [] [] cpos) (dMt i aNil g) :=
  PE.weak (pe_bm0 F.plainAttrs_list slot hty hm ho hbase hline) fun σ H Q ⟨G, ρ, z, ρ', gd, q, k⟩ => by
    obtain ⟨xs0, rs, ρ1, ds, xs, d, ys, q1, q2, q3, q4, q5, rfl, rfl⟩ := dMt_inv q
    cases q2
    cases q3
    obtain ⟨p, vs, e1, e2, e3, A2⟩ := held_at gd q4
    refine ⟨.ref p, e1, .inl ⟨rfl, _, SqL.of e2⟩, ?_⟩
    exact hg gd.ex e2 e3 .nil q5 fun v vs' rv rvs => k v G _ (A2 vs' ys rvs) rv
end
def gApp : Gm := fun xs ds => match ds with
  | [d] => if xs.length ≤ lim then some (.non, xs ++ [d]) else none
  | _ => none
theorem m_app {K : PySem.W.Frag} : MtL K rAppend gApp := fun {G H p vs us xs ds d ys Q} ex h1 h2 h3 e k => by
  unfold gApp at e
  split at e
  · split at e
    · rename_i hl
      cases e
      cases h3 with
      | cons a b =>
        cases b
        exact ⟨p, vs, _, rfl, rfl, h1, by rw [h2.len]; exact lim_lt hl, k _ _ .non (h2.app (.one a))⟩
    · cases e
  · cases e
def gPop : Gm := fun xs ds => match ds with
  | [] => match xs[xs.length - 1]? with
    | some d => some (d, xs.dropLast)
    | none => none
  | _ => none
theorem m_pop {K : PySem.W.Frag} : MtL K rPop gPop := fun {G H p vs us xs ds d ys Q} ex h1 h2 h3 e k => by
  unfold gPop at e
  split at e
  · split at e
    · rename_i d' q
      cases e
      cases h3
      obtain ⟨v, q', r⟩ := h2.get q
      exact ⟨p, vs, v, rfl, rfl, h1, by rw [h2.len]; exact q', k _ _ r h2.dropLast⟩
    · cases e
  · cases e
def gPopAt : Gm := fun xs ds => match ds with
  | [.int i] => if -(2 ^ 63) ≤ i ∧ i < 2 ^ 63 then (match seqIndex? i xs.length with
    | some k => match xs[k]? with
      | some d => some (d, xs.eraseIdx k)
      | none => none
    | none => none) else none
  | _ => none
theorem m_popAt {K : PySem.W.Frag} : MtL K rPopAt gPopAt := fun {G H p vs us xs ds d ys Q} ex h1 h2 h3 e k => by
  unfold gPopAt at e
  split at e
  · rename_i i
    split at e
    · rename_i hl
      cases q1 : seqIndex? i xs.length with
      | none => simp only [q1] at e; cases e
      | some j =>
        simp only [q1] at e
        cases q2 : xs[j]? with
        | none => simp only [q2] at e; cases e
        | some d' =>
          simp only [q2] at e
          cases e
          cases h3 with
          | cons a b =>
            cases b
            obtain ⟨v, q', r⟩ := h2.get q2
            exact ⟨p, vs, i, j, v, rfl, by rw [a.of_int], h1, hl.1, hl.2, by rw [h2.len]; exact q1, q', k _ _ r (h2.erase j)⟩
    · cases e
  · cases e
/-! ### xs[i] = e -/
def bSetIx (i : Nat) (fi fe : Fe) : Fs := fun ρ => match dFr fe ρ with
  | none => none
  | some (d, ρ1) => match heldL ρ1[i]? with
    | none => none
    | some _ => match fi ρ1 with
      | some (.fz (.int k), ρ2) => match heldL ρ2[i]? with
        | none => none
        | some xs => match ixN xs.length k with
          | none => none
          | some j => some (.nx, putS ρ2 i (.l (xs.set j d)))
      | _ => none
section
variable {X : Cx} {E : XK} {o e ix : Expr} {fi fe : Fe} {i : Nat} {pos spos : Pos}
theorem ds_setIx (he : DE X e fe) (ho : PE X o (tVar i)) (hi : DE X ix fi)
    (ha : ∀ v, assign (.Subscript o ix spos) X.env v = (do
      let ov ← holding [v] (eval o X.env)
      let iv ← holding [v, ov] (eval ix X.env)
      standAt spos
      holding [v, ov, iv] (setItem ov iv v)
      release [v, ov, iv] []) := by intro _; rfl)
    (hs : swapsWithSole [.Subscript o ix spos] e pos.line X.env = pure false := by rfl) (hw : swappedStores [.Subscript o ix spos] e X.env = pure none := by rfl)
    (h1 : (assignEach [.Subscript o ix spos] X.env).map (·.2) = [assign (.Subscript o ix spos) X.env] := by rfl) : DS X E (.Assign [.Subscript o ix spos] e pos) (bSetIx i fi fe) :=
  PS.weak (ps_asg (de_fr he) (pg_sub ho hi set_list ha) hs hw h1) fun D σ H ⟨G, ρ, fl, ρ', g, q, k⟩ => by
    unfold bSetIx at q
    cases q1 : dFr fe ρ with
    | none => simp only [q1] at q; cases q
    | some y =>
      obtain ⟨d, ρ1⟩ := y
      simp only [q1] at q
      cases q2 : heldL ρ1[i]? with
      | none => simp only [q2] at q; cases q
      | some xs0 =>
        simp only [q2] at q
        split at q
        · rename_i kk ρ2 q3
          cases q4 : heldL ρ2[i]? with
          | none => simp only [q4] at q; cases q
          | some xs =>
            simp only [q4] at q
            cases q5 : ixN xs.length kk with
            | none => simp only [q5] at q; cases q
            | some j =>
              simp only [q5] at q
              cases q
              refine ⟨G, ρ, d, ρ1, g, q1, fun v G1 H1 A1 R1 => ?_⟩
              obtain ⟨p, vs0, e1, e2, e3, _⟩ := held_at A1.good q2
              refine ⟨.ref p, e1, G1, ρ1, _, ρ2, A1.good, q3, fun u G2 H2 A2 R2 => ?_⟩
              obtain ⟨p', vs, e4, e5, e6, A3⟩ := held_at A2.good q4
              rw [e1] at e4
              cases e4
              refine ⟨p, vs, kk, j, rfl, Rp.of_int R2, e5, by rw [e6.len]; exact q5, ?_⟩
              have A := (A1.trans A2).trans (A3 (vs.set j v) (xs.set j d) (e6.set (R1.up A2.ex) j))
              exact k σ G2 _ A
        · cases q
end
/-! ### x += e of ints -/
def bAug (i : Nat) (h : Int → Int → Int) (f : Fe) : Fs := fun ρ => match ρ[i]? with
  | some (.fz (.int a)) => match f ρ with
    | some (.fz (.int b), ρ1) => if notRf ρ1 i then some (.nx, ρ1.set i (.fz (.int (h a b)))) else none
    | _ => none
  | _ => none
theorem ds_aug {X : Cx} {E : XK} {i : Nat} {x : Str} {e : Expr} {f : Fe} {op : Operator} {h : Int → Int → Int} {pos pos' : Pos} (hN : X.N.Nodup) (hi : X.N[i]? = some x) (hx : Loc X.env.scope x) (he : DE X e f) (ho : PIp X op (ipI h)) (hf : X.fn x = true ∨ X.env.scope.names.lookup x = some .local := by first | exact .inl rfl | exact .inr rfl | assumption)
    (ht : ∀ (t : TE) (pe : PE X e t), PS X (.AugAssign (.Name x pos') op e pos) (tAug i t (ipI h)) := by intro t pe; exact ps_aug (by assumption) (by assumption) (by assumption) pe (by assumption)) :
    DS X E (.AugAssign (.Name x pos') op e pos) (bAug i h f) := PS.weak (ht _ he) fun D σ H ⟨G, ρ, fl, ρ', g, q, k⟩ => by
  unfold bAug at q
  split at q
  · rename_i a q0
    split at q
    · rename_i b ρ1 q1
      split at q
      · rename_i n
        cases q
        have hi : i < σ.length := by
          rw [g.len]
          exact (List.getElem?_eq_some_iff.mp q0).1
        have hs : σ[i]? = some σ[i] := List.getElem?_eq_getElem hi
        obtain ⟨v, e1, e2⟩ := g.sl i _ _ hs q0
        refine ⟨.int a, by rw [hs, e1, e2.of_int], G, ρ, _, ρ1, g, q1, fun u G1 H1 A1 R1 => ?_⟩
        refine ⟨a, b, rfl, Rp.of_int R1, ?_⟩
        exact k _ G1 H1 (A1.store ⟨_, rfl, .int _⟩ (fun p h1 h2 => by cases h1) n)
      · cases q
    · cases q
  · cases q
/-! ### texts -/
def strsOf : List D → Option (List Str)
  | [] => some []
  | .str i :: r => (strsOf r).map (i :: ·)
  | _ => none
theorem strsOf_eq : ∀ {ds : List D} {ns : List Str}, strsOf ds = some ns → ds = ns.map .str
  | [], _, h => by cases h; rfl
  | d :: ds, ns, h => by
    cases d with
    | str i =>
      have h' : (strsOf ds).map (i :: ·) = some ns := h
      cases q : strsOf ds with
      | none => rw [q] at h'; cases h'
      | some ms =>
        rw [q] at h'
        cases h'
        rw [strsOf_eq q]
        rfl
    | _ => cases h
theorem strsOf_map (ns : List Str) : strsOf (ns.map .str) = some ns := by
  induction ns with
  | nil => rfl
  | cons n ns ih =>
    show (strsOf (ns.map .str)).map (n :: ·) = _
    rw [ih]
    rfl
def joinOk (a : Str) (ys : List Str) : Option Sl := if (ys.map (·.length)).sum + ys.length * a.length ≤ 1000000 then some (.fz (.str (Txt.join a ys))) else none
def gJoin : D → D → Option Sl
  | .str a, .lst xs => (strsOf xs).bind (joinOk a)
  | .str a, .tup xs => (strsOf xs).bind (joinOk a)
  | _, _ => none
def gSplit : D → D → Option Sl
  | .str a, .str b => if (b.length == 0) = false ∧ a.length ≤ lim then some (.ow (.l ((Txt.split a b).map .str))) else none
  | _, _ => none
def gPart : D → D → Option Sl
  | .str a, .str b => if (b.length == 0) = false ∧ a.length ≤ lim then some (.fz (.tup [.str (Txt.partition a b).1, .str (Txt.partition a b).2.1, .str (Txt.partition a b).2.2])) else none
  | _, _ => none
section
variable {X : Cx} {o e : Expr} {fo fe : Fe} {apos pos : Pos}
/-- a text's method of one argument -/
def dM1 (gg : D → D → Option Sl) (fo fe : Fe) : Fe := fun ρ => match fo ρ with
  | some (.fz (.str a), ρ1) => match fe ρ1 with
    | some (rb, ρ2) => match rd ρ2 rb with
      | some d => match gg (.str a) d with
        | some z => some (z, ρ2)
        | none => none
      | none => none
    | none => none
  | _ => none
theorem m1_of {K : PySem.W.Frag} {r : V → List V → Hp → VK → Prop} {gg : D → D → Option Sl}
    (hr : ∀ {G H : Hp} {σ : L2.St} {ρ : En} {a : Str} {y : V} {e : D} {z : Sl} {Q : VK}, Good K G H σ ρ → Vw K G H y e → gg (.str a) e = some z → (∀ v G' H', Aft K G H σ ρ G' H' σ ρ → ROk K H G' H' σ ρ v z → Q v H') → r (.str a) [y] H Q) :
    ∀ σ H Q, teOf K (dM1 gg fo fe) σ H Q → tM1 r (teOf K fo) (teOf K fe) σ H Q := fun σ H Q ⟨G, ρ, z, ρ', gd, q, k⟩ => by
  unfold dM1 at q
  split at q
  · rename_i a ρ1 q1
    cases q2 : fe ρ1 with
    | none => simp only [q2] at q; cases q
    | some y =>
      obtain ⟨rb, ρ2⟩ := y
      simp only [q2] at q
      cases q3 : rd ρ2 rb with
      | none => simp only [q3] at q; cases q
      | some d =>
        simp only [q3] at q
        cases q4 : gg (.str a) d with
        | none => simp only [q4] at q; cases q
        | some w =>
          simp only [q4] at q
          cases q
          refine ⟨G, ρ, _, ρ1, gd, q1, fun va G1 H1 A1 R1 => ?_⟩
          rw [Rp.of_str R1]
          refine ⟨⟨a, rfl⟩, G1, ρ1, rb, _, A1.good, q2, fun vb G2 H2 A2 R2 => ?_⟩
          refine hr A2.good (rd_ok A2.good R2 q3) q4 fun v G3 H3 A3 R3 => ?_
          exact k v G3 H3 ((A1.trans A2).trans A3) (R3.start (A1.trans A2).dom)
  · cases q
theorem de_join (ho : DE X o fo) (he : DE X e fe) (hs : starEach [e] X.env = [(false, eval e X.env)] := by rfl) (hbase : attributeBase o "join" X.env (eval o X.env) = eval o X.env := by rfl) (hline : (apos.endLine == pos.line) = true := by rfl) :
    DE X (.Call (.Attribute o "join" apos) [e] [] pos) (dM1 gJoin fo fe) := PE.weak (pe_join ho he hs hbase hline) (m1_of fun {G H σ ρ a y d z Q} g hy hg k => by
  unfold gJoin at hg
  split at hg
  · rename_i b xs e1
    cases e1
    cases q : strsOf xs with
    | none => rw [q] at hg; cases hg
    | some ys =>
      rw [q] at hg
      replace hg : joinOk a ys = some z := hg
      unfold joinOk at hg
      split at hg
      · rename_i hl
        cases hg
        have e := strsOf_eq q
        subst e
        obtain ⟨p, vs, rfl, h1, h2⟩ := hy.lst g.ex
        rw [h2.strs] at h1
        exact ⟨a, p, ys, rfl, rfl, .inl (SqL.of h1), by omega, give g (.str _) k⟩
      · cases hg
  · rename_i b xs e1
    cases e1
    cases q : strsOf xs with
    | none => rw [q] at hg; cases hg
    | some ys =>
      rw [q] at hg
      replace hg : joinOk a ys = some z := hg
      unfold joinOk at hg
      split at hg
      · rename_i hl
        cases hg
        have e := strsOf_eq q
        subst e
        obtain ⟨p, vs, rfl, h0, h1, h2⟩ := hy.tup g.ex
        rw [h2.strs] at h1
        exact ⟨a, p, ys, rfl, rfl, .inr (SqT.of h1), by omega, give g (.str _) k⟩
      · cases hg
  · cases hg)
theorem de_split (ho : DE X o fo) (he : DE X e fe) (hs : starEach [e] X.env = [(false, eval e X.env)] := by rfl) (hbase : attributeBase o "split" X.env (eval o X.env) = eval o X.env := by rfl) (hline : (apos.endLine == pos.line) = true := by rfl) :
    DE X (.Call (.Attribute o "split" apos) [e] [] pos) (dM1 gSplit fo fe) := PE.weak (pe_split ho he hs hbase hline) (m1_of fun {G H σ ρ a y d z Q} g hy hg k => by
  unfold gSplit at hg
  split at hg
  · rename_i b c e1
    cases e1
    split at hg
    · rename_i hl
      cases hg
      refine ⟨a, c, rfl, by rw [hy.str], hl.1, Nat.le_trans (Nat.add_le_add_right hl.2 2) (by decide), giveL g Rps.of_strs k⟩
    · cases hg
  · cases hg)
theorem de_part (ho : DE X o fo) (he : DE X e fe) (hs : starEach [e] X.env = [(false, eval e X.env)] := by rfl) (hbase : attributeBase o "partition" X.env (eval o X.env) = eval o X.env := by rfl) (hline : (apos.endLine == pos.line) = true := by rfl) :
    DE X (.Call (.Attribute o "partition" apos) [e] [] pos) (dM1 gPart fo fe) := PE.weak (pe_partition ho he hs hbase hline) (m1_of fun {G H σ ρ a y d z Q} g hy hg k => by
  unfold gPart at hg
  split at hg
  · rename_i b c e1
    cases e1
    split at hg
    · rename_i hl
      cases hg
      refine ⟨a, c, rfl, by rw [hy.str], hl.1, lim_le hl.2, giveT g (.cons (.str _) (.cons (.str _) (.one (.str _)))) k⟩
    · cases hg
  · cases hg)
end
end DL
set_option Elab.async false
set_option linter.all false
set_option maxRecDepth 100000
set_option maxHeartbeats 2000000
namespace DL
open PySem PySem.Spec L2
open PyProof.Rows (envOfC)
/-- what never leaves is let through -/
theorem passL' {X : Cx} : Passes (L2.CX X.prog X.w) X E0 := fun _ _ _ _ _ _ _ h => by
  obtain ⟨_, _, _, _, _, _, _, _, _, _, _, _, z⟩ := h
  exact z.elim
/-! ### a def's promise where no text of a value is under way -/
structure FnG (P : Program) (w : World) (K : PySem.W.Frag) (mg : Str → Option Value) (b0 : Heap) (k : Nat) (f : Addr) (fd : FuncData) (ps : List Str) (sp : Sp) : Prop where
  len : ∀ xs M R F, sp xs M R F → xs.length = ps.length
  go : ∀ (Z : Around) (up : List Env) (t : Shared) (M : Hp) (gv : Args) (us : List Value) (xs : List V) (R : VK) (F : XK), Z.guards = some [] → Room k Z → Env0 P w K mg b0 Z up t M →
    BindsTo t fd gv (ps.zip us) → Vals xs us → sp xs M R F → codeAny (model P w) Z (.call (.ref f) gv) (CR (L2.CX P w) up P w M t R F) t
section
variable {P : Program} {w : World} {K : PySem.W.Frag} {mg : Str → Option Value} {b0 : Heap} {k : Nat} {f : Addr}
theorem FnG.imp {fd : FuncData} {ps : List Str} {sp sp' : Sp} (G : FnG P w K mg b0 k f fd ps sp) (h : ∀ xs M R F, sp' xs M R F → sp xs M R F) : FnG P w K mg b0 k f fd ps sp' :=
  ⟨fun xs M R F q => G.len xs M R F (h _ _ _ _ q), fun Z up t M gv us xs R F g r e b v q => G.go Z up t M gv us xs R F g r e b v (h _ _ _ _ q)⟩
/-- a def by its body -/
theorem fnG_of {nm qn : Str} {pr : Arguments} {bd : List Stmt} {sc : Scope} {dV kV doc pm cv ct oc : Value} {an od : Option Addr} {os : Array (Option Value)} {N ps : List Str} {sp : Sp}
    (look : K.lookup f = some ⟨oc, od, .func (PySem.W.fnOf nm qn pr bd sc dV kV doc pm an cv ct), os⟩) (code : PySem.W.codeIn K cv qn = true) (S : FnScope N ps sc) (len : ∀ xs M R F, sp xs M R F → xs.length = ps.length)
    (body : ∀ (Z : Around) (up : List Env) (t : Shared) (M : Hp) (xs : List V) (R : VK) (F : XK), Z.guards = some [] → Room k (Z.deeper (envOfC qn sc t.heap.objs.size f cv)) → sp xs M R F →
      ∃ T, PSs (cxOf (L2.CX P w) P w K mg b0 N qn sc f cv Z up t M F) bd T ∧ T { nx := fun _ M' => R .non M', rt := R } (start N xs) M) :
    FnG P w K mg b0 (k + 1) f (PySem.W.fnOf nm qn pr bd sc dV kV doc pm an cv ct) ps sp := by
  constructor
  · exact len
  intro Z up t M gv us xs R F guard room e0 binds vals hsp
  have inHeap : K.In t.heap := e0.mod.kin.keeps fun a o q => (e0.bs a o q).1
  have noLim : t.heap.NoLimit := e0.mod.nolimit.keeps fun a o q => (e0.bs a o q).1
  have xl := len _ _ _ _ hsp
  have kinds : ∀ z ∈ ps.zip us, sc.names.lookup z.1 = some .local ∨ (sc.names.lookup z.1 = some .cell ∧ ((cellsFrom (t.heap.objs.size + 1) sc.names []).lookup z.1).isSome = true) := by
    rintro ⟨n, v⟩ hz
    rcases S.par n (List.of_mem_zip hz).1 with p | p
    · exact .inl p
    · exact .inr ⟨p, PySem.W.cellsFrom_some _ _ _ (.inl p)⟩
  apply codeAny_call_function room.depth (inHeap _ _ look) rfl S.co S.gen rfl (PySem.W.codeRec_of inHeap code)
  apply binds
  apply wpAny_newFunctionEnv_cells S.kind kinds
  rintro env rfl t1 x
  refine ⟨noLim.keeps x.toInCall.keep, codeAny_func ?_⟩
  obtain ⟨T, hT, hq⟩ := body Z up t M xs R F guard (room.deeper _) hsp
  have J : Inv (cxOf (L2.CX P w) P w K mg b0 N qn sc f cv Z up t M F) [] (start N xs) M t1 := inv_start S room.hd e0 xl vals x
  apply wpAny_mono (hT.run [] t1 (start N xs) M _ J hq)
  · intro fl t2 hs
    cases fl with
    | brk => exact (hs.elim fun _ z => z.elim fun _ z => z.2.elim : False).elim
    | cont => exact (hs.elim fun _ z => z.elim fun _ z => z.2.elim : False).elim
    | next =>
      obtain ⟨s2, M2, J2, q⟩ := hs
      exact ⟨.non, M2, J2.os, J2.bare, J2.base, J2.hok, rfl, q⟩
    | ret u =>
      obtain ⟨v, s2, M2, J2, rv, q⟩ := hs
      exact ⟨v, M2, J2.os, J2.bare, J2.base, J2.hok, rv, q⟩
  · intro e t2 hs
    exact hs
end
section
variable {X : Cx} {k : Nat} {f : Addr} {fd : FuncData} {ps : List Str} {sp : Sp} {x : Str} {p pos : Pos} {e : Expr} {es : List Expr} {t : TA} {F : XK}
/-- a call of such a def, all its arguments by place -/
theorem pe_callG (G : FnG X.prog X.w X.K X.mg X.base k f fd ps sp) (gd : X.A.guards = some []) (hr : Room k X.A) (hg : Gl X x) (hm : X.mg x = some (.ref f)) (hk : PySem.W.keepIn X.K (.ref f) = true) (hb : Binds X.K fd ps []) (hx : Passes (L2.CX X.prog X.w) X F)
    (ha : PA X (e :: es) t) (hdb : (x == ("__debug__" : Str)) = false := by decide) (he : starEach (e :: es) X.env = (false, eval e X.env) :: starEach es X.env := by rfl) (hpl : (backTo pos (starEach es X.env)).any (·.1) = false := by rfl) :
    PE X (.Call (.Name x p) (e :: es) [] pos) (tCall sp [] F t) := by
  constructor
  intro pins s σ M R I q
  apply wpAny_Call_Name_kw (ld_glob I hg hm ?_ hdb)
  refine PySem.W.callWith_K (h₀ := X.base) I.ok.mod.kin hk (thn (ha.run pos pins s σ M _ I q) fun us s1 ⟨vs, M1, I1, r, q1⟩ => ⟨I1.kIn, ?_⟩) he hpl
  replace q1 : sp vs M1 R F := by simpa using q1
  have ln : us.length = ps.length := r.length.symm.trans (G.len _ _ _ _ q1)
  have bd := hb s1 us I1.kIn (by rw [List.append_nil]; exact ln)
  rw [List.append_nil] at bd
  apply wpAny_call
  apply codeAny_mono (G.go X.A X.stack s1 M1 ⟨us, []⟩ us vs R F gd hr I1.env0 bd r q1)
  intro res s2 h2
  cases res with
  | error er => exact hx pins σ M1 s1 er s2 I1 h2
  | ok fl =>
    cases fl with
    | next => cases h2
    | brk => cases h2
    | cont => cases h2
    | ret u => exact I1.after h2
end
/-! ### the law, called by the row -/
theorem law_go {P : Program} {w : World} {K : PySem.W.Frag} {mg mb : Str → Option Value} {k : Nat} {f a : Addr} {fd : FuncData} {x : Str} {sp : Sp} {t : Shared} {us : List Value} {ns : List Int}
    (inK : K.In t.heap) (gl : t.heap.Ns mainGlobals mg) (bl : t.heap.Ns builtinsNs mb) (bb : ∀ y : Str, y ≠ "__name__" → mb y = bootBuiltins y) (nl : t.heap.NoLimit) (gens : t.gens = #[])
    (obj : t.heap.get? a = some { cls := .type "list", data := .seq us.toArray }) (hints : PyProof.Rows.IntsAre us ns) (short : ns.length ≤ sizeLine) (room : Room k callerA)
    (G : ∀ b0 : Heap, K.In b0 → b0.Ns mainGlobals mg → FnG P w K mg b0 k f fd [x] sp) (binds : ∀ (s : Shared) (u : Value), BindsTo s fd ⟨[u], []⟩ [(x, u)])
    (keeps : ∀ M : Hp, Only M → SqL K M a (ns.map V.int) → sp [.ref a] M (fun v _ => v = .bl true) fun _ _ _ => False) :
    codeAny (model P w) callerA (.call (.ref f) ⟨[.ref a], []⟩) (fun r s => r = .ok (.ret (.bool true)) ∧ PySem.OldK t.heap s.heap ∧ s.os = t.os ∧ PyProof.Rows.AllBare s.gens) t := by
  have rv := vals_ints hints
  -- at most the script is tracked
  have main : ∀ M : Hp, Only M → SqL K M a (ns.map V.int) → HOk P w M t.heap → (∀ c, M c ≠ none → c = a) → (M a ≠ none → K.lookup a = none) →
      codeAny (model P w) callerA (.call (.ref f) ⟨[.ref a], []⟩) (fun r s => r = .ok (.ret (.bool true)) ∧ PySem.OldK t.heap s.heap ∧ s.os = t.os ∧ PyProof.Rows.AllBare s.gens) t := by
    intro M only sq hok onlyA noK
    have hide : ∀ {c : Addr} {o : Obj}, t.heap.get? c = some o → M c = none → (hidT t.heap M).get? c = some o := fun g n => hidT_get g n
    have free : ∀ {c : Addr} {o : Obj}, t.heap.get? c = some o → c ≠ a → M c = none := fun {c o} _ ne => by
      cases q : M c with
      | none => rfl
      | some u => exact absurd (onlyA c (by rw [q]; exact nofun)) ne
    have dictFree : ∀ {c : Addr} {o : Obj} {es : Array DictEntry} {n : Nat}, t.heap.get? c = some o → o.data = .dict es n → M c = none := fun {c o es n} g d => by
      refine free g fun e => ?_
      subst e
      rw [obj] at g
      cases g
      cases d
    have ns' : ∀ {c : Addr} {m : Str → Option Value}, t.heap.Ns c m → (hidT t.heap M).Ns c m := by
      rintro c m ⟨o, es, n, g, d, r⟩
      exact ⟨o, es, n, hide g (dictFree g d), d, r⟩
    have inK' : K.In (hidT t.heap M) := fun c o e => by
      refine hide (inK c o e) ?_
      by_cases ca : c = a
      · subst ca
        cases q : M c with
        | none => rfl
        | some u =>
          rw [noK (by rw [q]; exact nofun)] at e
          cases e
      · exact free (inK c o e) ca
    have mod : Mod K mg (hidT t.heap M) := ⟨inK', ns' gl, ⟨mb, ns' bl, bb⟩, nl.elim fun mc z => ⟨mc, ns' z.1, z.2⟩⟩
    have e0 : Env0 P w K mg (hidT t.heap M) callerA [] t M := ⟨rfl, mod, fun c o e => of_hidT e, Nat.le_of_eq (hidT_size _ _), trivial, fun c hc => (nomatch hc), hok, .of_eq gens⟩
    apply codeAny_mono ((G _ inK' (ns' gl)).go callerA [] t M ⟨[.ref a], []⟩ [.ref a] [.ref a] _ _ rfl room e0 (binds t (.ref a)) (.cons rfl .nil) (keeps M only sq))
    intro r s h
    cases r with
    | error e =>
      obtain ⟨_, _, _, _, _, _, _, _, _, _, _, _, z⟩ := h
      exact z.elim
    | ok fl =>
      cases fl with
      | next => cases h
      | brk => cases h
      | cont => cases h
      | ret u =>
        obtain ⟨v, M', os, bare, un, hok', rel, q⟩ := h
        cases q
        cases rel
        refine ⟨rfl, OldK.of_keep fun c o e => ?_, os, bare⟩
        rcases only c with z | ⟨ob, zs, z⟩
        · exact un.keep c o e z (fun y => nomatch y) (fun y => nomatch y)
        · obtain ⟨g1, _⟩ := hok c _ z
          obtain ⟨g2, _⟩ := hok' c _ (un.frzs c ob _ z)
          rw [e] at g1
          cases g1
          exact g2
  cases hk : K.lookup a with
  | some o =>
    have g := inK a o hk
    rw [obj] at g
    cases g
    exact main (fun _ => none) (fun _ => .inl rfl) (.inr ⟨_, us.toArray, _, hk, rfl, rfl, rfl, by rw [List.size_toArray, hints.length]; exact short, by simpa using rv⟩) (fun c u z => nomatch z) (fun c z => absurd rfl z) fun z => absurd rfl z
  | none =>
    let ob : Obj := { cls := .type "list", data := .seq us.toArray }
    have at_ : ∀ {c : Addr} {u : HO}, (if c = a then some (HO.frz ob (.lst (ns.map V.int))) else none) = some u → c = a ∧ u = .frz ob (.lst (ns.map V.int)) := fun {c u} z => by
      split at z
      · rename_i h
        exact ⟨h, (Option.some.inj z).symm⟩
      · cases z
    refine main (fun c => if c = a then some (.frz ob (.lst (ns.map V.int))) else none) (fun c => ?_) (.inl (.inr ⟨ob, if_pos rfl⟩)) (fun c u z => ?_) (fun c z => ?_) fun _ => hk
    · show (if c = a then _ else none) = none ∨ ∃ o zs, (if c = a then _ else none) = _
      split
      · exact .inr ⟨_, _, rfl⟩
      · exact .inl rfl
    · obtain ⟨rfl, rfl⟩ := at_ z
      exact ⟨obj, by rw [List.length_map]; exact short, us, _, rv, obj⟩
    · cases q : (if c = a then some (HO.frz ob (.lst (ns.map V.int))) else none) with
      | none => exact absurd q z
      | some u => exact (at_ q).1
theorem walk_go {l : PySem.W.OpenLaw} {n k : Nat} {q : Program} {loose : List Str} {XP : (Str → Option Value) → Heap → Prop} {YP : World → Heap → Prop} {d : DefRec} {x : Str}
    (most : l.most = some n) (small : n ≤ sizeLine) (nodef : d.params.defaults = []) (room : Room k callerA)
    (facts : ∀ (w : World) (mg : Str → Option Value) (f : Addr) (h : Heap), YP w h → h.Ns mainGlobals mg → mg d.name = some (.ref f) →
      ∃ (K : PySem.W.Frag) (fd : FuncData) (sp : Sp), K.In h ∧ (∀ (s : Shared) (u : Value), BindsTo s fd ⟨[u], []⟩ [(x, u)]) ∧
        (∀ (M : Hp) (a : Addr) (ns : List Int), ns.length ≤ n → Only M → SqL K M a (ns.map V.int) → sp [.ref a] M (fun v _ => v = .bl true) fun _ _ _ => False) ∧
        ∀ b0 : Heap, K.In b0 → b0.Ns mainGlobals mg → FnG l.prog w K mg b0 k f fd [x] sp) :
    PySem.W.WalkO q loose XP YP l.row.toRowW d [] (fun f vs => PySem.call f vs) := by
  apply Att.attach_call most nodef
  intro w s0 s1 mg mb f o pm cd doc a us ns G Y ho hd code named obj hints len gens
  obtain ⟨K, fd, sp, inK, binds, keeps, fg⟩ := facts w mg f _ Y G.T.g named
  exact law_go inK G.T.g G.T.b G.T.builtins G.T.nolimit gens obj hints (Nat.le_trans len small) room fg binds fun M o sq => keeps M a ns len o sq
end DL
set_option Elab.async false
set_option linter.all false
set_option maxRecDepth 100000
set_option maxHeartbeats 2000000
namespace DL
open PySem PySem.Spec L2
open PyProof.Rows (envOfC)
/-! ### a op b op c -/
def dChain (g1 g2 : D → D → Option Sl) (fa fb fc : Fe) : Fe := fun ρ => match fa ρ with
  | none => none
  | some (ra, ρ1) => match fb ρ1 with
    | none => none
    | some (rb, ρ2) => match rd ρ2 ra, rd ρ2 rb with
      | some d, some e => match g1 d e with
        | some (.fz (.bl true)) => (match fc ρ2 with
          | none => none
          | some (rc, ρ3) => match rd ρ3 rb, rd ρ3 rc with
            | some e, some w => match g2 e w with
              | some z => some (z, ρ3)
              | none => none
            | _, _ => none)
        | some (.fz (.bl false)) => some (.fz (.bl false), ρ2)
        | _ => none
      | _, _ => none
section
variable {X : Cx} {a b c : Expr} {fa fb fc : Fe} {pos : Pos}
theorem tChain_of {K : PySem.W.Frag} {r r' : R2} {g1 g2 : D → D → Option Sl} (h1 : Op2 K r g1) (h2 : Op2 K r' g2) : ∀ σ H Q, teOf K (dChain g1 g2 fa fb fc) σ H Q → tChain r r' (teOf K fa) (teOf K fb) (teOf K fc) σ H Q := fun σ H Q ⟨G, ρ, z, ρ', gd, e, k⟩ => by
  unfold dChain at e
  split at e
  · cases e
  rename_i ra ρ1 q1
  split at e
  · cases e
  rename_i rb ρ2 q2
  split at e
  · rename_i da db q3 q4
    split at e
    · rename_i q5
      split at e
      · cases e
      rename_i rc ρ3 q6
      split at e
      · rename_i eb ec q7 q8
        split at e
        · rename_i y q9
          cases e
          refine ⟨G, ρ, ra, ρ1, gd, q1, fun va G1 H1 A1 R1 => ⟨G1, ρ1, rb, _, A1.good, q2, fun vb G2 H2 A2 R2 => ?_⟩⟩
          refine h1 A2.good (rd_ok A2.good (R1.aft A2) q3) (rd_ok A2.good R2 q4) q5 fun v G3 H3 A3 R3 => ⟨true, Rp.of_bl R3, iteT ⟨G3, ρ2, rc, _, A3.good, q6, fun vc G4 H4 A4 R4 => ?_⟩⟩
          refine h2 A4.good (rd_ok A4.good ((R2.aft A3).aft A4) q7) (rd_ok A4.good R4 q8) q9 fun v G5 H5 A5 R5 => ?_
          exact k v G5 H5 ((((A1.trans A2).trans A3).trans A4).trans A5) (R5.start (((A1.trans A2).trans A3).trans A4).dom)
        · cases e
      · cases e
    · rename_i q5
      cases e
      refine ⟨G, ρ, ra, ρ1, gd, q1, fun va G1 H1 A1 R1 => ⟨G1, ρ1, rb, _, A1.good, q2, fun vb G2 H2 A2 R2 => ?_⟩⟩
      refine h1 A2.good (rd_ok A2.good (R1.aft A2) q3) (rd_ok A2.good R2 q4) q5 fun v G3 H3 A3 R3 => ⟨false, Rp.of_bl R3, iteF ?_⟩
      exact k _ G3 H3 ((A1.trans A2).trans A3) (.bl false)
    · cases e
  · cases e
theorem de_chain {op op' : CmpOp} {r r' : R2} {g1 g2 : D → D → Option Sl} (o1 : OpR X (compareOp op) r) (h1 : Op2 X.K r g1) (o2 : OpR X (compareOp op') r') (h2 : Op2 X.K r' g2) (ha : DE X a fa) (hb : DE X b fb) (hc : DE X c fc)
    (hm : lastMarks [op, op'] [b, c] = false := by with_unfolding_all rfl) : DE X (.Compare a [op, op'] [b, c] pos) (dChain g1 g2 fa fb fc) := PE.weak (pe_chain o1 o2 ha hb hc hm) (tChain_of h1 h2)
theorem dt_chain {op op' : CmpOp} {r r' : R2} {g1 g2 : D → D → Option Sl} (o1 : OpR X (compareOp op) r) (h1 : Op2 X.K r g1) (o2 : OpR X (compareOp op') r') (h2 : Op2 X.K r' g2) (ha : DE X a fa) (hb : DE X b fb) (hc : DE X c fc)
    (hm : lastMarks [op, op'] [b, c] = false := by with_unfolding_all rfl) : DT X (.Compare a [op, op'] [b, c] pos) (dTst (dChain g1 g2 fa fb fc)) :=
  PT.weak (pt_chain o1 o2 ha hb hc hm) fun σ H Q q => tTest_mono (tChain_of h1 h2) (tTest_of σ H Q q)
end
/-! ### repr of a list or a tuple -/
def rRepr (K : PySem.W.Frag) (xs : List V) (H : Hp) (Q : VK) : Prop := ∃ a d, xs = [.ref a] ∧ Dp K H (.ref a) d ∧ d.showable = true ∧ d.hasDict = false ∧ d.depth ≤ 64 ∧ d.shown.length ≤ sizeLine ∧ Q (.str d.shown) H
theorem call_reprG {X : Cx} (gd : X.A.guards = some []) (hu : X.A.units + 65 < cLine) : CallR X (.builtin "repr") (rRepr X.K) := by
  intro pins s σ H xs us Q I r h
  obtain ⟨a, d, rfl, hd, h1, h2, h3, h4, q⟩ := h
  obtain ⟨u, rfl, hv⟩ := vals1 r
  cases hv
  obtain ⟨as, rr⟩ := Dp.reads I d _ _ hd rfl
  exact repr_of_reads' rr h1 (PyData.noDict_hsm h2) gd (by omega) (fun b o e => e) (fun h' u tk hk => ⟨.str d.shown, H, I.un (Un.kept hk) (I.hok.kept hk), ⟨_, rfl⟩, q⟩) h4
def D.rok (d : D) : Bool := d.plain && d.py.showable && !d.py.hasDict && decide (d.py.depth ≤ 64) && decide (d.py.shown.length ≤ 16000000)
def gRepr : List D → Option Sl
  | [.lst xs] => if (D.lst xs).rok = true then some (.fz (.str (D.lst xs).py.shown)) else none
  | [.tup xs] => if (D.tup xs).rok = true then some (.fz (.str (D.tup xs).py.shown)) else none
  | _ => none
theorem rok_parts {d : D} (h : d.rok = true) : d.plain = true ∧ d.py.showable = true ∧ d.py.hasDict = false ∧ d.py.depth ≤ 64 ∧ d.py.shown.length ≤ sizeLine := by
  unfold D.rok at h
  simp only [Bool.and_eq_true, Bool.not_eq_true', decide_eq_true_eq] at h
  obtain ⟨⟨⟨⟨h1, h2⟩, h3⟩, h4⟩, h5⟩ := h
  exact ⟨h1, h2, h3, h4, by rw [sizeLine_eq]; omega⟩
theorem c_repr {K : PySem.W.Frag} : Cl K (rRepr K) gRepr := fun {G H σ ρ xs ds z Q} g hx he k => by
  unfold gRepr at he
  split at he
  · split at he
    · rename_i hl
      cases he
      obtain ⟨v, rfl, h⟩ := hx.one
      obtain ⟨h1, h2, h3, h4, h5⟩ := rok_parts hl
      have hr := h.rp g.ex
      obtain ⟨p, vs, rfl, _⟩ := h.lst g.ex
      exact ⟨p, _, rfl, Rp.dp _ _ h1 hr, h2, h3, h4, h5, give g (.str _) k⟩
    · cases he
  · split at he
    · rename_i hl
      cases he
      obtain ⟨v, rfl, h⟩ := hx.one
      obtain ⟨h1, h2, h3, h4, h5⟩ := rok_parts hl
      have hr := h.rp g.ex
      obtain ⟨p, vs, rfl, _⟩ := h.tup g.ex
      exact ⟨p, _, rfl, Rp.dp _ _ h1 hr, h2, h3, h4, h5, give g (.str _) k⟩
    · cases he
  · cases he
end DL
set_option Elab.async false
set_option linter.all false
set_option maxRecDepth 100000
set_option maxHeartbeats 2000000
namespace DL
open PySem PySem.Spec L2
open PyProof.Rows (envOfC)
/-! ### a comprehension of two walks -/
theorem wipe_wipe {σ : L2.St} {vs vs1 : List Nat} (h : ∀ i ∈ vs1, i ∈ vs) : wipe (wipe σ vs1) vs = wipe σ vs :=
  wipe_eq (by rw [wipe_length, wipe_length]) fun i hi => by rw [wipe_out σ i vs hi, wipe_out σ i vs1 fun z => hi (h i z)]
theorem it_gen {J : It} {n : Nat} {G0 : Hp → Prop} {Y : Nat → Hp → V → Hp → Prop} (w : Walk J n G0 Y) {B : V → Hp → (Hp → Prop) → Prop} {H0 : Hp} {Qd : Hp → Prop} (Pv : Nat → Hp → Prop) (h0 : Pv 0 H0) (hG : ∀ i H, i ≤ n → Pv i H → G0 H)
    (hs : ∀ i x H H', i < n → Pv i H → Y i H x H' → B x H' (Pv (i + 1))) (hd : ∀ H, Pv n H → Qd H) :
    ∃ W : Nat → Nat → Hp → Prop, (∃ m, W 0 m H0) ∧ ∀ i m H, W i m H → (J.stop i H ∧ Qd H) ∨ (J.go i H ∧ ∃ Nx : Hp → Prop, (∀ H', Nx H' → ∃ m', m' < m ∧ W (i + 1) m' H') ∧ ∀ x H', J.yld i H x H' → B x H' Nx) := by
  refine ⟨fun i m H => i + m = n ∧ Pv i H, ⟨n, Nat.zero_add n, h0⟩, fun i m H z => ?_⟩
  obtain ⟨hm, p⟩ := z
  have q := hG i H (by omega) p
  rcases Nat.lt_or_ge i n with hlt | hge
  · exact .inr ⟨w.goes i H hlt q, Pv (i + 1), fun H' p' => ⟨m - 1, by omega, by omega, p'⟩, fun x H' y => hs i x H H' hlt p (w.yields i H x H' hlt q y)⟩
  · obtain rfl : i = n := by omega
    exact .inl ⟨w.stops H q, hd H p⟩
/-- the inner walk, from what the list at Dl has already -/
theorem lc_inner {K : PySem.W.Frag} {h : Fg} {ft : Ft} {fe : Fe} {vs S : List Nat} (hS : ∀ i ∈ S, i ∈ vs) {J : It} {xs : List D} {G1 H1 : Hp} {σ : L2.St} {ρ1 ρ2 : En} {Gb Hb : Hp} {σb : L2.St} {ρb : En} {accV0 : List V} {acc0 accE : List D} {Dl : Addr} (g1 : Good K G1 H1 σ ρ1) (hb : Hb Dl = none) (A0 : Aft K Gb Hb σb ρb G1 H1 (wipe σ vs) (wipeD ρ1 vs)) (hr : ∀ i m, i ∈ vs → ρb[i]? ≠ some (.rf m))
    (W : ItOk K G1 J xs) (d0 : G1 Dl = none) (n0 : ¬ OwnA σ ρ1 Dl) (h0 : H1 Dl = some (.lst accV0)) (r0 : Rps K G1 accV0 acc0) (e0 : lcL h ft fe vs xs acc0 (wipeD ρ1 vs) = some (accE, ρ2)) {Qd : Hp → Prop}
    (k : ∀ G2 H2 accV, Aft K Gb Hb σb ρb G2 H2 (wipe σ vs) ρ2 → Ex G1 G2 → G2 Dl = none → ¬ OwnA (wipe σ vs) ρ2 Dl → H2 Dl = some (.lst accV) → Rps K G2 accV accE → Qd H2) :
    ∃ W1 : Nat → Nat → Hp → Prop, (∃ m, W1 0 m H1) ∧ ∀ i m H, W1 i m H → (J.stop i H ∧ Qd H) ∨ (J.go i H ∧ ∃ Nx : Hp → Prop, (∀ H', Nx H' → ∃ m', m' < m ∧ W1 (i + 1) m' H') ∧
      ∀ x H', J.yld i H x H' → tgOf K h S x (wipe σ vs) H' fun σ3 H5 => wipe σ3 vs = wipe σ vs ∧ ttOf K ft σ3 H5 fun b H6 => if b = true then tdOf K (dFr fe) σ3 H6 fun y H7 => ∃ acc, H7 Dl = some (.lst acc) ∧ acc.length < sizeLine ∧ Nx (upd H7 Dl (.lst (acc ++ [y]))) else Nx H6) := by
  have nw0 : ¬ OwnA (wipe σ vs) (wipeD ρ1 vs) Dl := fun ⟨j, oj⟩ => n0 ⟨j, (own_wipe g1.len oj).2⟩
  refine it_gen W (B := fun x H' Nx => tgOf K h S x (wipe σ vs) H' fun σ3 H5 => wipe σ3 vs = wipe σ vs ∧ ttOf K ft σ3 H5 fun b H6 => if b = true then tdOf K (dFr fe) σ3 H6 fun y H7 => ∃ acc, H7 Dl = some (.lst acc) ∧ acc.length < sizeLine ∧ Nx (upd H7 Dl (.lst (acc ++ [y]))) else Nx H6)
    (fun i H2 => ∃ G2 ρ3 accV acc, Aft K Gb Hb σb ρb G2 H2 (wipe σ vs) ρ3 ∧ Ex G1 G2 ∧ G2 Dl = none ∧ ¬ OwnA (wipe σ vs) ρ3 Dl ∧ H2 Dl = some (.lst accV) ∧ Rps K G2 accV acc ∧ lcL h ft fe vs (xs.drop i) acc ρ3 = some (accE, ρ2))
    ⟨G1, wipeD ρ1 vs, accV0, acc0, A0, Same.refl _, d0, nw0, h0, r0, by rw [List.drop_zero]; exact e0⟩
    (fun i H2 _ ⟨G2, ρ3, accV, acc, A2, x2, _⟩ => x2.trans A2.good.ex) ?_ ?_
  · rintro i x H2 H3 hi ⟨G2, ρ3, accV, acc, A2, x2, d2, n2, h2, r2, e2⟩ ⟨d, hd, y⟩
    obtain ⟨G3, A3, R3⟩ := ItemY.take A2.good x2 y
    have hlt : i < xs.length := hi
    have hdr : xs.drop i = d :: xs.drop (i + 1) := by
      rw [List.drop_eq_getElem_cons hlt]
      rw [List.getElem?_eq_getElem hlt] at hd
      cases hd
      rfl
    rw [hdr] at e2
    unfold lcL at e2
    cases q3 : h d ρ3 with
    | none => simp only [q3] at e2; cases e2
    | some ρ4 =>
      simp only [q3] at e2
      obtain ⟨k3a, k3b⟩ := A3.keep Dl _ h2 n2
      refine ⟨G3, ρ3, d, ρ4, A3.good, R3, q3, fun σ4 A4 l4 s4 => ⟨wipe_eq l4 fun j hj => s4 j fun z => hj (hS j z), ?_⟩⟩
      obtain ⟨k4a, k4b⟩ := A4.keep Dl _ k3a (A3.nown h2 n2)
      have n4 := A4.nown k3a (A3.nown h2 n2)
      have ew : wipe σ4 vs = wipe σ vs := wipe_eq l4 fun j hj => s4 j fun z => hj (hS j z)
      cases q4 : ft ρ4 with
      | none => simp only [q4] at e2; cases e2
      | some y =>
        obtain ⟨b, ρ5⟩ := y
        simp only [q4] at e2
        refine ⟨G3, ρ4, b, ρ5, A4.good, q4, fun G5 H5 A5 => ?_⟩
        obtain ⟨k5a, k5b⟩ := A5.keep Dl _ k4a n4
        have n5 := A5.nown k4a n4
        have A25 := ((A2.trans A3).trans A4).trans A5
        cases b with
        | false =>
          refine iteF ⟨G5, wipeD ρ5 vs, accV, acc, ?_, (x2.trans A3.ex).trans A5.ex, k5b (k4b (k3b d2 trivial) trivial) trivial, ?_, k5a, r2.up (A3.ex.trans A5.ex), e2⟩
          · have := A25.wipe (vs := vs) hr
            rw [ew] at this
            exact this
          · rw [← ew]
            exact fun ⟨j, oj⟩ => n5 ⟨j, (own_wipe A5.good.len oj).2⟩
        | true =>
          cases q5 : dFr fe ρ5 with
          | none => simp only [q5] at e2; cases e2
          | some y =>
            obtain ⟨y, ρ6⟩ := y
            simp only [q5] at e2
            split at e2
            · rename_i hsz
              refine iteT ⟨G5, ρ5, y, ρ6, A5.good, q5, fun v G6 H6 A6 R6 => ?_⟩
              obtain ⟨k6a, k6b⟩ := A6.keep Dl _ k5a n5
              have n6 := A6.nown k5a n5
              have A26 := A25.trans A6
              have x6 : Ex G2 G6 := (A3.ex.trans A5.ex).trans A6.ex
              have Aw : Aft K Gb Hb σb ρb G6 H6 (wipe σ vs) (wipeD ρ6 vs) := by
                have := A26.wipe (vs := vs) hr
                rw [ew] at this
                exact this
              have nw : ¬ OwnA (wipe σ vs) (wipeD ρ6 vs) Dl := by
                rw [← ew]
                exact fun ⟨j, oj⟩ => n6 ⟨j, (own_wipe A6.good.len oj).2⟩
              have g6 : G6 Dl = none := k6b (k5b (k4b (k3b d2 trivial) trivial) trivial) trivial
              refine ⟨accV, k6a, by rw [r2.len]; exact sz16 hsz, G6, wipeD ρ6 vs, accV ++ [v], acc ++ [y], Aw.mut hb g6 nw, x2.trans x6, g6, nw, upd_same, (r2.up x6).app (.one R6), e2⟩
            · cases e2
  · rintro H2 ⟨G2, ρ3, accV, acc, A2, x2, d2, n2, h2, r2, e2⟩
    rw [List.drop_eq_nil_of_le (Nat.le_refl _)] at e2
    cases e2
    exact k G2 H2 accV A2 x2 d2 n2 h2 r2
def lc2L (h : Fg) (ft : Ft) (fi1 : Fi) (h1 : Fg) (ft1 : Ft) (fe : Fe) (vs vs1 : List Nat) : List D → List D → En → Option (List D × En)
  | [], acc, ρ => some (acc, ρ)
  | d :: ds, acc, ρ => match h d ρ with
    | none => none
    | some ρ1 => match ft ρ1 with
      | none => none
      | some (false, ρ2) => lc2L h ft fi1 h1 ft1 fe vs vs1 ds acc (wipeD ρ2 vs)
      | some (true, ρ2) => match fi1 ρ2 with
        | none => none
        | some (ys, ρ3) => match lcL h1 ft1 fe vs1 ys acc (wipeD ρ3 vs1) with
          | none => none
          | some (acc', ρ4) => lc2L h ft fi1 h1 ft1 fe vs vs1 ds acc' (wipeD ρ4 vs)
def dLc2 (fi : Fi) (h : Fg) (ft : Ft) (fi1 : Fi) (h1 : Fg) (ft1 : Ft) (fe : Fe) (vs vs1 : List Nat) : Fe := fun ρ => match fi ρ with
  | some (xs, ρ1) => match lc2L h ft fi1 h1 ft1 fe vs vs1 xs [] (wipeD ρ1 vs) with
    | some (acc, ρ2) => some (.ow (.l acc), restD ρ1 ρ2 vs)
    | none => none
  | none => none
theorem tLc2_of {K : PySem.W.Frag} {fi fi1 : Fi} {h h1 : Fg} {ft ft1 : Ft} {fe : Fe} {vs S vs1 S1 : List Nat} (hS : ∀ i ∈ S, i ∈ vs) (hS1 : ∀ i ∈ S1, i ∈ vs1) (hv : ∀ i ∈ vs1, i ∈ vs) :
    ∀ σ H Q, teOf K (dLc2 fi h ft fi1 h1 ft1 fe vs vs1) σ H Q → tLc2 (tiOf K fi) (tgOf K h S) (ttOf K ft) (tiOf K fi1) (tgOf K h1 S1) (ttOf K ft1) (tdOf K (dFr fe)) vs vs1 σ H Q := fun σ H Q ⟨G, ρ, z, ρ', g, e, k⟩ => by
  unfold dLc2 at e
  cases q : fi ρ with
  | none => rw [q] at e; cases e
  | some y =>
    obtain ⟨xs, ρ1⟩ := y
    rw [q] at e
    cases q2 : lc2L h ft fi1 h1 ft1 fe vs vs1 xs [] (wipeD ρ1 vs) with
    | none => simp only [q2] at e; cases e
    | some y =>
      obtain ⟨accE, ρ2⟩ := y
      simp only [q2] at e
      cases e
      refine ⟨G, ρ, xs, ρ1, g, q, fun J G1 H1 A1 W Dl hD => ?_⟩
      have gw : Good K G1 H1 (wipe σ vs) (wipeD ρ1 vs) := A1.good.wipe
      have hr : ∀ i m, i ∈ vs → (wipeD ρ1 vs)[i]? ≠ some (.rf m) := fun i m hi z => by
        have l : i < ρ1.length := by
          have := (List.getElem?_eq_some_iff.mp z).1
          rw [wipeD_len] at this
          exact this
        rw [wipeD_in ρ1 i l vs hi] at z
        cases z
      refine it_gen W (B := fun x H' Nx => tgOf K h S x (wipe σ vs) H' fun σ2 H2 => wipe σ2 vs = wipe σ vs ∧ ttOf K ft σ2 H2 fun b H3 =>
          if b = true then tiOf K fi1 σ2 H3 fun J1 H4 => ∃ W1 : Nat → Nat → Hp → Prop, (∃ m, W1 0 m H4) ∧ ∀ j k H, W1 j k H →
            (J1.stop j H ∧ Nx H) ∨ (J1.go j H ∧ ∃ Nx1 : Hp → Prop, (∀ H', Nx1 H' → ∃ k', k' < k ∧ W1 (j + 1) k' H') ∧ ∀ x H', J1.yld j H x H' → tgOf K h1 S1 x (wipe σ2 vs1) H' fun σ3 H5 => wipe σ3 vs1 = wipe σ2 vs1 ∧ ttOf K ft1 σ3 H5 fun b H6 =>
              if b = true then tdOf K (dFr fe) σ3 H6 fun y H7 => ∃ acc, H7 Dl = some (.lst acc) ∧ acc.length < sizeLine ∧ Nx1 (upd H7 Dl (.lst (acc ++ [y]))) else Nx1 H6)
          else Nx H3)
        (fun i H2 => ∃ G2 ρ3 accV acc, Aft K G1 H1 (wipe σ vs) (wipeD ρ1 vs) G2 H2 (wipe σ vs) ρ3 ∧ Ex G1 G2 ∧ G2 Dl = none ∧ ¬ OwnA (wipe σ vs) ρ3 Dl ∧ H2 Dl = some (.lst accV) ∧ Rps K G2 accV acc ∧ lc2L h ft fi1 h1 ft1 fe vs vs1 (xs.drop i) acc ρ3 = some (accE, ρ2))
        ⟨G1, wipeD ρ1 vs, [], [], (Aft.refl gw).mut hD (gw.ex.free hD) (gw.notOwn hD), Same.refl _, gw.ex.free hD, gw.notOwn hD, upd_same, .nil, by rw [List.drop_zero]; exact q2⟩
        (fun i H2 _ ⟨G2, ρ3, accV, acc, A2, x2, _⟩ => x2.trans A2.good.ex) ?_ ?_
      · rintro i x H2 H3 hi ⟨G2, ρ3, accV, acc, A2, x2, d2, n2, h2, r2, e2⟩ ⟨d, hd, y⟩
        obtain ⟨G3, A3, R3⟩ := ItemY.take A2.good x2 y
        have hlt : i < xs.length := hi
        have hdr : xs.drop i = d :: xs.drop (i + 1) := by
          rw [List.drop_eq_getElem_cons hlt]
          rw [List.getElem?_eq_getElem hlt] at hd
          cases hd
          rfl
        rw [hdr] at e2
        unfold lc2L at e2
        cases q3 : h d ρ3 with
        | none => simp only [q3] at e2; cases e2
        | some ρ4 =>
          simp only [q3] at e2
          obtain ⟨k3a, k3b⟩ := A3.keep Dl _ h2 n2
          refine ⟨G3, ρ3, d, ρ4, A3.good, R3, q3, fun σ4 A4 l4 s4 => ⟨wipe_eq l4 fun j hj => s4 j fun z => hj (hS j z), ?_⟩⟩
          obtain ⟨k4a, k4b⟩ := A4.keep Dl _ k3a (A3.nown h2 n2)
          have n4 := A4.nown k3a (A3.nown h2 n2)
          have ew : wipe σ4 vs = wipe σ vs := wipe_eq l4 fun j hj => s4 j fun z => hj (hS j z)
          cases q4 : ft ρ4 with
          | none => simp only [q4] at e2; cases e2
          | some y =>
            obtain ⟨b, ρ5⟩ := y
            simp only [q4] at e2
            refine ⟨G3, ρ4, b, ρ5, A4.good, q4, fun G5 H5 A5 => ?_⟩
            obtain ⟨k5a, k5b⟩ := A5.keep Dl _ k4a n4
            have n5 := A5.nown k4a n4
            have A25 := ((A2.trans A3).trans A4).trans A5
            cases b with
            | false =>
              refine iteF ⟨G5, wipeD ρ5 vs, accV, acc, ?_, (x2.trans A3.ex).trans A5.ex, k5b (k4b (k3b d2 trivial) trivial) trivial, ?_, k5a, r2.up (A3.ex.trans A5.ex), e2⟩
              · have := A25.wipe (vs := vs) hr
                rw [ew] at this
                exact this
              · rw [← ew]
                exact fun ⟨j, oj⟩ => n5 ⟨j, (own_wipe A5.good.len oj).2⟩
            | true =>
              cases q5 : fi1 ρ5 with
              | none => simp only [q5] at e2; cases e2
              | some y =>
                obtain ⟨ys, ρ6⟩ := y
                simp only [q5] at e2
                cases q6 : lcL h1 ft1 fe vs1 ys acc (wipeD ρ6 vs1) with
                | none => simp only [q6] at e2; cases e2
                | some y =>
                  obtain ⟨acc', ρ7⟩ := y
                  simp only [q6] at e2
                  refine iteT ⟨G5, ρ5, ys, ρ6, A5.good, q5, fun J1 G6 H6 A6 W1 => ?_⟩
                  obtain ⟨k6a, k6b⟩ := A6.keep Dl _ k5a n5
                  have n6 := A6.nown k5a n5
                  have A26 := A25.trans A6
                  have x6 : Ex G2 G6 := (A3.ex.trans A5.ex).trans A6.ex
                  have g6 : G6 Dl = none := k6b (k5b (k4b (k3b d2 trivial) trivial) trivial) trivial
                  have hr1 : ∀ i m, i ∈ vs1 → (wipeD ρ1 vs)[i]? ≠ some (.rf m) := fun i m hi => hr i m (hv i hi)
                  refine lc_inner hS1 A6.good hD (A26.wipe hr1) hr1 W1 g6 n6 k6a (r2.up x6) q6 fun G7 H7 accV7 A7 x7 d7 n7 h7 r7 => ?_
                  have ew2 : wipe (wipe σ4 vs1) vs = wipe σ vs := (wipe_wipe hv).trans ew
                  refine ⟨G7, wipeD ρ7 vs, accV7, acc', ?_, (x2.trans x6).trans x7, d7, ?_, h7, r7, e2⟩
                  · have := A7.wipe (vs := vs) hr
                    rw [ew2] at this
                    exact this
                  · rw [← ew2]
                    exact fun ⟨j, oj⟩ => n7 ⟨j, (own_wipe A7.good.len oj).2⟩
      · rintro H2 ⟨G2, ρ3, accV, acc, A2, x2, d2, n2, h2, r2, e2⟩
        rw [List.drop_eq_nil_of_le (Nat.le_refl _)] at e2
        cases e2
        have Ar := Aft.rest A1.good A2
        refine k (.ref Dl) G2 H2 (A1.trans Ar) ⟨Dl, _, rfl, A1.back hD, d2, h2, .l r2, fun ⟨j, oj1, oj2⟩ => ?_⟩
        have l2 : ρ2.length = ρ1.length := by
          have := A2.good.len
          rw [wipe_length] at this
          rw [← this]
          exact A1.good.len
        by_cases hv : j ∈ vs
        · have l : j < ρ2.length := by
            rw [l2, ← A1.good.len]
            exact (List.getElem?_eq_some_iff.mp oj1).1
          rw [restD_in ρ1 ρ2 j l l2.symm vs hv] at oj2
          obtain ⟨_, u, e⟩ := Own.there A1.good ⟨oj1, oj2⟩
          rw [hD] at e
          cases e
        · rw [restD_out ρ1 ρ2 j vs hv] at oj2
          exact n2 ⟨j, by rw [wipe_out σ j vs hv]; exact oj1, oj2⟩
section
variable {X : Cx} {elt tg iter tg1 iter1 : Expr} {ifs ifs1 : List Expr} {scope : Scope} {own : List (Str × Nat)} {vs1 : List Nat} {pos spos : Pos} {fi fi1 : Fi} {h h1 : Fg} {S S1 : List Nat} {ft ft1 : Ft} {fe : Fe}
theorem de_lc2 (hc : X.calm = true) (hN : X.N.Nodup) (hi : DI X tg iter fi) (ok : BlkOk X.N X.env.scope scope own)
    (hg : ∀ (s : Shared) (H : Hp) (C : Addr) (cl : List (Str × Addr)) (fp : List Addr), DG (X.blk s H scope (compEnvC scope cl C X.env) fp) tg h S) (ht : ∀ (s : Shared) (H : Hp) (C : Addr) (cl : List (Str × Addr)) (fp : List Addr), DTs (X.blk s H scope (compEnvC scope cl C X.env) fp) ifs ft)
    (hi1 : ∀ (s : Shared) (H : Hp) (C : Addr) (cl : List (Str × Addr)) (fp : List Addr), DI (X.blk s H scope (compEnvC scope cl C X.env) fp) tg1 iter1 fi1)
    (hg1 : ∀ (s : Shared) (H : Hp) (C : Addr) (cl : List (Str × Addr)) (fp : List Addr), DG (X.blk s H scope (compEnvC scope cl C X.env) fp) tg1 h1 S1) (ht1 : ∀ (s : Shared) (H : Hp) (C : Addr) (cl : List (Str × Addr)) (fp : List Addr), DTs (X.blk s H scope (compEnvC scope cl C X.env) fp) ifs1 ft1)
    (he : ∀ (s : Shared) (H : Hp) (C : Addr) (cl : List (Str × Addr)) (fp : List Addr), DE (X.blk s H scope (compEnvC scope cl C X.env) fp) elt fe)
    (hv : ∀ i ∈ vs1, i ∈ own.map (·.2) := by decide) (hS : ∀ i ∈ S, i ∈ own.map (·.2) := by decide) (hS1 : ∀ i ∈ S1, i ∈ vs1 := by decide) (hs : ∀ x, foldedSetIterable iter X.env x = pure x := by intro _; rfl) (hs1 : ∀ env x, foldedSetIterable iter1 env x = pure x := by intro _ _; rfl) :
    DE X (.ListComp elt [⟨tg, iter, ifs, 0⟩, ⟨tg1, iter1, ifs1, 0⟩] scope pos) (dLc2 fi h ft fi1 h1 ft1 fe (own.map (·.2)) vs1) :=
  PE.weak (pe_lc2 hc hN hi ok hv hg ht hi1 hg1 ht1 (fun s H C cl fp => de_fr (he s H C cl fp)) hs hs1) (tLc2_of hS hS1 hv)
theorem ds_setLc2 {E : XK} {i : Nat} {y : Str} {py : Pos} (hc : X.calm = true) (hN : X.N.Nodup) (hy : X.N[i]? = some y) (hyl : X.env.scope.names.lookup y = some .local)
    (hsw : swapsWith (.ListComp elt [⟨tg, iter, ifs, 0⟩, ⟨tg1, iter1, ifs1, 0⟩] scope pos) (some (.Name y py)) spos.line X.env = pure true) (hi : DI X tg iter fi) (ok : BlkOk X.N X.env.scope scope own)
    (hg : ∀ (s : Shared) (H : Hp) (C : Addr) (cl : List (Str × Addr)) (fp : List Addr), DG (X.blk s H scope (compEnvC scope cl C X.env) fp) tg h S) (ht : ∀ (s : Shared) (H : Hp) (C : Addr) (cl : List (Str × Addr)) (fp : List Addr), DTs (X.blk s H scope (compEnvC scope cl C X.env) fp) ifs ft)
    (hi1 : ∀ (s : Shared) (H : Hp) (C : Addr) (cl : List (Str × Addr)) (fp : List Addr), DI (X.blk s H scope (compEnvC scope cl C X.env) fp) tg1 iter1 fi1)
    (hg1 : ∀ (s : Shared) (H : Hp) (C : Addr) (cl : List (Str × Addr)) (fp : List Addr), DG (X.blk s H scope (compEnvC scope cl C X.env) fp) tg1 h1 S1) (ht1 : ∀ (s : Shared) (H : Hp) (C : Addr) (cl : List (Str × Addr)) (fp : List Addr), DTs (X.blk s H scope (compEnvC scope cl C X.env) fp) ifs1 ft1)
    (he : ∀ (s : Shared) (H : Hp) (C : Addr) (cl : List (Str × Addr)) (fp : List Addr), DE (X.blk s H scope (compEnvC scope cl C X.env) fp) elt fe)
    (hv : ∀ i ∈ vs1, i ∈ own.map (·.2) := by decide) (hS : ∀ i ∈ S, i ∈ own.map (·.2) := by decide) (hS1 : ∀ i ∈ S1, i ∈ vs1 := by decide) (hs : ∀ x, foldedSetIterable iter X.env x = pure x := by intro _; rfl) (hs1 : ∀ env x, foldedSetIterable iter1 env x = pure x := by intro _ _; rfl) :
    DS X E (.Assign [.Name y py] (.ListComp elt [⟨tg, iter, ifs, 0⟩, ⟨tg1, iter1, ifs1, 0⟩] scope pos) spos) (bAsg i (dLc2 fi h ft fi1 h1 ft1 fe (own.map (·.2)) vs1)) :=
  PS.weak (ps_setLc2 hc hN hy hyl hsw hi ok hv hg ht hi1 hg1 ht1 (fun s H C cl fp => de_fr (he s H C cl fp)) hs hs1) fun D σ H q => tLc2_of hS hS1 hv σ H _ (tAsg_of D σ H q)
end
end DL
set_option Elab.async false
set_option linter.all false
set_option maxRecDepth 100000
set_option maxHeartbeats 2000000
namespace DL
open PySem PySem.Spec L2
open PyProof.Rows (envOfC)
/-! ### list(range(..)) -/
theorem rps_map {α : Type} {K : PySem.W.Frag} {G : Hp} {f : α → V} {g : α → D} (h : ∀ x, Rp K G (f x) (g x)) : ∀ l : List α, Rps K G (l.map f) (l.map g)
  | [] => .nil
  | x :: l => .cons (h x) (rps_map h l)
theorem rps_rg {K : PySem.W.Frag} {G : Hp} (a b : Int) : Rps K G (rgV a b) (rangeD a (b - a).toNat) := rps_map (fun _ => .int _) _
def dLRg1 (f : Fe) : Fe := fun ρ => match f ρ with
  | some (.fz (.int n), ρ1) => if n ≤ 1000000 ∧ -1000000 ≤ n then some (.ow (.l (rangeD 0 n.toNat)), ρ1) else none
  | _ => none
def dLRg2 (fa fb : Fe) : Fe := fun ρ => match fa ρ with
  | some (.fz (.int m), ρ1) => (match fb ρ1 with
    | some (.fz (.int n), ρ2) => if n ≤ 1000000 ∧ -1000000 ≤ n ∧ m ≤ 1000000 ∧ -1000000 ≤ m then some (.ow (.l (rangeD m (n - m).toNat)), ρ2) else none
    | _ => none)
  | _ => none
section
variable {X : Cx} {a b : Expr} {fa fb : Fe} {p p2 pos pos2 : Pos}
theorem de_lrg1 (hc : X.calm = true) (hg : Gl X "list") (hm : X.mg "list" = none) (hg2 : Gl X "range") (hm2 : X.mg "range" = none) (ha : DE X a fa)
    (na : starEach [a] X.env = (false, eval a X.env) :: starEach [] X.env := by rfl) (nb : starEach [.Call (.Name "range" p2) [a] [] pos2] X.env = (false, eval (.Call (.Name "range" p2) [a] [] pos2) X.env) :: starEach [] X.env := by rfl) :
    DE X (.Call (.Name "list" p) [.Call (.Name "range" p2) [a] [] pos2] [] pos) (dLRg1 fa) := PE.weak (pe_listRg hc hg hm (prg_1 hg2 hm2 ha na) nb) fun σ H Q ⟨G, ρ, z, ρ', g, e, k⟩ => by
  unfold dLRg1 at e
  split at e
  · rename_i n ρ1 q
    split at e
    · rename_i hb
      cases e
      refine ⟨G, ρ, _, _, g, q, fun v G1 H1 A1 R1 => ⟨n, Rp.of_int R1, ⟨by omega, by omega, by omega, by omega, by omega⟩, ?_⟩⟩
      have r := rps_rg (K := X.K) (G := G1) 0 n
      rw [Int.sub_zero] at r
      exact giveL A1.good r fun v G' H' A R => k v G' H' (A1.trans A) (R.start A1.dom)
    · cases e
  · cases e
theorem de_lrg2 (hc : X.calm = true) (hg : Gl X "list") (hm : X.mg "list" = none) (hg2 : Gl X "range") (hm2 : X.mg "range" = none) (ha : DE X a fa) (hb : DE X b fb)
    (na : starEach [a, b] X.env = (false, eval a X.env) :: starEach [b] X.env := by rfl) (nb : starEach [b] X.env = (false, eval b X.env) :: starEach [] X.env := by rfl) (hp : (backTo pos2 (starEach [b] X.env)).any (·.1) = false := by rfl)
    (nc : starEach [.Call (.Name "range" p2) [a, b] [] pos2] X.env = (false, eval (.Call (.Name "range" p2) [a, b] [] pos2) X.env) :: starEach [] X.env := by rfl) :
    DE X (.Call (.Name "list" p) [.Call (.Name "range" p2) [a, b] [] pos2] [] pos) (dLRg2 fa fb) := PE.weak (pe_listRg hc hg hm (prg_2 hg2 hm2 ha hb na nb hp) nc) fun σ H Q ⟨G, ρ, z, ρ', g, e, k⟩ => by
  unfold dLRg2 at e
  split at e
  · rename_i m ρ1 q
    split at e
    · rename_i n ρ2 q2
      split at e
      · rename_i hb
        cases e
        refine ⟨G, ρ, _, _, g, q, fun v G1 H1 A1 R1 => ⟨G1, _, _, _, A1.good, q2, fun u G2 H2 A2 R2 => ⟨m, n, Rp.of_int R1, Rp.of_int R2, ⟨by omega, by omega, by omega, by omega, by omega⟩, ?_⟩⟩⟩
        exact giveL A2.good (rps_rg m n) fun v G' H' A R => k v G' H' ((A1.trans A2).trans A) (R.start (A1.trans A2).dom)
      · cases e
    · cases e
  · cases e
end
/-! ### dicts that a name holds -/
def kOf : D → Option Key
  | .int i => some (.inl i)
  | .str s => some (.inr s)
  | _ => none
def ksOf : List D → Option (List Key)
  | [] => some []
  | d :: ds => match kOf d, ksOf ds with
    | some k, some ks => some (k :: ks)
    | _, _ => none
section
variable {κ : Type} [DecidableEq κ]
def valD (xs : List (κ × D)) (k : κ) : Option D := (xs.find? fun p => decide (p.1 = k)).map (·.2)
def putD (xs : List (κ × D)) (k : κ) (v : D) : List (κ × D) := if (xs.any fun p => decide (p.1 = k)) = true then xs.map (fun p => if p.1 = k then (p.1, v) else p) else xs ++ [(k, v)]
variable {K : PySem.W.Frag} {G : Hp}
theorem RpKV.val {k : κ} : ∀ {vs : List (κ × V)} {ds : List (κ × D)}, RpKV K G vs ds → ∀ {d : D}, valD ds k = some d → ∃ v, valV vs k = some v ∧ Rp K G v d
  | _, _, .nil, _, e => by cases e
  | _, _, .cons (k := k1) (v := v) (d := d0) (vs := vs) (ds := ds) h t, d, e => by
    unfold valD at e
    unfold valV
    rw [List.find?_cons] at e ⊢
    by_cases c : k1 = k
    · simp only [decide_eq_true c] at e ⊢
      cases e
      exact ⟨v, rfl, h⟩
    · simp only [decide_eq_false c] at e ⊢
      exact RpKV.val t e
theorem RpKV.isSome {k : κ} : ∀ {vs : List (κ × V)} {ds : List (κ × D)}, RpKV K G vs ds → (valV vs k).isSome = (valD ds k).isSome
  | _, _, .nil => rfl
  | _, _, .cons (k := k1) (v := v) (d := d0) (vs := vs) (ds := ds) h t => by
    unfold valD valV
    rw [List.find?_cons, List.find?_cons]
    by_cases c : k1 = k
    · simp only [decide_eq_true c]
      rfl
    · simp only [decide_eq_false c]
      exact RpKV.isSome t
theorem RpKV.len : ∀ {vs : List (κ × V)} {ds : List (κ × D)}, RpKV K G vs ds → vs.length = ds.length
  | _, _, .nil => rfl
  | _, _, .cons h t => congrArg (· + 1) (RpKV.len t)
theorem RpKV.app : ∀ {vs : List (κ × V)} {ds : List (κ × D)} {vs' : List (κ × V)} {ds' : List (κ × D)}, RpKV K G vs ds → RpKV K G vs' ds' → RpKV K G (vs ++ vs') (ds ++ ds')
  | _, _, _, _, .nil, h => h
  | _, _, _, _, .cons h t, h' => .cons h (RpKV.app t h')
theorem RpKV.any {k : κ} : ∀ {vs : List (κ × V)} {ds : List (κ × D)}, RpKV K G vs ds → (vs.any fun p => decide (p.1 = k)) = (ds.any fun p => decide (p.1 = k))
  | _, _, .nil => rfl
  | _, _, .cons h t => by rw [List.any_cons, List.any_cons, RpKV.any t]
theorem RpKV.store {k : κ} {v : V} {d : D} (r : Rp K G v d) : ∀ {vs : List (κ × V)} {ds : List (κ × D)}, RpKV K G vs ds → RpKV K G (vs.map fun p => if p.1 = k then (p.1, v) else p) (ds.map fun p => if p.1 = k then (p.1, d) else p)
  | _, _, .nil => .nil
  | _, _, .cons (k := k1) h t => by
    rw [List.map_cons, List.map_cons]
    by_cases c : k1 = k
    · simp only [c, ↓reduceIte]
      exact .cons r (RpKV.store r t)
    · simp only [c, ↓reduceIte]
      exact .cons h (RpKV.store r t)
theorem RpKV.put {k : κ} {v : V} {d : D} {vs : List (κ × V)} {ds : List (κ × D)} (h : RpKV K G vs ds) (r : Rp K G v d) : RpKV K G (putK vs k v) (putD ds k d) := by
  unfold putK putD
  rw [RpKV.any h]
  split
  · exact RpKV.store r h
  · exact RpKV.app h (.cons r .nil)
end
theorem kOf_rp {K : PySem.W.Frag} {G : Hp} {v : V} {d : D} {k : Key} (r : Rp K G v d) (e : kOf d = some k) : v = kV k := by
  cases r <;> cases e <;> rfl
theorem kOf_vw {K : PySem.W.Frag} {G H : Hp} {v : V} {d : D} {k : Key} (r : Vw K G H v d) (e : kOf d = some k) : v = kV k := by
  unfold kOf at e
  split at e
  · cases e; exact r.int
  · cases e; exact r.str
  · cases e
theorem ksOf_rps {K : PySem.W.Frag} {G : Hp} : ∀ {vs : List V} {ds : List D} {ks : List Key}, Rps K G vs ds → ksOf ds = some ks → vs = ks.map kV
  | _, _, _, .nil, e => by cases e; rfl
  | _, _, _, .cons (d := d) (ds := ds) r t, e => by
    unfold ksOf at e
    split at e
    · rename_i k ks q1 q2
      cases e
      rw [kOf_rp r q1, ksOf_rps t q2]
      rfl
    · cases e
def heldM : Option Sl → Option Mu
  | some (.ow m) => some m
  | some (.rf m) => some m
  | _ => none
theorem heldM_ok {o : Option Sl} {m : Mu} (h : heldM o = some m) : ∃ r, o = some r ∧ Held r m := by
  unfold heldM at h
  split at h
  · cases h; exact ⟨_, rfl, .ow _⟩
  · cases h; exact ⟨_, rfl, .rf _⟩
  · cases h
theorem held_atM {K : PySem.W.Frag} {G H : Hp} {σ : L2.St} {ρ : En} {i : Nat} {m : Mu} (g : Good K G H σ ρ) (h : heldM ρ[i]? = some m) : ∃ p o, σ[i]? = some (some (.ref p)) ∧ H p = some o ∧ MuOk K G o m ∧
    (∀ o' m', MuOk K G o' m' → Aft K G H σ ρ G (upd H p o') σ (putS ρ i m')) := by
  obtain ⟨r, e, hh⟩ := heldM_ok h
  have hi : i < σ.length := by
    rw [g.len]
    exact (List.getElem?_eq_some_iff.mp e).1
  have hs : σ[i]? = some σ[i] := List.getElem?_eq_getElem hi
  have s := g.sl i _ _ hs e
  have s' : ∃ p o, σ[i] = some (.ref p) ∧ G p = none ∧ H p = some o ∧ MuOk K G o m := by
    cases hh with
    | ow => exact s
    | rf => exact s
  obtain ⟨p, o, e1, e2, e3, e4⟩ := s'
  rw [e1] at hs
  refine ⟨p, o, hs, e3, e4, fun o' m' r' => ?_⟩
  have := Aft.change (o := o') (m' := m') g hs e hh r'
  unfold putS
  rw [e]
  exact this
/-- what stands at a key -/
def mGet : Mu → D → Option (Option D)
  | .k xs, d => (kOf d).map fun k => valD xs k
  | .t xs, .tup ds => (ksOf ds).map fun k => valD xs k
  | _, _ => none
def mPut : Mu → D → D → Option Mu
  | .k xs, d, v => if xs.length ≤ lim then (kOf d).map fun k => .k (putD xs k v) else none
  | .t xs, .tup ds, v => if xs.length ≤ lim then (ksOf ds).map fun k => .t (putD xs k v) else none
  | _, _, _ => none
theorem mGet_ok {K : PySem.W.Frag} {G H : Hp} {p : Addr} {o : HO} {m : Mu} {y : V} {d : D} {r : Option D} (ex : Ex G H) (hp : H p = some o) (ok : MuOk K G o m) (hy : Vw K G H y d) (e : mGet m d = some r) :
    ∃ w, DGet H p y w ∧ w.isSome = r.isSome ∧ ∀ v, r = some v → ∃ u, w = some u ∧ Rp K G u v := by
  unfold mGet at e
  cases ok with
  | l h => cases e
  | @k vs xs h =>
    cases q : kOf d with
    | none => simp only [q, Option.map_none] at e; cases e
    | some k =>
      simp only [q, Option.map_some] at e
      cases e
      have ey : y = kV k := kOf_vw hy q
      exact ⟨_, .inl ⟨vs, k, .inl hp, ey, rfl⟩, RpKV.isSome h, fun v e => RpKV.val h e⟩
  | @t vs xs h =>
    cases d with
    | tup ds =>
      cases q : ksOf ds with
      | none => simp only [q, Option.map_none] at e; cases e
      | some k =>
        simp only [q, Option.map_some] at e
        cases e
        obtain ⟨b, us, rfl, h0, h1, h2⟩ := hy.tup ex
        exact ⟨_, .inr ⟨vs, k, b, .inl hp, rfl, by rw [h1, ksOf_rps h2 q], rfl⟩, RpKV.isSome h, fun v e => RpKV.val h e⟩
    | _ => cases e
theorem mPut_ok {K : PySem.W.Frag} {G H : Hp} {p : Addr} {o : HO} {m m' : Mu} {y u : V} {d v : D} (ex : Ex G H) (hp : H p = some o) (ok : MuOk K G o m) (hy : Vw K G H y d) (hu : Rp K G u v) (e : mPut m d v = some m') :
    ∃ o', DPut H p y u (upd H p o') ∧ MuOk K G o' m' := by
  cases ok with
  | l h => cases e
  | @k vs xs h =>
    replace e : (if xs.length ≤ lim then (kOf d).map fun k => Mu.k (putD xs k v) else none) = some m' := e
    split at e
    · rename_i hl
      cases q : kOf d with
      | none => simp only [q, Option.map_none] at e; cases e
      | some k =>
        simp only [q, Option.map_some] at e
        cases e
        exact ⟨_, .inl ⟨vs, k, hp, kOf_vw hy q, by rw [RpKV.len h, sizeLine_eq]; unfold lim at hl; omega, rfl⟩, .k (RpKV.put h hu)⟩
    · cases e
  | @t vs xs h =>
    cases d with
    | tup ds =>
      replace e : (if xs.length ≤ lim then (ksOf ds).map fun k => Mu.t (putD xs k v) else none) = some m' := e
      split at e
      · rename_i hl
        cases q : ksOf ds with
        | none => simp only [q, Option.map_none] at e; cases e
        | some k =>
          simp only [q, Option.map_some] at e
          cases e
          obtain ⟨b, us, rfl, h0, h1, h2⟩ := hy.tup ex
          exact ⟨_, .inr ⟨vs, k, b, hp, rfl, by rw [h1, ksOf_rps h2 q], by rw [RpKV.len h, sizeLine_eq]; unfold lim at hl; omega, rfl⟩, .t (RpKV.put h hu)⟩
      · cases e
    | _ => cases e
def dDGet (i : Nat) (fk : Fe) : Fe := fun ρ => match heldM ρ[i]? with
  | none => none
  | some _ => match fk ρ with
    | none => none
    | some (rk, ρ1) => match rd ρ1 rk, heldM ρ1[i]? with
      | some d, some m => match mGet m d with
        | some (some v) => some (.fz v, ρ1)
        | _ => none
      | _, _ => none
def dDIn (neg : Bool) (i : Nat) (fk : Fe) : Fe := fun ρ => match fk ρ with
    | none => none
    | some (rk, ρ1) => match rd ρ1 rk, heldM ρ1[i]? with
      | some d, some m => match mGet m d with
        | some o => some (.fz (.bl (neg ^^ o.isSome)), ρ1)
        | _ => none
      | _, _ => none
def bDPut (i : Nat) (fk fv : Fe) : Fs := fun ρ => match dFr fv ρ with
  | none => none
  | some (v, ρ1) => match heldM ρ1[i]? with
    | none => none
    | some _ => match fk ρ1 with
      | none => none
      | some (rk, ρ2) => match rd ρ2 rk, heldM ρ2[i]? with
        | some d, some m => match mPut m d v with
          | some m' => some (.nx, putS ρ2 i m')
          | none => none
        | _, _ => none
section
variable {X : Cx} {o i e : Expr} {fk fv : Fe} {n : Nat} {pos pos' : Pos}
theorem de_dget (hu : X.A.units + 65 < cLine) (ho : PE X o (tVar n)) (hi : DE X i fk) (hs : NoSl i := by intro _ _; rfl) : DE X (.Subscript o i pos) (dDGet n fk) := PE.weak (pe_dget (by omega) ho hi hs) fun σ H Q ⟨G, ρ, z, ρ', g, e, k⟩ => by
  unfold dDGet at e
  split at e
  · cases e
  rename_i m0 q0
  split at e
  · cases e
  rename_i rk ρ1 q1
  split at e
  · rename_i d m q2 q3
    split at e
    · rename_i v q4
      cases e
      obtain ⟨p, o, e1, e2, e3, _⟩ := held_atM g q0
      refine ⟨.ref p, e1, G, ρ, rk, _, g, q1, fun y G1 H1 A1 R1 => ?_⟩
      obtain ⟨p', o', e4, e5, e6, _⟩ := held_atM A1.good q3
      rw [e1] at e4
      cases e4
      obtain ⟨w, dg, _, hv⟩ := mGet_ok A1.good.ex e5 e6 (rd_ok A1.good R1 q2) q4
      obtain ⟨u, rfl, ru⟩ := hv v rfl
      exact ⟨p, u, rfl, dg, k u G1 H1 A1 ru⟩
    · cases e
  · cases e
theorem dDIn_of {K : PySem.W.Frag} {neg : Bool} : ∀ σ H Q, teOf K (dDIn neg n fk) σ H Q → (teOf K fk) σ H fun y H1 => tVar n σ H1 fun x H2 => ∃ a o, x = .ref a ∧ DGet H2 a y o ∧ Q (.bl (neg ^^ o.isSome)) H2 := fun σ H Q ⟨G, ρ, z, ρ', g, e, k⟩ => by
  unfold dDIn at e
  split at e
  · cases e
  rename_i rk ρ1 q1
  split at e
  · rename_i d m q2 q3
    split at e
    · rename_i r q4
      cases e
      refine ⟨G, ρ, rk, _, g, q1, fun y G1 H1 A1 R1 => ?_⟩
      obtain ⟨p, o, e1, e2, e3, _⟩ := held_atM A1.good q3
      obtain ⟨w, dg, hs, _⟩ := mGet_ok A1.good.ex e2 e3 (rd_ok A1.good R1 q2) q4
      refine ⟨.ref p, e1, p, w, rfl, dg, ?_⟩
      rw [hs]
      exact k _ G1 H1 A1 (.bl _)
    · cases e
  · cases e
theorem dc_in (hu : X.A.units + 65 < cLine) (hi : DE X i fk) (ho : PE X o (tVar n)) : PC X .In i o (teOf X.K (dDIn false n fk)) :=
  ⟨fun pins s σ H Q I h => (pc_din (by omega) hi ho).run pins s σ H Q I (by simpa [tDIn, Bool.false_xor] using dDIn_of σ H Q h)⟩
theorem dc_notin (hu : X.A.units + 65 < cLine) (hi : DE X i fk) (ho : PE X o (tVar n)) : PC X .NotIn i o (teOf X.K (dDIn true n fk)) :=
  ⟨fun pins s σ H Q I h => (pc_dnotin (by omega) hi ho).run pins s σ H Q I (by simpa [tDNotIn, Bool.true_xor] using dDIn_of σ H Q h)⟩
theorem de_din (hu : X.A.units + 65 < cLine) (hi : DE X i fk) (ho : PE X o (tVar n)) (hm : behindInMarks .In o = false := by rfl) : DE X (.Compare i [.In] [o] pos) (dDIn false n fk) := pe_cmp (dc_in hu hi ho) hm
theorem de_dnotin (hu : X.A.units + 65 < cLine) (hi : DE X i fk) (ho : PE X o (tVar n)) (hm : behindInMarks .NotIn o = false := by rfl) : DE X (.Compare i [.NotIn] [o] pos) (dDIn true n fk) := pe_cmp (dc_notin hu hi ho) hm
theorem dt_din (hu : X.A.units + 65 < cLine) (hi : DE X i fk) (ho : PE X o (tVar n)) (hm : behindInMarks .In o = false := by rfl) : DT X (.Compare i [.In] [o] pos) (dTst (dDIn false n fk)) := PT.weak (pt_cmp (dc_in hu hi ho) hm) fun σ H Q q => tTest_of σ H Q q
theorem dt_dnotin (hu : X.A.units + 65 < cLine) (hi : DE X i fk) (ho : PE X o (tVar n)) (hm : behindInMarks .NotIn o = false := by rfl) : DT X (.Compare i [.NotIn] [o] pos) (dTst (dDIn true n fk)) := PT.weak (pt_cmp (dc_notin hu hi ho) hm) fun σ H Q q => tTest_of σ H Q q
theorem ds_dput {E : XK} (hu : X.A.units + 65 < cLine) (ho : PE X o (tVar n)) (hi : DE X i fk) (hv : DE X e fv) (hs : swapsWith e (some (.Subscript o i pos')) pos.line X.env = pure false := by rfl) :
    DS X E (.Assign [.Subscript o i pos'] e pos) (bDPut n fk fv) := PS.weak (ps_dput (by omega) ho hi (de_fr hv) hs) fun D σ H ⟨G, ρ, fl, ρ', g, e, k⟩ => by
  unfold bDPut at e
  split at e
  · cases e
  rename_i v ρ1 q1
  split at e
  · cases e
  rename_i m0 q0
  split at e
  · cases e
  rename_i rk ρ2 q2
  split at e
  · rename_i d m q3 q4
    split at e
    · rename_i m' q5
      cases e
      refine ⟨G, ρ, v, ρ1, g, q1, fun u G1 H1 A1 R1 => ?_⟩
      obtain ⟨p, o, e1, e2, e3, _⟩ := held_atM A1.good q0
      refine ⟨.ref p, e1, G1, ρ1, rk, ρ2, A1.good, q2, fun y G2 H2 A2 R2 => ?_⟩
      obtain ⟨p', o', e4, e5, e6, ch⟩ := held_atM A2.good q4
      rw [e1] at e4
      cases e4
      obtain ⟨o2, dp, ok⟩ := mPut_ok A2.good.ex e5 e6 (rd_ok A2.good R2 q3) (R1.up A2.ex) q5
      exact ⟨p, _, rfl, dp, k σ G2 _ ((A1.trans A2).trans (ch o2 m' ok))⟩
    · cases e
  · cases e
end
def eDict (m : Mu) : Fe := fun ρ => some (.ow m, ρ)
theorem giveM {K : PySem.W.Frag} {G H : Hp} {σ : L2.St} {ρ : En} {Q : VK} {o : HO} {m : Mu} (g : Good K G H σ ρ) (r : MuOk K G o m) (k : ∀ v G' H', Aft K G H σ ρ G' H' σ ρ → ROk K H G' H' σ ρ v (.ow m) → Q v H') : ∀ p, H p = none → Q (.ref p) (upd H p o) := fun p hp => by
  have gp : G p = none := g.ex.free hp
  exact k (.ref p) G _ ((Aft.refl g).mut hp gp (g.notOwn hp)) ⟨p, _, rfl, hp, gp, upd_same, r, g.notOwn hp⟩
theorem de_dnewK {X : Cx} {pos : Pos} : DE X (.Dict [] [] pos) (eDict (.k [])) := PE.weak pe_dnewK fun σ H Q ⟨G, ρ, z, ρ', g, e, k⟩ => by
  cases e
  exact giveM g (.k .nil) k
theorem de_dnewT {X : Cx} {pos : Pos} : DE X (.Dict [] [] pos) (eDict (.t [])) := PE.weak pe_dnewT fun σ H Q ⟨G, ρ, z, ρ', g, e, k⟩ => by
  cases e
  exact giveM g (.t .nil) k
end DL
set_option Elab.async false
set_option linter.all false
set_option maxRecDepth 100000
set_option maxHeartbeats 2000000
namespace DL
open PySem PySem.Spec L2
open PyProof.Rows (envOfC)
/-! ### a written dict of ints -/
def mergeD (kvs more : List (Key × D)) : List (Key × D) := more.foldl (fun acc kv => putD acc kv.1 kv.2) kvs
theorem RpKV.merge {K : PySem.W.Frag} {G : Hp} : ∀ {vs : List (Key × V)} {ds : List (Key × D)}, RpKV K G vs ds → ∀ {vs0 : List (Key × V)} {ds0 : List (Key × D)}, RpKV K G vs0 ds0 → RpKV K G (mergeK vs0 vs) (mergeD ds0 ds)
  | _, _, .nil, _, _, h0 => h0
  | _, _, .cons h t, _, _, h0 => RpKV.merge t (RpKV.put h0 h)
theorem tPairs_c {σ : L2.St} {H : Hp} : ∀ (kvs : List (Key × Int)) {Q : List (V × V) → Hp → Prop}, Q (kvs.map fun p => (kV p.1, V.int p.2)) H → tPairs (kvs.map fun p => (tC (kV p.1), tC (.int p.2))) σ H Q
  | [], _, h => h
  | p :: kvs, Q, h => tPairs_c kvs (Q := fun ps H3 => Q ((kV p.1, V.int p.2) :: ps) H3) h
theorem rpkv_c {K : PySem.W.Frag} {G : Hp} : ∀ kvs : List (Key × Int), RpKV K G (kvs.map fun p => (p.1, V.int p.2)) (kvs.map fun p => (p.1, D.int p.2))
  | [] => .nil
  | p :: kvs => .cons (.int _) (rpkv_c kvs)
theorem de_dlit {X : Cx} {pos : Pos} {keys : List (Option Expr)} {values : List Expr} (kvs : List (Key × Int)) (h : PPs X pos keys values (kvs.map fun p => (tC (kV p.1), tC (.int p.2)))) (hn : kvs.length ≤ 15 := by decide)
    (hall : keys.all (·.isSome) = true := by rfl) (hl : keys.length = values.length := by rfl) (h0 : keys ≠ [] := by exact List.cons_ne_nil _ _) (h15 : keys.length ≤ 15 := by decide +kernel) :
    DE X (.Dict keys values pos) (eDict (.k (mergeD [] (kvs.map fun p => (p.1, .int p.2))))) := PE.weak (pe_disp h hall hl h0 h15) fun σ H Q ⟨G, ρ, z, ρ', g, e, k⟩ => by
  cases e
  intro p hp
  refine tPairs_c kvs ⟨upd_same, kvs.map fun p => (p.1, V.int p.2), by rw [List.map_map]; rfl, by rw [List.length_map]; exact hn, ?_⟩
  rw [upd_upd]
  exact giveM g (.k (RpKV.merge (rpkv_c kvs) .nil)) k p hp
/-! ### a, b = c, d -/
def bPar (i j : Nat) (fa : Fa) : Fs := fun ρ => match fa ρ with
  | some ([.fz d, .fz e], ρ1) => if notRf ρ1 i = true ∧ notRf ρ1 j = true then some (.nx, (ρ1.set i (.fz d)).set j (.fz e)) else none
  | _ => none
theorem ds_par {X : Cx} {E : XK} {i j : Nat} {x y : Str} {a b : Expr} {fa : Fa} {px py pt pos : Pos} {kt k2 pt2} (hc : X.calm = true) (hN : X.N.Nodup) (ha : DA X [a, b] fa) (hi : X.N[i]? = some x := by rfl) (hj : X.N[j]? = some y := by rfl) (hij : i ≠ j := by decide)
    (hx : X.env.scope.names.lookup x = some .local := by rfl) (hy : X.env.scope.names.lookup y = some .local := by rfl)
    (hw : swappedStores [.Tuple [.Name x px, .Name y py] kt pt] (.Tuple [a, b] k2 pt2) X.env = pure (some [x, y]) := by rfl)
    (hs : swapsWithSole [.Tuple [.Name x px, .Name y py] kt pt] (.Tuple [a, b] k2 pt2) pos.line X.env = pure false := by rfl) :
    DS X E (.Assign [.Tuple [.Name x px, .Name y py] kt pt] (.Tuple [a, b] k2 pt2) pos) (bPar i j fa) := PS.weak (ps_par hc hN hi hj hij hx hy ha hw hs) fun D σ H ⟨G, ρ, fl, ρ', g, e, k⟩ => by
  unfold bPar at e
  split at e
  · rename_i d1 d2 ρ1 q
    split at e
    · rename_i nr
      cases e
      refine ⟨G, ρ, _, ρ1, g, q, fun vs G1 H1 A1 R1 => ?_⟩
      obtain ⟨v, w, rfl, r1, r2⟩ : ∃ v w, vs = [v, w] ∧ Rp X.K G1 v d1 ∧ Rp X.K G1 w d2 := by
        cases R1 with
        | cons r1 t => cases t with
          | cons r2 t => cases t; exact ⟨_, _, rfl, r1, r2⟩
      refine ⟨v, w, rfl, k _ G1 H1 ?_⟩
      have A2 := A1.store (i := i) (s := some v) (r := .fz d1) ⟨v, rfl, r1⟩ (fun p h1 h2 => by rcases h2 with ⟨m, h2⟩ | ⟨m, h2⟩ <;> cases h2) nr.1
      refine A2.store (s := some w) (r := .fz d2) ⟨w, rfl, r2⟩ (fun p h1 h2 => by rcases h2 with ⟨m, h2⟩ | ⟨m, h2⟩ <;> cases h2) ?_
      have h2 := nr.2
      unfold notRf at h2 ⊢
      rw [List.getElem?_set_ne (by omega)]
      exact h2
    · cases e
  · cases e
/-! ### the least and the greatest of a list of ints -/
def leastI (n : Int) : List Int → Int
  | [] => n
  | m :: ms => leastI (if m < n then m else n) ms
theorem leastI_le : ∀ (ms : List Int) (n : Int), leastI n ms ≤ n ∧ ∀ m ∈ ms, leastI n ms ≤ m
  | [], n => ⟨Int.le_refl n, fun m hm => by cases hm⟩
  | m :: ms, n => by
    obtain ⟨h1, h2⟩ := leastI_le ms (if m < n then m else n)
    refine ⟨?_, fun k hk => ?_⟩
    · show leastI _ ms ≤ n
      split at h1 <;> rename_i c <;> simp only [c, ↓reduceIte] <;> omega
    · rcases List.mem_cons.mp hk with rfl | hk
      · show leastI _ ms ≤ _
        split at h1 <;> rename_i c <;> simp only [c, ↓reduceIte] <;> omega
      · exact h2 k hk
theorem leastI_mem : ∀ (ms : List Int) (n : Int), leastI n ms ∈ n :: ms
  | [], n => by simp [leastI]
  | m :: ms, n => by
    have h := leastI_mem ms (if m < n then m else n)
    show leastI (if m < n then m else n) ms ∈ _
    split at h <;> rename_i c <;> simp only [c, ↓reduceIte] at h ⊢
    · exact List.mem_cons_of_mem _ h
    · rcases List.mem_cons.mp h with h | h
      · rw [h]; exact List.mem_cons_self
      · exact List.mem_cons_of_mem _ (List.mem_cons_of_mem _ h)
def mostI (n : Int) (ms : List Int) : Int := -leastI (-n) (ms.map fun m => -m)
theorem mostI_ge (ms : List Int) (n : Int) : n ≤ mostI n ms ∧ ∀ m ∈ ms, m ≤ mostI n ms := by
  obtain ⟨h1, h2⟩ := leastI_le (ms.map fun m => -m) (-n)
  unfold mostI
  refine ⟨by omega, fun m hm => ?_⟩
  have := h2 (-m) (List.mem_map.mpr ⟨m, hm, rfl⟩)
  omega
theorem mostI_mem (ms : List Int) (n : Int) : mostI n ms ∈ n :: ms := by
  have h := leastI_mem (ms.map fun m => -m) (-n)
  unfold mostI
  rcases List.mem_cons.mp h with h | h
  · rw [h, Int.neg_neg]; exact List.mem_cons_self
  · obtain ⟨m, hm, e⟩ := List.mem_map.mp h
    rw [← e, Int.neg_neg]
    exact List.mem_cons_of_mem _ hm
def gMinL : List D → Option Sl
  | [.lst xs] => match intsOf xs with
    | some (n :: ns) => some (.fz (.int (leastI n ns)))
    | _ => none
  | _ => none
def gMaxL : List D → Option Sl
  | [.lst xs] => match intsOf xs with
    | some (n :: ns) => some (.fz (.int (mostI n ns)))
    | _ => none
  | _ => none
theorem c_minL {K : PySem.W.Frag} : Cl K (rMin K) gMinL := fun {G H σ ρ xs ds z Q} g hx he k => by
  unfold gMinL at he
  split at he
  · rename_i ys
    split at he
    · rename_i n ns q
      cases he
      have e := intsOf_eq q
      subst e
      obtain ⟨v, rfl, h⟩ := hx.one
      obtain ⟨p, vs, rfl, h1, h2⟩ := h.lst g.ex
      rw [h2.ints] at h1
      refine ⟨p, n :: ns, rfl, SqL.of h1, Nat.succ_pos _, fun m hm hle => ?_⟩
      obtain ⟨a1, a2⟩ := leastI_le ns n
      have b1 := hle _ (leastI_mem ns n)
      have b2 : leastI n ns ≤ m := by
        rcases List.mem_cons.mp hm with rfl | hm
        · exact a1
        · exact a2 m hm
      have e : m = leastI n ns := by omega
      rw [e]
      exact give g (.int _) k
    · cases he
  · cases he
theorem c_maxL {K : PySem.W.Frag} : Cl K (rMax K) gMaxL := fun {G H σ ρ xs ds z Q} g hx he k => by
  unfold gMaxL at he
  split at he
  · rename_i ys
    split at he
    · rename_i n ns q
      cases he
      have e := intsOf_eq q
      subst e
      obtain ⟨v, rfl, h⟩ := hx.one
      obtain ⟨p, vs, rfl, h1, h2⟩ := h.lst g.ex
      rw [h2.ints] at h1
      refine ⟨p, n :: ns, rfl, SqL.of h1, Nat.succ_pos _, fun m hm hle => ?_⟩
      obtain ⟨a1, a2⟩ := mostI_ge ns n
      have b1 := hle _ (mostI_mem ns n)
      have b2 : m ≤ mostI n ns := by
        rcases List.mem_cons.mp hm with rfl | hm
        · exact a1
        · exact a2 m hm
      have e : m = mostI n ns := by omega
      rw [e]
      exact give g (.int _) k
    · cases he
  · cases he
end DL
set_option Elab.async false
set_option linter.all false
set_option maxRecDepth 100000
set_option maxHeartbeats 2000000
namespace DL
open PySem PySem.Spec L2
open PyProof.Rows (envOfC)
/-! ### xs[::-1] -/
def dRevL (f : Fe) : Fe := fun ρ => match f ρ with
  | none => none
  | some (r, ρ1) => match rd ρ1 r with
    | some (.lst xs) => some (.ow (.l xs.reverse), ρ1)
    | _ => none
theorem de_revL {X : Cx} {e : Expr} {f : Fe} {k : Nat} {p1 p2 p3 pos : Pos} (he : DE X e f) : DE X (.Subscript e (.Slice none none (some (.UnaryOp .USub (.Constant (.int 1) k p1) p2)) p3) pos) (dRevL f) := PE.weak (pe_revL he) fun σ H Q ⟨G, ρ, z, ρ', g, q, kk⟩ => by
  unfold dRevL at q
  split at q
  · cases q
  rename_i r ρ1 q1
  split at q
  · rename_i xs q2
    cases q
    refine ⟨G, ρ, r, _, g, q1, fun v G1 H1 A1 R1 => ?_⟩
    obtain ⟨p, vs, rfl, h1, h2⟩ := (rd_ok A1.good R1 q2).lst A1.good.ex
    exact ⟨p, vs, rfl, SqL.of h1, giveL A1.good (Rps.rev h2) fun v G' H' A R => kk v G' H' (A1.trans A) (R.start A1.dom)⟩
  · cases q
/-! ### a[i], a[j] = x, y -/
def setAt (i : Nat) (fi : Fe) (d : D) : En → Option En := fun ρ => match heldL ρ[i]? with
  | none => none
  | some _ => match fi ρ with
    | some (.fz (.int k), ρ2) => (match heldL ρ2[i]? with
      | none => none
      | some xs => match ixN xs.length k with
        | none => none
        | some j => some (putS ρ2 i (.l (xs.set j d))))
    | _ => none
theorem setAt_of {K : PySem.W.Frag} {G H : Hp} {σ : L2.St} {ρ ρ' : En} {i : Nat} {fi : Fe} {d : D} {v : V} {Q : L2.St → Hp → Prop} (g : Good K G H σ ρ) (r : Rp K G v d) (q : setAt i fi d ρ = some ρ') (k : ∀ G' H', Aft K G H σ ρ G' H' σ ρ' → Q σ H') :
    L2.gSub (tVar i) (teOf K fi) rSetL v σ H Q := by
  unfold setAt at q
  split at q
  · cases q
  rename_i xs0 q0
  split at q
  · rename_i kk ρ2 q1
    split at q
    · cases q
    rename_i xs q2
    split at q
    · cases q
    rename_i j q3
    cases q
    obtain ⟨p, vs0, e1, e2, e3, _⟩ := held_at g q0
    refine ⟨.ref p, e1, G, ρ, _, ρ2, g, q1, fun u G2 H2 A2 R2 => ?_⟩
    obtain ⟨p', vs, e4, e5, e6, A3⟩ := held_at A2.good q2
    rw [e1] at e4
    cases e4
    refine ⟨p, vs, kk, j, rfl, Rp.of_int R2, e5, by rw [e6.len]; exact q3, ?_⟩
    exact k G2 _ (A2.trans (A3 (vs.set j v) (xs.set j d) (e6.set (r.up A2.ex) j)))
  · cases q
def bSet2 (i : Nat) (f1 f2 fv : Fe) : Fs := fun ρ => match dFr fv ρ with
  | some (.tup [d, e], ρ1) => (match setAt i f1 d ρ1 with
    | none => none
    | some ρ2 => match setAt i f2 e ρ2 with
      | none => none
      | some ρ3 => some (.nx, ρ3))
  | _ => none
theorem ds_set2 {X : Cx} {E : XK} {i : Nat} {o o2 i1 i2 e : Expr} {f1 f2 fv : Fe} {s1 s2 pt pos : Pos} {kt : Nat} (hc : X.calm = true) (he : DE X e fv) (ho : PE X o (tVar i)) (ho2 : PE X o2 (tVar i)) (h1 : DE X i1 f1) (h2 : DE X i2 f2)
    (ha : ∀ v, assign (.Subscript o i1 s1) X.env v = (do
      let ov ← holding [v] (eval o X.env)
      let iv ← holding [v, ov] (eval i1 X.env)
      standAt s1
      holding [v, ov, iv] (setItem ov iv v)
      release [v, ov, iv] []) := by intro _; rfl)
    (hb : ∀ v, assign (.Subscript o2 i2 s2) X.env v = (do
      let ov ← holding [v] (eval o2 X.env)
      let iv ← holding [v, ov] (eval i2 X.env)
      standAt s2
      holding [v, ov, iv] (setItem ov iv v)
      release [v, ov, iv] []) := by intro _; rfl)
    (hs : swapsWithSole [.Tuple [.Subscript o i1 s1, .Subscript o2 i2 s2] kt pt] e pos.line X.env = pure false := by rfl) (hw : swappedStores [.Tuple [.Subscript o i1 s1, .Subscript o2 i2 s2] kt pt] e X.env = pure none := by rfl)
    (hl : (assignEach [.Tuple [.Subscript o i1 s1, .Subscript o2 i2 s2] kt pt] X.env).map (·.2) = [assign (.Tuple [.Subscript o i1 s1, .Subscript o2 i2 s2] kt pt) X.env] := by rfl)
    (hn : (assignEach [.Subscript o i1 s1, .Subscript o2 i2 s2] X.env).length = 2 := by rfl) (hst : (assignEach [.Subscript o i1 s1, .Subscript o2 i2 s2] X.env).findIdx? (·.1) = none := by rfl)
    (hc1 : (assignEach [.Subscript o i1 s1, .Subscript o2 i2 s2] X.env).map (·.2) = assign (.Subscript o i1 s1) X.env :: (assignEach [.Subscript o2 i2 s2] X.env).map (·.2) := by rfl)
    (hc2 : (assignEach [.Subscript o2 i2 s2] X.env).map (·.2) = assign (.Subscript o2 i2 s2) X.env :: (assignEach [] X.env).map (·.2) := by rfl) :
    DS X E (.Assign [.Tuple [.Subscript o i1 s1, .Subscript o2 i2 s2] kt pt] e pos) (bSet2 i f1 f2 fv) :=
  PS.weak (ps_asg (de_fr he) (pg_tup hc (pgs_cons (pg_sub ho h1 set_list ha) (pgs_cons (pg_sub ho2 h2 set_list hb) pgs_nil hc2) hc1) hn hst) hs hw hl) fun D σ H ⟨G, ρ, fl, ρ', g, q, k⟩ => by
    unfold bSet2 at q
    split at q
    · rename_i d e' ρ1 q1
      split at q
      · cases q
      rename_i ρ2 q2
      split at q
      · cases q
      rename_i ρ3 q3
      cases q
      refine ⟨G, ρ, _, ρ1, g, q1, fun v G1 H1 A1 R1 => ?_⟩
      cases R1 with
      | @tup a xs _ z1 z2 =>
        cases z2 with
        | cons r1 t => cases t with
          | cons r2 t =>
            cases t
            refine ⟨a, _, rfl, SqT.of (A1.good.ex _ _ z1), rfl, _, _, rfl, setAt_of A1.good r1 q2 fun G2 H2 A2 => ⟨_, _, rfl, setAt_of A2.good (r2.up A2.ex) q3 fun G3 H3 A3 => ⟨rfl, ?_⟩⟩⟩
            exact k σ G3 H3 ((A1.trans A2).trans A3)
    · cases q
end DL
set_option Elab.async false
set_option linter.all false
set_option maxRecDepth 100000
set_option maxHeartbeats 2000000
namespace DL
open PySem PySem.Spec L2
open PyProof.Rows (envOfC)
/-! ### keyword arguments and defaults -/
def aCat (fa fb : Fa) : Fa := fun ρ => match fa ρ with
  | none => none
  | some (rs, ρ1) => match fb ρ1 with
    | none => none
    | some (qs, ρ2) => some (rs ++ qs, ρ2)
def aKon (ds : List D) : Fa := fun ρ => some (ds.map .fz, ρ)
theorem RsOk.len {K : PySem.W.Frag} {H0 G H : Hp} {σ : L2.St} {ρ : En} : ∀ {vs : List V} {rs : List Sl}, RsOk K H0 G H σ ρ vs rs → vs.length = rs.length
  | _, _, .nil => rfl
  | _, _, .cons _ t => congrArg (· + 1) (RsOk.len t)
theorem RsOk.cat {K : PySem.W.Frag} {H0 G H : Hp} {σ : L2.St} {ρ : En} : ∀ {vs : List V} {rs : List Sl} {ws : List V} {qs : List Sl}, RsOk K H0 G H σ ρ vs rs → RsOk K H0 G H σ ρ ws qs → RsOk K H0 G H σ ρ (vs ++ ws) (rs ++ qs)
  | _, _, _, _, .nil, h => h
  | _, _, _, _, .cons a t, h => .cons a (RsOk.cat t h)
theorem RsOk.kon {K : PySem.W.Frag} {H0 G H : Hp} {σ : L2.St} {ρ : En} : ∀ {vs : List V} {ds : List D}, Rps K G vs ds → RsOk K H0 G H σ ρ vs (ds.map .fz)
  | _, _, .nil => .nil
  | _, _, .cons a t => .cons a (RsOk.kon t)
theorem taCat {K : PySem.W.Frag} {fa fb : Fa} {σ : L2.St} {H : Hp} {R : List V → Hp → Prop} : taOf K (aCat fa fb) σ H R → taOf K fa σ H fun vs H1 => taOf K fb σ H1 fun zs H2 => R (vs ++ zs) H2 := fun ⟨G, ρ, rs, ρ', g, q, k⟩ => by
  unfold aCat at q
  split at q
  · cases q
  rename_i r1 ρ1 q1
  split at q
  · cases q
  rename_i r2 ρ2 q2
  cases q
  exact ⟨G, ρ, r1, ρ1, g, q1, fun vs G1 H1 A1 R1 => ⟨G1, ρ1, r2, _, A1.good, q2, fun zs G2 H2 A2 R2 => k _ G2 H2 (A1.trans A2) ((R1.aft (vs := vs) (rs := r1) A2).cat (R2.start A1.dom))⟩⟩
theorem taKon {K : PySem.W.Frag} {fa : Fa} {ds : List D} {dvs : List V} (h : ∀ G, Rps K G dvs ds) {σ : L2.St} {H : Hp} {R : List V → Hp → Prop} (t : taOf K (aCat fa (aKon ds)) σ H R) : taOf K fa σ H fun vs H1 => R (vs ++ dvs) H1 := by
  obtain ⟨G, ρ, rs, ρ1, g, q, k⟩ := taCat t
  refine ⟨G, ρ, rs, ρ1, g, q, fun vs G1 H1 A1 R1 => ?_⟩
  obtain ⟨G2, ρ2, qs, ρ3, g2, q2, k2⟩ := k vs G1 H1 A1 R1
  cases q2
  exact k2 dvs G2 H1 (Aft.refl g2) (RsOk.kon (h G2))
theorem Cnt.cat {fa fb : Fa} {n m : Nat} (h1 : ∀ ρ rs ρ', fa ρ = some (rs, ρ') → rs.length = n) (h2 : ∀ ρ rs ρ', fb ρ = some (rs, ρ') → rs.length = m) : ∀ ρ rs ρ', aCat fa fb ρ = some (rs, ρ') → rs.length = n + m := by
  intro ρ rs ρ' q
  unfold aCat at q
  split at q
  · cases q
  rename_i r1 ρ1 q1
  split at q
  · cases q
  rename_i r2 ρ2 q2
  cases q
  rw [List.length_append, h1 _ _ _ q1, h2 _ _ _ q2]
theorem kon_len (ds : List D) : ∀ ρ rs ρ', aKon ds ρ = some (rs, ρ') → rs.length = ds.length := by
  intro ρ rs ρ' q
  cases q
  rw [List.length_map]
abbrev DK (X : Cx) (kws : List Keyword) (f : Fa) : Prop := PK X kws (taOf X.K f)
theorem PK.weak {X : Cx} {kws : List Keyword} {t t' : TA} (h : PK X kws t) (w : ∀ σ H Q, t' σ H Q → t σ H Q) : PK X kws t' := ⟨fun pos pins s σ H Q I q => h.run pos pins s σ H Q I (w σ H Q q)⟩
section
variable {X : Cx} {f : Fe} {ga : Fa} {e : Expr} {kws : List Keyword} {nm : Option Str} {kpos : Pos}
theorem dk_nil : DK X [] aNil := PK.weak pk_nil fun σ H Q ⟨G, ρ, x, ρ', g, e, k⟩ => by
  cases e
  exact k [] G H (Aft.refl g) .nil
theorem dk_fr (ha : DE X e f) (hr : DK X kws ga) : DK X (⟨nm, e, kpos⟩ :: kws) (aFr f ga) := PK.weak (pk_cons (de_fr ha) hr) fun σ H Q ⟨G, ρ, x, ρ', g, q, k⟩ => by
  unfold aFr at q
  cases q1 : dFr f ρ with
  | none => rw [q1] at q; cases q
  | some y =>
    obtain ⟨r, ρ1⟩ := y
    rw [q1] at q
    cases q2 : ga ρ1 with
    | none => simp only [q2] at q; cases q
    | some y =>
      obtain ⟨rs, ρ2⟩ := y
      simp only [q2] at q
      cases q
      exact ⟨G, ρ, r, ρ1, g, q1, fun v G1 H1 A1 R1 => ⟨G1, ρ1, rs, _, A1.good, q2, fun vs G2 H2 A2 R2 => k (v :: vs) G2 H2 (A1.trans A2) (.cons (Rp.up R1 A2.ex) (R2.start A1.dom))⟩⟩
end
/-- a def whose last parameters have defaults: how it is called without them, and with all of them by keyword -/
structure BindsK (K : PySem.W.Frag) (fd : FuncData) (ps : List Str) (n : Nat) (ks : List Str) (dvs : List V) : Prop where
  less : ∃ ds, Vals dvs ds ∧ Binds K fd ps ds
  all : ∀ (s : Shared) (us ws : List Value), K.In s.heap → us.length = n → ws.length = ks.length → BindsTo s fd ⟨us, ks.zip ws⟩ (ps.zip (us ++ ws))
section
variable {X : Cx} {k n : Nat} {f : Addr} {fd : FuncData} {ps ks : List Str} {sp : Sp} {x : Str} {p pos : Pos} {e : Expr} {es : List Expr} {kws : List Keyword} {t tk : TA} {F : XK} {dvs : List V} {ds : List Value}
theorem pe_callGd (G : FnG X.prog X.w X.K X.mg X.base k f fd ps sp) (gd : X.A.guards = some []) (hr : Room k X.A) (hg : Gl X x) (hm : X.mg x = some (.ref f)) (hk : PySem.W.keepIn X.K (.ref f) = true) (hb : Binds X.K fd ps ds) (hd : Vals dvs ds) (hx : Passes (L2.CX X.prog X.w) X F)
    (ha : PA X (e :: es) t) (hdb : (x == ("__debug__" : Str)) = false := by decide) (he : starEach (e :: es) X.env = (false, eval e X.env) :: starEach es X.env := by rfl) (hpl : (backTo pos (starEach es X.env)).any (·.1) = false := by rfl) :
    PE X (.Call (.Name x p) (e :: es) [] pos) (tCall sp dvs F t) := by
  constructor
  intro pins s σ M R I q
  apply wpAny_Call_Name_kw (ld_glob I hg hm ?_ hdb)
  refine PySem.W.callWith_K (h₀ := X.base) I.ok.mod.kin hk (thn (ha.run pos pins s σ M _ I q) fun us s1 ⟨vs, M1, I1, r, q1⟩ => ⟨I1.kIn, ?_⟩) he hpl
  have r2 : Vals (vs ++ dvs) (us ++ ds) := r.append hd
  have ln : (us ++ ds).length = ps.length := r2.length.symm.trans (G.len _ _ _ _ q1)
  apply wpAny_call
  apply codeAny_mono (G.go X.A X.stack s1 M1 ⟨us, []⟩ (us ++ ds) (vs ++ dvs) R F gd hr I1.env0 (hb s1 us I1.kIn ln) r2 q1)
  intro res s2 h2
  cases res with
  | error er => exact hx pins σ M1 s1 er s2 I1 h2
  | ok fl =>
    cases fl with
    | next => cases h2
    | brk => cases h2
    | cont => cases h2
    | ret u => exact I1.after h2
theorem pe_callGk (G : FnG X.prog X.w X.K X.mg X.base k f fd ps sp) (gd : X.A.guards = some []) (hr : Room k X.A) (hg : Gl X x) (hm : X.mg x = some (.ref f)) (hk : PySem.W.keepIn X.K (.ref f) = true) (hb : BindsK X.K fd ps n ks dvs) (hx : Passes (L2.CX X.prog X.w) X F)
    (ha : PA X (e :: es) t) (hkw : PK X kws tk) (hall : (backToKw pos (keywordEach kws X.env)).all (·.1.isSome) = true := by rfl) (hks : (backToKw pos (keywordEach kws X.env)).filterMap (·.1) = ks := by rfl)
    (hdb : (x == ("__debug__" : Str)) = false := by decide) (he : starEach (e :: es) X.env = (false, eval e X.env) :: starEach es X.env := by rfl)
    (hpl : ((backTo pos (starEach (e :: es) X.env)).any (·.1) || (backToKw pos (keywordEach kws X.env)).any (·.1.isNone)) = false := by rfl) :
    PE X (.Call (.Name x p) (e :: es) kws pos) (fun σ H Q => t σ H fun vs H1 => tk σ H1 fun zs H2 => vs.length = n ∧ zs.length = ks.length ∧ sp (vs ++ zs) H2 Q F) := by
  constructor
  intro pins s σ M R I q
  apply wpAny_Call_Name_kw (ld_glob I hg hm ?_ hdb)
  refine PySem.W.callWith_KW (h₀ := X.base) I.ok.mod.kin hk hall (thn (ha.run pos pins s σ M _ I q) fun us s1 ⟨vs, M1, I1, r, q1⟩ => ?_) hpl he
  refine thn (hkw.run pos pins s1 σ M1 _ I1 q1) fun ws s2 ⟨zs, M2, I2, rz, l1, l2, q2⟩ => ⟨I2.kIn, ?_⟩
  rw [hks]
  have r2 : Vals (vs ++ zs) (us ++ ws) := r.append rz
  apply wpAny_call
  apply codeAny_mono (G.go X.A X.stack s2 M2 ⟨us, ks.zip ws⟩ (us ++ ws) (vs ++ zs) R F gd hr I2.env0 (hb.all s2 us ws I2.kIn (r.length.symm.trans l1) (rz.length.symm.trans l2)) r2 q2)
  intro res s3 h3
  cases res with
  | error er => exact hx pins σ M2 s2 er s3 I2 h3
  | ok fl =>
    cases fl with
    | next => cases h3
    | brk => cases h3
    | cont => cases h3
    | ret u => exact I2.after h3
end
end DL
set_option Elab.async false
set_option linter.all false
set_option maxRecDepth 100000
set_option maxHeartbeats 3200000
namespace DL
open PySem PySem.Spec L2 PyProof.Rows
/-! set(xs), xs a list of ints -/
section
variable {P : Program} {w : World} {A : Around} {E : Value → Shared → Prop} {s : Shared}
abbrev noSet (w : World) : Obj := ⟨.type "set", none, .set #[] 0 (.fresh 0 0 (!w.params.followText "set-order")), #[]⟩
abbrev withSet (w : World) (s : Shared) : Heap := s.heap.push (noSet w)
/-- what is so behind the filling -/
def Filled (w : World) (s : Shared) (ns : List Int) (r : Value) (t : Shared) : Prop :=
  r = .none ∧ ∃ hp tk c, t = { s with heap := hp, toks := tk } ∧ SetR w hp s.heap.objs.size (fun j => decide (j ∈ ns)) c ∧ c ≤ ns.length ∧ ∀ b o, s.heap.get? b = some o → hp.get? b = some o
theorem fill_list {l : Addr} {its : Array Value} (ns : List Int) (hh : A.handled = none) (hl : s.heap.IsList l its) (hi : IntsAre its.toList ns) (hb : ns.length + 1 < scanBound) :
    wpAny (model P w) A (Builtin.«set.__init__» ⟨[.ref s.heap.objs.size, .ref l], []⟩) (fun fl t => fl = .done (.ret .none) ∧ Filled w s ns .none t) E { s with heap := withSet w s } := by
  have sz : its.size = ns.length := (Array.length_toList (xs := its)).symm.trans (IntsAre.length hi)
  obtain ⟨ob, lat, lcls, ln, ldat⟩ := hl
  cases ob with
  | mk lc ld lda lsl =>
    obtain rfl : lc = _ := lcls
    obtain rfl : lda = _ := ldat
    have lin : l < s.heap.objs.size := Heap.lt_size lat
    have lat1 := Heap.get?_push_of_some (noSet w) lat
    have li1 : (withSet w s).IsList l its := ⟨_, lat1, rfl, ln, rfl⟩
    have sat : (withSet w s).get? s.heap.objs.size = some (noSet w) := Heap.get?_push_size _ rfl
    have z1 := F.sub_list_set
    have z2 := F.sub_list_frozenset
    have z3 : (Value.type "list" == Value.type "dict") = false := by decide
    unfold Builtin.«set.__init__» noKeywords Builtin.Frozenset.updateFrom
    generalize zz : pyIter = PI
    wp_walk
    subst zz
    refine wpAny_pyIter_list li1 (wpAny_bind (wpAny_runValue ?_))
    have wide1 : (withSet w s).objs.size = s.heap.objs.size + 1 := Heap.size_push ..
    have apart : l ≠ (withSet w s).objs.size := fun z => Nat.lt_irrefl _ (Nat.lt_trans lin (by rw [z, wide1]; exact Nat.lt_succ_self _))
    have away : s.heap.objs.size ∉ [(withSet w s).objs.size, l] := by
      intro m
      rcases List.mem_cons.mp m with e | m
      · exact Nat.lt_irrefl _ (Nat.lt_of_lt_of_eq (Nat.lt_succ_self _) (wide1.symm.trans e.symm))
      · rcases List.mem_cons.mp m with e | m
        · rw [← e] at lin
          exact Nat.lt_irrefl _ lin
        · cases m
    have num : ∀ (i : Nat) (v : Value), its[i]? = some v → ∃ k t, ns[i]? = some k ∧ v = .int k t := fun i v e => by
      have hi' : i < ns.length := sz ▸ (Array.getElem?_eq_some_iff.mp e).1
      obtain ⟨t, q⟩ := IntsAre.int_at hi i v ((Array.getElem?_toList).trans e)
      refine ⟨ns[i], t, List.getElem?_eq_getElem hi', q.trans ?_⟩
      rw [List.getD_eq_getElem?_getD, List.getElem?_eq_getElem hi'] <;> rfl
    have calm : A.in1.handled = none := by simp [hh]
    refine set_update_ints ((Walks.list calm _ l apart its).toS) s.heap.objs.size away ns sz hb num (its.size - 0) 0 _ (by omega) (Nat.zero_le _)
      ⟨⟨_, Heap.get?_push_size _ rfl, rfl, rfl⟩, li1.push _⟩ ⟨0, Nat.le_refl 0, setR_new_at (Heap.get?_push_of_some _ sat)⟩ ?_
    intro t c mv hc hS
    cases t with
    | mk hp gs dr tk os =>
      obtain rfl : gs = s.gens := mv.gens
      obtain rfl : dr = s.drawn := mv.drawn
      obtain rfl : os = s.os := mv.os
      show wpAny _ _ _ _ _ _
      refine wpAny_pure ?_
      show wpAny _ _ (ret Value.none) _ _ _
      refine wpAny_pure ⟨rfl, rfl, hp, tk, c, rfl, hS, sz ▸ hc, fun b o e => mv.heap b o (fun m => ?_) (Heap.get?_push_of_some _ (Heap.get?_push_of_some _ e))⟩
      have lb := Heap.lt_size e
      rcases List.mem_cons.mp m with e1 | m
      · rw [e1] at lb
        exact Nat.lt_irrefl _ lb
      · rcases List.mem_cons.mp m with e1 | m
        · rw [e1, wide1] at lb
          exact absurd lb (Nat.not_lt_of_le (Nat.le_succ _))
        · cases m
theorem set_of_list {l : Addr} {its : Array Value} (ns : List Int) {Q : Value → Shared → Prop} (hh : A.handled = none) (hl : s.heap.IsList l its) (hi : IntsAre its.toList ns) (hb : ns.length + 1 < scanBound)
    (hQ : ∀ t, Filled w s ns .none t → Q (.ref s.heap.objs.size) t) : wpAny (model P w) A (call (.type "set") [.ref l]) Q E s := by
  obtain ⟨c0, tl, mro⟩ := F.called_set.mro
  have f1 := F.called_set.made
  have f2 := F.called_set.sub
  have f3 := F.called_set.notType
  have f4 := F.called_set.canCreate
  have f5 := F.typeCall_set_1 (.ref l)
  refine wpAny_call (codeAny_of_tree (show wpAny _ _ (callAny (.type "set") _) _ _ _ from wpAny_pure ⟨Code.quiet_builtin _ (by decide +kernel), codeAny_builtin F.entry_type_call ?_⟩))
  rw [Around.under_plain (weight_type_call_type "set" [.ref l] []) rfl]
  repeat (any_goals (first | assumption | wp_step))
  refine codeAny_mono (code_set_led1 (.ref l) (E := E) (Q₁ := fun v t => v = .ref s.heap.objs.size ∧ t = { s with heap := withSet w s }) ⟨rfl, rfl⟩) fun r t hr => ?_
  match r, hr with
  | .error e, hr => exact hr
  | .ok (.ret v), hr =>
    obtain ⟨rfl, rfl⟩ := hr
    have ty : Shared.TypeIs { s with heap := withSet w s } (.ref s.heap.objs.size) "set" := ⟨_, Heap.get?_push_size _ rfl, rfl⟩
    have g1 := F.called_set.init.lookup
    have g2 := F.called_set.init.bind (.ref s.heap.objs.size)
    repeat (any_goals (first | assumption | wp_step))
    refine codeAny_mono (codeAny_call_builtin (R := wants (fun r t => Filled w s ns r t) E) F.called_set.init.plain F.entry_set_init (check_set_init_1 ty (wpAny_mono (fill_list ns (by simp [hh]) hl hi hb) (fun fl t q => ?_) fun e t q => q))) fun r t hr => ?_
    · obtain ⟨rfl, q⟩ := q
      exact q
    · match r, hr with
      | .error e, hr => exact hr
      | .ok (.ret v), hr =>
        obtain rfl : v = .none := hr.1
        repeat (any_goals (first | assumption | wp_step))
        exact hQ _ hr
      | .ok .next, hr => exact hr.elim
      | .ok .brk, hr => exact hr.elim
      | .ok .cont, hr => exact hr.elim
  | .ok .next, hr => exact hr.elim
  | .ok .brk, hr => exact hr.elim
  | .ok .cont, hr => exact hr.elim
end
end DL
set_option Elab.async false
set_option linter.all false
set_option maxRecDepth 100000
set_option maxHeartbeats 2000000
namespace DL
open PySem PySem.Spec L2 PyProof.Rows
/-! ### sorted(xs), sorted(set(xs)), ints -/
def sortI (ns : List Int) : List Int := ns.mergeSort fun a b => decide (a ≤ b)
theorem sortI_perm (ns : List Int) : (sortI ns).Perm ns := List.mergeSort_perm _ _
theorem sortI_le (ns : List Int) : (sortI ns).Pairwise (· ≤ ·) := by
  have := List.pairwise_mergeSort (le := fun a b : Int => decide (a ≤ b)) (fun a b c h1 h2 => by simp at *; omega) (fun a b => by simp; omega) ns
  exact this.imp fun h => of_decide_eq_true h
theorem sortI_uniq {ns ms : List Int} (h : ms.Perm ns) (p : ms.Pairwise (· ≤ ·)) : ms = sortI ns :=
  List.Perm.eq_of_pairwise (le := (· ≤ ·)) (fun a b _ _ h1 h2 => Int.le_antisymm h1 h2) p (sortI_le ns) (h.trans (sortI_perm ns).symm)
/-- without what stands twice, sorted -/
def insU (k : Int) : List Int → List Int
  | [] => [k]
  | m :: ms => if k < m then k :: m :: ms else if k = m then m :: ms else m :: insU k ms
def usortI (ns : List Int) : List Int := ns.foldr insU []
theorem insU_mem (k j : Int) : ∀ ms, j ∈ insU k ms ↔ j = k ∨ j ∈ ms
  | [] => by simp [insU]
  | m :: ms => by
    unfold insU
    split
    · simp
    · split
      · rename_i h
        simp [h]
      · simp only [List.mem_cons, insU_mem k j ms]
        constructor
        · rintro (h | h | h) <;> simp [h]
        · rintro (h | h | h) <;> simp [h]
theorem insU_lt (k : Int) : ∀ ms : List Int, ms.Pairwise (· < ·) → (insU k ms).Pairwise (· < ·)
  | [], _ => by simp [insU]
  | m :: ms, h => by
    unfold insU
    have h' := List.pairwise_cons.mp h
    split
    · rename_i c
      refine List.pairwise_cons.mpr ⟨fun j hj => ?_, h⟩
      rcases List.mem_cons.mp hj with e | e
      · rw [e]; exact c
      · exact Int.lt_trans c (h'.1 j e)
    · split
      · exact h
      · rename_i c1 c2
        refine List.pairwise_cons.mpr ⟨fun j hj => ?_, insU_lt k ms h'.2⟩
        rcases (insU_mem k j ms).mp hj with e | e
        · rw [e]; omega
        · exact h'.1 j e
theorem usortI_mem (j : Int) : ∀ ns, j ∈ usortI ns ↔ j ∈ ns
  | [] => by simp [usortI]
  | n :: ns => by
    show j ∈ insU n (usortI ns) ↔ _
    rw [insU_mem, usortI_mem j ns, List.mem_cons]
theorem usortI_lt : ∀ ns, (usortI ns).Pairwise (· < ·)
  | [] => .nil
  | n :: ns => insU_lt n _ (usortI_lt ns)
theorem lt_uniq : ∀ {l m : List Int}, l.Pairwise (· < ·) → m.Pairwise (· < ·) → (∀ j, j ∈ l ↔ j ∈ m) → l = m := fun {l m} h1 h2 h =>
  List.Perm.eq_of_pairwise (le := (· < ·)) (fun a b _ _ h1 h2 => absurd h1 (by omega)) h1 h2 ((List.perm_ext_iff_of_nodup (h1.imp fun h => by omega) (h2.imp fun h => by omega)).mpr h)
def gSorted : List D → Option Sl
  | [.lst xs] => (intsOf xs).map fun ns => .ow (.l ((sortI ns).map .int))
  | _ => none
section
variable {K : PySem.W.Frag} {X : Cx}
theorem cr_sortedIT : CallR X (.builtin "sorted") (rSortedI X.K) := cr_sortedI
theorem c_sorted : Cl K (rSortedI K) gSorted := fun {G H σ ρ xs ds z Q} g hx he k => by
  unfold gSorted at he
  split at he
  · rename_i ys
    cases q : intsOf ys with
    | none => rw [q] at he; cases he
    | some ns =>
      rw [q] at he
      cases he
      have e := intsOf_eq q
      subst e
      obtain ⟨v, rfl, h⟩ := hx.one
      obtain ⟨p, vs, rfl, h1, h2⟩ := h.lst g.ex
      rw [h2.ints] at h1
      refine ⟨p, ns, rfl, SqL.of h1, fun ns' a hp hw ha => ?_⟩
      rw [sortI_uniq hp hw]
      exact giveL g Rps.of_ints k a ha
  · cases he
/-- set(xs) -/
def rSetL (K : PySem.W.Frag) (w : World) : List V → Hp → VK → Prop := fun vs H Q => ∃ (a : Addr) (ns : List Int), vs = [V.ref a] ∧ SqL K H a (ns.map V.int) ∧ ns.length < 3000 ∧
  ∀ (p : Addr) (c : Nat), H p = none → c ≤ ns.length → Q (.ref p) (upd H p (SetO w p (fun j => decide (j ∈ ns)) c))
theorem cr_setL (hc : X.calm = true) : CallR X (.type "set") (rSetL X.K X.w) := by
  intro pins s σ H vs us Q I r h
  obtain ⟨a, ns, rfl, hs, hn, q⟩ := h
  obtain ⟨its, rv, pl, hz⟩ := I.list hs
  rw [Vals.ref1 r]
  refine set_of_list ns (I.ok.hd hc) pl.isList (by simpa using rv.ints) (by unfold scanBound; omega) fun t ⟨_, hp, tk, c, et, hS, hc', hk⟩ => ?_
  subst et
  exact ⟨.ref _, upd H s.heap.objs.size (SetO X.w s.heap.objs.size _ c), I.laid (t' := tk) hk (Nat.le_refl _) (setO_new hS), rfl, q _ _ (I.hok.fresh (Nat.le_refl _)) hc'⟩
/-- sorted(set(e)) -/
def dSortSet (f : Fe) : Fe := fun ρ => match f ρ with
  | none => none
  | some (r, ρ1) => match rd ρ1 r with
    | some (.lst xs) => match intsOf xs with
      | some ns => if ns.length < 64 then some (.ow (.l ((usortI ns).map .int)), ρ1) else none
      | none => none
    | _ => none
theorem de_sortSet {e : Expr} {f : Fe} {p p2 pos pos2 : Pos} (hc : X.calm = true) (hg : Gl X "sorted") (hm : X.mg "sorted" = none) (hg2 : Gl X "set") (hm2 : X.mg "set" = none) (he : DE X e f)
    (na : starEach [e] X.env = (false, eval e X.env) :: starEach [] X.env := by rfl) : DE X (.Call (.Name "sorted" p) [.Call (.Name "set" p2) [e] [] pos2] [] pos) (dSortSet f) := by
  refine PE.weak (pe_callB (cr_sortedSet hc) hg hm (by decide +kernel) (pa_cons (pe_callTy (cr_setL hc) hg2 hm2 (by decide +kernel) (pa_cons he pa_nil na) (by decide) (by decide) na) pa_nil)) fun σ H Q ⟨G, ρ, z, ρ', g, e, k⟩ => ?_
  unfold dSortSet at e
  split at e
  · cases e
  rename_i r ρ1 q1
  split at e
  · rename_i xs q2
    split at e
    · rename_i ns q3
      split at e
      · rename_i hl
        cases e
        refine ⟨G, ρ, r, _, g, q1, fun v G1 H1 A1 R1 => ?_⟩
        obtain ⟨a, vs, rfl, h1, h2⟩ := (rd_ok A1.good R1 q2).lst A1.good.ex
        have e3 := intsOf_eq q3
        subst e3
        rw [h2.ints] at h1
        refine ⟨a, ns, rfl, SqL.of h1, by omega, fun S c hS hcn => ?_⟩
        refine ⟨S, _, c, rfl, upd_same, by omega, fun ms p hw hmem _ hp => ?_⟩
        have e4 : ms = usortI ns := lt_uniq hw (usortI_lt ns) fun j => by
          rw [hmem, usortI_mem, decide_eq_true_iff]
        rw [e4]
        have A2 : Aft X.K G H σ ρ G1 (upd H1 S _) σ ρ' := A1.mut (A1.back hS) (A1.good.ex.free hS) (A1.good.notOwn hS) (o := SetO X.w S (fun j => decide (j ∈ ns)) c)
        exact giveL A2.good Rps.of_ints (fun v G' H' A' R' => k v G' H' (A2.trans A') (R'.start A2.dom)) p hp
      · cases e
    · cases e
  · cases e
end
end DL
set_option Elab.async false
set_option linter.all false
set_option maxRecDepth 100000
set_option maxHeartbeats 2000000
namespace DL
open PySem PySem.Spec L2 PyProof.Rows
/-! ### a dict whose keys are tuples of ints, bools, texts, None -/
def leafV : V → Option Leaf
  | .int i => some (.num i)
  | .bl b => some (.num (if b = true then 1 else 0))
  | .str x => some (.text x)
  | .non => some .none
  | _ => none
def leafsV : List V → Option (List Leaf)
  | [] => some []
  | v :: vs => match leafV v, leafsV vs with
    | some k, some ks => some (k :: ks)
    | _, _ => none
theorem leaf_is {v : V} {u : Value} {k : Leaf} (e : leafV v = some k) (r : RelV v u) : Leaf.isOf k u = true := by
  unfold leafV at e
  split at e
  · cases e
    obtain ⟨t, rfl⟩ := (show ∃ t, u = Value.int _ t from r)
    exact decide_eq_true rfl
  · cases e
    obtain rfl := (show u = Value.bool _ from r)
    exact decide_eq_true rfl
  · cases e
    obtain ⟨t, rfl⟩ := (show ∃ t, u = Value.str _ t from r)
    simp [Leaf.isOf, Value.isStrOf]
  · cases e
    obtain rfl := (show u = Value.none from r)
    rfl
  · cases e
section
variable {P : Program} {w : World}
theorem leafs_are : ∀ {vs : List V} {us : List Value} {ks : List Leaf}, leafsV vs = some ks → Vals vs us → ItemsAre (leafKind P w) ks us
  | [], _, _, e, r => by cases e; cases r; exact .nil
  | v :: vs, _, _, e, r => by
    unfold leafsV at e
    split at e
    · rename_i k ks q1 q2
      cases e
      cases r with
      | cons h t => exact .cons (leaf_is q1 h) (leafs_are q2 t)
    · cases e
/-- the dict's keys, each with its tuple -/
abbrev LK := List Leaf × Addr
def HasB (P : Program) (w : World) (a : Addr) (qs : List LK) (h : Heap) : Prop := qs.length ≤ sizeLine ∧ (a == sysModules) = false ∧
  ∃ xs : List (List Leaf × Addr × Value), xs.map (fun x => (x.1, x.2.1)) = qs ∧ ∃ o es ep, h.get? a = some o ∧ o.ExactDict ∧ o.data = .dict es ep ∧ es.toList = xs.map (entryOfKey (tupleKind (leafKind P w))) ∧ (xs.map (·.1)).Nodup
def dB (P : Program) (w : World) (a : Addr) (qs : List LK) : HO := .ext (HasB P w a qs)
def storeB (qs : List LK) (k : List Leaf) (b : Addr) : List LK := if (qs.any fun q => decide (q.1 = k)) = true then qs else qs ++ [(k, b)]
theorem dB_ok {H : Hp} {h : Heap} {a : Addr} {qs : List LK} (x : HasB P w a qs h) : ObjOk P w H h a (dB P w a qs) := by
  have x' := x
  obtain ⟨_, _, _, _, o, _, _, e, _⟩ := x'
  refine ⟨x, ⟨o, e⟩, fun h1 h2 y k => ?_⟩
  obtain ⟨l, n, xs, m, o, es, ep, e, r⟩ := y
  exact ⟨l, n, xs, m, o, es, ep, k _ e, r⟩
theorem storeB_stored {xs : List (List Leaf × Addr × Value)} {k : List Leaf} {b : Addr} {v : Value} : (storedH xs k b v).map (fun x => (x.1, x.2.1)) = storeB (xs.map fun x => (x.1, x.2.1)) k b := by
  have an : ((xs.map fun x => (x.1, x.2.1)).any fun q => decide (q.1 = k)) = (atKey xs k).isSome := by
    induction xs with
    | nil => rfl
    | cons x xs ih =>
      obtain ⟨k', a', v'⟩ := x
      by_cases c : k' = k
      · subst c
        simp [atKey]
      · rw [List.map_cons, List.any_cons, ih]
        have : (decide (k' = k)) = false := decide_eq_false c
        simp [atKey, this, c]
  unfold storeB
  rw [an]
  unfold storedH
  split
  · rw [List.map_map]
    refine List.map_congr_left fun x _ => ?_
    show ((putAt k v x).1, (putAt k v x).2.1) = _
    unfold putAt
    split <;> rfl
  · rw [List.map_append]
    rfl
end
section
variable {X : Cx}
theorem tup_leafs {H : Hp} {h : Heap} {a : Addr} {vs : List V} {ks : List Leaf} (ok : HOk X.prog X.w H h) (e : H a = some (.tup vs)) (l : leafsV vs = some ks) : (tupleKind (leafKind X.prog X.w)).is h ks a := by
  obtain ⟨_, its, r, o, h1, h2, n, h3⟩ := (show ObjOk X.prog X.w H h a (.tup vs) from ok a _ e)
  exact ⟨o, its.toArray, n, h1, h2, h3, by simpa using leafs_are l r⟩
theorem Inv.hasB {pins : List (Addr × Obj)} {σ : L2.St} {H : Hp} {s : Shared} {a : Addr} {qs : List LK} (I : Inv X pins σ H s) (ha : H a = some (dB X.prog X.w a qs)) : HasB X.prog X.w a qs s.heap := (I.hok a _ ha).1
/-- {} -/
theorem pe_dnewB {pos : Pos} : PE X (.Dict [] [] pos) (fun _ H Q => ∀ p, H p = none → Q (.ref p) (upd H p (dB X.prog X.w p []))) := ⟨fun pins s σ H Q I h =>
  wpAny_Dict_empty ⟨.ref s.heap.objs.size, _, I.laid (a := s.heap.objs.size) (o := dB X.prog X.w s.heap.objs.size []) (t' := s.toks) (fun _ _ q => Heap.get?_push_of_some _ q) (Nat.le_refl _)
    (dB_ok ⟨Nat.zero_le _, beq_eq_false_iff_ne.mpr (Ne.symm (Nat.ne_of_lt I.big)), [], rfl, _, #[], 0, Heap.get?_push_size _ rfl, ⟨rfl, rfl, rfl⟩, rfl, rfl, List.nodup_nil⟩), rfl, h _ (I.hok.fresh (Nat.le_refl _))⟩⟩
/-- each key's tuple stands -/
def KeysB (H : Hp) (qs : List LK) : Prop := ∀ q ∈ qs, ∃ vs, H q.2 = some (.tup vs) ∧ leafsV vs = some q.1
/-- d[t] = v -/
def tPutB (X : Cx) (td ty tv : TE) : TS := fun D σ H => tv σ H fun _ H1 => td σ H1 fun x H2 => ty σ H2 fun y H3 => ∃ a b qs vs ks, x = .ref a ∧ y = .ref b ∧ H3 a = some (dB X.prog X.w a qs) ∧ H3 b = some (.tup vs) ∧ leafsV vs = some ks ∧ qs.length < sizeLine ∧ KeysB H3 qs ∧ D.nx σ (upd H3 a (dB X.prog X.w a (storeB qs ks b)))
theorem ps_putB {o i value : Expr} {td ty tv : TE} {pos pos' : Pos} (hu : X.A.units + 1 < cLine) (ho : PE X o td) (hi : PE X i ty) (hv : PE X value tv) (hs : swapsWith value (some (.Subscript o i pos')) pos.line X.env = pure false := by rfl) :
    PS X (.Assign [.Subscript o i pos'] value pos) (tPutB X td ty tv) := ⟨fun pins s σ H D I h => by
  refine wpAny_Assign_Subscript (thn (hv.run pins s σ H _ I h) fun r s1 ⟨v, H1, I1, rv, q1⟩ => thn (ho.run pins s1 σ H1 _ I1 q1) fun u s2 ⟨x, H2, I2, rx, q2⟩ => thn (hi.run pins s2 σ H2 _ I2 q2) fun iv s3 ⟨y, H3, I3, ry, z⟩ => ?_) hs
  obtain ⟨a, b, qs, vs, ks, ex, ey, ha, hb, hl, hz, hk, nx⟩ := z
  subst ex ey
  obtain rfl : u = Value.ref a := rx
  obtain rfl : iv = Value.ref b := ry
  obtain ⟨l0, n0, xs, e0, dd⟩ := Inv.hasB I3 ha
  have lx : xs.length = qs.length := by rw [← e0, List.length_map]
  obtain ⟨o, es0, ep0, e1, e2, e3, e4, e5⟩ := dd
  have dd : s3.heap.DictOfH (tupleKind (leafKind X.prog X.w)) a xs := ⟨o, es0, ep0, e1, e2, e3, e4, fun x hx => by
    obtain ⟨vs', h1, h2⟩ := hk (x.1, x.2.1) (by rw [← e0]; exact List.mem_map.mpr ⟨x, hx, rfl⟩)
    exact tup_leafs I3.hok h1 h2, e5⟩
  · refine wpAny_setItem_heap (hsz := by rw [lx]; exact l0) (tupleKind_room_in1 hu) (tup_leafs I3.hok hb hl) dd fun h' d2 hs2 => ⟨σ, _, ?_, nx⟩
    obtain ⟨q, es, ep, hq, h2, h3, h4, _, h5⟩ := d2
    refine d_write I3 (by rw [ha]; exact True.intro) hs2 ⟨q, hq⟩ (dB_ok ⟨?_, n0, _, storeB_stored.trans (by rw [e0]), q, es, ep, hq, h2, h3, h4, h5⟩)
    unfold storeB
    split
    · exact l0
    · rw [List.length_append]
      exact hz⟩
/-- list(d) -/
theorem call_list_dB (hc : X.calm = true) : CallR X (.type "list") (fun xs H Q => ∃ d qs, xs = [V.ref d] ∧ H d = some (dB X.prog X.w d qs) ∧ ∀ p, H p = none → Q (.ref p) (upd H p (.lst (qs.map fun q => V.ref q.2)))) := by
  intro pins s σ H xs us Q I r h
  obtain ⟨d, qs, rfl, hd, q⟩ := h
  obtain ⟨u, rfl, rx⟩ := r.one
  cases rx
  obtain ⟨l0, n0, xs, e0, o, es, ep, e1, e2, e3, e4, e5⟩ := Inv.hasB I hd
  have lq : qs.length = xs.length := by rw [← e0, List.length_map]
  have le : es.size = xs.length := by
    rw [← Array.length_toList, e4, List.length_map]
  refine PySem.W.kdl_call (kdl_raw n0 e2 e3) (I.ok.hd hc) e1 (by omega) fun hp tk out cn kp e it => ?_
  have eo : out.toList = (qs.map fun q => q.2).map Value.ref := by
    apply List.ext_getElem?
    intro j
    rw [← e0, List.map_map, List.map_map, List.getElem?_map]
    cases hj : out.toList[j]? with
    | none =>
      have hl : out.toList.length = xs.length := by rw [Array.length_toList, it.1]; exact le
      have h1 := List.getElem?_eq_none_iff.mp hj
      rw [List.getElem?_eq_none (by omega)]
      rfl
    | some v =>
      obtain ⟨en, hen, hv⟩ := it.2 j v (by rw [← Array.getElem?_toList]; exact hj)
      have z : es.toList[j]? = some en := by rw [Array.getElem?_toList]; exact hen
      rw [e4, List.getElem?_map] at z
      cases hb : xs[j]? with
      | none => rw [hb] at z; cases z
      | some b =>
        rw [hb] at z
        obtain rfl : _ = en := Option.some.inj z
        rw [hv]
        rfl
  refine ⟨.ref s.heap.objs.size, _, I.laid (t' := tk) (o := .lst (qs.map fun q => V.ref q.2)) kp (Nat.le_refl _) ⟨by rw [List.length_map]; exact l0, out.toList, cn, ?_, by rw [Array.toArray_toList]; exact e⟩, rfl, q _ (I.hok.fresh (Nat.le_refl _))⟩
  have e9 : (qs.map fun q => V.ref q.2) = (qs.map fun q => q.2).map V.ref := by rw [List.map_map]; rfl
  rw [eo, e9]
  exact vals_refs _
end
end DL
set_option Elab.async false
set_option linter.all false
set_option maxRecDepth 100000
set_option maxHeartbeats 2000000
namespace DL
open PySem PySem.Spec L2
/-! ### a dict of tuple keys that is filled by two loops and told as a list -/
def leafD : D → Option Leaf
  | .int i => some (.num i)
  | .bl b => some (.num (if b = true then 1 else 0))
  | .str x => some (.text x)
  | .non => some .none
  | _ => none
def leafsD : List D → Option (List Leaf)
  | [] => some []
  | v :: vs => match leafD v, leafsD vs with
    | some k, some ks => some (k :: ks)
    | _, _ => none
def keyD : D → Option (List Leaf)
  | .tup ds => leafsD ds
  | _ => none
def tieS (k : D) (acc : List D) : Option (List D) := match keyD k with
  | none => none
  | some ks => if acc.length ≤ lim then (if (acc.any fun d => decide (keyD d = some ks)) = true then some acc else some (acc ++ [k])) else none
theorem leaf_vd {K : PySem.W.Frag} {G : Hp} {v : V} {d : D} {k : Leaf} (r : Rp K G v d) (e : leafD d = some k) : leafV v = some k := by
  unfold leafD at e
  split at e
  · cases e; rw [r.of_int]; rfl
  · cases e; rw [r.of_bl]; rfl
  · cases e; rw [r.of_str]; rfl
  · cases e; rw [r.of_non]; rfl
  · cases e
theorem leafs_vd {K : PySem.W.Frag} {G : Hp} : ∀ {vs : List V} {ds : List D} {ks : List Leaf}, Rps K G vs ds → leafsD ds = some ks → leafsV vs = some ks
  | _, _, _, .nil, e => by cases e; rfl
  | _, _, _, .cons r t, e => by
    unfold leafsD at e
    split at e
    · rename_i q1 q2
      cases e
      unfold leafsV
      rw [leaf_vd r q1, leafs_vd t q2]
    · cases e
inductive KB (K : PySem.W.Frag) (G : Hp) : List LK → List D → Prop
  | nil : KB K G [] []
  | cons {q : LK} {qs : List LK} {vs : List V} {ds : List D} {acc : List D} : G q.2 = some (.tup vs) → leafsV vs = some q.1 → Rps K G vs ds → leafsD ds = some q.1 → KB K G qs acc → KB K G (q :: qs) (.tup ds :: acc)
section
variable {K : PySem.W.Frag} {G G' H : Hp}
theorem KB.up (e : Ex G G') : ∀ {qs : List LK} {acc : List D}, KB K G qs acc → KB K G' qs acc
  | _, _, .nil => .nil
  | _, _, .cons a b c d t => .cons (e _ _ a) b (c.up e) d (KB.up e t)
theorem KB.len : ∀ {qs : List LK} {acc : List D}, KB K G qs acc → qs.length = acc.length
  | _, _, .nil => rfl
  | _, _, .cons _ _ _ _ t => congrArg (· + 1) (KB.len t)
theorem KB.any (ks : List Leaf) : ∀ {qs : List LK} {acc : List D}, KB K G qs acc → (qs.any fun q => decide (q.1 = ks)) = acc.any fun d => decide (keyD d = some ks)
  | _, _, .nil => rfl
  | _, _, .cons (q := q) _ _ _ d t => by
    rw [List.any_cons, List.any_cons, KB.any ks t]
    congr 1
    show _ = decide (leafsD _ = some ks)
    rw [d]
    simp
theorem KB.app {q : LK} {vs : List V} {ds : List D} (a : G q.2 = some (.tup vs)) (b : leafsV vs = some q.1) (c : Rps K G vs ds) (d : leafsD ds = some q.1) : ∀ {qs : List LK} {acc : List D}, KB K G qs acc → KB K G (qs ++ [q]) (acc ++ [.tup ds])
  | _, _, .nil => .cons a b c d .nil
  | _, _, .cons a' b' c' d' t => .cons a' b' c' d' (KB.app a b c d t)
theorem KB.keys (e : Ex G H) : ∀ {qs : List LK} {acc : List D}, KB K G qs acc → KeysB H qs
  | _, _, .nil => fun q hq => nomatch hq
  | _, _, .cons a b c d t => fun q hq => by
    rcases List.mem_cons.mp hq with z | z
    · subst z; exact ⟨_, e _ _ a, b⟩
    · exact KB.keys e t q z
theorem KB.refs : ∀ {qs : List LK} {acc : List D}, KB K G qs acc → Rps K G (qs.map fun q => V.ref q.2) acc
  | _, _, .nil => .nil
  | _, _, .cons a b c d t => .cons (.tup a c) (KB.refs t)
end
structure HoldB (X : Cx) (H0 : Hp) (F : Nat) (p : Addr) (acc : List D) (G H : Hp) (σ : L2.St) (ρ : En) : Prop where
  sl : σ[F]? = some (some (.ref p))
  nw : H0 p = none
  ng : G p = none
  no : ¬ OwnA σ ρ p
  qs : ∃ qs, H p = some (dB X.prog X.w p qs) ∧ KB X.K G qs acc
theorem HoldB.aft {X : Cx} {H0 G H G' H' : Hp} {F : Nat} {p : Addr} {acc : List D} {σ σ' : L2.St} {ρ ρ' : En} (h : HoldB X H0 F p acc G H σ ρ) (a : Aft X.K G H σ ρ G' H' σ' ρ') (e : σ'[F]? = σ[F]?) : HoldB X H0 F p acc G' H' σ' ρ' := by
  obtain ⟨qs, h1, h2⟩ := h.qs
  obtain ⟨k1, k2⟩ := a.keep p _ h1 h.no
  exact ⟨e.trans h.sl, h.nw, k2 h.ng trivial, a.nown h1 h.no, qs, k1, h2.up a.ex⟩
def tieIn (h : Fg) (fk : Fe) : List D → List D → En → Option (List D × En)
  | [], acc, ρ => some (acc, ρ)
  | d :: ds, acc, ρ => match h d ρ with
    | none => none
    | some ρ1 => match dFr fk ρ1 with
      | none => none
      | some (k, ρ2) => match tieS k acc with
        | none => none
        | some acc' => tieIn h fk ds acc' ρ2
/-- what stands ahead of the inner loop: one name is set, or nothing -/
def preA (r : Nat) (f : Fe) (ρ : En) : Option En := match dFr f ρ with
  | none => none
  | some (v, ρ2) => if notRf ρ2 r = true then some (ρ2.set r (.fz v)) else none
def tieOut (h : Fg) (pre : En → Option En) (fi : Fi) (h2 : Fg) (fk : Fe) : List D → List D → En → Option (List D × En)
  | [], acc, ρ => some (acc, ρ)
  | d :: ds, acc, ρ => match h d ρ with
    | none => none
    | some ρ1 => match pre ρ1 with
      | none => none
      | some ρ2 => match fi ρ2 with
        | none => none
        | some (ys, ρ3) => match tieIn h2 fk ys acc ρ3 with
          | none => none
          | some (acc', ρ4) => tieOut h pre fi h2 fk ds acc' ρ4
def bTies (F : Nat) (fi : Fi) (h : Fg) (pre : En → Option En) (fi2 : Fi) (h2 : Fg) (fk : Fe) : Fs := fun ρ => if notRf ρ F = true then (match fi (ρ.set F .un) with
  | none => none
  | some (xs, ρ1) => match tieOut h pre fi2 h2 fk xs [] ρ1 with
    | none => none
    | some (acc, ρ2) => some (.rt (.ow (.l acc)), ρ2)) else none
section
variable {X : Cx} {E : XK} {F : Nat} {fk : Fe} {h2 : Fg} {S2 : List Nat}
theorem drop_cons {α : Type} {xs : List α} {i : Nat} {d : α} (hd : xs[i]? = some d) : xs.drop i = d :: xs.drop (i + 1) := by
  have hlt : i < xs.length := (List.getElem?_eq_some_iff.mp hd).1
  rw [List.drop_eq_getElem_cons hlt]
  rw [List.getElem?_eq_getElem hlt] at hd
  cases hd
  rfl
/-- the inner loop -/
theorem tie_in {J : It} {ys : List D} {En0 : Ends} {G H G1 H1 : Hp} {σ σ1 : L2.St} {ρ ρ1 ρe : En} {p : Addr} {acc acce : List D} (hF : F ∉ S2) (W : ItOk X.K G1 J ys) (A1 : Aft X.K G H σ ρ G1 H1 σ1 ρ1) (hb : HoldB X H F p acc G1 H1 σ1 ρ1)
    (e : tieIn h2 fk ys acc ρ1 = some (acce, ρe)) (k : ∀ σ' G' H', Aft X.K G H σ ρ G' H' σ' ρe → Ex G1 G' → HoldB X H F p acce G' H' σ' ρe → En0.nx σ' H') :
    ∃ W : Nat → Nat → L2.St → Hp → Prop, (∃ m, W 0 m σ1 H1) ∧ ∀ i m σ H, W i m σ H →
      (J.stop i H ∧ En0.nx σ H) ∨ (J.go i H ∧ ∃ N : L2.St → Hp → Prop, (∀ σ' H', N σ' H' → ∃ m', m' < m ∧ W (i + 1) m' σ' H') ∧ ∀ x H', J.yld i H x H' → tgOf X.K h2 S2 x σ H' fun σ2 H2 => tPutB X (tVar F) (tdOf X.K (dFr fk)) (tC (.bl true)) { En0 with nx := N, ct := N, bk := En0.nx } σ2 H2) := by
  refine for_it W (fun i σ2 H2 => ∃ G2 ρ2 acc2, Aft X.K G H σ ρ G2 H2 σ2 ρ2 ∧ Ex G1 G2 ∧ HoldB X H F p acc2 G2 H2 σ2 ρ2 ∧ tieIn h2 fk (ys.drop i) acc2 ρ2 = some (acce, ρe)) ⟨G1, ρ1, acc, A1, Same.refl _, hb, by rw [List.drop_zero]; exact e⟩
    (fun i σ2 H2 _ ⟨G2, ρ2, _, A2, x2, _⟩ => x2.trans A2.good.ex) ?_ ?_
  · rintro i x σ2 H2 H3 hi ⟨G2, ρ2, acc2, A2, x2, hb2, e2⟩ ⟨d, hd, y⟩
    obtain ⟨G3, A3, R3⟩ := ItemY.take A2.good x2 y
    rw [drop_cons hd] at e2
    unfold tieIn at e2
    cases q3 : h2 d ρ2 with
    | none => simp only [q3] at e2; cases e2
    | some ρ3 =>
      simp only [q3] at e2
      cases q4 : dFr fk ρ3 with
      | none => simp only [q4] at e2; cases e2
      | some z =>
        obtain ⟨kd, ρ4⟩ := z
        simp only [q4] at e2
        cases q5 : tieS kd acc2 with
        | none => simp only [q5] at e2; cases e2
        | some acc3 =>
          simp only [q5] at e2
          refine ⟨G3, ρ2, d, ρ3, A3.good, R3, q3, fun σ4 A4 _ s4 => ?_⟩
          have hb3 := (hb2.aft A3 rfl).aft A4 (s4 F hF)
          refine ⟨.ref p, hb3.sl, G3, ρ3, kd, ρ4, A4.good, q4, fun y G5 H5 A5 R5 => ?_⟩
          have hb5 := hb3.aft A5 rfl
          obtain ⟨qs, k1, k2⟩ := hb5.qs
          unfold tieS at q5
          cases kd with
          | tup ds =>
            cases q6 : leafsD ds with
            | none =>
              have z : keyD (.tup ds) = none := q6
              simp only [z] at q5
              cases q5
            | some ks =>
              have z : keyD (.tup ds) = some ks := q6
              simp only [z] at q5
              split at q5
              · rename_i hl
                cases R5 with
                | @tup b vs _ g1 g2 =>
                refine ⟨p, b, qs, vs, ks, rfl, rfl, k1, A5.good.ex _ _ g1, leafs_vd g2 q6, by rw [k2.len]; exact lim_lt hl, k2.keys A5.good.ex, ?_⟩
                have A := ((A2.trans A3).trans A4).trans A5
                have Am := A.mut (o := dB X.prog X.w p (storeB qs ks b)) hb5.nw hb5.ng hb5.no
                refine ⟨G5, ρ4, acc3, Am, ((x2.trans A3.ex).trans A4.ex).trans A5.ex, ⟨hb5.sl, hb5.nw, hb5.ng, hb5.no, _, upd_same, ?_⟩, e2⟩
                rw [← k2.any ks] at q5
                unfold storeB
                split at q5
                · rename_i c
                  cases q5
                  rw [if_pos c]
                  exact k2
                · rename_i c
                  cases q5
                  rw [if_neg c]
                  exact k2.app (q := (ks, b)) g1 (leafs_vd g2 q6) g2 q6
              · cases q5
          | _ => cases q5
  · rintro σ2 H2 ⟨G2, ρ2, acc2, A2, x2, hb2, e2⟩
    rw [List.drop_eq_nil_of_le (Nat.le_refl _)] at e2
    cases e2
    exact k σ2 G2 H2 A2 x2 hb2
theorem set_ne {α : Type} {l : List α} {i j : Nat} {x : α} (h : i ≠ j) : (l.set i x)[j]? = l[j]? := List.getElem?_set_ne h
abbrev inner (X : Cx) (F : Nat) (fi2 : Fi) (h2 : Fg) (S2 : List Nat) (fk : Fe) : TS := tFor (tiOf X.K fi2) (tgOf X.K h2 S2) (tPutB X (tVar F) (tdOf X.K (dFr fk)) (tC (.bl true)))
/-- the text's meaning, from the loops' readings -/
theorem ties_core {fi fi2 : Fi} {h : Fg} {pre : En → Option En} {S : List Nat} {tb : TS} {tl : TE} (hFS : F ∉ S) (hFS2 : F ∉ S2)
    (htb : ∀ (En0 : Ends) (G H : Hp) (σ : L2.St) (ρ ρ1 : En), Good X.K G H σ ρ → pre ρ = some ρ1 → (∀ σ1 G1 H1, Aft X.K G H σ ρ G1 H1 σ1 ρ1 → σ1[F]? = σ[F]? → inner X F fi2 h2 S2 fk En0 σ1 H1) → tb En0 σ H)
    (htl : ∀ (σ : L2.St) (H : Hp) (Q : VK) (p : Addr) (qs : List LK), σ[F]? = some (some (.ref p)) → H p = some (dB X.prog X.w p qs) → (∀ l, H l = none → Q (.ref l) (upd H l (.lst (qs.map fun q => V.ref q.2)))) → tl σ H Q)
    (En0 : Ends) (σ : L2.St) (H : Hp) (z : tsOf X.K E (bTies F fi h pre fi2 h2 fk) En0 σ H) :
    tSeq (tAsg (fun _ H Q => ∀ p, H p = none → Q (.ref p) (upd H p (dB X.prog X.w p []))) (gName F)) (tSeq (tFor (tiOf X.K fi) (tgOf X.K h S) tb) (tRet tl)) En0 σ H := by
  obtain ⟨G, ρ, fl, ρ', g, e, k⟩ := z
  unfold bTies at e
  split at e
  case isFalse => cases e
  rename_i nF
  cases q : fi (ρ.set F .un) with
  | none => simp only [q] at e; cases e
  | some y =>
    obtain ⟨xs, ρ1⟩ := y
    simp only [q] at e
    cases q2 : tieOut h pre fi2 h2 fk xs [] ρ1 with
    | none => simp only [q2] at e; cases e
    | some y =>
      obtain ⟨acc, ρ2⟩ := y
      simp only [q2] at e
      cases e
      intro Dp hD
      -- the dict is made
      have lF : F < σ.length := by
        rw [g.len]
        unfold notRf at nF
        cases z : ρ[F]? with
        | none => rw [z] at nF; cases nF
        | some _ => exact (List.getElem?_eq_some_iff.mp z).1
      have Am : Aft X.K G H σ ρ G (upd H Dp (dB X.prog X.w Dp [])) σ ρ := (Aft.refl g).mut hD (g.ex.free hD) (g.notOwn hD)
      have A0 : Aft X.K G H σ ρ G (upd H Dp (dB X.prog X.w Dp [])) (σ.set F (some (.ref Dp))) (ρ.set F .un) := Am.store (r := .un) trivial (fun p _ z => by rcases z with ⟨m, z⟩ | ⟨m, z⟩ <;> cases z) nF
      have hb0 : HoldB X H F Dp [] G (upd H Dp (dB X.prog X.w Dp [])) (σ.set F (some (.ref Dp))) (ρ.set F .un) := by
        refine ⟨by rw [List.getElem?_set_self lF], hD, g.ex.free hD, fun ⟨j, o1, o2⟩ => ?_, [], upd_same, .nil⟩
        by_cases z : j = F
        · subst z
          rcases o2 with ⟨m, o2⟩ | ⟨m, o2⟩
          · rcases getElem?_set_cases o2 with ⟨_, y⟩ | ⟨y, _⟩
            · cases y
            · exact y rfl
          · rcases getElem?_set_cases o2 with ⟨_, y⟩ | ⟨y, _⟩
            · cases y
            · exact y rfl
        · rw [List.getElem?_set_ne (Ne.symm z)] at o1 o2
          exact g.notOwn hD ⟨j, o1, o2⟩
      refine ⟨G, _, xs, ρ1, A0.good, q, fun J G1 H1 A1 W => ?_⟩
      have hb1 := hb0.aft A1 rfl
      refine for_it W (fun i σ2 H2 => ∃ G2 ρ2' acc2, Aft X.K G H σ ρ G2 H2 σ2 ρ2' ∧ Ex G1 G2 ∧ HoldB X H F Dp acc2 G2 H2 σ2 ρ2' ∧ tieOut h pre fi2 h2 fk (xs.drop i) acc2 ρ2' = some (acc, ρ')) ⟨G1, ρ1, [], A0.trans A1, Same.refl _, hb1, by rw [List.drop_zero]; exact q2⟩
        (fun i σ2 H2 _ ⟨G2, _, _, A2, x2, _⟩ => x2.trans A2.good.ex) ?_ ?_
      · rintro i x σ2 H2 H3 hi ⟨G2, ρ2', acc2, A2, x2, hb2, e2⟩ ⟨d, hd, y⟩
        obtain ⟨G3, A3, R3⟩ := ItemY.take A2.good x2 y
        rw [drop_cons hd] at e2
        unfold tieOut at e2
        cases q3 : h d ρ2' with
        | none => simp only [q3] at e2; cases e2
        | some ρ3 =>
          simp only [q3] at e2
          cases q4 : pre ρ3 with
          | none => simp only [q4] at e2; cases e2
          | some ρ4 =>
            simp only [q4] at e2
            cases q5 : fi2 ρ4 with
            | none => simp only [q5] at e2; cases e2
            | some z =>
              obtain ⟨ys, ρ5⟩ := z
              simp only [q5] at e2
              cases q6 : tieIn h2 fk ys acc2 ρ5 with
              | none => simp only [q6] at e2; cases e2
              | some z =>
                obtain ⟨acc3, ρ6⟩ := z
                simp only [q6] at e2
                refine ⟨G3, ρ2', d, ρ3, A3.good, R3, q3, fun σ4 A4 _ s4 => ?_⟩
                have hb4 := (hb2.aft A3 rfl).aft A4 (s4 F hFS)
                refine htb _ G3 H3 σ4 ρ3 ρ4 A4.good q4 fun σ6 G6 H6 A6 s6 => ?_
                have hb6 := hb4.aft A6 s6
                refine ⟨G6, _, ys, ρ5, A6.good, q5, fun J2 G7 H7 A7 W2 => ?_⟩
                have A27 := (((A2.trans A3).trans A4).trans A6).trans A7
                exact tie_in hFS2 W2 A27 (hb6.aft A7 rfl) q6 fun σ' G' H' A' x' hb' => ⟨G', ρ6, acc3, A', (((x2.trans A3.ex).trans A6.ex).trans A7.ex).trans x', hb', e2⟩
      · rintro σ2 H2 ⟨G2, ρ2', acc2, A2, x2, hb2, e2⟩
        rw [List.drop_eq_nil_of_le (Nat.le_refl _)] at e2
        cases e2
        obtain ⟨qs, k1, k2⟩ := hb2.qs
        refine htl σ2 H2 _ Dp qs hb2.sl k1 fun l hl => ?_
        refine giveL A2.good k2.refs (fun v G' H' A' R' => ?_) l hl
        exact k σ2 G' H' (A2.trans A') v (R'.start A2.dom)
section
variable {fi fi2 : Fi} {h : Fg} {r : Nat} {fr_ : Fe} {S : List Nat} {tg iter tg2 iter2 er ek : Expr} {xF xr : Str} {nb : Nat} {p1 p2 p3 p4 p5 p6 p7 p8 p9 q1 q2 q3 q4 q5 q6 : Pos}
theorem db_ties
    (hp : PassesOwn (model X.prog X.w) X.A X.env X.xe) (hc : X.calm = true) (hu : X.A.units + 65 < cLine) (hN : X.N.Nodup) (hi : X.N[F]? = some xF) (hx : Loc X.env.scope xF) (hir : X.N[r]? = some xr) (hxr : Loc X.env.scope xr)
    (hit : DI X tg iter fi) (hg : DG X tg h S) (her : DE X er fr_) (hit2 : DI X tg2 iter2 fi2) (hg2 : DG X tg2 h2 S2) (hek : DE X ek fk) (hvF : PE X (.Name xF q1) (tVar F)) (hvF2 : PE X (.Name xF q2) (tVar F))
    (hgl : Gl X "list") (hml : X.mg "list" = none) (hFS : F ∉ S := by decide) (hFS2 : F ∉ S2 := by decide) (hFr : r ≠ F := by decide)
    (hs1 : ∀ x, foldedSetIterable iter X.env x = pure x := by intro _; rfl) (hs2 : ∀ x, foldedSetIterable iter2 X.env x = pure x := by intro _; rfl)
    (w1 : swapsWith (.Dict [] [] p1) (some (.Name xF p2)) p3.line X.env = pure false := by rfl) (w2 : swapsWith er (some (.Name xr p4)) p5.line X.env = pure false := by rfl)
    (w3 : swapsWith (.Constant (.bool true) nb p6) (some (.Subscript (.Name xF q1) ek p7)) p8.line X.env = pure false := by rfl) 
    (f1 : X.fn xF = true ∨ X.env.scope.names.lookup xF = some .local := by first | exact .inl rfl | exact .inr rfl) (f2 : X.fn xr = true ∨ X.env.scope.names.lookup xr = some .local := by first | exact .inl rfl | exact .inr rfl) :
    DB X E [.Assign [.Name xF p2] (.Dict [] [] p1) p3, .For tg iter [.Assign [.Name xr p4] er p5, .For tg2 iter2 [.Assign [.Subscript (.Name xF q1) ek p7] (.Constant (.bool true) nb p6) p8] [] p9] [] q3, .Return (some (.Call (.Name "list" q4) [.Name xF q2] [] q5)) q6]
      (bTies F fi h (preA r fr_) fi2 h2 fk) := by
  have hu1 : X.A.units + 1 < cLine := by omega
  refine PSs.weak (pss_cons (ps_set (i := F) hN hi hx pe_dnewB w1 f1) (pss_cons (ps_for hp hc hit hg (pss_cons (ps_set (i := r) hN hir hxr (de_fr her) w2 f2) (pss_one (ps_for hp hc hit2 hg2 (pss_one (ps_putB hu1 hvF (de_fr hek) pe_bl w3)) hs2))) hs1)
    (pss_one (ps_ret (pe_callTy (call_list_dB hc) hgl hml (by decide +kernel) (pa_cons hvF2 pa_nil)))))) (ties_core hFS hFS2 (fun En0 G H σ ρ ρ1 g e k => ?_) fun σ H Q p qs h1 h2 k => ⟨.ref p, h1, p, qs, rfl, h2, k⟩)
  unfold preA at e
  cases q4 : dFr fr_ ρ with
  | none => rw [q4] at e; cases e
  | some z =>
    obtain ⟨v4, ρ4⟩ := z
    rw [q4] at e
    replace e : (if notRf ρ4 r = true then some (ρ4.set r (.fz v4)) else none) = some ρ1 := e
    split at e
    · rename_i n4
      cases e
      refine ⟨G, ρ, v4, ρ4, g, q4, fun u G5 H5 A5 R5 => ?_⟩
      have A6 : Aft X.K G5 H5 σ ρ4 G5 H5 (σ.set r (some u)) (ρ4.set r (.fz v4)) := (Aft.refl A5.good).store ⟨u, rfl, R5⟩ (fun p _ z => by rcases z with ⟨m, z⟩ | ⟨m, z⟩ <;> cases z) n4
      exact k _ G5 H5 (A5.trans A6) (List.getElem?_set_ne hFr)
    · cases e
theorem db_ties0
    (hp : PassesOwn (model X.prog X.w) X.A X.env X.xe) (hc : X.calm = true) (hu : X.A.units + 65 < cLine) (hN : X.N.Nodup) (hi : X.N[F]? = some xF) (hx : Loc X.env.scope xF)
    (hit : DI X tg iter fi) (hg : DG X tg h S) (hit2 : DI X tg2 iter2 fi2) (hg2 : DG X tg2 h2 S2) (hek : DE X ek fk) (hvF : PE X (.Name xF q1) (tVar F)) (hvF2 : PE X (.Name xF q2) (tVar F))
    (hgl : Gl X "list") (hml : X.mg "list" = none) (hFS : F ∉ S := by decide) (hFS2 : F ∉ S2 := by decide)
    (hs1 : ∀ x, foldedSetIterable iter X.env x = pure x := by intro _; rfl) (hs2 : ∀ x, foldedSetIterable iter2 X.env x = pure x := by intro _; rfl)
    (w1 : swapsWith (.Dict [] [] p1) (some (.Name xF p2)) p3.line X.env = pure false := by rfl)
    (w3 : swapsWith (.Constant (.bool true) nb p6) (some (.Subscript (.Name xF q1) ek p7)) p8.line X.env = pure false := by rfl) 
    (f1 : X.fn xF = true ∨ X.env.scope.names.lookup xF = some .local := by first | exact .inl rfl | exact .inr rfl) :
    DB X E [.Assign [.Name xF p2] (.Dict [] [] p1) p3, .For tg iter [.For tg2 iter2 [.Assign [.Subscript (.Name xF q1) ek p7] (.Constant (.bool true) nb p6) p8] [] p9] [] q3, .Return (some (.Call (.Name "list" q4) [.Name xF q2] [] q5)) q6]
      (bTies F fi h some fi2 h2 fk) := by
  have hu1 : X.A.units + 1 < cLine := by omega
  refine PSs.weak (pss_cons (ps_set (i := F) hN hi hx pe_dnewB w1 f1) (pss_cons (ps_for hp hc hit hg (pss_one (ps_for hp hc hit2 hg2 (pss_one (ps_putB hu1 hvF (de_fr hek) pe_bl w3)) hs2)) hs1)
    (pss_one (ps_ret (pe_callTy (call_list_dB hc) hgl hml (by decide +kernel) (pa_cons hvF2 pa_nil)))))) (ties_core hFS hFS2 (fun En0 G H σ ρ ρ1 g e k => ?_) fun σ H Q p qs h1 h2 k => ⟨.ref p, h1, p, qs, rfl, h2, k⟩)
  cases e
  exact k σ G H (Aft.refl g) rfl
end
end
end DL
set_option Elab.async false
set_option linter.all false
set_option maxRecDepth 100000
set_option maxHeartbeats 2000000
namespace DL
open PySem PySem.Spec L2
/-! ### a list of new lists, grown at two places a turn, that stays behind the loop -/
structure HoldN (K : PySem.W.Frag) (H0 : Hp) (p : Addr) (qs : List Addr) (acc : List (List D)) (G H : Hp) (σ : L2.St) (ρ : En) : Prop where
  p0 : H0 p = none
  q0 : ∀ q ∈ qs, H0 q = none
  gp : G p = none
  gq : ∀ q ∈ qs, G q = none
  np : ¬ OwnA σ ρ p
  nq : ∀ q ∈ qs, ¬ OwnA σ ρ q
  top : H p = some (.lst (qs.map V.ref))
  nd : qs.Nodup
  ap : p ∉ qs
  len : qs.length = acc.length
  at_ : ∀ (j : Nat) (q : Addr) (ys : List D), qs[j]? = some q → acc[j]? = some ys → ∃ vs, H q = some (.lst vs) ∧ Rps K G vs ys
section
variable {K : PySem.W.Frag} {H0 G H G' H' : Hp} {p : Addr} {qs : List Addr} {acc : List (List D)} {σ σ' : L2.St} {ρ ρ' : En}
theorem HoldN.at_some (h : HoldN K H0 p qs acc G H σ ρ) {j : Nat} {q : Addr} (e : qs[j]? = some q) : ∃ ys vs, acc[j]? = some ys ∧ H q = some (.lst vs) ∧ Rps K G vs ys := by
  have hj : j < acc.length := by rw [← h.len]; exact (List.getElem?_eq_some_iff.mp e).1
  obtain ⟨vs, a, b⟩ := h.at_ j q acc[j] e (List.getElem?_eq_getElem hj)
  exact ⟨_, vs, List.getElem?_eq_getElem hj, a, b⟩
theorem HoldN.there (h : HoldN K H0 p qs acc G H σ ρ) {q : Addr} (hq : q ∈ qs) : ∃ vs, H q = some (.lst vs) := by
  obtain ⟨j, e⟩ := List.mem_iff_getElem?.mp hq
  obtain ⟨ys, vs, _, a, _⟩ := h.at_some e
  exact ⟨vs, a⟩
theorem HoldN.aft (h : HoldN K H0 p qs acc G H σ ρ) (a : Aft K G H σ ρ G' H' σ' ρ') : HoldN K H0 p qs acc G' H' σ' ρ' := by
  obtain ⟨k1, k2⟩ := a.keep p _ h.top h.np
  refine ⟨h.p0, h.q0, k2 h.gp trivial, fun q hq => ?_, a.nown h.top h.np, fun q hq => ?_, k1, h.nd, h.ap, h.len, fun j q ys e1 e2 => ?_⟩
  · obtain ⟨vs, e⟩ := h.there hq
    exact (a.keep q _ e (h.nq q hq)).2 (h.gq q hq) trivial
  · obtain ⟨vs, e⟩ := h.there hq
    exact a.nown e (h.nq q hq)
  · obtain ⟨vs, e, r⟩ := h.at_ j q ys e1 e2
    exact ⟨vs, (a.keep q _ e (h.nq q (List.mem_of_getElem? e1))).1, r.up a.ex⟩
/-- one list grows -/
theorem HoldN.grow (h : HoldN K H0 p qs acc G H σ ρ) {j : Nat} {q : Addr} {vs : List V} {ys : List D} {v : V} {d : D} (e1 : qs[j]? = some q) (e2 : acc[j]? = some ys) (e3 : H q = some (.lst vs)) (r : Rp K G v d) :
    HoldN K H0 p qs (acc.set j (ys ++ [d])) G (upd H q (.lst (vs ++ [v]))) σ ρ := by
  have hq : q ∈ qs := List.mem_of_getElem? e1
  have pq : p ≠ q := fun z => h.ap (z ▸ hq)
  refine ⟨h.p0, h.q0, h.gp, h.gq, h.np, h.nq, by rw [upd_ne pq]; exact h.top, h.nd, h.ap, by rw [List.length_set]; exact h.len, fun i q' ys' f1 f2 => ?_⟩
  by_cases z : i = j
  · subst z
    rw [e1] at f1
    cases f1
    have hj : i < acc.length := (List.getElem?_eq_some_iff.mp e2).1
    rw [List.getElem?_set_self hj] at f2
    cases f2
    obtain ⟨vs', g1, g2⟩ := h.at_ i q ys e1 e2
    rw [e3] at g1
    cases g1
    exact ⟨_, upd_same, g2.app (.one r)⟩
  · rw [List.getElem?_set_ne (Ne.symm z)] at f2
    have ne : q' ≠ q := fun y => by
      subst y
      have i1 := (List.getElem?_eq_some_iff.mp f1).1
      have i2 := (List.getElem?_eq_some_iff.mp e1).1
      have := (List.getElem_inj (h₀ := i1) (h₁ := i2) h.nd).mp (by rw [(List.getElem?_eq_some_iff.mp f1).2, (List.getElem?_eq_some_iff.mp e1).2])
      exact z this
    rw [upd_ne ne]
    exact h.at_ i q' ys' f1 f2
/-- a new list more -/
theorem HoldN.more (h : HoldN K H0 p qs acc G H σ ρ) {q : Addr} (hq : H q = none) (g : Good K G H σ ρ) (dom : ∀ a o, H0 a = some o → ∃ o', H a = some o') :
    HoldN K H0 p (qs ++ [q]) (acc ++ [[]]) G (upd (upd H q (.lst [])) p (.lst (qs.map V.ref ++ [.ref q]))) σ ρ := by
  have nin : q ∉ qs := fun z => by
    obtain ⟨vs, e⟩ := h.there z
    rw [hq] at e
    cases e
  have pq : p ≠ q := fun z => by
    have := h.top
    rw [z, hq] at this
    cases this
  refine ⟨h.p0, fun a ha => ?_, h.gp, fun a ha => ?_, h.np, fun a ha => ?_, by rw [upd_same, List.map_append]; rfl, ?_, fun z => ?_, by simp [h.len], fun j a ys e1 e2 => ?_⟩
  · rcases List.mem_append.mp ha with z | z
    · exact h.q0 a z
    · rw [List.mem_singleton] at z
      subst z
      exact none_back dom hq
  · rcases List.mem_append.mp ha with z | z
    · exact h.gq a z
    · rw [List.mem_singleton] at z
      subst z
      exact g.ex.free hq
  · rcases List.mem_append.mp ha with z | z
    · exact h.nq a z
    · rw [List.mem_singleton] at z
      subst z
      exact g.notOwn hq
  · refine List.nodup_append.mpr ⟨h.nd, by simp, fun a ha b hb => ?_⟩
    rw [List.mem_singleton] at hb
    subst hb
    exact fun z => nin (z ▸ ha)
  · rcases List.mem_append.mp z with z | z
    · exact h.ap z
    · rw [List.mem_singleton] at z
      exact pq z
  · by_cases z : j < qs.length
    · rw [List.getElem?_append_left z] at e1
      rw [List.getElem?_append_left (by rw [← h.len]; exact z)] at e2
      obtain ⟨vs, g1, g2⟩ := h.at_ j a ys e1 e2
      have ha := List.mem_of_getElem? e1
      have n1 : a ≠ p := fun y => h.ap (by rw [← y]; exact ha)
      have n2 : a ≠ q := fun y => nin (by rw [← y]; exact ha)
      rw [upd_ne n1, upd_ne n2]
      exact ⟨vs, g1, g2⟩
    · rw [List.getElem?_append_right (by omega)] at e1
      rw [List.getElem?_append_right (by rw [← h.len]; omega)] at e2
      obtain rfl : a = q := List.mem_singleton.mp (List.mem_of_getElem? e1)
      obtain rfl : ys = [] := List.mem_singleton.mp (List.mem_of_getElem? e2)
      rw [upd_ne (Ne.symm pq), upd_same]
      exact ⟨[], rfl, .nil⟩
/-- all of it stays -/
theorem HoldN.stay {Gs : Hp} {σ0 : L2.St} {ρ0 : En} : ∀ (qs : List Addr) {acc : List (List D)} {G : Hp}, (a : Aft K Gs H0 σ0 ρ0 G H σ ρ) → (q0 : ∀ q ∈ qs, H0 q = none) → (gq : ∀ q ∈ qs, G q = none) → (nq : ∀ q ∈ qs, ¬ OwnA σ ρ q) → qs.Nodup → qs.length = acc.length →
    (∀ (j : Nat) (q : Addr) (ys : List D), qs[j]? = some q → acc[j]? = some ys → ∃ vs, H q = some (.lst vs) ∧ Rps K G vs ys) →
    ∃ G', Aft K Gs H0 σ0 ρ0 G' H σ ρ ∧ Ex G G' ∧ Rps K G' (qs.map V.ref) (acc.map D.lst) ∧ ∀ b, b ∉ qs → G' b = G b
  | [], acc, G, a, _, _, _, _, len, _ => by
    cases acc with
    | nil => exact ⟨G, a, Same.refl _, .nil, fun _ _ => rfl⟩
    | cons _ _ => cases len
  | q :: qs, acc, G, a, q0, gq, nq, nd, len, at_ => by
    cases acc with
    | nil => cases len
    | cons ys acc =>
      have nd' := List.nodup_cons.mp nd
      obtain ⟨vs, e, r⟩ := at_ 0 q ys rfl rfl
      have gq0 := gq q List.mem_cons_self
      have a1 := a.stay (q0 q List.mem_cons_self) gq0 e (nq q List.mem_cons_self)
      have ex1 : Ex G (upd G q (.lst vs)) := ex_new gq0
      obtain ⟨G', A', x', R', o'⟩ := HoldN.stay qs a1 (fun b hb => q0 b (List.mem_cons_of_mem _ hb)) (fun b hb => by
          have n1 : b ≠ q := fun z => nd'.1 (by rw [← z]; exact hb)
          rw [upd_ne n1]
          exact gq b (List.mem_cons_of_mem _ hb))
        (fun b hb => nq b (List.mem_cons_of_mem _ hb)) nd'.2 (Nat.succ.inj len) (fun j b zs f1 f2 => by
          obtain ⟨us, g1, g2⟩ := at_ (j + 1) b zs f1 f2
          exact ⟨us, g1, g2.up ex1⟩)
      refine ⟨G', A', ex1.trans x', .cons (.lst (x' _ _ upd_same) ((r.up ex1).up x')) R', fun b hb => ?_⟩
      have n1 : b ≠ q := fun z => hb (by rw [z]; exact List.mem_cons_self)
      rw [o' b (fun z => hb (List.mem_cons_of_mem _ z)), upd_ne n1]
end
def nearAt (i : Int) (d : D) (acc : List (List D)) : Option (List (List D)) := match ixN acc.length i with
  | none => none
  | some j => match acc[j]? with
    | none => none
    | some ys => if ys.length ≤ lim then some (acc.set j (ys ++ [d])) else none
/-- near[k].append(f) -/
def nearS (fk f : Fe) (acc : List (List D)) : En → Option (List (List D) × En) := fun ρ => match fk ρ with
  | none => none
  | some (rk, ρ1) => match rd ρ1 rk with
    | some (.int i) => match dFr f ρ1 with
      | none => none
      | some (d, ρ2) => match nearAt i d acc with
        | none => none
        | some acc' => some (acc', ρ2)
    | _ => none
def nearL (h : Fg) (k1 f1 k2 f2 : Fe) : List D → List (List D) → En → Option (List (List D) × En)
  | [], acc, ρ => some (acc, ρ)
  | d :: ds, acc, ρ => match h d ρ with
    | none => none
    | some ρ1 => match nearS k1 f1 acc ρ1 with
      | none => none
      | some (acc1, ρ2) => match nearS k2 f2 acc1 ρ2 with
        | none => none
        | some (acc2, ρ3) => nearL h k1 f1 k2 f2 ds acc2 ρ3
def bNear (N : Nat) (fl : Fe) (fi : Fi) (h : Fg) (k1 f1 k2 f2 : Fe) : Fs := fun ρ => match fl ρ with
  | some (.ow (.l zs), ρ1) => if notRf ρ1 N = true then (match fi (ρ1.set N .un) with
    | none => none
    | some (xs, ρ2) => match nearL h k1 f1 k2 f2 xs (List.replicate zs.length []) ρ2 with
      | none => none
      | some (acc, ρ3) => if notRf ρ3 N = true then some (.nx, ρ3.set N (.fz (.lst (acc.map D.lst)))) else none) else none
  | _ => none
section
variable {X : Cx} {E : XK}
/-- the statement near[k].append(f) -/
abbrev tNearS (K : PySem.W.Frag) (N : Nat) (fk f : Fe) : TS := tDrop (tBM K "list" rAppend (tOp (rIx K) (tVar N) (teOf K fk)) (tCons (tdOf K (dFr f)) tNil))
theorem near_s {K : PySem.W.Frag} {N : Nat} {fk f : Fe} {En0 : Ends} {H0 G H : Hp} {σ : L2.St} {ρ ρ' : En} {p : Addr} {qs : List Addr} {acc acc' : List (List D)} (g : Good K G H σ ρ) (hs : σ[N]? = some (some (.ref p))) (hb : HoldN K H0 p qs acc G H σ ρ) (dom : ∀ a o, H0 a = some o → ∃ o', H a = some o')
    (e : nearS fk f acc ρ = some (acc', ρ')) (k : ∀ G' H', Ex G G' → Good K G' H' σ ρ' → HoldN K H0 p qs acc' G' H' σ ρ' → (∀ {Gs : Hp} {σs : L2.St} {ρs : En}, Aft K Gs H0 σs ρs G H σ ρ → Aft K Gs H0 σs ρs G' H' σ ρ') → En0.nx σ H') :
    tNearS K N fk f En0 σ H := by
  unfold nearS at e
  cases q1 : fk ρ with
  | none => simp only [q1] at e; cases e
  | some y =>
    obtain ⟨rk, ρ1⟩ := y
    simp only [q1] at e
    split at e
    · rename_i i q2
      cases q3 : dFr f ρ1 with
      | none => simp only [q3] at e; cases e
      | some y =>
        obtain ⟨d, ρ2⟩ := y
        simp only [q3] at e
        cases q4 : nearAt i d acc with
        | none => simp only [q4] at e; cases e
        | some acc1 =>
          simp only [q4] at e
          cases e
          unfold nearAt at q4
          cases q5 : ixN acc.length i with
          | none => simp only [q5] at q4; cases q4
          | some j =>
            simp only [q5] at q4
            cases q6 : acc[j]? with
            | none => simp only [q6] at q4; cases q4
            | some ys =>
              simp only [q6] at q4
              split at q4
              · rename_i hl
                cases q4
                refine ⟨.ref p, hs, G, ρ, rk, ρ1, g, q1, fun v G1 H1 A1 R1 => ?_⟩
                have hb1 := hb.aft A1
                have hj : j < qs.length := by rw [hb.len]; exact (List.getElem?_eq_some_iff.mp q6).1
                have e1 : qs[j]? = some qs[j] := List.getElem?_eq_getElem hj
                refine .inl ⟨p, qs.map V.ref, i, .ref qs[j], rfl, (rd_ok A1.good R1 q2).int, SqL.of hb1.top, ?_, ?_⟩
                · unfold atI
                  rw [List.length_map, hb1.len, q5]
                  show (qs.map V.ref)[j]? = _
                  rw [List.getElem?_map, e1]
                  rfl
                obtain ⟨vs1, t1, _⟩ := hb1.at_ j _ ys e1 q6
                refine ⟨.inl ⟨rfl, _, SqL.of t1⟩, G1, ρ1, d, ρ', A1.good, q3, fun u G2 H2 A2 R2 => ?_⟩
                have hb2 := hb1.aft A2
                obtain ⟨vs2, t2, r2⟩ := hb2.at_ j _ ys e1 q6
                refine ⟨qs[j], vs2, u, rfl, rfl, t2, by rw [r2.len]; exact lim_lt hl, ?_⟩
                have hm : qs[j] ∈ qs := List.getElem_mem hj
                have Am : ∀ {Gs : Hp} {σs : L2.St} {ρs : En}, Aft K Gs H0 σs ρs G H σ ρ → Aft K Gs H0 σs ρs G2 (upd H2 qs[j] (.lst (vs2 ++ [u]))) σ ρ' := fun A =>
                  ((A.trans A1).trans A2).mut (hb.q0 _ hm) (hb2.gq _ hm) (hb2.nq _ hm)
                exact k G2 _ (A1.ex.trans A2.ex) (A2.good.mut (hb2.gq _ hm) (hb2.nq _ hm)) (hb2.grow e1 q6 t2 R2) Am
              · cases q4
    · cases e
/-- [[] for x in ..] -/
theorem tLcN_of {K : PySem.W.Frag} {fi : Fi} {h : Fg} {vs S : List Nat} (hS : ∀ i ∈ S, i ∈ vs) {σ : L2.St} {G H : Hp} {ρ ρ' : En} {zs : List D} {Q : VK} (g : Good K G H σ ρ) (e : dLc fi h dYes (eC .non) vs ρ = some (.ow (.l zs), ρ'))
    (k : ∀ p qs G' H', Aft K G H σ ρ G' H' σ ρ' → HoldN K H p qs (List.replicate zs.length []) G' H' σ ρ' → Q (.ref p) H') : tLc (tiOf K fi) (tgOf K h S) (ttOf K dYes) (tLst tNil) vs σ H Q := by
  unfold dLc at e
  cases q : fi ρ with
  | none => rw [q] at e; cases e
  | some y =>
    obtain ⟨xs, ρ1⟩ := y
    rw [q] at e
    cases q2 : lcL h dYes (eC .non) vs xs [] (wipeD ρ1 vs) with
    | none => simp only [q2] at e; cases e
    | some y =>
      obtain ⟨accE, ρ2⟩ := y
      simp only [q2] at e
      cases e
      refine ⟨G, ρ, xs, ρ1, g, q, fun J G1 H1 A1 W Dl hD => ?_⟩
      have gw : Good K G1 H1 (wipe σ vs) (wipeD ρ1 vs) := A1.good.wipe
      have hr : ∀ i m, i ∈ vs → (wipeD ρ1 vs)[i]? ≠ some (.rf m) := fun i m hi z => by
        have l : i < ρ1.length := by
          have := (List.getElem?_eq_some_iff.mp z).1
          rw [wipeD_len] at this
          exact this
        rw [wipeD_in ρ1 i l vs hi] at z
        cases z
      have Am0 : Aft K G1 H1 (wipe σ vs) (wipeD ρ1 vs) G1 (upd H1 Dl (.lst [])) (wipe σ vs) (wipeD ρ1 vs) := (Aft.refl gw).mut hD (gw.ex.free hD) (gw.notOwn hD)
      refine lc_it W (fun i H2 => ∃ G2 ρ3 qs acc, Aft K G1 H1 (wipe σ vs) (wipeD ρ1 vs) G2 H2 (wipe σ vs) ρ3 ∧ Ex G1 G2 ∧ HoldN K H1 Dl qs (List.replicate acc.length []) G2 H2 (wipe σ vs) ρ3 ∧ lcL h dYes (eC .non) vs (xs.drop i) acc ρ3 = some (zs, ρ2))
        ⟨G1, wipeD ρ1 vs, [], [], Am0, Same.refl _, ⟨hD, (fun _ h => nomatch h), gw.ex.free hD, (fun _ h => nomatch h), gw.notOwn hD, (fun _ h => nomatch h), upd_same, List.nodup_nil, (fun h => nomatch h), rfl, (fun j q ys e _ => by cases e)⟩, by rw [List.drop_zero]; exact q2⟩
        (fun i H2 _ ⟨G2, _, _, _, A2, x2, _⟩ => x2.trans A2.good.ex) ?_ ?_
      · rintro i x H2 H3 hi ⟨G2, ρ3, qs, acc, A2, x2, hb2, e2⟩ ⟨d, hd, y⟩
        obtain ⟨G3, A3, R3⟩ := ItemY.take A2.good x2 y
        rw [drop_cons hd] at e2
        unfold lcL at e2
        cases q3 : h d ρ3 with
        | none => simp only [q3] at e2; cases e2
        | some ρ4 =>
          simp only [q3] at e2
          have e3 : (if acc.length < 16000000 then lcL h dYes (eC .non) vs (xs.drop (i + 1)) (acc ++ [.non]) (wipeD ρ4 vs) else none) = some (zs, ρ2) := e2
          split at e3
          · rename_i hsz
            refine ⟨G3, ρ3, d, ρ4, A3.good, R3, q3, fun σ4 A4 l4 s4 => ⟨wipe_eq l4 fun j hj => s4 j fun z => hj (hS j z), G3, ρ4, true, ρ4, A4.good, rfl, fun G5 H5 A5 => ?_⟩⟩
            have ew : wipe σ4 vs = wipe σ vs := wipe_eq l4 fun j hj => s4 j fun z => hj (hS j z)
            have hb5 := ((hb2.aft A3).aft A4).aft A5
            have A25 := ((A2.trans A3).trans A4).trans A5
            refine iteT ⟨Nat.zero_le _, fun q hq => ⟨qs.map V.ref, by rw [upd_ne (fun z => by have := hb5.top; rw [z, hq] at this; cases this)]; exact hb5.top, by rw [List.length_map, hb5.len, List.length_replicate]; exact sz16 hsz, ?_⟩⟩
            have hm := hb5.more hq A5.good A25.dom
            have B1 : Aft K G1 H1 (wipe σ vs) (wipeD ρ1 vs) G5 (upd H5 q (.lst [])) σ4 ρ4 := A25.mut (A25.back hq) (A5.good.ex.free hq) (A5.good.notOwn hq)
            have B2 : Aft K G1 H1 (wipe σ vs) (wipeD ρ1 vs) G5 (upd (upd H5 q (.lst [])) Dl (.lst (qs.map V.ref ++ [.ref q]))) σ4 ρ4 := B1.mut hb5.p0 hb5.gp hb5.np
            have B3 := B2.wipe (vs := vs) hr
            rw [ew] at B3
            refine ⟨G5, wipeD ρ4 vs, qs ++ [q], acc ++ [.non], B3, ((x2.trans A3.ex).trans A5.ex), ?_, e3⟩
            have nw : ∀ a, ¬ OwnA σ4 ρ4 a → ¬ OwnA (wipe σ vs) (wipeD ρ4 vs) a := fun a n => by
              rw [← ew]
              exact fun ⟨j, oj⟩ => n ⟨j, (own_wipe A5.good.len oj).2⟩
            have hm' : HoldN K H1 Dl (qs ++ [q]) (List.replicate (acc ++ [D.non]).length []) G5 (upd (upd H5 q (.lst [])) Dl (.lst (qs.map V.ref ++ [.ref q]))) σ4 ρ4 := by
              have : List.replicate (acc ++ [D.non]).length ([] : List D) = List.replicate acc.length [] ++ [[]] := by
                rw [List.length_append, List.length_singleton, List.replicate_succ']
              rw [this]
              exact hm
            exact ⟨hm'.p0, hm'.q0, hm'.gp, hm'.gq, nw _ hm'.np, fun a ha => nw a (hm'.nq a ha), hm'.top, hm'.nd, hm'.ap, hm'.len, hm'.at_⟩
          · cases e3
      · rintro H2 ⟨G2, ρ3, qs, acc, A2, x2, hb2, e2⟩
        rw [List.drop_eq_nil_of_le (Nat.le_refl _)] at e2
        cases e2
        have Ar := Aft.rest A1.good A2
        have A := A1.trans Ar
        have l2 : ρ2.length = ρ1.length := by
          have := A2.good.len
          rw [wipe_length] at this
          rw [← this]
          exact A1.good.len
        have back : ∀ a, H1 a = none → ¬ OwnA (wipe σ vs) ρ2 a → ¬ OwnA σ (restD ρ1 ρ2 vs) a := fun a ha n ⟨j, oj1, oj2⟩ => by
          by_cases hv : j ∈ vs
          · have l : j < ρ2.length := by
              rw [l2, ← A1.good.len]
              exact (List.getElem?_eq_some_iff.mp oj1).1
            rw [restD_in ρ1 ρ2 j l l2.symm vs hv] at oj2
            obtain ⟨_, u, e⟩ := Own.there A1.good ⟨oj1, oj2⟩
            rw [ha] at e
            cases e
          · rw [restD_out ρ1 ρ2 j vs hv] at oj2
            exact n ⟨j, by rw [wipe_out σ j vs hv]; exact oj1, oj2⟩
        exact k Dl qs G2 H2 A ⟨A1.back hb2.p0, fun q hq => A1.back (hb2.q0 q hq), hb2.gp, hb2.gq, back _ hb2.p0 hb2.np, fun q hq => back q (hb2.q0 q hq) (hb2.nq q hq), hb2.top, hb2.nd, hb2.ap, hb2.len, hb2.at_⟩
theorem db_near {B : Fs} {N : Nat} {yN : Str} {own : List (Str × Nat)} {S S2 : List Nat} {fi0 fi : Fi} {h0 h : Fg} {k1 f1 k2 f2 : Fe} {scope : Scope} {tg0 iter0 tg iter ek1 ef1 ek2 ef2 : Expr} {rest : List Stmt}
    {p1 p2 p3 p4 a1 a2 a3 a4 a5 b1 b2 b3 b4 b5 c1 : Pos}
    (hp : PassesOwn (model X.prog X.w) X.A X.env X.xe) (hc : X.calm = true) (hN : X.N.Nodup) (hy : X.N[N]? = some yN) (hyl : X.env.scope.names.lookup yN = some .local)
    (hsw : swapsWith (.ListComp (.List [] p1) [⟨tg0, iter0, [], 0⟩] scope p2) (some (.Name yN p3)) p4.line X.env = pure true) (hi0 : DI X tg0 iter0 fi0) (ok : BlkOk X.N X.env.scope scope own)
    (hg0 : ∀ (s : Shared) (H : Hp) (C : Addr) (cl : List (Str × Addr)) (fp : List Addr), DG (X.blk s H scope (compEnvC scope cl C X.env) fp) tg0 h0 S)
    (hit : DI X tg iter fi) (hg : DG X tg h S2) (hv1 : PE X (.Name yN a1) (tVar N)) (hk1 : DE X ek1 k1) (hf1 : DE X ef1 f1) (hv2 : PE X (.Name yN b1) (tVar N)) (hk2 : DE X ek2 k2) (hf2 : DE X ef2 f2) (hrest : DB X E rest B)
    (hS : ∀ i ∈ S, i ∈ own.map (·.2) := by decide) (hNS : N ∉ S2 := by decide) (hs0 : ∀ x, foldedSetIterable iter0 X.env x = pure x := by intro _; rfl) (hs1 : ∀ x, foldedSetIterable iter X.env x = pure x := by intro _; rfl)
    (w1 : swapsWith (.Call (.Attribute (.Subscript (.Name yN a1) ek1 a2) "append" a3) [ef1] [] a4) none a5.line X.env = pure false := by rfl)
    (w2 : swapsWith (.Call (.Attribute (.Subscript (.Name yN b1) ek2 b2) "append" b3) [ef2] [] b4) none b5.line X.env = pure false := by rfl)
    (s1 : PlainIx ek1 := by first | exact fun _ _ => rfl | (intro _ _; rfl)) (s2 : PlainIx ek2 := by first | exact fun _ _ => rfl | (intro _ _; rfl))
    (l1 : (a3.endLine == a4.line) = true := by rfl) (l2 : (b3.endLine == b4.line) = true := by rfl) (t1 : starEach [ef1] X.env = (false, eval ef1 X.env) :: starEach [] X.env := by rfl) (t2 : starEach [ef2] X.env = (false, eval ef2 X.env) :: starEach [] X.env := by rfl)
    (m1 : attributeBase (.Subscript (.Name yN a1) ek1 a2) "append" X.env (eval (.Subscript (.Name yN a1) ek1 a2) X.env) = eval (.Subscript (.Name yN a1) ek1 a2) X.env := by rfl)
    (m2 : attributeBase (.Subscript (.Name yN b1) ek2 b2) "append" X.env (eval (.Subscript (.Name yN b1) ek2 b2) X.env) = eval (.Subscript (.Name yN b1) ek2 b2) X.env := by rfl)
    (u1 : ((backTo a4 (starEach [ef1] X.env)).all (fun x => !x.1) && (backToKw a4 (keywordEach [] X.env)).all (fun x => x.1.isSome) && decide ([ef1].length + ([] : List Keyword).length + (if ([] : List Keyword).isEmpty then 0 else 1) < 30)) = true := by rfl)
    (u2 : ((backTo b4 (starEach [ef2] X.env)).all (fun x => !x.1) && (backToKw b4 (keywordEach [] X.env)).all (fun x => x.1.isSome) && decide ([ef2].length + ([] : List Keyword).length + (if ([] : List Keyword).isEmpty then 0 else 1) < 30)) = true := by rfl) :
    DB X E (.Assign [.Name yN p3] (.ListComp (.List [] p1) [⟨tg0, iter0, [], 0⟩] scope p2) p4 :: .For tg iter [.Expr (.Call (.Attribute (.Subscript (.Name yN a1) ek1 a2) "append" a3) [ef1] [] a4) a5, .Expr (.Call (.Attribute (.Subscript (.Name yN b1) ek2 b2) "append" b3) [ef2] [] b4) b5] [] c1 :: rest)
      (bSeq (bNear N (dLc fi0 h0 dYes (eC .non) (own.map (·.2))) fi h k1 f1 k2 f2) B) := by
  refine PSs.weak (pss_cons (ps_setLc (i := N) (g := tgOf X.K h0 S) (tt := ttOf X.K dYes) (te := tLst tNil) hc hN hy hyl hsw hi0 ok hg0 (fun _ _ _ _ _ => dts_nil) (fun _ _ _ _ _ => pe_lst pa_nil) hs0)
    (pss_cons (ps_for hp hc hit hg (pss_cons (ps_expr (pe_bm PySem.F.plainAttrs_list PySem.F.slot_list_append PySem.F.type_list_append mt_append (pe_ix ix_seq hv1 hk1 s1) (pa_cons (de_fr hf1) pa_nil t1) m1 u1 l1 t1) w1)
      (pss_one (ps_expr (pe_bm PySem.F.plainAttrs_list PySem.F.slot_list_append PySem.F.type_list_append mt_append (pe_ix ix_seq hv2 hk2 s2) (pa_cons (de_fr hf2) pa_nil t2) m2 u2 l2 t2) w2))) hs1) hrest)) fun En0 σ H ⟨G, ρ, fl, ρ', g, e, k⟩ => ?_
  unfold bSeq at e
  cases q0 : bNear N (dLc fi0 h0 dYes (eC .non) (own.map (·.2))) fi h k1 f1 k2 f2 ρ with
  | none => simp only [q0] at e; cases e
  | some y =>
    obtain ⟨flN, ρN⟩ := y
    simp only [q0] at e
    unfold bNear at q0
    split at q0
    case h_2 => cases q0
    rename_i zs ρ1 q1
    split at q0
    case isFalse => cases q0
    rename_i n1
    cases q2 : fi (ρ1.set N .un) with
    | none => simp only [q2] at q0; cases q0
    | some y =>
      obtain ⟨xs, ρ2⟩ := y
      simp only [q2] at q0
      cases q3 : nearL h k1 f1 k2 f2 xs (List.replicate zs.length []) ρ2 with
      | none => simp only [q3] at q0; cases q0
      | some y =>
        obtain ⟨accE, ρ3⟩ := y
        simp only [q3] at q0
        split at q0
        case isFalse => cases q0
        rename_i n3
        cases q0
        unfold tSeq tAsg
        refine tLcN_of hS g q1 fun p qs G1 H1 A1 hb1 => ?_
        have lN : N < σ.length := by
          rw [A1.good.len]
          unfold notRf at n1
          cases z : ρ1[N]? with
          | none => rw [z] at n1; cases n1
          | some _ => exact (List.getElem?_eq_some_iff.mp z).1
        have A2 : Aft X.K G1 H1 σ ρ1 G1 H1 (σ.set N (some (.ref p))) (ρ1.set N .un) := (Aft.refl A1.good).store (r := .un) trivial (fun p _ z => by rcases z with ⟨m, z⟩ | ⟨m, z⟩ <;> cases z) n1
        have hb2 := hb1.aft A2
        have sl2 : (σ.set N (some (V.ref p)))[N]? = some (some (.ref p)) := List.getElem?_set_self lN
        refine ⟨G1, _, xs, ρ2, A2.good, q2, fun J G3 H3 A3 W => ?_⟩
        refine for_it W (g := tgOf X.K h S2) (tb := tSeq (tNearS X.K N k1 f1) (tNearS X.K N k2 f2)) (D := { En0 with nx := tsOf X.K E B En0 }) (fun i σ4 H4 => ∃ G4 ρ4 acc, Aft X.K G H σ ρ G4 H4 σ4 ρ4 ∧ Ex G3 G4 ∧ HoldN X.K H p qs acc G4 H4 σ4 ρ4 ∧ σ4[N]? = some (some (.ref p)) ∧ nearL h k1 f1 k2 f2 (xs.drop i) acc ρ4 = some (accE, ρ3))
          ⟨G3, ρ2, _, (A1.trans A2).trans A3, Same.refl _, hb2.aft A3, sl2, by rw [List.drop_zero]; exact q3⟩ (fun i σ2 H2 _ ⟨G2, _, _, A2, x2, _⟩ => x2.trans A2.good.ex) ?_ ?_
        · rintro i x σ4 H4 H5 hi ⟨G4, ρ4, acc, A4, x4, hb4, sl4, e4⟩ ⟨d, hd, y⟩
          obtain ⟨G5, A5, R5⟩ := ItemY.take A4.good x4 y
          rw [drop_cons hd] at e4
          unfold nearL at e4
          cases q5 : h d ρ4 with
          | none => simp only [q5] at e4; cases e4
          | some ρ5 =>
            simp only [q5] at e4
            cases q6 : nearS k1 f1 acc ρ5 with
            | none => simp only [q6] at e4; cases e4
            | some y =>
              obtain ⟨acc6, ρ6⟩ := y
              simp only [q6] at e4
              cases q7 : nearS k2 f2 acc6 ρ6 with
              | none => simp only [q7] at e4; cases e4
              | some y =>
                obtain ⟨acc7, ρ7⟩ := y
                simp only [q7] at e4
                refine ⟨G5, ρ4, d, ρ5, A5.good, R5, q5, fun σ6 A6 _ s6 => ?_⟩
                have A46 := (A4.trans A5).trans A6
                have hb6 := (hb4.aft A5).aft A6
                have sl6 : σ6[N]? = some (some (.ref p)) := (s6 N hNS).trans sl4
                refine near_s A6.good sl6 hb6 A46.dom q6 fun G7 H7 x7 g7 hb7 A7 => ?_
                have A47 := A7 A46
                refine near_s g7 sl6 hb7 A47.dom q7 fun G8 H8 x8 g8 hb8 A8 => ?_
                exact ⟨G8, ρ7, acc7, A8 A47, ((x4.trans A5.ex).trans x7).trans x8, hb8, sl6, e4⟩
        · rintro σ4 H4 ⟨G4, ρ4, acc, A4, x4, hb4, sl4, e4⟩
          rw [List.drop_eq_nil_of_le (Nat.le_refl _)] at e4
          cases e4
          obtain ⟨G5, A5, x5, R5, o5⟩ := HoldN.stay qs A4 hb4.q0 hb4.gq hb4.nq hb4.nd hb4.len hb4.at_
          have gp5 : G5 p = none := by rw [o5 p hb4.ap]; exact hb4.gp
          have A6 := A5.stay hb4.p0 gp5 hb4.top hb4.np
          have A7 := A6.store (i := N) (s := some (.ref p)) (r := .fz (.lst (accE.map D.lst))) ⟨.ref p, rfl, .lst upd_same (R5.up (ex_new gp5))⟩ (fun p _ z => by rcases z with ⟨m, z⟩ | ⟨m, z⟩ <;> cases z) n3
          have es : σ4.set N (some (.ref p)) = σ4 := by
            apply List.ext_getElem?
            intro j
            by_cases z : N = j
            · subst z
              rw [sl4, List.getElem?_set_self (List.getElem?_eq_some_iff.mp sl4).1]
            · rw [List.getElem?_set_ne z]
          rw [es] at A7
          exact ⟨_, _, fl, ρ', A7.good, e, fun σ' G' H' A8 => (k σ' G' H' (A7.trans A8)).start A7.dom⟩
end
end DL
set_option Elab.async false
set_option linter.all false
set_option maxRecDepth 100000
set_option maxHeartbeats 2000000
namespace DL
open PySem PySem.Spec L2
/-! ### dicts that stay: read, walked; d.get(k, x) -/
def dkGet : D → D → Option (Option D)
  | .dk ks ds, d => (kOf d).map fun k => valD (ks.zip ds) k
  | _, _ => none
theorem rpkv_zip {κ : Type} {K : PySem.W.Frag} {G : Hp} : ∀ {ks : List κ} {vs : List V} {ds : List D}, Rps K G vs ds → ks.length = vs.length → RpKV K G (ks.zip vs) (ks.zip ds)
  | [], _, _, _, _ => .nil
  | k :: ks, _, _, .cons r t, l => .cons r (rpkv_zip t (Nat.succ.inj l))
  | k :: ks, _, _, .nil, l => by cases l
theorem dkGet_ok {K : PySem.W.Frag} {G H : Hp} {v y : V} {dd d : D} {r : Option D} (ex : Ex G H) (hv : Vw K G H v dd) (hy : Vw K G H y d) (e : dkGet dd d = some r) :
    ∃ p w, v = .ref p ∧ DGet H p y w ∧ w.isSome = r.isSome ∧ ∀ z, r = some z → ∃ u, w = some u ∧ Rp K G u z := by
  unfold dkGet at e
  split at e
  · rename_i ks ds
    cases q : kOf d with
    | none => rw [q] at e; cases e
    | some k =>
      rw [q] at e
      cases e
      rcases hv with ⟨_, _, _, z, _⟩ | hv
      · cases z
      · cases hv with
        | @dk a od _ vs _ h1 h2 h3 =>
          have kv := rpkv_zip (ks := ks) h2 h3
          exact ⟨a, _, rfl, .inl ⟨_, k, .inr ⟨od, ex _ _ h1⟩, kOf_vw hy q, rfl⟩, RpKV.isSome kv, fun z ez => RpKV.val kv ez⟩
  · cases e
def dDgF (fo fk : Fe) : Fe := fun ρ => match fo ρ with
  | none => none
  | some (ra, ρ1) => match fk ρ1 with
    | none => none
    | some (rk, ρ2) => match rd ρ2 ra, rd ρ2 rk with
      | some dd, some d => match dkGet dd d with
        | some (some v) => some (.fz v, ρ2)
        | _ => none
      | _, _ => none
def dDinF (neg : Bool) (fk fo : Fe) : Fe := fun ρ => match fk ρ with
  | none => none
  | some (rk, ρ1) => match fo ρ1 with
    | none => none
    | some (ra, ρ2) => match rd ρ2 ra, rd ρ2 rk with
      | some dd, some d => match dkGet dd d with
        | some o => some (.fz (.bl (neg ^^ o.isSome)), ρ2)
        | _ => none
      | _, _ => none
section
variable {X : Cx} {o i e : Expr} {fo fk fx : Fe} {n : Nat} {pos pos' : Pos}
theorem de_dgF (hu : X.A.units + 65 < cLine) (ho : DE X o fo) (hi : DE X i fk) (hs : NoSl i := by intro _ _; rfl) : DE X (.Subscript o i pos) (dDgF fo fk) := PE.weak (pe_dget (by omega) ho hi hs) fun σ H Q ⟨G, ρ, z, ρ', g, e, k⟩ => by
  unfold dDgF at e
  split at e
  · cases e
  rename_i ra ρ1 q1
  split at e
  · cases e
  rename_i rk ρ2 q2
  split at e
  · rename_i dd d q3 q4
    split at e
    · rename_i v q5
      cases e
      refine ⟨G, ρ, ra, ρ1, g, q1, fun x G1 H1 A1 R1 => ⟨G1, ρ1, rk, _, A1.good, q2, fun y G2 H2 A2 R2 => ?_⟩⟩
      obtain ⟨p, w, rfl, dg, _, hv⟩ := dkGet_ok A2.good.ex (rd_ok A2.good (R1.aft A2) q3) (rd_ok A2.good R2 q4) q5
      obtain ⟨u, rfl, ru⟩ := hv v rfl
      exact ⟨p, u, rfl, dg, k u G2 H2 (A1.trans A2) ru⟩
    · cases e
  · cases e
theorem dDinF_of {K : PySem.W.Frag} {neg : Bool} : ∀ σ H Q, teOf K (dDinF neg fk fo) σ H Q → (teOf K fk) σ H fun y H1 => (teOf K fo) σ H1 fun x H2 => ∃ a o, x = .ref a ∧ DGet H2 a y o ∧ Q (.bl (neg ^^ o.isSome)) H2 := fun σ H Q ⟨G, ρ, z, ρ', g, e, k⟩ => by
  unfold dDinF at e
  split at e
  · cases e
  rename_i rk ρ1 q1
  split at e
  · cases e
  rename_i ra ρ2 q2
  split at e
  · rename_i dd d q3 q4
    split at e
    · rename_i r q5
      cases e
      refine ⟨G, ρ, rk, ρ1, g, q1, fun y G1 H1 A1 R1 => ⟨G1, ρ1, ra, _, A1.good, q2, fun x G2 H2 A2 R2 => ?_⟩⟩
      obtain ⟨p, w, rfl, dg, hs, _⟩ := dkGet_ok A2.good.ex (rd_ok A2.good R2 q3) (rd_ok A2.good (R1.aft A2) q4) q5
      refine ⟨p, w, rfl, dg, ?_⟩
      rw [hs]
      exact k _ G2 H2 (A1.trans A2) (.bl _)
    · cases e
  · cases e
theorem dc_inF (hu : X.A.units + 65 < cLine) (hi : DE X i fk) (ho : DE X o fo) : PC X .In i o (teOf X.K (dDinF false fk fo)) :=
  ⟨fun pins s σ H Q I h => (pc_din (by omega) hi ho).run pins s σ H Q I (by simpa [tDIn, Bool.false_xor] using dDinF_of σ H Q h)⟩
theorem dc_notinF (hu : X.A.units + 65 < cLine) (hi : DE X i fk) (ho : DE X o fo) : PC X .NotIn i o (teOf X.K (dDinF true fk fo)) :=
  ⟨fun pins s σ H Q I h => (pc_dnotin (by omega) hi ho).run pins s σ H Q I (by simpa [tDNotIn, Bool.true_xor] using dDinF_of σ H Q h)⟩
theorem de_dinF (hu : X.A.units + 65 < cLine) (hi : DE X i fk) (ho : DE X o fo) (hm : behindInMarks .In o = false := by rfl) : DE X (.Compare i [.In] [o] pos) (dDinF false fk fo) := pe_cmp (dc_inF hu hi ho) hm
theorem de_dnotinF (hu : X.A.units + 65 < cLine) (hi : DE X i fk) (ho : DE X o fo) (hm : behindInMarks .NotIn o = false := by rfl) : DE X (.Compare i [.NotIn] [o] pos) (dDinF true fk fo) := pe_cmp (dc_notinF hu hi ho) hm
theorem dt_dinF (hu : X.A.units + 65 < cLine) (hi : DE X i fk) (ho : DE X o fo) (hm : behindInMarks .In o = false := by rfl) : DT X (.Compare i [.In] [o] pos) (dTst (dDinF false fk fo)) := PT.weak (pt_cmp (dc_inF hu hi ho) hm) fun σ H Q q => tTest_of σ H Q q
theorem dt_dnotinF (hu : X.A.units + 65 < cLine) (hi : DE X i fk) (ho : DE X o fo) (hm : behindInMarks .NotIn o = false := by rfl) : DT X (.Compare i [.NotIn] [o] pos) (dTst (dDinF true fk fo)) := PT.weak (pt_cmp (dc_notinF hu hi ho) hm) fun σ H Q q => tTest_of σ H Q q
/-- d.get(k, x), d held alone -/
def dGet2 (i : Nat) (fk fx : Fe) : Fe := fun ρ => match heldM ρ[i]? with
  | some (.l _) => none
  | none => none
  | some _ => match fk ρ with
    | none => none
    | some (rk, ρ1) => match dFr fx ρ1 with
      | none => none
      | some (x, ρ2) => match rd ρ2 rk, heldM ρ2[i]? with
        | some d, some m => match mGet m d with
          | some o => some (.fz (o.getD x), ρ2)
          | none => none
        | _, _ => none
theorem heldM_isD {K : PySem.W.Frag} {G H : Hp} {σ : L2.St} {ρ : En} {i : Nat} {m : Mu} (g : Good K G H σ ρ) (h : heldM ρ[i]? = some m) (n : ∀ xs, m ≠ .l xs) : ∃ p, σ[i]? = some (some (.ref p)) ∧ IsD H p := by
  obtain ⟨p, o, e1, e2, e3, _⟩ := held_atM g h
  refine ⟨p, e1, ?_⟩
  cases e3 with
  | l _ => exact absurd rfl (n _)
  | k _ => exact .inl ⟨_, .inl e2⟩
  | t _ => exact .inr ⟨_, .inl e2⟩
theorem de_get2 {x : Expr} {apos cpos : Pos} (hu : X.A.units + 65 < cLine) (ho : PE X o (tVar n)) (hk : DE X i fk) (hx : DE X x fx) (m : M2 X o "get" apos i x cpos := by exact ⟨rfl, rfl, rfl, rfl⟩) :
    DE X (.Call (.Attribute o "get" apos) [i, x] [] cpos) (dGet2 n fk fx) := PE.weak (pe_dget2 (by omega) ho hk (de_fr hx) m) fun σ H Q ⟨G, ρ, z, ρ', g, e, k⟩ => by
  unfold dGet2 at e
  split at e
  · cases e
  · cases e
  rename_i m0 n0 q0
  split at e
  · cases e
  rename_i rk ρ1 q1
  split at e
  · cases e
  rename_i xd ρ2 q2
  split at e
  · rename_i d m q3 q4
    split at e
    · rename_i r q5
      cases e
      obtain ⟨p, e1, isd⟩ := heldM_isD g q0 (fun xs z => n0 xs z)
      refine ⟨.ref p, e1, p, rfl, isd, G, ρ, rk, ρ1, g, q1, fun y G1 H1 A1 R1 => ⟨G1, ρ1, xd, _, A1.good, q2, fun u G2 H2 A2 R2 => ?_⟩⟩
      obtain ⟨p', o', e4, e5, e6, _⟩ := held_atM A2.good q4
      rw [e1] at e4
      cases e4
      obtain ⟨w, dg, hs, hv⟩ := mGet_ok A2.good.ex e5 e6 (rd_ok A2.good (R1.aft A2) q3) q5
      refine ⟨w, dg, k _ G2 H2 (A1.trans A2) ?_⟩
      cases r with
      | none =>
        have : w = none := by
          cases w with
          | none => rfl
          | some _ => cases hs
        subst this
        exact R2
      | some z =>
        obtain ⟨u', rfl, ru⟩ := hv z rfl
        exact ru
    · cases e
  · cases e
end
/-- the keys of a dict that stays -/
def kD : Key → D
  | .inl i => .int i
  | .inr s => .str s
theorem kD_rp {K : PySem.W.Frag} {G : Hp} (k : Key) : Rp K G (kV k) (kD k) := by
  cases k with
  | inl i => exact .int i
  | inr s => exact .str s
def iKeysF (f : Fe) : Fi := fun ρ => match dFr f ρ with
  | some (.dk ks ds, ρ1) => if ks.length = ds.length then some (ks.map kD, ρ1) else none
  | _ => none
theorem di_keysF {X : Cx} {tg e : Expr} {f : Fe} (he : DE X e f) : DI X tg e (iKeysF f) := PI.weak (pi_keys (de_fr he)) fun σ H R ⟨G, ρ, xs, ρ', g, e, k⟩ => by
  unfold iKeysF at e
  split at e
  · rename_i ks ds ρ1 q
    split at e
    · rename_i hl
      cases e
      refine ⟨G, ρ, _, _, g, q, fun v G1 H1 A1 R1 => ?_⟩
      cases R1 with
      | @dk a od _ vs _ h1 h2 h3 =>
        refine ⟨a, od, rfl, .inl ⟨_, A1.good.ex _ _ h1, k _ G1 H1 A1 ?_⟩⟩
        have w := walk_keys (d := a) (o := od) (kvs := ks.zip vs)
        have hl2 : (ks.zip vs).length = (ks.map kD).length := by rw [List.length_zip, List.length_map]; omega
        unfold ItOk
        rw [← hl2]
        refine w.mono (fun H e => e _ _ h1) fun i H x H' hi _ ⟨eH, kk, v, e1, e2⟩ => ?_
        subst e2
        have e3 : ks[i]? = some kk := by
          have := List.getElem?_zip_eq_some.mp e1
          exact this.1
        exact ⟨kD kk, by rw [List.getElem?_map, e3]; rfl, .inl ⟨eH, kD_rp kk⟩⟩
    · cases e
  · cases e
/-- let it stay at once -/
def eFz (f : Fe) : Fe := fun ρ => match dFr f ρ with
  | some (d, ρ1) => some (.fz d, ρ1)
  | none => none
theorem de_fz {X : Cx} {e : Expr} {f : Fe} (h : DE X e f) : DE X e (eFz f) := PE.weak (de_fr h) fun σ H Q ⟨G, ρ, z, ρ', g, e, k⟩ => by
  unfold eFz at e
  split at e
  · rename_i d ρ1 q
    cases e
    exact ⟨G, ρ, d, _, g, q, fun v G1 H1 A1 R1 => k v G1 H1 A1 R1⟩
  · cases e
end DL
set_option Elab.async false
set_option linter.all false
set_option maxRecDepth 100000
set_option maxHeartbeats 2000000
namespace DL
open PySem PySem.Spec L2 PyProof.Rows
/-! ### zip(xs, ys), each a list or a tuple -/
/-- a list (true) or a tuple -/
def SqB (l : Bool) (K : PySem.W.Frag) (H : Hp) (a : Addr) (xs : List V) : Prop := if l = true then SqL K H a xs else SqT K H a xs
def IterB (l : Bool) (h : Heap) (it a : Addr) (i : Nat) : Prop := if l = true then h.IsListIter it a i else h.IsTupleIter it a i
def BaseB (l : Bool) (h : Heap) (a : Addr) (its : Array Value) : Prop := if l = true then h.IsList a its else h.IsTuple a its
def objB (l : Bool) (a : Addr) : Obj := { cls := .type (if l = true then "list_iterator" else "tuple_iterator"), data := .fields #[.ref a, .int 0 0] }
theorem iterB_at {l : Bool} {h h' : Heap} {it a : Addr} {i : Nat} (x : IterB l h it a i) (k : ∀ o, h.get? it = some o → h'.get? it = some o) : IterB l h' it a i := by
  cases l
  · exact Heap.IsTupleIter.at x k
  · exact Heap.IsListIter.at x k
theorem iterB_ob {l : Bool} {h : Heap} {it a : Addr} {i : Nat} (x : IterB l h it a i) : ∃ o, h.get? it = some o ∧ ∀ v, o.data ≠ .cell v := by
  cases l
  · obtain ⟨o, e, _, d⟩ := (show h.IsTupleIter it a i from x)
    exact ⟨o, e, fun v q => by rw [d] at q; cases q⟩
  · obtain ⟨o, e, _, d⟩ := (show h.IsListIter it a i from x)
    exact ⟨o, e, fun v q => by rw [d] at q; cases q⟩
theorem drawsB {P : Program} {w : World} {A : Around} (l : Bool) (hh : A.handled = none) (it a : Addr) (ne : a ≠ it) (its : Array Value) :
    Draws P w A it [it, a] its.size (fun i v => its[i]? = some v) (fun i h => IterB l h it a i ∧ BaseB l h a its) := by
  cases l
  · exact Draws.tuple hh it a ne its
  · exact Draws.list hh it a ne its
theorem beginsB (l : Bool) (a : Addr) (its : Array Value) : Begins (.ref a) (objB l a) fun h => BaseB l h a its := by
  cases l
  · exact begins_tuple a its
  · exact begins_list a its
section
variable {X : Cx} {pins : List (Addr × Obj)} {s : Shared} {σ : L2.St} {H : Hp}
theorem Inv.sqB {l : Bool} {a : Addr} {xs : List V} (I : Inv X pins σ H s) (h : SqB l X.K H a xs) : ∃ its, Vals xs its ∧ BaseB l s.heap a its.toArray ∧ a < s.heap.objs.size := by
  cases l
  · obtain ⟨its, rv, p, _⟩ := I.tuple (show SqT X.K H a xs from h)
    have p' : s.heap.IsTuple a its.toArray := p
    obtain ⟨o, ho, _⟩ := id p'
    exact ⟨its, rv, p', Heap.lt_size ho⟩
  · obtain ⟨its, rv, p, _⟩ := I.list (show SqL X.K H a xs from h)
    exact ⟨its, rv, p.isList, p.lt⟩
theorem Inv.sqB_inj {l : Bool} {a : Addr} {xs ys : List V} (I : Inv X pins σ H s) (h : SqB l X.K H a xs) (h' : SqB l X.K H a ys) : xs = ys := by
  cases l
  · exact I.tuple_inj (show SqT X.K H a xs from h) h'
  · exact I.list_inj (show SqL X.K H a xs from h) h'
end
def Itx (l1 l2 : Bool) (K : PySem.W.Frag) (a b : Addr) : It :=
  ⟨fun i H => ∃ (xs ys : List V) (x y : V), SqB l1 K H a xs ∧ SqB l2 K H b ys ∧ xs[i]? = some x ∧ ys[i]? = some y,
    fun i H v H' => ∃ T x y, v = .ref T ∧ H T = none ∧ H' = upd H T (.tup [x, y]) ∧ (∀ xs, SqB l1 K H a xs → xs[i]? = some x) ∧ ∀ ys, SqB l2 K H b ys → ys[i]? = some y,
    fun i H => ∃ xs ys : List V, SqB l1 K H a xs ∧ SqB l2 K H b ys ∧ (xs.length = i ∧ i ≤ ys.length ∨ ys.length = i ∧ i ≤ xs.length)⟩
/-- the cells of such a zip -/
abbrev zcells (n : Nat) : List Addr := [n + 4, n + 2, n + 3, n, n + 1]
theorem turn_x {P : Program} {w : World} {K : PySem.W.Frag} {elts : List Expr} {kk : Nat} {tpos : Pos} {l1 l2 : Bool} {a b : Addr} {n : Nat} (ha : a < n) (hb : b < n) :
    Turn P w K (.Tuple elts kk tpos) (Itx l1 l2 K a b) (zcells n) (n + 4) (fun i h => IsZip h (n + 4) (n + 2) (n + 3) .none ∧ IsTupOf2 h (n + 2) (.ref n) (.ref (n + 1)) ∧ (∃ x y, IsTupOf2 h (n + 3) x y) ∧ IterB l1 h n a i ∧ IterB l2 h (n + 1) b i) := by
  have S : ZipSep2 (n + 4) (n + 2) (n + 3) n (n + 1) [n, a] [n + 1, b] := by
    have q : ∀ {i : Nat} {c : Nat}, c < n → ¬ n + i = c := fun h => by omega
    have p : ∀ {i j : Nat}, i ≠ j → ¬ n + i = n + j := fun h => by omega
    refine ⟨p (by decide), p (by decide), p (by decide), p (i := 2) (j := 0) (by decide), List.mem_cons_self, fun m => ?_, fun m => ?_, p (by decide), List.mem_cons_self, fun m => ?_, fun m => ?_, fun m => ?_, fun m => ?_⟩
    · rcases List.mem_cons.mp m with e | m
      · exact p (i := 4) (j := 0) (by decide) e
      · exact q ha (List.mem_singleton.mp m)
    · rcases List.mem_cons.mp m with e | m
      · exact p (i := 3) (j := 0) (by decide) e
      · exact q ha (List.mem_singleton.mp m)
    · rcases List.mem_cons.mp m with e | m
      · exact p (by decide) e
      · exact q hb (List.mem_singleton.mp m)
    · rcases List.mem_cons.mp m with e | m
      · exact p (by decide) e
      · exact q hb (List.mem_singleton.mp m)
    · rcases List.mem_cons.mp m with e | m
      · exact p (i := 0) (j := 1) (by decide) e
      · exact q (i := 0) hb (List.mem_singleton.mp m)
    · rcases List.mem_cons.mp m with e | m
      · exact p (i := 1) (j := 0) (by decide) e
      · exact q ha (List.mem_singleton.mp m)
  have p : ∀ {i j : Nat}, i ≠ j → n + i ≠ n + j := fun h => by omega
  have p0 : ∀ {i : Nat}, i ≠ 0 → n + i ≠ n := fun h => by omega
  have nb : b ≠ n + 1 := Nat.ne_of_lt (Nat.lt_succ_of_lt hb)
  have cases5 : ∀ {c : Addr} {p : Prop}, c ∈ zcells n → (c = n + 4 → p) → (c = n + 2 → p) → (c = n + 3 → p) → (c = n → p) → (c = n + 1 → p) → p := fun {c p} hc q1 q2 q3 q4 q5 => by
    have e : c = n + 4 ∨ c = n + 2 ∨ c = n + 3 ∨ c = n ∨ c = n + 1 := by simpa using hc
    rcases e with e | e | e | e | e
    · exact q1 e
    · exact q2 e
    · exact q3 e
    · exact q4 e
    · exact q5 e
  constructor
  case mem => simp
  case obj =>
    intro i h ⟨z1, z2, ⟨x, y, z3⟩, z4, z5⟩ c hc
    exact cases5 hc (fun e => e ▸ ⟨_, z1, fun v q => nomatch q⟩) (fun e => e ▸ ⟨_, z2, fun v q => nomatch q⟩) (fun e => e ▸ ⟨_, z3, fun v q => nomatch q⟩) (fun e => e ▸ iterB_ob z4) (fun e => e ▸ iterB_ob z5)
  case keep =>
    intro i h h' ⟨z1, z2, ⟨x, y, z3⟩, z4, z5⟩ k
    exact ⟨k _ (by simp) _ z1, k _ (by simp) _ z2, ⟨x, y, k _ (by simp) _ z3⟩, iterB_at z4 fun o q => k _ (by simp) o q, iterB_at z5 fun o q => k _ (by simp) o q⟩
  case item =>
    intro X eP ew eK hc i pins s σ H E I hf ⟨z1, z2, ⟨x0, y0, z3⟩, z4, z5⟩ ⟨xs, ys, x, y, sx, sy, ex, ey⟩
    subst eP ew eK
    obtain ⟨us, ru, bu, lu⟩ := Inv.sqB I sx
    obtain ⟨ws, rw_, bw, lw⟩ := Inv.sqB I sy
    obtain ⟨u, hu, qu⟩ := ru.get ex
    obtain ⟨v, hv, qv⟩ := rw_.get ey
    have hh : X.A.in1.handled = none := by
      have := I.ok.hd hc
      simp [this]
    have li : ∀ {m : Nat} {z : Value} {t : List Value}, t[m]? = some z → m < t.toArray.size := fun e => by
      rw [List.size_toArray]
      exact (List.getElem?_eq_some_iff.mp e).1
    refine wpAny_pyNext_zipD2_item S (drawsB l1 hh n a (Nat.ne_of_lt ha) us.toArray) (drawsB l2 hh (n + 1) b nb ws.toArray) z1 z2 z3 ⟨z4, bu⟩ ⟨z5, bw⟩ (li hu) (li hv) fun u' v' h1 tk p1 p2 y1 y2 y3 y4 y5 y6 y7 => ?_
    have eu : u' = u := by
      have e : us[i]? = some u' := by simpa using p1
      rw [hu] at e
      exact (Option.some.inj e).symm
    have ev : v' = v := by
      have e : ws[i]? = some v' := by simpa using p2
      rw [hv] at e
      exact (Option.some.inj e).symm
    subst eu ev
    refine ⟨_, rfl, wpAny_letOwnedTupleGo_zip (s := { s with heap := h1, toks := tk }) y1 fun h2 w2 sb => ?_⟩
    have zl : n + 4 < s.heap.objs.size := Heap.lt_size z1
    have at2 : ∀ c o, c ≠ n + 4 → h1.get? c = some o → h2.get? c = some o := fun c o ne q => (sb.2 c ne).trans q
    have hT : h2.get? s.heap.objs.size = some { cls := .type "tuple", data := .seq #[u', v'] } := at2 _ _ (Nat.ne_of_gt zl) y5
    have new : ObjOk X.prog X.w (upd H s.heap.objs.size (.tup [x, y])) h2 s.heap.objs.size (.tup [x, y]) :=
      ⟨by show 2 ≤ sizeLine; decide, [u', v'], .cons qu (.cons qv .nil), _, hT, rfl, _, rfl⟩
    have I1 : Inv X pins σ (upd H s.heap.objs.size (.tup [x, y])) { s with heap := h2, toks := tk } := I.turnedNew (ch := zcells n) (fun c o nc q => at2 c o (fun e => nc (by simp [e])) (y7 c o (fun e => nc (by simp [e])) (fun e => nc (by simp [e])) (fun e => nc (by simp [e])) (fun e => nc (by simp [e])) q)) hf (Nat.le_refl _) new
    refine ⟨.ref s.heap.objs.size, _, I1, rfl, ⟨_, x, y, rfl, I.hok.fresh (Nat.le_refl _), rfl, fun l hl => by rw [Inv.sqB_inj I hl sx]; exact ex, fun l hl => by rw [Inv.sqB_inj I hl sy]; exact ey⟩,
      ⟨w2, at2 _ _ (p (by decide)) (y7 _ _ (p (by decide)) (p (by decide)) (p0 (by decide)) (p (by decide)) z2), ⟨u', v', at2 _ _ (p (by decide)) y2⟩, iterB_at y3.1 fun o q => at2 _ o (Ne.symm (p0 (by decide))) q, iterB_at y4.1 fun o q => at2 _ o (p (by decide)) q⟩, fun c hcm => ?_⟩
    have le : ∀ {i : Nat}, i ≤ 4 → n + i < s.heap.objs.size := fun h => Nat.lt_of_le_of_lt (Nat.add_le_add_left h n) zl
    have lt : c < s.heap.objs.size := cases5 hcm (fun e => e ▸ zl) (fun e => e ▸ le (by decide)) (fun e => e ▸ le (by decide)) (fun e => e ▸ le (i := 0) (by decide)) (fun e => e ▸ le (by decide))
    rw [upd_ne (Nat.ne_of_lt lt)]
    exact (hf c hcm).1
  case done =>
    intro X eP ew eK hc i pins s σ H E I hf ⟨z1, z2, ⟨x0, y0, z3⟩, z4, z5⟩ ⟨xs, ys, sx, sy, en⟩
    subst eP ew eK
    obtain ⟨us, ru, bu, lu⟩ := Inv.sqB I sx
    obtain ⟨ws, rw_, bw, lw⟩ := Inv.sqB I sy
    have hh : X.A.in1.handled = none := by
      have := I.ok.hd hc
      simp [this]
    have l1' : us.toArray.size = xs.length := by rw [List.size_toArray]; exact ru.length.symm
    have l2' : ws.toArray.size = ys.length := by rw [List.size_toArray]; exact rw_.length.symm
    exact wpAny_pyNext_zipD2_end S (drawsB l1 hh n a (Nat.ne_of_lt ha) us.toArray) (drawsB l2 hh (n + 1) b nb ws.toArray) z1 z2 z3 ⟨z4, bu⟩ ⟨z5, bw⟩ (by omega) (by omega) (by omega) fun h1 tk k =>
      ⟨rfl, I.turnedL (t' := tk) (ch := zcells n) (fun c o nc q => k c o (fun e => nc (by simp [e])) (fun e => nc (by simp [e])) (fun e => nc (by simp [e])) (fun e => nc (by simp [e])) q) hf⟩
  case self =>
    intro A i s Q E st h
    exact wpAny_pyIter_zip st.1 h
def iZipX (K : PySem.W.Frag) (ta : TA) : TI := fun σ H R => ta σ H fun vs H1 => ∃ a b xs ys l1 l2, vs = [.ref a, .ref b] ∧ SqB l1 K H1 a xs ∧ SqB l2 K H1 b ys ∧ R (Itx l1 l2 K a b) H1
theorem pi_zipX {X : Cx} {e e2 : Expr} {ta : TA} {p pos tpos : Pos} {elts : List Expr} {kk : Nat} (hg : Gl X "zip") (hm : X.mg "zip" = none) (ha : PA X [e, e2] ta)
    (hs : starEach [e, e2] X.env = (false, eval e X.env) :: starEach [e2] X.env := by rfl) (hpl : (backTo pos (starEach [e2] X.env)).any (·.1) = false := by rfl) :
    PI X (.Tuple elts kk tpos) (.Call (.Name "zip" p) [e, e2] [] pos) (iZipX X.K ta) := ⟨fun pins s σ H R I h => by
  refine Call_ (ld_blt I hg hm PyProof.Rows.boot_zip (PyProof.Rows.callWith_type1 (thn (ha.run pos pins s σ H _ I h) fun us t ⟨vs, H1, I1, r1, a, b, xs, ys, l1, l2, ev, sx, sy, q⟩ => ?_) hs hpl))
  subst ev
  cases r1 with
  | cons ra r1 =>
  cases r1 with
  | cons rb r1 =>
    cases r1
    cases ra
    cases rb
    obtain ⟨us, _, bu, lu⟩ := Inv.sqB I1 sx
    obtain ⟨ws, _, bw, lw⟩ := Inv.sqB I1 sy
    refine zip_begins2 (beginsB l1 a us.toArray) (beginsB l2 b ws.toArray) bu bw fun h' z1 z2 z3 z4 z5 z6 k => wpAny_pyIter_zip z1 ?_
    have it : ∀ {l : Bool} {i c : Addr}, h'.get? i = some (objB l c) → IterB l h' i c 0 := fun {l i c} e => by
      cases l
      · exact ⟨_, e, rfl, rfl⟩
      · exact ⟨_, e, rfl, rfl⟩
    refine ⟨t.heap.objs.size + 4, zcells t.heap.objs.size, _, _, H1, rfl, I1.kept (t' := t.toks) k, turn_x lu lw, ⟨z1, z2, ⟨_, _, z3⟩, it z4, it z5⟩, fun c hc => ?_, q⟩
    have hle : t.heap.objs.size ≤ c := by
      have e : c = t.heap.objs.size + 4 ∨ c = t.heap.objs.size + 2 ∨ c = t.heap.objs.size + 3 ∨ c = t.heap.objs.size ∨ c = t.heap.objs.size + 1 := by simpa using hc
      rcases e with e | e | e | e | e
      · exact e ▸ Nat.le_add_right _ _
      · exact e ▸ Nat.le_add_right _ _
      · exact e ▸ Nat.le_add_right _ _
      · exact e ▸ Nat.le_refl _
      · exact e ▸ Nat.le_add_right _ _
    exact I1.fpOk hle (I1.hok.fresh hle)⟩
theorem walk_x {l1 l2 : Bool} {K : PySem.W.Frag} {a b : Addr} {xs ys : List V} : Walk (Itx l1 l2 K a b) (min xs.length ys.length) (fun H => SqB l1 K H a xs ∧ SqB l2 K H b ys) (YPair (fun i => xs[i]?) (fun i => ys[i]?)) := by
  refine ⟨fun i H hi q => ⟨xs, ys, xs[i]'(by omega), ys[i]'(by omega), q.1, q.2, List.getElem?_eq_getElem _, List.getElem?_eq_getElem _⟩, fun H q => ⟨xs, ys, q.1, q.2, by omega⟩, fun i H v H' hi q ⟨T, x, y, h1, h2, h3, h4, h5⟩ => ⟨T, x, y, h1, h2, h3, h4 _ q.1, h5 _ q.2⟩⟩
/-- what is zipped, as data -/
def seqD : D → Option (Bool × List D)
  | .lst xs => some (true, xs)
  | .tup xs => some (false, xs)
  | _ => none
def zipD (xs ys : List D) : List D := (xs.zip ys).map fun p => .tup [p.1, p.2]
def iZipD (fa : Fa) : Fi := fun ρ => match fa ρ with
  | some ([.fz d, .fz e], ρ1) => match seqD d, seqD e with
    | some (_, xs), some (_, ys) => some (zipD xs ys, ρ1)
    | _, _ => none
  | _ => none
theorem seqD_ok {K : PySem.W.Frag} {G : Hp} {v : V} {d : D} {l : Bool} {xs : List D} (r : Rp K G v d) (e : seqD d = some (l, xs)) : ∃ a vs, v = .ref a ∧ Rps K G vs xs ∧ ∀ H, Ex G H → SqB l K H a vs := by
  unfold seqD at e
  split at e
  · cases e
    cases r with
    | lst h1 h2 => exact ⟨_, _, rfl, h2, fun H ex => SqL.of (ex _ _ h1)⟩
  · cases e
    cases r with
    | tup h1 h2 => exact ⟨_, _, rfl, h2, fun H ex => SqT.of (ex _ _ h1)⟩
  · cases e
theorem di_zip {X : Cx} {e e2 : Expr} {fa : Fa} {p pos tpos : Pos} {elts : List Expr} {kk : Nat} (hg : Gl X "zip") (hm : X.mg "zip" = none) (ha : DA X [e, e2] fa)
    (hs : starEach [e, e2] X.env = (false, eval e X.env) :: starEach [e2] X.env := by rfl) (hpl : (backTo pos (starEach [e2] X.env)).any (·.1) = false := by rfl) :
    DI X (.Tuple elts kk tpos) (.Call (.Name "zip" p) [e, e2] [] pos) (iZipD fa) := PI.weak (pi_zipX hg hm ha hs hpl) fun σ H R ⟨G, ρ, xs, ρ', g, q, k⟩ => by
  unfold iZipD at q
  split at q
  · rename_i d d2 ρ1 q1
    split at q
    · rename_i l1 xs l2 ys q2 q3
      cases q
      refine ⟨G, ρ, _, _, g, q1, fun vs G1 H1 A1 R1 => ?_⟩
      match vs, R1 with
      | [v, w], .cons r1 (.cons r2 .nil) =>
        obtain ⟨a, us, rfl, ru, su⟩ := seqD_ok (show Rp X.K G1 v d from r1) q2
        obtain ⟨b, ws, rfl, rw_, sw⟩ := seqD_ok (show Rp X.K G1 w d2 from r2) q3
        refine ⟨a, b, us, ws, l1, l2, rfl, su _ A1.good.ex, sw _ A1.good.ex, k _ G1 H1 A1 ?_⟩
        have w := walk_x (l1 := l1) (l2 := l2) (K := X.K) (a := a) (b := b) (xs := us) (ys := ws)
        have hl : min us.length ws.length = (zipD xs ys).length := by unfold zipD; rw [List.length_map, List.length_zip, ru.len, rw_.len]
        unfold ItOk
        rw [← hl]
        refine w.mono (fun H ex => ⟨su H ex, sw H ex⟩) fun i H v H' hi _ ⟨T, x, y, h1, h2, h3, h4, h5⟩ => ?_
        obtain ⟨dx, e1, rx⟩ := ru.getV h4
        obtain ⟨dy, e2, ry⟩ := rw_.getV h5
        refine ⟨.tup [dx, dy], ?_, .inr ⟨T, [x, y], [dx, dy], h1, rfl, h2, h3, .cons rx (.cons ry .nil)⟩⟩
        unfold zipD
        have ez : (xs.zip ys)[i]? = some (dx, dy) := List.getElem?_zip_eq_some.mpr ⟨e1, e2⟩
        rw [List.getElem?_map, ez]
        rfl
    · cases q
  · cases q
end DL
set_option Elab.async false
set_option linter.all false
set_option maxRecDepth 100000
set_option maxHeartbeats 2000000
namespace DL
open PySem PySem.Spec L2
open PyProof.Rows (envOfC)
/-! ### the def as the head tells it -/
def Df (P : Program) (w : World) (K : PySem.W.Frag) (mg : Str → Option Value) (base : Heap) (k : Nat) (x : Str) (ps : List Str) (F : FF) : Prop :=
  ∃ f fd, mg x = some (.ref f) ∧ PySem.W.keepIn K (.ref f) = true ∧ Binds K fd ps [] ∧ FnG P w K mg base k f fd ps (spD K ps.length F)
section
variable {P : Program} {w : World} {K : PySem.W.Frag} {mg : Str → Option Value} {base : Heap}
theorem okF {x qual : Str} {st : Stmt} {f : Addr} {fd : FuncData} {N ps : List Str} {k : Nat} {B : Fs} {dvs : List V} {kws : List (Str × V)} (F : FunD K x qual (defArgs st) (defBody st) (defScope st) dvs kws f fd) (S : FnScope N ps (defScope st))
    (hb : ∀ (cdv : Value) (A : Around) (outer : List Env) (s : Shared) (H : Hp), A.guards = some [] → Room k (A.deeper (envOfC qual (defScope st) s.heap.objs.size f cdv)) → DB (cxOf (L2.CX P w) P w K mg base N qual (defScope st) f cdv A outer s H E0).nox E0 (defBody st) B) :
    FnG P w K mg base (k + 1) f fd ps (spD K ps.length (runF (N.length - ps.length) B)) := by
  obtain ⟨oc, od, dV, kV, doc, pm, an, cdv, ct, osl, rfl, lk, hcd, _, _⟩ := F.ex
  refine fnG_of lk hcd S (fun vs H Q E h => ?_) fun A outer s H vs Q E gd hr hsp => ?_
  · obtain ⟨G, ρ, r, ρ', h1, _⟩ := h
    exact h1
  · obtain ⟨G, ρ, r, ρ', h1, hA, g, e, k⟩ := hsp
    refine ⟨tsOf K E0 B, ?_, ?_⟩
    · have h0 := hb cdv A outer s H gd hr
      exact PSs.nox (X := cxOf (L2.CX P w) P w K mg base N qual (defScope st) f cdv A outer s H E) (show PSs _ _ (tsOf K E0 B) from ⟨fun pins s1 σ H1 D I q => h0.run pins s1 σ H1 D I q⟩)
    · have e0 : L2.start N vs = vs.map some ++ List.replicate (N.length - ps.length) none := by
        unfold L2.start
        rw [h1]
      rw [e0]
      unfold runF at e
      cases q : B (ρ ++ List.replicate (N.length - ps.length) .un) with
      | none => rw [q] at e; cases e
      | some y =>
        obtain ⟨fl, ρe⟩ := y
        rw [q] at e
        refine ⟨G, _, fl, ρe, g.pad, q, fun σ' G' H' A' => ?_⟩
        have Ae := call_end g A'
        cases fl with
        | nx =>
          cases e
          exact k .non G' H' Ae .non
        | bk => cases e
        | ct => cases e
        | ex C ns ds => cases e
        | rt r1 =>
          intro v R
          replace e : (match resolve ρe r1 with | some z => some (z, fin ρ ρe) | none => none) = some (r, ρ') := e
          cases q2 : resolve ρe r1 with
          | none => rw [q2] at e; cases e
          | some z =>
            rw [q2] at e
            cases e
            exact k v G' H' Ae (res_ok hA g A' R q2)
theorem dfMk {x : Str} {st : Stmt} {fd : FuncData} {N ps : List Str} {k : Nat} {B : Fs} (F : FunD K x x (defArgs st) (defBody st) (defScope st) [] [] (He.fAd K (x, none)) fd) (gl : mg x = some (.ref (He.ga K x))) (S : FnScope N ps (defScope st))
    (hbind : ∀ (kV doc pm : Value) (an : Option Addr) (cdv ct : Value) (us : List Value), us.length = ps.length → bindArgs (PySem.W.fnOf x x (defArgs st) (defBody st) (defScope st) .none kV doc pm an cdv ct) ⟨us, []⟩ = pure (ps.zip us))
    (hb : ∀ (cdv : Value) (A : Around) (outer : List Env) (s : Shared) (H : Hp), A.guards = some [] → Room k (A.deeper (envOfC x (defScope st) s.heap.objs.size (He.fAd K (x, none)) cdv)) → DB (cxOf (L2.CX P w) P w K mg base N x (defScope st) (He.fAd K (x, none)) cdv A outer s H E0).nox E0 (defBody st) B) :
    Df P w K mg base (k + 1) x ps (runF (N.length - ps.length) B) := ⟨_, fd, gl, F.kp, FunD.bindsN F hbind, okF F S hb⟩
end
/-- a def with keyword-only parameters that have defaults -/
def DfD (P : Program) (w : World) (K : PySem.W.Frag) (mg : Str → Option Value) (base : Heap) (k : Nat) (x : Str) (ps : List Str) (F : FF) (n : Nat) (ks : List Str) (dvs : List D) : Prop :=
  ∃ f fd vs, mg x = some (.ref f) ∧ PySem.W.keepIn K (.ref f) = true ∧ BindsK K fd ps n ks vs ∧ (∀ G, Rps K G vs dvs) ∧ FnG P w K mg base k f fd ps (spD K ps.length F)
theorem dfMkD {P : Program} {w : World} {K : PySem.W.Frag} {mg : Str → Option Value} {base : Heap} {x : Str} {st : Stmt} {fd : FuncData} {N ps : List Str} {k : Nat} {B : Fs} {kws : List (Str × V)} (n : Nat) (dvs : List D)
    (F : FunD K x x (defArgs st) (defBody st) (defScope st) [] kws (He.fAd K (x, none)) fd) (gl : mg x = some (.ref (He.ga K x))) (S : FnScope N ps (defScope st)) (hk : kws ≠ []) (hn : n + kws.length = ps.length)
    (hless : ∀ (D : Addr) (doc pm : Value) (an : Option Addr) (cdv ct : Value) (us ks : List Value), us.length = n → ks.length = kws.length →
      KwChain D ((kws.map (·.1)).zip ks) (bindArgs (PySem.W.fnOf x x (defArgs st) (defBody st) (defScope st) .none (.ref D) doc pm an cdv ct) ⟨us, []⟩) (ps.zip (us ++ ks)))
    (hall : ∀ (kV doc pm : Value) (an : Option Addr) (cdv ct : Value) (us ws : List Value), us.length = n → ws.length = kws.length → bindArgs (PySem.W.fnOf x x (defArgs st) (defBody st) (defScope st) .none kV doc pm an cdv ct) ⟨us, (kws.map (·.1)).zip ws⟩ = pure (ps.zip (us ++ ws)))
    (hd : ∀ G, Rps K G (kws.map (·.2)) dvs)
    (hb : ∀ (cdv : Value) (A : Around) (outer : List Env) (s : Shared) (H : Hp), A.guards = some [] → Room k (A.deeper (envOfC x (defScope st) s.heap.objs.size (He.fAd K (x, none)) cdv)) → DB (cxOf (L2.CX P w) P w K mg base N x (defScope st) (He.fAd K (x, none)) cdv A outer s H E0).nox E0 (defBody st) B) :
    DfD P w K mg base (k + 1) x ps (runF (N.length - ps.length) B) n (kws.map (·.1)) dvs := by
  obtain ⟨ds, v1, v2⟩ := FunD.binds0 F n hk hn hless
  refine ⟨_, fd, kws.map (·.2), gl, F.kp, ⟨⟨ds, v1, v2⟩, fun s us ws _ l1 l2 => ?_⟩, hd, okF F S hb⟩
  obtain ⟨oc, od, dV, kV, doc, pm, an, cdv, ct, osl, rfl, lk, hcd, hD, hK⟩ := F.ex
  rw [List.length_map] at l2
  rcases hD with ⟨_, rfl⟩ | ⟨e, _⟩
  · exact .of_eq (hall kV doc pm an cdv ct us ws l1 l2)
  · exact absurd rfl e
theorem de_callDd {X : Cx} {k n : Nat} {ps ks : List Str} {F : FF} {dvs : List D} {x : Str} {p pos : Pos} {e : Expr} {es : List Expr} {fa : Fa} (D : DfD X.prog X.w X.K X.mg X.base k x ps F n ks dvs) (gd : X.A.guards = some []) (hr : Room k X.A) (hg : Gl X x) (ha : DA X (e :: es) fa) (hc : Cnt fa n) (hn : n + dvs.length = ps.length := by rfl)
    (hdb : (x == ("__debug__" : Str)) = false := by decide) (he : starEach (e :: es) X.env = (false, eval e X.env) :: starEach es X.env := by rfl) (hpl : (backTo pos (starEach es X.env)).any (·.1) = false := by rfl) :
    DE X (.Call (.Name x p) (e :: es) [] pos) (fCall F (aCat fa (aKon dvs))) := by
  obtain ⟨f, fd, vs, h1, h2, h3, h4, h5⟩ := D
  obtain ⟨ds, b1, b2⟩ := h3.less
  refine PE.weak (pe_callGd (F := E0) h5 gd hr hg h1 h2 b2 b1 passL' ha hdb he hpl) fun σ H Q q => ?_
  have q1 := tCall_of (n := ps.length) (E := E0) (by rw [← hn]; exact Cnt.cat hc.len (kon_len dvs)) σ H Q q
  have q2 := taKon h4 (R := fun vs H1 => spD X.K ps.length F vs H1 Q E0) (by simpa [tCall] using q1)
  exact q2
theorem de_callDk {X : Cx} {k n : Nat} {ps ks : List Str} {F : FF} {dvs : List D} {x : Str} {p pos : Pos} {e : Expr} {es : List Expr} {kws : List Keyword} {fa fb : Fa} (D : DfD X.prog X.w X.K X.mg X.base k x ps F n ks dvs) (gd : X.A.guards = some []) (hr : Room k X.A) (hg : Gl X x) (ha : DA X (e :: es) fa) (hc : Cnt fa n) (hb : DK X kws fb) (hcb : Cnt fb ks.length)
    (hn : n + ks.length = ps.length := by rfl) (hall : (backToKw pos (keywordEach kws X.env)).all (·.1.isSome) = true := by rfl) (hks : (backToKw pos (keywordEach kws X.env)).filterMap (·.1) = ks := by rfl)
    (hdb : (x == ("__debug__" : Str)) = false := by decide) (he : starEach (e :: es) X.env = (false, eval e X.env) :: starEach es X.env := by rfl)
    (hpl : ((backTo pos (starEach (e :: es) X.env)).any (·.1) || (backToKw pos (keywordEach kws X.env)).any (·.1.isNone)) = false := by rfl) :
    DE X (.Call (.Name x p) (e :: es) kws pos) (fCall F (aCat fa fb)) := by
  obtain ⟨f, fd, vs, h1, h2, h3, h4, h5⟩ := D
  refine PE.weak (pe_callGk (F := E0) h5 gd hr hg h1 h2 h3 passL' ha hb hall hks hdb he hpl) fun σ H Q q => ?_
  have q1 := tCall_of (n := ps.length) (E := E0) (by rw [← hn]; exact Cnt.cat hc.len hcb.len) σ H Q q
  have q2 : taOf X.K (aCat fa fb) σ H fun vs H1 => spD X.K ps.length F vs H1 Q E0 := by simpa [tCall] using q1
  obtain ⟨G, ρ, rs, ρ1, g, e1, kk⟩ := taCat q2
  refine ⟨G, ρ, rs, ρ1, g, e1, fun vs G1 H1 A1 R1 => ?_⟩
  obtain ⟨G2, ρ2, qs, ρ3, g2, e2, kk2⟩ := kk vs G1 H1 A1 R1
  exact ⟨G2, ρ2, qs, ρ3, g2, e2, fun zs G3 H3 A3 R3 => ⟨R1.len.trans (hc.len _ _ _ e1), R3.len.trans (hcb.len _ _ _ e2), kk2 zs G3 H3 A3 R3⟩⟩
theorem de_callD {X : Cx} {k : Nat} {ps : List Str} {F : FF} {x : Str} {p pos : Pos} {e : Expr} {es : List Expr} {fa : Fa} (D : Df X.prog X.w X.K X.mg X.base k x ps F) (gd : X.A.guards = some []) (hr : Room k X.A) (hg : Gl X x) (ha : DA X (e :: es) fa) (hc : Cnt fa ps.length)
    (hdb : (x == ("__debug__" : Str)) = false := by decide) (he : starEach (e :: es) X.env = (false, eval e X.env) :: starEach es X.env := by rfl) (hpl : (backTo pos (starEach es X.env)).any (·.1) = false := by rfl) :
    DE X (.Call (.Name x p) (e :: es) [] pos) (fCall F fa) := by
  obtain ⟨f, fd, h1, h2, h3, h4⟩ := D
  exact PE.weak (pe_callG (F := E0) h4 gd hr hg h1 h2 h3 passL' ha hdb he hpl) (tCall_of hc.len)
/-! ### x = [.. for ..] where the list is made within the frame -/
theorem ds_setLc {X : Cx} {E : XK} {i : Nat} {y : Str} {py : Pos} {elt tg iter : Expr} {ifs : List Expr} {scope : Scope} {own : List (Str × Nat)} {pos spos : Pos} {fi : Fi} {h : Fg} {S : List Nat} {ft : Ft} {fe : Fe} (hc : X.calm = true) (hN : X.N.Nodup) (hy : X.N[i]? = some y) (hyl : X.env.scope.names.lookup y = some .local)
    (hsw : swapsWith (.ListComp elt [⟨tg, iter, ifs, 0⟩] scope pos) (some (.Name y py)) spos.line X.env = pure true) (hi : DI X tg iter fi) (ok : BlkOk X.N X.env.scope scope own)
    (hg : ∀ (s : Shared) (H : Hp) (C : Addr) (cl : List (Str × Addr)) (fp : List Addr), DG (X.blk s H scope (compEnvC scope cl C X.env) fp) tg h S) (ht : ∀ (s : Shared) (H : Hp) (C : Addr) (cl : List (Str × Addr)) (fp : List Addr), DTs (X.blk s H scope (compEnvC scope cl C X.env) fp) ifs ft)
    (he : ∀ (s : Shared) (H : Hp) (C : Addr) (cl : List (Str × Addr)) (fp : List Addr), DE (X.blk s H scope (compEnvC scope cl C X.env) fp) elt fe) (hS : ∀ i ∈ S, i ∈ own.map (·.2) := by decide) (hs : ∀ x, foldedSetIterable iter X.env x = pure x := by intro _; rfl) :
    DS X E (.Assign [.Name y py] (.ListComp elt [⟨tg, iter, ifs, 0⟩] scope pos) spos) (bAsg i (dLc fi h ft fe (own.map (·.2)))) :=
  PS.weak (ps_setLc hc hN hy hyl hsw hi ok hg ht (fun s H C cl fp => de_fr (he s H C cl fp)) hs) fun D σ H q => tLc_of hS σ H _ (tAsg_of D σ H q)
/-! ### a walk over a list, a tuple, a text -/
theorem PI.or {X : Cx} {tg it : Expr} {t t' : TI} (h : PI X tg it t) (h' : PI X tg it t') : PI X tg it (fun σ H R => t σ H R ∨ t' σ H R) := ⟨fun pins s σ H R I q => q.elim (h.run pins s σ H R I) (h'.run pins s σ H R I)⟩
def signsD (z : Str) : List D := z.cps.toList.map fun c => .str ⟨#[c]⟩
theorem it_str {K : PySem.W.Frag} {G : Hp} {z : Str} : ItOk K G (Its z) (signsD z) := by
  have w := (walk_str (z := z)).mono (G' := fun H => Ex G H) (Y' := fun i H x H' => ∃ d, (signsD z)[i]? = some d ∧ ItemY K G d H x H') (fun _ _ => trivial) fun i H x H' hi e y => by
    obtain ⟨rfl, c, h1, rfl⟩ := y
    exact ⟨.str ⟨#[c]⟩, by unfold signsD; rw [List.getElem?_map, Array.getElem?_toList, h1]; rfl, .inl ⟨rfl, .str _⟩⟩
  have e : (signsD z).length = z.cps.size := by unfold signsD; simp
  unfold ItOk
  rw [e]
  exact w
def iAny (f : Fe) : Fi := fun ρ => match dFr f ρ with
  | some (.lst xs, ρ1) => some (xs, ρ1)
  | some (.tup xs, ρ1) => some (xs, ρ1)
  | some (.str z, ρ1) => some (signsD z, ρ1)
  | _ => none
theorem di_any {X : Cx} {tg e : Expr} {f : Fe} (h : DE X e f) : DI X tg e (iAny f) := PI.weak (PI.or (pi_list (de_fr h)) (PI.or (pi_tup (de_fr h)) (pi_str (de_fr h)))) fun σ H R ⟨G, ρ, xs, ρ', g, q, k⟩ => by
  unfold iAny at q
  split at q
  · rename_i ys ρ1 q1
    cases q
    refine .inl ⟨G, ρ, _, _, g, q1, fun v G1 H1 A1 R1 => ?_⟩
    cases R1 with
    | lst h1 h2 => exact ⟨_, rfl, ⟨_, SqL.of (A1.good.ex _ _ h1)⟩, k _ G1 H1 A1 (it_list h1 h2)⟩
  · rename_i ys ρ1 q1
    cases q
    refine .inr (.inl ⟨G, ρ, _, _, g, q1, fun v G1 H1 A1 R1 => ?_⟩)
    cases R1 with
    | tup h1 h2 => exact ⟨_, rfl, ⟨_, SqT.of (A1.good.ex _ _ h1)⟩, k _ G1 H1 A1 (it_tup h1 h2)⟩
  · rename_i z ρ1 q1
    cases q
    refine .inr (.inr ⟨G, ρ, _, _, g, q1, fun v G1 H1 A1 R1 => ?_⟩)
    exact ⟨z, Rp.of_str R1, k _ G1 H1 A1 it_str⟩
  · cases q
theorem lawG_of {P : Program} {w : World} {K : PySem.W.Frag} {mg : Str → Option Value} {base : Heap} {k : Nat} {f : Addr} {fd : FuncData} {ps : List Str} {F : FF} (G : FnG P w K mg base k f fd ps (spD K 1 F))
    (h : ∀ ns : List Int, ns.length ≤ 63 → ∃ ρ', F [.fz (.scr ns)] = some (.fz (.bl true), ρ')) : FnG P w K mg base k f fd ps (spLaw K) :=
  G.imp fun vs H Q E z => spLaw_of h z
/-! ### what the top has written -/
structure Tx (fa : List He.Fa) (fn : List He.DefD) (K : PySem.W.Frag) (mg : Str → Option Value) : Prop where
  c : He.SaysD fa fn K
  gl : ∀ (i : Nat) {x : Str}, fa[i]? = some (.glo x) → mg x = some (.ref (He.ga K x))
  fr : ∀ (i : Nat) {x : Str}, fa[i]? = some (.free x) → mg x = none
  it : ∀ (i : Nat) {x : Str} {n : Int}, fa[i]? = some (.int x n) → ∃ t, mg x = some (.int n t)
  st : ∀ (i : Nat) {x z : Str}, fa[i]? = some (.str x z) → ∃ t, mg x = some (.str z t)
theorem txMk {fa : List He.Fa} {fn : List He.DefD} {K : PySem.W.Frag} {mg : Str → Option Value} {h : Heap} (X : K.In h) (G : h.Ns mainGlobals mg) (c : He.SaysD fa fn K) : Tx fa fn K mg :=
  ⟨c, fun i _ e => He.glo_ok X G (c.fact i e), fun i _ e => He.free_ok X G (c.fact i e), fun i _ _ e => He.int_ok X G (c.fact i e), fun i _ _ e => He.str_ok X G (c.fact i e)⟩
theorem de_gI {X : Cx} {x : Str} {i : Int} {pos : Pos} (hg : Gl X x) (hm : ∃ t, X.mg x = some (.int i t)) (hd : (x == ("__debug__" : Str)) = false := by decide) : DE X (.Name x pos) (eC (.int i)) := hm.elim fun _ h => de_gInt hg h hd
theorem de_gS {X : Cx} {x : Str} {i : Str} {pos : Pos} (hg : Gl X x) (hm : ∃ t, X.mg x = some (.str i t)) (hd : (x == ("__debug__" : Str)) = false := by decide) : DE X (.Name x pos) (eC (.str i)) := hm.elim fun _ h => de_gStr hg h hd
theorem hu64 {k : Nat} {A : Around} (h : Room k A) : A.units + 64 < cLine := by have := h.un; omega
theorem hu65 {k : Nat} {A : Around} (h : Room k A) : A.units + 65 < cLine := by have := h.un; omega
/-- storing in short -/
theorem sset {X : Cx} {E : XK} {f : Fe} {e : Expr} {pos pos' : Pos} {x : Str} (i : Nat) (hN : X.N.Nodup) (he : DE X e f) (hi : X.N[i]? = some x := by rfl) (hx : Loc X.env.scope x := by first | exact Or.inl rfl | exact Or.inr rfl) (hs : swapsWith e (some (.Name x pos')) pos.line X.env = pure false := by rfl) (hf : X.fn x = true ∨ X.env.scope.names.lookup x = some .local := by first | exact .inl rfl | exact .inr rfl) :
    DS X E (.Assign [.Name x pos'] e pos) (bAsg i f) := ds_set hN hi hx he hs hf
theorem gnm {X : Cx} {pos : Pos} {x : Str} (i : Nat) (hN : X.N.Nodup) (hi : X.N[i]? = some x := by rfl) (hx : Loc X.env.scope x := by first | exact Or.inl rfl | exact Or.inr rfl) (hf : X.fn x = true ∨ X.env.scope.names.lookup x = some .local := by first | exact .inl rfl | exact .inr rfl) : DG X (.Name x pos) (gNm i) [i] := dg_name hN hi hx hf
theorem saug {X : Cx} {E : XK} {x : Str} {e : Expr} {f : Fe} {op : Operator} {h : Int → Int → Int} {pos pos' : Pos} (i : Nat) (hN : X.N.Nodup) (ho : PIp X op (ipI h)) (he : DE X e f) (hi : X.N[i]? = some x := by rfl) (hx : Loc X.env.scope x := by first | exact Or.inl rfl | exact Or.inr rfl) (hf : X.fn x = true ∨ X.env.scope.names.lookup x = some .local := by first | exact .inl rfl | exact .inr rfl)
    (ht : ∀ (t : TE) (pe : PE X e t), PS X (.AugAssign (.Name x pos') op e pos) (tAug i t (ipI h)) := by intro t pe; exact ps_aug (by first | assumption | rfl) (by first | assumption | rfl) (by first | assumption | exact Or.inl rfl | exact Or.inr rfl) pe (by first | assumption | exact ip_add | exact ip_sub) (by first | assumption | exact Or.inl rfl | exact Or.inr rfl)) :
    DS X E (.AugAssign (.Name x pos') op e pos) (bAug i h f) := ds_aug hN hi hx he ho hf ht
end DL
set_option Elab.async false
set_option linter.all false
set_option maxRecDepth 100000
set_option maxHeartbeats 1000000
namespace DL
open PySem PySem.Spec L2
/-! ### evaluation, a step at a time: each function's name is left only where what it waits for has come -/
section
variable {f fa fb fo fe : Fe} {t u : Ft} {g : Fa} {ρ ρ1 : En} {i n : Nat} {A B : Fs} {h : Fg} {gs : Fgs} {F : FF} {fi : Fe}
def kVar (o : Option Sl) (i : Nat) (ρ : En) : Option (Sl × En) := match o with
  | some (.fz d) => some (.fz d, ρ)
  | some (.ow _) => some (.bw i, ρ)
  | some (.rf _) => some (.bw i, ρ)
  | _ => none
theorem eVar_e : eVar i ρ = kVar ρ[i]? i ρ := id rfl
theorem eC_e {d : D} : eC d ρ = some (.fz d, ρ) := id rfl
def kRd (o : Option Sl) : Option D := match o with
  | some (.fz d) => some d
  | some (.ow (.l xs)) => some (.lst xs)
  | some (.rf (.l xs)) => some (.lst xs)
  | _ => none
theorem rd_fz {d : D} : rd ρ (.fz d) = some d := id rfl
theorem rd_ow {xs : List D} : rd ρ (.ow (.l xs)) = some (.lst xs) := id rfl
theorem rd_bw : rd ρ (.bw i) = kRd ρ[i]? := id rfl
def kFr (o : Option Sl) (i : Nat) (ρ : En) : Option (D × En) := match o with
  | some (.fz d) => some (d, ρ)
  | some (.ow (.l xs)) => some (.lst xs, ρ.set i (.fz (.lst xs)))
  | _ => none
theorem fr_fz {d : D} : fr ρ (.fz d) = some (d, ρ) := id rfl
theorem fr_ow {xs : List D} : fr ρ (.ow (.l xs)) = some (.lst xs, ρ) := id rfl
theorem fr_bw : fr ρ (.bw i) = kFr ρ[i]? i ρ := id rfl
def kDFr (o : Option (Sl × En)) : Option (D × En) := match o with
  | some (r, ρ1) => fr2 ρ1 r
  | none => none
theorem dFr_e : dFr f ρ = kDFr (f ρ) := id rfl
def kZ (o : Option Sl) (ρ : En) : Option (Sl × En) := match o with
  | some z => some (z, ρ)
  | none => none
def kOp3 (g : D → D → Option Sl) (d e : Option D) (ρ : En) : Option (Sl × En) := match d, e with
  | some d, some e => kZ (g d e) ρ
  | _, _ => none
def kOp2 (g : D → D → Option Sl) (ra : Sl) (o : Option (Sl × En)) : Option (Sl × En) := match o with
  | some (rb, ρ2) => kOp3 g (rd ρ2 ra) (rd ρ2 rb) ρ2
  | none => none
def kOp (g : D → D → Option Sl) (fb : Fe) (o : Option (Sl × En)) : Option (Sl × En) := match o with
  | some (ra, ρ1) => kOp2 g ra (fb ρ1)
  | none => none
theorem dOp2_e {g : D → D → Option Sl} : dOp2 g fa fb ρ = kOp g fb (fa ρ) := by
  unfold dOp2 kOp kOp2 kOp3 kZ
  rfl
def kTst (o : Option (Sl × En)) : Option (Bool × En) := match o with
  | some (.fz (.bl b), ρ1) => some (b, ρ1)
  | _ => none
theorem dTst_e : dTst f ρ = kTst (f ρ) := id rfl
def kAnd (o : Option (Bool × En)) (g : Ft) : Option (Bool × En) := match o with
  | some (true, ρ1) => g ρ1
  | some (false, ρ1) => some (false, ρ1)
  | none => none
theorem dAnd_e : dAnd t u ρ = kAnd (t ρ) u := id rfl
def kOr (o : Option (Bool × En)) (g : Ft) : Option (Bool × En) := match o with
  | some (false, ρ1) => g ρ1
  | some (true, ρ1) => some (true, ρ1)
  | none => none
theorem dOr_e : dOr t u ρ = kOr (t ρ) u := id rfl
def kNot (o : Option (Bool × En)) : Option (Bool × En) := match o with
  | some (b, ρ1) => some (!b, ρ1)
  | none => none
theorem dNot_e : dNot t ρ = kNot (t ρ) := id rfl
def kIfE (o : Option (Bool × En)) (f g : Fe) : Option (Sl × En) := match o with
  | some (true, ρ1) => f ρ1
  | some (false, ρ1) => g ρ1
  | none => none
theorem dIfE_e : dIfE t fa fb ρ = kIfE (t ρ) fa fb := id rfl
def kAndV (o : Option (Sl × En)) (g : Fe) : Option (Sl × En) := match o with
  | some (.fz (.bl true), ρ1) => g ρ1
  | some (.fz (.bl false), ρ1) => some (.fz (.bl false), ρ1)
  | _ => none
theorem dAndV_e : dAndV fa fb ρ = kAndV (fa ρ) fb := id rfl
def kOrV (o : Option (Sl × En)) (g : Fe) : Option (Sl × En) := match o with
  | some (.fz (.bl false), ρ1) => g ρ1
  | some (.fz (.bl true), ρ1) => some (.fz (.bl true), ρ1)
  | _ => none
theorem dOrV_e : dOrV fa fb ρ = kOrV (fa ρ) fb := id rfl
def kNotV (o : Option (Sl × En)) : Option (Sl × En) := match o with
  | some (.fz (.bl b), ρ1) => some (.fz (.bl (!b)), ρ1)
  | _ => none
theorem dNotV_e : dNotV f ρ = kNotV (f ρ) := id rfl
theorem dYes_e : dYes ρ = some (true, ρ) := id rfl
theorem aNil_e : aNil ρ = some ([], ρ) := id rfl
def kAC2 (r : Sl) (o : Option (List Sl × En)) : Option (List Sl × En) := match o with
  | some (rs, ρ2) => some (r :: rs, ρ2)
  | none => none
def kAC (o : Option (Sl × En)) (g : Fa) : Option (List Sl × En) := match o with
  | some (r, ρ1) => kAC2 r (g ρ1)
  | none => none
theorem aCons_e : aCons f g ρ = kAC (f ρ) g := id rfl
def kAF (o : Option (D × En)) (g : Fa) : Option (List Sl × En) := match o with
  | some (d, ρ1) => kAC2 (.fz d) (g ρ1)
  | none => none
theorem aFr_e : aFr f g ρ = kAF (dFr f ρ) g := id rfl
def kRds (o : Option D) (p : Option (List D)) : Option (List D) := match o, p with
  | some d, some ds => some (d :: ds)
  | _, _ => none
theorem rds_nil : rds ρ [] = some [] := id rfl
theorem rds_cons {r : Sl} {rs : List Sl} : rds ρ (r :: rs) = kRds (rd ρ r) (rds ρ rs) := by
  show (match rd ρ r with | some d => (match rds ρ rs with | some ds => some (d :: ds) | none => none) | none => none) = _
  unfold kRds
  cases rd ρ r with
  | none => rfl
  | some d => cases rds ρ rs <;> rfl
def kCall2 (g : List D → Option Sl) (o : Option (List D)) (ρ : En) : Option (Sl × En) := match o with
  | some ds => kZ (g ds) ρ
  | none => none
def kCall (g : List D → Option Sl) (o : Option (List Sl × En)) : Option (Sl × En) := match o with
  | some (rs, ρ1) => kCall2 g (rds ρ1 rs) ρ1
  | none => none
theorem dCall_e {gg : List D → Option Sl} : dCall gg g ρ = kCall gg (g ρ) := id rfl
def kTup2 (o : Option (List D)) (ρ : En) : Option (Sl × En) := match o with
  | some ds => if ds.length ≤ 1000000 then some (.fz (.tup ds), ρ) else none
  | none => none
def kTup (o : Option (List Sl × En)) : Option (Sl × En) := match o with
  | some (rs, ρ1) => kTup2 (dsOf rs) ρ1
  | none => none
theorem eTup_e : eTup g ρ = kTup (g ρ) := id rfl
def kLst2 (o : Option (List D)) (ρ : En) : Option (Sl × En) := match o with
  | some ds => if ds.length ≤ 1000000 then some (.ow (.l ds), ρ) else none
  | none => none
def kLst (o : Option (List Sl × En)) : Option (Sl × En) := match o with
  | some (rs, ρ1) => kLst2 (dsOf rs) ρ1
  | none => none
theorem eLst_e : eLst g ρ = kLst (g ρ) := id rfl
theorem dsOf_nil : dsOf [] = some [] := id rfl
theorem dsOf_fz {d : D} {rs : List Sl} : dsOf (.fz d :: rs) = (dsOf rs).map (d :: ·) := id rfl
def kFCo (o : Option (Sl × En)) (i : Nat) (ρ : En) : Option (Sl × En) := match o with
  | some (.fz d, .rf m' :: _) => some (.fz d, ρ.set i (.ow m'))
  | some (.ow m, .rf m' :: _) => some (.ow m, ρ.set i (.ow m'))
  | _ => none
def kFCr (o : Option (Sl × En)) (i : Nat) (ρ : En) : Option (Sl × En) := match o with
  | some (.fz d, .rf m' :: _) => some (.fz d, ρ.set i (.rf m'))
  | some (.ow m, .rf m' :: _) => some (.ow m, ρ.set i (.rf m'))
  | _ => none
def kFCf (o : Option (Sl × En)) (ρ : En) : Option (Sl × En) := match o with
  | some (.fz d, _) => some (.fz d, ρ)
  | some (.ow m, _) => some (.ow m, ρ)
  | _ => none
def kFC2 (F : FF) (b : Bool) (o : Option Sl) (i : Nat) (rest : List Sl) (ρ : En) : Option (Sl × En) := match b, o with
  | true, some (.ow m) => kFCo (F (.rf m :: rest)) i ρ
  | true, some (.rf m) => kFCr (F (.rf m :: rest)) i ρ
  | _, _ => none
def kFC3 (F : FF) (b : Bool) (rs : List Sl) (ρ : En) : Option (Sl × En) := match b with
  | true => kFCf (F rs) ρ
  | false => none
def kFC1 (F : FF) (rs : List Sl) (ρ : En) : Option (Sl × En) := match rs with
  | .bw i :: rss => kFC2 F (allFz rss) ρ[i]? i rss ρ
  | .fz d :: rss => kFC3 F (allFz rss) (.fz d :: rss) ρ
  | [] => kFC3 F true [] ρ
  | _ => none
def kFC (F : FF) (o : Option (List Sl × En)) : Option (Sl × En) := match o with
  | some (rs, ρ1) => kFC1 F rs ρ1
  | none => none
theorem fc_o (o : Option (Sl × En)) (i : Nat) (ρ : En) : (match o with
          | some (z, .rf m' :: _) => if isRes z = true then some (z, ρ.set i (.ow m')) else none
          | _ => none) = kFCo o i ρ := by
  unfold kFCo
  split
  · rename_i z m' more
    cases z <;> rfl
  · rename_i hn
    split
    · rename_i d m' more
      exact absurd rfl (hn _ _ _)
    · rename_i d m' more
      exact absurd rfl (hn _ _ _)
    · rfl
theorem fc_r (o : Option (Sl × En)) (i : Nat) (ρ : En) : (match o with
          | some (z, .rf m' :: _) => if isRes z = true then some (z, ρ.set i (.rf m')) else none
          | _ => none) = kFCr o i ρ := by
  unfold kFCr
  split
  · rename_i z m' more
    cases z <;> rfl
  · rename_i hn
    split
    · rename_i d m' more
      exact absurd rfl (hn _ _ _)
    · rename_i d m' more
      exact absurd rfl (hn _ _ _)
    · rfl
theorem fc_f (o : Option (Sl × En)) (ρ : En) : (match o with
        | some (z, _) => if isRes z = true then some (z, ρ) else none
        | none => none) = kFCf o ρ := by
  unfold kFCf
  cases o with
  | none => rfl
  | some y =>
    obtain ⟨z, _⟩ := y
    cases z <;> rfl
theorem fCall_e : fCall F g ρ = kFC F (g ρ) := by
  unfold fCall
  cases g ρ with
  | none => rfl
  | some y =>
    obtain ⟨rs, ρ1⟩ := y
    show _ = kFC1 F rs ρ1
    cases rs with
    | nil => exact fc_f _ _
    | cons r rest =>
      cases r with
      | un => rfl
      | ow m => rfl
      | rf m => rfl
      | fz d =>
        show (if allFz rest = true then _ else none) = kFC3 F (allFz rest) _ ρ1
        cases allFz rest with
        | false => rfl
        | true => exact fc_f _ _
      | bw i =>
        show (if allFz rest = true then _ else none) = kFC2 F (allFz rest) ρ1[i]? i rest ρ1
        cases allFz rest with
        | false => rfl
        | true =>
          cases ρ1[i]? with
          | none => rfl
          | some z =>
            cases z with
            | un => rfl
            | fz d => rfl
            | bw _ => rfl
            | ow m => exact fc_o _ _ _
            | rf m => exact fc_r _ _ _
/-! the rest -/
def kSeq (o : Option (Fl × En)) (B : Fs) : Option (Fl × En) := match o with
  | some (.nx, ρ1) => B ρ1
  | some (.rt r, ρ1) => some (.rt r, ρ1)
  | some (.bk, ρ1) => some (.bk, ρ1)
  | some (.ct, ρ1) => some (.ct, ρ1)
  | some (.ex C ns ds, ρ1) => some (.ex C ns ds, ρ1)
  | none => none
theorem bSeq_e : bSeq A B ρ = kSeq (A ρ) B := by
  unfold bSeq kSeq
  cases A ρ with
  | none => rfl
  | some y => obtain ⟨fl, ρ1⟩ := y; cases fl <;> rfl
theorem bNext_e : bNext ρ = some (.nx, ρ) := id rfl
theorem bBreak_e : bBreak ρ = some (.bk, ρ) := id rfl
theorem bCont_e : bCont ρ = some (.ct, ρ) := id rfl
theorem bRetN_e : bRetN ρ = some (.rt (.fz .non), ρ) := id rfl
def kDrop (o : Option (Sl × En)) : Option (Fl × En) := match o with
  | some (_, ρ1) => some (.nx, ρ1)
  | none => none
theorem bDrop_e : bDrop f ρ = kDrop (f ρ) := id rfl
def kRet (o : Option (Sl × En)) : Option (Fl × En) := match o with
  | some (r, ρ1) => some (.rt r, ρ1)
  | none => none
theorem bRet_e : bRet f ρ = kRet (f ρ) := id rfl
def kIf (o : Option (Bool × En)) (A B : Fs) : Option (Fl × En) := match o with
  | some (true, ρ1) => A ρ1
  | some (false, ρ1) => B ρ1
  | none => none
theorem bIf_e : bIf t A B ρ = kIf (t ρ) A B := id rfl
def kTo (o : Option (D × En)) : Option (Sl × En) := match o with
  | some (d, ρ1) => some (.fz d, ρ1)
  | none => none
theorem to_fz {d : D} : toSlot ρ (.fz d) = some (.fz d, ρ) := id rfl
theorem to_ow {m : Mu} : toSlot ρ (.ow m) = some (.ow m, ρ) := id rfl
theorem to_bw : toSlot ρ (.bw i) = kTo (kFr ρ[i]? i ρ) := id rfl
def kNR (o : Option Sl) : Bool := match o with
  | some (.rf _) => false
  | some (.fz _) => true
  | some (.ow _) => true
  | some .un => true
  | some (.bw _) => true
  | none => false
theorem notRf_e : notRf ρ i = kNR ρ[i]? := by
  unfold notRf kNR
  cases ρ[i]? with
  | none => rfl
  | some z => cases z <;> rfl
def kAsg3 (b : Bool) (i : Nat) (z : Sl) (ρ : En) : Option (Fl × En) := match b with
  | true => some (.nx, ρ.set i z)
  | false => none
def kAsg2 (i : Nat) (o : Option (Sl × En)) : Option (Fl × En) := match o with
  | some (z, ρ2) => kAsg3 (notRf ρ2 i) i z ρ2
  | none => none
def kAsg (i : Nat) (o : Option (Sl × En)) : Option (Fl × En) := match o with
  | some (r, ρ1) => kAsg2 i (toSlot ρ1 r)
  | none => none
theorem bAsg_e : bAsg i f ρ = kAsg i (f ρ) := by
  unfold bAsg kAsg
  cases f ρ with
  | none => rfl
  | some y =>
    obtain ⟨r, ρ1⟩ := y
    show _ = kAsg2 i (toSlot ρ1 r)
    unfold kAsg2
    cases q : toSlot ρ1 r with
    | none => simp only [q]
    | some y =>
      obtain ⟨z, ρ2⟩ := y
      simp only [q]
      unfold kAsg3
      cases notRf ρ2 i <;> rfl
def kGN (b : Bool) (i : Nat) (d : D) (ρ : En) : Option En := match b with
  | true => some (ρ.set i (.fz d))
  | false => none
theorem gNm_e {d : D} : gNm i d ρ = kGN (notRf ρ i) i d ρ := by
  unfold gNm kGN
  cases notRf ρ i <;> rfl
theorem gsNil_e : gsNil [] ρ = some ρ := id rfl
def kGC (t : Fgs) (ds : List D) (o : Option En) : Option En := match o with
  | some ρ1 => t ds ρ1
  | none => none
theorem gsCons_e {d : D} {ds : List D} : gsCons h gs (d :: ds) ρ = kGC gs ds (h d ρ) := id rfl
theorem gTp_e {ds : List D} : gTp n gs (.tup ds) ρ = if ds.length = n then gs ds ρ else none := id rfl
def kUn2 (o : Option En) : Option (Fl × En) := match o with
  | some ρ2 => some (.nx, ρ2)
  | none => none
def kUn (h : Fg) (o : Option (D × En)) : Option (Fl × En) := match o with
  | some (d, ρ1) => kUn2 (h d ρ1)
  | none => none
theorem bUnp_e : bUnp h f ρ = kUn h (dFr f ρ) := id rfl
def kMt4 (i : Nat) (ρ : En) (o : Option (D × List D)) : Option (Sl × En) := match o with
  | some (d, ys) => some (.fz d, putS ρ i (.l ys))
  | none => none
def kMt3 (i : Nat) (g : Gm) (ρ : En) (ods : Option (List D)) (o : Option (List D)) : Option (Sl × En) := match ods, o with
  | some ds, some xs => kMt4 i ρ (g xs ds)
  | _, _ => none
def kMt2 (i : Nat) (g : Gm) (o : Option (List Sl × En)) : Option (Sl × En) := match o with
  | some (rs, ρ1) => kMt3 i g ρ1 (dsOf rs) (heldL ρ1[i]?)
  | none => none
def kMt (i : Nat) (g : Gm) (o : Option (List D)) (a : Option (List Sl × En)) : Option (Sl × En) := match o with
  | some _ => kMt2 i g a
  | none => none
theorem dMt_e {gg : Gm} : dMt i g gg ρ = kMt i gg (heldL ρ[i]?) (g ρ) := by
  unfold dMt kMt kMt2 kMt3 kMt4
  (repeat' split) <;> simp_all
theorem held_ow {xs : List D} : heldL (some (.ow (.l xs))) = some xs := id rfl
theorem held_rf {xs : List D} : heldL (some (.rf (.l xs))) = some xs := id rfl
def kPut (o : Option Sl) (ρ : En) (i : Nat) (m : Mu) : En := match o with
  | some (.rf _) => ρ.set i (.rf m)
  | some (.ow _) => ρ.set i (.ow m)
  | some (.fz _) => ρ.set i (.ow m)
  | some .un => ρ.set i (.ow m)
  | some (.bw _) => ρ.set i (.ow m)
  | none => ρ
theorem putS_e {m : Mu} : putS ρ i m = kPut ρ[i]? ρ i m := by
  unfold putS kPut
  cases ρ[i]? with
  | none => rfl
  | some z => cases z <;> rfl
def kM12 (gg : D → D → Option Sl) (a : Str) (o : Option D) (ρ : En) : Option (Sl × En) := match o with
  | some d => kZ (gg (.str a) d) ρ
  | none => none
def kM11 (gg : D → D → Option Sl) (a : Str) (o : Option (Sl × En)) : Option (Sl × En) := match o with
  | some (rb, ρ2) => kM12 gg a (rd ρ2 rb) ρ2
  | none => none
def kM1 (gg : D → D → Option Sl) (fe : Fe) (o : Option (Sl × En)) : Option (Sl × En) := match o with
  | some (.fz (.str a), ρ1) => kM11 gg a (fe ρ1)
  | _ => none
theorem dM1_e {gg : D → D → Option Sl} : dM1 gg fo fe ρ = kM1 gg fe (fo ρ) := id rfl
def kIsi3 (o : Option Bool) (ρ : En) : Option (Sl × En) := match o with
  | some b => some (.fz (.bl b), ρ)
  | none => none
def kIsi2 (T : String) (o : Option D) (ρ : En) : Option (Sl × En) := match o with
  | some d => kIsi3 (isB T d) ρ
  | none => none
def kIsi (T : String) (o : Option (Sl × En)) : Option (Sl × En) := match o with
  | some (r, ρ1) => kIsi2 T (rd ρ1 r) ρ1
  | none => none
theorem dIsi_e {T : String} : dIsi T f ρ = kIsi T (f ρ) := by
  unfold dIsi kIsi kIsi2 kIsi3
  (repeat' split) <;> simp_all
def kOSo (o : Option (Sl × En)) : Option (Option Int × En) := match o with
  | some (.fz (.int i), ρ1) => some (some i, ρ1)
  | _ => none
theorem oSome_e : oSome f ρ = kOSo (f ρ) := id rfl
theorem oNo_e : oNo ρ = some (none, ρ) := id rfl
def kSl4 (o : Option D) (lo hi : Option Int) (ρ : En) : Option (Sl × En) := match o with
  | some d => kZ (gSl d lo hi) ρ
  | none => none
def kSl3 (r : Sl) (lo : Option Int) (o : Option (Option Int × En)) : Option (Sl × En) := match o with
  | some (hi, ρ3) => kSl4 (rd ρ3 r) lo hi ρ3
  | none => none
def kSl2 (r : Sl) (fh : Fo) (o : Option (Option Int × En)) : Option (Sl × En) := match o with
  | some (lo, ρ2) => kSl3 r lo (fh ρ2)
  | none => none
def kSl (fl fh : Fo) (o : Option (Sl × En)) : Option (Sl × En) := match o with
  | some (r, ρ1) => kSl2 r fh (fl ρ1)
  | none => none
theorem dSl_e {fl fh : Fo} : dSl f fl fh ρ = kSl fl fh (f ρ) := by
  unfold dSl kSl
  cases f ρ with
  | none => rfl
  | some y =>
    obtain ⟨r, ρ1⟩ := y
    show _ = kSl2 r fh (fl ρ1)
    unfold kSl2
    cases q : fl ρ1 with
    | none => simp only [q]
    | some y =>
      obtain ⟨lo, ρ2⟩ := y
      simp only [q]
      unfold kSl3
      cases q : fh ρ2 with
      | none => simp only [q]
      | some y =>
        obtain ⟨hi, ρ3⟩ := y
        simp only [q]
        unfold kSl4
        cases q : rd ρ3 r with
        | none => simp only [q]
        | some d =>
          simp only [q]
          unfold kZ
          cases gSl d lo hi <;> rfl
def kNeg (o : Option (Sl × En)) : Option (Sl × En) := match o with
  | some (.fz (.int i), ρ1) => some (.fz (.int (-i)), ρ1)
  | _ => none
theorem dNeg_e : dNeg f ρ = kNeg (f ρ) := id rfl
def kSX3 (i : Nat) (d : D) (xs : List D) (o : Option Nat) (ρ : En) : Option (Fl × En) := match o with
  | some j => some (.nx, putS ρ i (.l (xs.set j d)))
  | none => none
def kSX2 (i : Nat) (d : D) (k : Int) (o : Option (List D)) (ρ : En) : Option (Fl × En) := match o with
  | some xs => kSX3 i d xs (ixN xs.length k) ρ
  | none => none
def kSX1 (i : Nat) (d : D) (o : Option (Sl × En)) : Option (Fl × En) := match o with
  | some (.fz (.int k), ρ2) => kSX2 i d k (heldL ρ2[i]?) ρ2
  | _ => none
def kSX0 (i : Nat) (d : D) (o : Option (List D)) (p : Option (Sl × En)) : Option (Fl × En) := match o with
  | some _ => kSX1 i d p
  | none => none
def kSX (i : Nat) (fi : Fe) (o : Option (D × En)) : Option (Fl × En) := match o with
  | some (d, ρ1) => kSX0 i d (heldL ρ1[i]?) (fi ρ1)
  | none => none
theorem bSetIx_e : bSetIx i fi fe ρ = kSX i fi (dFr fe ρ) := by
  unfold bSetIx kSX kSX0 kSX1 kSX2 kSX3
  (repeat' split) <;> simp_all
def kAug3 (b : Bool) (i : Nat) (z : Int) (ρ : En) : Option (Fl × En) := match b with
  | true => some (.nx, ρ.set i (.fz (.int z)))
  | false => none
def kAug2 (i : Nat) (hh : Int → Int → Int) (a : Int) (o : Option (Sl × En)) : Option (Fl × En) := match o with
  | some (.fz (.int b), ρ1) => kAug3 (notRf ρ1 i) i (hh a b) ρ1
  | _ => none
def kAug (i : Nat) (hh : Int → Int → Int) (o : Option Sl) (p : Option (Sl × En)) : Option (Fl × En) := match o with
  | some (.fz (.int a)) => kAug2 i hh a p
  | _ => none
theorem bAug_e {hh : Int → Int → Int} : bAug i hh f ρ = kAug i hh ρ[i]? (f ρ) := by
  unfold bAug kAug kAug2 kAug3
  (repeat' split) <;> simp_all
def kRes (o : Option Sl) : Option Sl := match o with
  | some (.fz d) => some (.fz d)
  | some (.ow m) => some (.ow m)
  | _ => none
theorem res_fz {d : D} : resolve ρ (.fz d) = some (.fz d) := id rfl
theorem res_ow {m : Mu} : resolve ρ (.ow m) = some (.ow m) := id rfl
theorem res_bw : resolve ρ (.bw i) = kRes ρ[i]? := id rfl
def kEnd2 (o : Option Sl) (ρ : En) : Option (Sl × En) := match o with
  | some z => some (z, ρ)
  | none => none
def kEnd (ρ : En) (o : Option (Fl × En)) : Option (Sl × En) := match o with
  | some (.nx, ρe) => some (.fz .non, fin ρ ρe)
  | some (.rt r, ρe) => kEnd2 (resolve ρe r) (fin ρ ρe)
  | _ => none
theorem runF_e : runF n A ρ = kEnd ρ (A (ρ ++ List.replicate n .un)) := by
  unfold runF endF kEnd
  generalize A (ρ ++ List.replicate n .un) = o
  cases o with
  | none => rfl
  | some y =>
    obtain ⟨fl, ρe⟩ := y
    cases fl with
    | nx => rfl
    | bk => rfl
    | ct => rfl
    | ex C ns ds => rfl
    | rt r =>
      show (match resolve ρe r with | some z => some (z, fin ρ ρe) | none => none) = kEnd2 (resolve ρe r) _
      cases resolve ρe r <;> rfl
theorem fin_nil : fin [] [] = [] := id rfl
theorem fin_nil1 {l : En} : fin [] l = [] := id rfl
theorem fin_rf {m : Mu} {b : Sl} {l l' : En} : fin (.rf m :: l) (b :: l') = b :: fin l l' := id rfl
theorem fin_fz {d : D} {b : Sl} {l l' : En} : fin (.fz d :: l) (b :: l') = .fz d :: fin l l' := id rfl
def kAny (o : Option (D × En)) : Option (List D × En) := match o with
  | some (.lst xs, ρ1) => some (xs, ρ1)
  | some (.tup xs, ρ1) => some (xs, ρ1)
  | some (.str z, ρ1) => some (signsD z, ρ1)
  | _ => none
theorem iAny_e : iAny f ρ = kAny (dFr f ρ) := id rfl
def kR1 (o : Option (List Sl × En)) : Option (List D × En) := match o with
  | some ([.fz (.int n)], ρ1) => if n < 4000000000000000000 ∧ -4000000000000000000 ≤ n then some (rangeD 0 n.toNat, ρ1) else none
  | _ => none
theorem iRange1_e : iRange1 g ρ = kR1 (g ρ) := id rfl
def kR2 (o : Option (List Sl × En)) : Option (List D × En) := match o with
  | some ([.fz (.int m), .fz (.int n)], ρ1) => if n < 4000000000000000000 ∧ -4000000000000000000 ≤ n ∧ m < 4000000000000000000 ∧ -4000000000000000000 ≤ m then some (rangeD m (n - m).toNat, ρ1) else none
  | _ => none
theorem iRange2_e : iRange2 g ρ = kR2 (g ρ) := id rfl
def kEn (o : Option (List Sl × En)) : Option (List D × En) := match o with
  | some ([.fz (.lst xs)], ρ1) => some (enumD xs, ρ1)
  | some ([.fz (.tup xs)], ρ1) => some (enumD xs, ρ1)
  | _ => none
theorem iEnumD_e : iEnumD g ρ = kEn (g ρ) := id rfl
def kFor (h : Fg) (B : Fs) (o : Option (List D × En)) : Option (Fl × En) := match o with
  | some (xs, ρ1) => forL h B xs ρ1
  | none => none
theorem bFor_e {fi : Fi} : bFor fi h B ρ = kFor h B (fi ρ) := id rfl
def kLc2 (o : Option (List D × En)) (ρ1 : En) (vs : List Nat) : Option (Sl × En) := match o with
  | some (acc, ρ2) => some (.ow (.l acc), restD ρ1 ρ2 vs)
  | none => none
def kLc (h : Fg) (ft : Ft) (fe : Fe) (vs : List Nat) (o : Option (List D × En)) : Option (Sl × En) := match o with
  | some (xs, ρ1) => kLc2 (lcL h ft fe vs xs [] (wipeD ρ1 vs)) ρ1 vs
  | none => none
theorem dLc_e {fi : Fi} {ft : Ft} {vs : List Nat} : dLc fi h ft fe vs ρ = kLc h ft fe vs (fi ρ) := by
  unfold dLc kLc
  cases fi ρ with
  | none => rfl
  | some y =>
    obtain ⟨xs, ρ1⟩ := y
    simp only
    unfold kLc2
    rfl
def kGG (g : D → D → Option Sl) (d e : Option D) : Option Sl := match d, e with
  | some d, some e => g d e
  | _, _ => none
def kCh3 (g : D → D → Option Sl) (rb : Sl) (o : Option (Sl × En)) : Option (Sl × En) := match o with
  | some (rc, ρ3) => kOp3 g (rd ρ3 rb) (rd ρ3 rc) ρ3
  | none => none
def kCh2 (g : D → D → Option Sl) (fc : Fe) (rb : Sl) (ρ : En) (o : Option Sl) : Option (Sl × En) := match o with
  | some (.fz (.bl true)) => kCh3 g rb (fc ρ)
  | some (.fz (.bl false)) => some (.fz (.bl false), ρ)
  | _ => none
def kCh1 (g1 : D → D → Option Sl) (g2 : D → D → Option Sl) (fc : Fe) (ra : Sl) (o : Option (Sl × En)) : Option (Sl × En) := match o with
  | some (rb, ρ2) => kCh2 g2 fc rb ρ2 (kGG g1 (rd ρ2 ra) (rd ρ2 rb))
  | none => none
def kCh (g1 : D → D → Option Sl) (g2 : D → D → Option Sl) (fb : Fe) (fc : Fe) (o : Option (Sl × En)) : Option (Sl × En) := match o with
  | some (ra, ρ1) => kCh1 g1 g2 fc ra (fb ρ1)
  | none => none
theorem dChain_e {g1 g2 : D → D → Option Sl} {fc : Fe} : dChain g1 g2 fa fb fc ρ = kCh g1 g2 fb fc (fa ρ) := by
  unfold dChain kCh kCh1 kCh2 kCh3 kOp3 kZ kGG
  (repeat' split) <;> simp_all
def kLRg (o : Option (Sl × En)) : Option (Sl × En) := match o with
  | some (.fz (.int n), ρ1) => if n ≤ 1000000 ∧ -1000000 ≤ n then some (.ow (.l (rangeD 0 n.toNat)), ρ1) else none
  | _ => none
theorem dLRg1_e : dLRg1 f ρ = kLRg (f ρ) := id rfl
def kLRh (m : Int) (o : Option (Sl × En)) : Option (Sl × En) := match o with
  | some (.fz (.int n), ρ2) => if n ≤ 1000000 ∧ -1000000 ≤ n ∧ m ≤ 1000000 ∧ -1000000 ≤ m then some (.ow (.l (rangeD m (n - m).toNat)), ρ2) else none
  | _ => none
def kLRi (g : Fe) (o : Option (Sl × En)) : Option (Sl × En) := match o with
  | some (.fz (.int m), ρ1) => kLRh m (g ρ1)
  | _ => none
theorem dLRg2_e : dLRg2 fa fb ρ = kLRi fb (fa ρ) := id rfl
theorem heldM_ow {m : Mu} : heldM (some (.ow m)) = some m := id rfl
theorem heldM_rf {m : Mu} : heldM (some (.rf m)) = some m := id rfl
theorem eDict_e {m : Mu} : eDict m ρ = some (.ow m, ρ) := id rfl
def kMG (m : Option Mu) (d : Option D) : Option (Option D) := match m, d with
  | some m, some d => mGet m d
  | _, _ => none
def kDG2 (o : Option (Option D)) (ρ : En) : Option (Sl × En) := match o with
  | some (some v) => some (.fz v, ρ)
  | _ => none
def kDG1 (i : Nat) (o : Option (Sl × En)) : Option (Sl × En) := match o with
  | some (rk, ρ1) => kDG2 (kMG (heldM ρ1[i]?) (rd ρ1 rk)) ρ1
  | none => none
def kDG (i : Nat) (o : Option Mu) (p : Option (Sl × En)) : Option (Sl × En) := match o with
  | some _ => kDG1 i p
  | none => none
theorem dDGet_e : dDGet i f ρ = kDG i (heldM ρ[i]?) (f ρ) := by
  unfold dDGet kDG
  cases heldM ρ[i]? with
  | none => rfl
  | some m0 =>
    cases f ρ with
    | none => rfl
    | some y =>
      obtain ⟨rk, ρ1⟩ := y
      dsimp only [kDG1, kMG, kDG2]
      generalize rd ρ1 rk = a
      generalize heldM ρ1[i]? = b
      cases a <;> cases b <;> rfl
def kDI2 (neg : Bool) (o : Option (Option D)) (ρ : En) : Option (Sl × En) := match o with
  | some v => some (.fz (.bl (neg ^^ v.isSome)), ρ)
  | none => none
def kDI (neg : Bool) (i : Nat) (o : Option (Sl × En)) : Option (Sl × En) := match o with
  | some (rk, ρ1) => kDI2 neg (kMG (heldM ρ1[i]?) (rd ρ1 rk)) ρ1
  | none => none
theorem dDIn_e {neg : Bool} : dDIn neg i f ρ = kDI neg i (f ρ) := by
  unfold dDIn kDI
  cases f ρ with
  | none => rfl
  | some y =>
    obtain ⟨rk, ρ1⟩ := y
    dsimp only [kDI2, kMG]
    generalize rd ρ1 rk = a
    generalize heldM ρ1[i]? = b
    cases a <;> cases b <;> try rfl
    rename_i d m
    dsimp only
    cases mGet m d <;> rfl
def kMP (m : Option Mu) (d : Option D) (v : D) : Option Mu := match m, d with
  | some m, some d => mPut m d v
  | _, _ => none
def kDP3 (i : Nat) (o : Option Mu) (ρ : En) : Option (Fl × En) := match o with
  | some m => some (.nx, putS ρ i m)
  | none => none
def kDP2 (i : Nat) (v : D) (o : Option (Sl × En)) : Option (Fl × En) := match o with
  | some (rk, ρ2) => kDP3 i (kMP (heldM ρ2[i]?) (rd ρ2 rk) v) ρ2
  | none => none
def kDP1 (i : Nat) (v : D) (o : Option Mu) (p : Option (Sl × En)) : Option (Fl × En) := match o with
  | some _ => kDP2 i v p
  | none => none
def kDP (i : Nat) (fk : Fe) (o : Option (D × En)) : Option (Fl × En) := match o with
  | some (v, ρ1) => kDP1 i v (heldM ρ1[i]?) (fk ρ1)
  | none => none
theorem bDPut_e : bDPut i fa fb ρ = kDP i fa (dFr fb ρ) := by
  unfold bDPut kDP
  cases dFr fb ρ with
  | none => rfl
  | some y =>
    obtain ⟨v, ρ1⟩ := y
    show _ = kDP1 i v (heldM ρ1[i]?) (fa ρ1)
    unfold kDP1
    cases q : heldM ρ1[i]? with
    | none => simp only [q]
    | some m0 =>
      simp only [q]
      cases q2 : fa ρ1 with
      | none => simp only [kDP2]
      | some y =>
        obtain ⟨rk, ρ2⟩ := y
        dsimp only [kDP2, kDP3, kMP]
        generalize rd ρ2 rk = a
        generalize heldM ρ2[i]? = b
        cases a <;> cases b <;> rfl
def kPar2 (b : Bool) (i : Nat) (j : Nat) (d : D) (e : D) (ρ : En) : Option (Fl × En) := match b with
  | true => some (.nx, (ρ.set i (.fz d)).set j (.fz e))
  | false => none
def kPar (i : Nat) (j : Nat) (o : Option (List Sl × En)) : Option (Fl × En) := match o with
  | some ([.fz d, .fz e], ρ1) => kPar2 (notRf ρ1 i && notRf ρ1 j) i j d e ρ1
  | _ => none
theorem bPar_e {j : Nat} : bPar i j g ρ = kPar i j (g ρ) := by
  unfold bPar kPar kPar2
  (repeat' split) <;> simp_all
theorem nc0 : ((0 : Nat) : Int) = 0 := id rfl
theorem nc1 : ((1 : Nat) : Int) = 1 := id rfl
theorem nc2 : ((2 : Nat) : Int) = 2 := id rfl
theorem nc3 : ((3 : Nat) : Int) = 3 := id rfl
theorem nc4 : ((4 : Nat) : Int) = 4 := id rfl
theorem nc5 : ((5 : Nat) : Int) = 5 := id rfl
theorem nc6 : ((6 : Nat) : Int) = 6 := id rfl
theorem nc7 : ((7 : Nat) : Int) = 7 := id rfl
theorem nc8 : ((8 : Nat) : Int) = 8 := id rfl
theorem nc9 : ((9 : Nat) : Int) = 9 := id rfl
theorem nc36 : ((36 : Nat) : Int) = 36 := id rfl
def kCat2 (rs : List Sl) (o : Option (List Sl × En)) : Option (List Sl × En) := match o with
  | some (qs, ρ2) => some (rs ++ qs, ρ2)
  | none => none
def kCat (fb : Fa) (o : Option (List Sl × En)) : Option (List Sl × En) := match o with
  | some (rs, ρ1) => kCat2 rs (fb ρ1)
  | none => none
theorem aCat_e {gb : Fa} : aCat g gb ρ = kCat gb (g ρ) := by
  unfold aCat kCat kCat2
  cases g ρ with
  | none => rfl
  | some y =>
    obtain ⟨rs, ρ1⟩ := y
    dsimp only
    cases gb ρ1 <;> rfl
theorem aKon_e {ds : List D} : aKon ds ρ = some (ds.map .fz, ρ) := id rfl
def kRev2 (o : Option D) (ρ : En) : Option (Sl × En) := match o with
  | some (.lst xs) => some (.ow (.l xs.reverse), ρ)
  | _ => none
def kRev (o : Option (Sl × En)) : Option (Sl × En) := match o with
  | some (r, ρ1) => kRev2 (rd ρ1 r) ρ1
  | none => none
theorem dRevL_e : dRevL f ρ = kRev (f ρ) := by
  unfold dRevL kRev kRev2
  cases f ρ with
  | none => rfl
  | some y => rfl
def kSA3 (i : Nat) (d : D) (xs : List D) (o : Option Nat) (ρ : En) : Option En := match o with
  | some j => some (putS ρ i (.l (xs.set j d)))
  | none => none
def kSA2 (i : Nat) (d : D) (k : Int) (o : Option (List D)) (ρ : En) : Option En := match o with
  | some xs => kSA3 i d xs (ixN xs.length k) ρ
  | none => none
def kSA1 (i : Nat) (d : D) (o : Option (Sl × En)) : Option En := match o with
  | some (.fz (.int k), ρ2) => kSA2 i d k (heldL ρ2[i]?) ρ2
  | _ => none
def kSA (i : Nat) (d : D) (o : Option (List D)) (p : Option (Sl × En)) : Option En := match o with
  | some _ => kSA1 i d p
  | none => none
theorem setAt_e {d : D} : setAt i f d ρ = kSA i d (heldL ρ[i]?) (f ρ) := by
  unfold setAt kSA kSA1 kSA2 kSA3
  (repeat' split) <;> simp_all
def kS22 (o : Option En) : Option (Fl × En) := match o with
  | some ρ => some (.nx, ρ)
  | none => none
def kS21 (i : Nat) (f2 : Fe) (e : D) (o : Option En) : Option (Fl × En) := match o with
  | some ρ => kS22 (setAt i f2 e ρ)
  | none => none
def kS2 (i : Nat) (f1 : Fe) (f2 : Fe) (o : Option (D × En)) : Option (Fl × En) := match o with
  | some (.tup [d, e], ρ) => kS21 i f2 e (setAt i f1 d ρ)
  | _ => none
theorem bSet2_e : bSet2 i fa fb fo ρ = kS2 i fa fb (dFr fo ρ) := by
  unfold bSet2 kS2 kS21 kS22
  (repeat' split) <;> simp_all
end
end DL
/-! equations, printed -/
namespace DL
open PySem PySem.Spec L2
set_option autoImplicit true
set_option relaxedAutoImplicit true
theorem kVar_0 {i : Nat} {ρ : En} : kVar (some (.fz d)) i ρ = some (.fz d, ρ) := id rfl
theorem kVar_1 {i : Nat} {ρ : En} : kVar (some (.ow u1)) i ρ = some (.bw i, ρ) := id rfl
theorem kVar_2 {i : Nat} {ρ : En} : kVar (some (.rf u1)) i ρ = some (.bw i, ρ) := id rfl
theorem kRd_0 : kRd (some (.fz d)) = some d := id rfl
theorem kRd_1 : kRd (some (.ow (.l xs))) = some (.lst xs) := id rfl
theorem kRd_2 : kRd (some (.rf (.l xs))) = some (.lst xs) := id rfl
theorem kFr_0 {i : Nat} {ρ : En} : kFr (some (.fz d)) i ρ = some (d, ρ) := id rfl
theorem kFr_1 {i : Nat} {ρ : En} : kFr (some (.ow (.l xs))) i ρ = some (.lst xs, ρ.set i (.fz (.lst xs))) := id rfl
theorem kDFr_0 : kDFr (some (r, ρ1)) = fr2 ρ1 r := id rfl
theorem fr2_fz {d : D} : fr2 ρ (.fz d) = some (d, ρ) := id rfl
theorem fr2_ow {xs : List D} : fr2 ρ (.ow (.l xs)) = some (.lst xs, ρ) := id rfl
theorem kDFr_1 : kDFr (none) = none := id rfl
theorem kZ_0 {ρ : En} : kZ (some z) ρ = some (z, ρ) := id rfl
theorem kZ_1 {ρ : En} : kZ (none) ρ = none := id rfl
theorem kOp3_0 {g : D → D → Option Sl} {ρ : En} : kOp3 g (some d) (some e) ρ = kZ (g d e) ρ := id rfl
theorem kOp2_0 {g : D → D → Option Sl} {ra : Sl} : kOp2 g ra (some (rb, ρ2)) = kOp3 g (rd ρ2 ra) (rd ρ2 rb) ρ2 := id rfl
theorem kOp2_1 {g : D → D → Option Sl} {ra : Sl} : kOp2 g ra (none) = none := id rfl
theorem kOp_0 {g : D → D → Option Sl} {fb : Fe} : kOp g fb (some (ra, ρ1)) = kOp2 g ra (fb ρ1) := id rfl
theorem kOp_1 {g : D → D → Option Sl} {fb : Fe} : kOp g fb (none) = none := id rfl
theorem kTst_0 : kTst (some (.fz (.bl b), ρ1)) = some (b, ρ1) := id rfl
theorem kAnd_0 {g : Ft} : kAnd (some (true, ρ1)) g = g ρ1 := id rfl
theorem kAnd_1 {g : Ft} : kAnd (some (false, ρ1)) g = some (false, ρ1) := id rfl
theorem kAnd_2 {g : Ft} : kAnd (none) g = none := id rfl
theorem kOr_0 {g : Ft} : kOr (some (false, ρ1)) g = g ρ1 := id rfl
theorem kOr_1 {g : Ft} : kOr (some (true, ρ1)) g = some (true, ρ1) := id rfl
theorem kOr_2 {g : Ft} : kOr (none) g = none := id rfl
theorem kNot_0 : kNot (some (b, ρ1)) = some (!b, ρ1) := id rfl
theorem kNot_1 : kNot (none) = none := id rfl
theorem kIfE_0 {f : Fe} {g : Fe} : kIfE (some (true, ρ1)) f g = f ρ1 := id rfl
theorem kIfE_1 {f : Fe} {g : Fe} : kIfE (some (false, ρ1)) f g = g ρ1 := id rfl
theorem kIfE_2 {f : Fe} {g : Fe} : kIfE (none) f g = none := id rfl
theorem kAndV_0 {g : Fe} : kAndV (some (.fz (.bl true), ρ1)) g = g ρ1 := id rfl
theorem kAndV_1 {g : Fe} : kAndV (some (.fz (.bl false), ρ1)) g = some (.fz (.bl false), ρ1) := id rfl
theorem kOrV_0 {g : Fe} : kOrV (some (.fz (.bl false), ρ1)) g = g ρ1 := id rfl
theorem kOrV_1 {g : Fe} : kOrV (some (.fz (.bl true), ρ1)) g = some (.fz (.bl true), ρ1) := id rfl
theorem kNotV_0 : kNotV (some (.fz (.bl b), ρ1)) = some (.fz (.bl (!b)), ρ1) := id rfl
theorem kAC2_0 {r : Sl} : kAC2 r (some (rs, ρ2)) = some (r :: rs, ρ2) := id rfl
theorem kAC2_1 {r : Sl} : kAC2 r (none) = none := id rfl
theorem kAC_0 {g : Fa} : kAC (some (r, ρ1)) g = kAC2 r (g ρ1) := id rfl
theorem kAC_1 {g : Fa} : kAC (none) g = none := id rfl
theorem kAF_0 {g : Fa} : kAF (some (d, ρ1)) g = kAC2 (.fz d) (g ρ1) := id rfl
theorem kAF_1 {g : Fa} : kAF (none) g = none := id rfl
theorem kRds_0 : kRds (some d) (some ds) = some (d :: ds) := id rfl
theorem kCall2_0 {g : List D → Option Sl} {ρ : En} : kCall2 g (some ds) ρ = kZ (g ds) ρ := id rfl
theorem kCall2_1 {g : List D → Option Sl} {ρ : En} : kCall2 g (none) ρ = none := id rfl
theorem kCall_0 {g : List D → Option Sl} : kCall g (some (rs, ρ1)) = kCall2 g (rds ρ1 rs) ρ1 := id rfl
theorem kCall_1 {g : List D → Option Sl} : kCall g (none) = none := id rfl
theorem kTup2_0 {ρ : En} : kTup2 (some ds) ρ = if ds.length ≤ 1000000 then some (.fz (.tup ds), ρ) else none := id rfl
theorem kTup2_1 {ρ : En} : kTup2 (none) ρ = none := id rfl
theorem kTup_0 : kTup (some (rs, ρ1)) = kTup2 (dsOf rs) ρ1 := id rfl
theorem kTup_1 : kTup (none) = none := id rfl
theorem kLst2_0 {ρ : En} : kLst2 (some ds) ρ = if ds.length ≤ 1000000 then some (.ow (.l ds), ρ) else none := id rfl
theorem kLst2_1 {ρ : En} : kLst2 (none) ρ = none := id rfl
theorem kLst_0 : kLst (some (rs, ρ1)) = kLst2 (dsOf rs) ρ1 := id rfl
theorem kLst_1 : kLst (none) = none := id rfl
theorem kFCo_0 {i : Nat} {ρ : En} : kFCo (some (.fz d, .rf m' :: u1)) i ρ = some (.fz d, ρ.set i (.ow m')) := id rfl
theorem kFCo_1 {i : Nat} {ρ : En} : kFCo (some (.ow m, .rf m' :: u1)) i ρ = some (.ow m, ρ.set i (.ow m')) := id rfl
theorem kFCr_0 {i : Nat} {ρ : En} : kFCr (some (.fz d, .rf m' :: u1)) i ρ = some (.fz d, ρ.set i (.rf m')) := id rfl
theorem kFCr_1 {i : Nat} {ρ : En} : kFCr (some (.ow m, .rf m' :: u1)) i ρ = some (.ow m, ρ.set i (.rf m')) := id rfl
theorem kFCf_0 {ρ : En} : kFCf (some (.fz d, u1)) ρ = some (.fz d, ρ) := id rfl
theorem kFCf_1 {ρ : En} : kFCf (some (.ow m, u1)) ρ = some (.ow m, ρ) := id rfl
theorem kFC2_0 {F : FF} {i : Nat} {rest : List Sl} {ρ : En} : kFC2 F (true) (some (.ow m)) i rest ρ = kFCo (F (.rf m :: rest)) i ρ := id rfl
theorem kFC2_1 {F : FF} {i : Nat} {rest : List Sl} {ρ : En} : kFC2 F (true) (some (.rf m)) i rest ρ = kFCr (F (.rf m :: rest)) i ρ := id rfl
theorem kFC3_0 {F : FF} {rs : List Sl} {ρ : En} : kFC3 F (true) rs ρ = kFCf (F rs) ρ := id rfl
theorem kFC3_1 {F : FF} {rs : List Sl} {ρ : En} : kFC3 F (false) rs ρ = none := id rfl
theorem kFC1_0 {F : FF} {ρ : En} : kFC1 F (.bw i :: rss) ρ = kFC2 F (allFz rss) ρ[i]? i rss ρ := id rfl
theorem kFC1_1 {F : FF} {ρ : En} : kFC1 F (.fz d :: rss) ρ = kFC3 F (allFz rss) (.fz d :: rss) ρ := id rfl
theorem kFC1_2 {F : FF} {ρ : En} : kFC1 F ([]) ρ = kFC3 F true [] ρ := id rfl
theorem kFC_0 {F : FF} : kFC F (some (rs, ρ1)) = kFC1 F rs ρ1 := id rfl
theorem kFC_1 {F : FF} : kFC F (none) = none := id rfl
theorem kSeq_0 {B : Fs} : kSeq (some (.nx, ρ1)) B = B ρ1 := id rfl
theorem kSeq_1 {B : Fs} : kSeq (some (.rt r, ρ1)) B = some (.rt r, ρ1) := id rfl
theorem kSeq_2 {B : Fs} : kSeq (some (.bk, ρ1)) B = some (.bk, ρ1) := id rfl
theorem kSeq_3 {B : Fs} : kSeq (some (.ct, ρ1)) B = some (.ct, ρ1) := id rfl
theorem kSeq_4 {B : Fs} : kSeq (some (.ex C ns ds, ρ1)) B = some (.ex C ns ds, ρ1) := id rfl
theorem kSeq_5 {B : Fs} : kSeq (none) B = none := id rfl
theorem kDrop_0 : kDrop (some (u1, ρ1)) = some (.nx, ρ1) := id rfl
theorem kDrop_1 : kDrop (none) = none := id rfl
theorem kRet_0 : kRet (some (r, ρ1)) = some (.rt r, ρ1) := id rfl
theorem kRet_1 : kRet (none) = none := id rfl
theorem kIf_0 {A : Fs} {B : Fs} : kIf (some (true, ρ1)) A B = A ρ1 := id rfl
theorem kIf_1 {A : Fs} {B : Fs} : kIf (some (false, ρ1)) A B = B ρ1 := id rfl
theorem kIf_2 {A : Fs} {B : Fs} : kIf (none) A B = none := id rfl
theorem kTo_0 : kTo (some (d, ρ1)) = some (.fz d, ρ1) := id rfl
theorem kTo_1 : kTo (none) = none := id rfl
theorem kNR_0 : kNR (some (.rf u1)) = false := id rfl
theorem kNR_1 : kNR (some (.fz u1)) = true := id rfl
theorem kNR_2 : kNR (some (.ow u1)) = true := id rfl
theorem kNR_3 : kNR (some .un) = true := id rfl
theorem kNR_4 : kNR (some (.bw u1)) = true := id rfl
theorem kNR_5 : kNR (none) = false := id rfl
theorem kAsg3_0 {i : Nat} {z : Sl} {ρ : En} : kAsg3 (true) i z ρ = some (.nx, ρ.set i z) := id rfl
theorem kAsg3_1 {i : Nat} {z : Sl} {ρ : En} : kAsg3 (false) i z ρ = none := id rfl
theorem kAsg2_0 {i : Nat} : kAsg2 i (some (z, ρ2)) = kAsg3 (notRf ρ2 i) i z ρ2 := id rfl
theorem kAsg2_1 {i : Nat} : kAsg2 i (none) = none := id rfl
theorem kAsg_0 {i : Nat} : kAsg i (some (r, ρ1)) = kAsg2 i (toSlot ρ1 r) := id rfl
theorem kAsg_1 {i : Nat} : kAsg i (none) = none := id rfl
theorem kGN_0 {i : Nat} {d : D} {ρ : En} : kGN (true) i d ρ = some (ρ.set i (.fz d)) := id rfl
theorem kGN_1 {i : Nat} {d : D} {ρ : En} : kGN (false) i d ρ = none := id rfl
theorem kGC_0 {t : Fgs} {ds : List D} : kGC t ds (some ρ1) = t ds ρ1 := id rfl
theorem kGC_1 {t : Fgs} {ds : List D} : kGC t ds (none) = none := id rfl
theorem kUn2_0 : kUn2 (some ρ2) = some (.nx, ρ2) := id rfl
theorem kUn2_1 : kUn2 (none) = none := id rfl
theorem kUn_0 {h : Fg} : kUn h (some (d, ρ1)) = kUn2 (h d ρ1) := id rfl
theorem kUn_1 {h : Fg} : kUn h (none) = none := id rfl
theorem kMt4_0 {i : Nat} {ρ : En} : kMt4 i ρ (some (d, ys)) = some (.fz d, putS ρ i (.l ys)) := id rfl
theorem kMt4_1 {i : Nat} {ρ : En} : kMt4 i ρ (none) = none := id rfl
theorem kMt3_0 {i : Nat} {g : Gm} {ρ : En} : kMt3 i g ρ (some ds) (some xs) = kMt4 i ρ (g xs ds) := id rfl
theorem kMt2_0 {i : Nat} {g : Gm} : kMt2 i g (some (rs, ρ1)) = kMt3 i g ρ1 (dsOf rs) (heldL ρ1[i]?) := id rfl
theorem kMt2_1 {i : Nat} {g : Gm} : kMt2 i g (none) = none := id rfl
theorem kMt_0 {i : Nat} {g : Gm} {a : Option (List Sl × En)} : kMt i g (some u1) a = kMt2 i g a := id rfl
theorem kMt_1 {i : Nat} {g : Gm} {a : Option (List Sl × En)} : kMt i g (none) a = none := id rfl
theorem kPut_0 {ρ : En} {i : Nat} {m : Mu} : kPut (some (.rf u1)) ρ i m = ρ.set i (.rf m) := id rfl
theorem kPut_1 {ρ : En} {i : Nat} {m : Mu} : kPut (some (.ow u1)) ρ i m = ρ.set i (.ow m) := id rfl
theorem kPut_2 {ρ : En} {i : Nat} {m : Mu} : kPut (some (.fz u1)) ρ i m = ρ.set i (.ow m) := id rfl
theorem kPut_3 {ρ : En} {i : Nat} {m : Mu} : kPut (some .un) ρ i m = ρ.set i (.ow m) := id rfl
theorem kPut_4 {ρ : En} {i : Nat} {m : Mu} : kPut (some (.bw u1)) ρ i m = ρ.set i (.ow m) := id rfl
theorem kPut_5 {ρ : En} {i : Nat} {m : Mu} : kPut (none) ρ i m = ρ := id rfl
theorem kM12_0 {gg : D → D → Option Sl} {a : Str} {ρ : En} : kM12 gg a (some d) ρ = kZ (gg (.str a) d) ρ := id rfl
theorem kM12_1 {gg : D → D → Option Sl} {a : Str} {ρ : En} : kM12 gg a (none) ρ = none := id rfl
theorem kM11_0 {gg : D → D → Option Sl} {a : Str} : kM11 gg a (some (rb, ρ2)) = kM12 gg a (rd ρ2 rb) ρ2 := id rfl
theorem kM11_1 {gg : D → D → Option Sl} {a : Str} : kM11 gg a (none) = none := id rfl
theorem kM1_0 {gg : D → D → Option Sl} {fe : Fe} : kM1 gg fe (some (.fz (.str a), ρ1)) = kM11 gg a (fe ρ1) := id rfl
theorem kIsi3_0 {ρ : En} : kIsi3 (some b) ρ = some (.fz (.bl b), ρ) := id rfl
theorem kIsi3_1 {ρ : En} : kIsi3 (none) ρ = none := id rfl
theorem kIsi2_0 {T : String} {ρ : En} : kIsi2 T (some d) ρ = kIsi3 (isB T d) ρ := id rfl
theorem kIsi2_1 {T : String} {ρ : En} : kIsi2 T (none) ρ = none := id rfl
theorem kIsi_0 {T : String} : kIsi T (some (r, ρ1)) = kIsi2 T (rd ρ1 r) ρ1 := id rfl
theorem kIsi_1 {T : String} : kIsi T (none) = none := id rfl
theorem kOSo_0 : kOSo (some (.fz (.int i), ρ1)) = some (some i, ρ1) := id rfl
theorem kSl4_0 {lo : Option Int} {hi : Option Int} {ρ : En} : kSl4 (some d) lo hi ρ = kZ (gSl d lo hi) ρ := id rfl
theorem kSl4_1 {lo : Option Int} {hi : Option Int} {ρ : En} : kSl4 (none) lo hi ρ = none := id rfl
theorem kSl3_0 {r : Sl} {lo : Option Int} : kSl3 r lo (some (hi, ρ3)) = kSl4 (rd ρ3 r) lo hi ρ3 := id rfl
theorem kSl3_1 {r : Sl} {lo : Option Int} : kSl3 r lo (none) = none := id rfl
theorem kSl2_0 {r : Sl} {fh : Fo} : kSl2 r fh (some (lo, ρ2)) = kSl3 r lo (fh ρ2) := id rfl
theorem kSl2_1 {r : Sl} {fh : Fo} : kSl2 r fh (none) = none := id rfl
theorem kSl_0 {fl : Fo} {fh : Fo} : kSl fl fh (some (r, ρ1)) = kSl2 r fh (fl ρ1) := id rfl
theorem kSl_1 {fl : Fo} {fh : Fo} : kSl fl fh (none) = none := id rfl
theorem kNeg_0 : kNeg (some (.fz (.int i), ρ1)) = some (.fz (.int (-i)), ρ1) := id rfl
theorem kSX3_0 {i : Nat} {d : D} {xs : List D} {ρ : En} : kSX3 i d xs (some j) ρ = some (.nx, putS ρ i (.l (xs.set j d))) := id rfl
theorem kSX3_1 {i : Nat} {d : D} {xs : List D} {ρ : En} : kSX3 i d xs (none) ρ = none := id rfl
theorem kSX2_0 {i : Nat} {d : D} {k : Int} {ρ : En} : kSX2 i d k (some xs) ρ = kSX3 i d xs (ixN xs.length k) ρ := id rfl
theorem kSX2_1 {i : Nat} {d : D} {k : Int} {ρ : En} : kSX2 i d k (none) ρ = none := id rfl
theorem kSX1_0 {i : Nat} {d : D} : kSX1 i d (some (.fz (.int k), ρ2)) = kSX2 i d k (heldL ρ2[i]?) ρ2 := id rfl
theorem kSX0_0 {i : Nat} {d : D} {p : Option (Sl × En)} : kSX0 i d (some u1) p = kSX1 i d p := id rfl
theorem kSX0_1 {i : Nat} {d : D} {p : Option (Sl × En)} : kSX0 i d (none) p = none := id rfl
theorem kSX_0 {i : Nat} {fi : Fe} : kSX i fi (some (d, ρ1)) = kSX0 i d (heldL ρ1[i]?) (fi ρ1) := id rfl
theorem kSX_1 {i : Nat} {fi : Fe} : kSX i fi (none) = none := id rfl
theorem kAug3_0 {i : Nat} {z : Int} {ρ : En} : kAug3 (true) i z ρ = some (.nx, ρ.set i (.fz (.int z))) := id rfl
theorem kAug3_1 {i : Nat} {z : Int} {ρ : En} : kAug3 (false) i z ρ = none := id rfl
theorem kAug2_0 {i : Nat} {hh : Int → Int → Int} {a : Int} : kAug2 i hh a (some (.fz (.int b), ρ1)) = kAug3 (notRf ρ1 i) i (hh a b) ρ1 := id rfl
theorem kAug_0 {i : Nat} {hh : Int → Int → Int} {p : Option (Sl × En)} : kAug i hh (some (.fz (.int a))) p = kAug2 i hh a p := id rfl
theorem kRes_0 : kRes (some (.fz d)) = some (.fz d) := id rfl
theorem kRes_1 : kRes (some (.ow m)) = some (.ow m) := id rfl
theorem kEnd2_0 {ρ : En} : kEnd2 (some z) ρ = some (z, ρ) := id rfl
theorem kEnd2_1 {ρ : En} : kEnd2 (none) ρ = none := id rfl
theorem kEnd_0 {ρ : En} : kEnd ρ (some (.nx, ρe)) = some (.fz .non, fin ρ ρe) := id rfl
theorem kEnd_1 {ρ : En} : kEnd ρ (some (.rt r, ρe)) = kEnd2 (resolve ρe r) (fin ρ ρe) := id rfl
theorem kAny_0 : kAny (some (.lst xs, ρ1)) = some (xs, ρ1) := id rfl
theorem kAny_1 : kAny (some (.tup xs, ρ1)) = some (xs, ρ1) := id rfl
theorem kAny_2 : kAny (some (.str z, ρ1)) = some (signsD z, ρ1) := id rfl
theorem kR1_0 : kR1 (some ([.fz (.int n)], ρ1)) = if n < 4000000000000000000 ∧ -4000000000000000000 ≤ n then some (rangeD 0 n.toNat, ρ1) else none := id rfl
theorem kR2_0 : kR2 (some ([.fz (.int m), .fz (.int n)], ρ1)) = if n < 4000000000000000000 ∧ -4000000000000000000 ≤ n ∧ m < 4000000000000000000 ∧ -4000000000000000000 ≤ m then some (rangeD m (n - m).toNat, ρ1) else none := id rfl
theorem kEn_0 : kEn (some ([.fz (.lst xs)], ρ1)) = some (enumD xs, ρ1) := id rfl
theorem kEn_1 : kEn (some ([.fz (.tup xs)], ρ1)) = some (enumD xs, ρ1) := id rfl
theorem kFor_0 {h : Fg} {B : Fs} : kFor h B (some (xs, ρ1)) = forL h B xs ρ1 := id rfl
theorem kFor_1 {h : Fg} {B : Fs} : kFor h B (none) = none := id rfl
theorem kLc2_0 {ρ1 : En} {vs : List Nat} : kLc2 (some (acc, ρ2)) ρ1 vs = some (.ow (.l acc), restD ρ1 ρ2 vs) := id rfl
theorem kLc2_1 {ρ1 : En} {vs : List Nat} : kLc2 (none) ρ1 vs = none := id rfl
theorem kLc_0 {h : Fg} {ft : Ft} {fe : Fe} {vs : List Nat} : kLc h ft fe vs (some (xs, ρ1)) = kLc2 (lcL h ft fe vs xs [] (wipeD ρ1 vs)) ρ1 vs := id rfl
theorem kLc_1 {h : Fg} {ft : Ft} {fe : Fe} {vs : List Nat} : kLc h ft fe vs (none) = none := id rfl
theorem kGG_0 {g : D → D → Option Sl} : kGG g (some d) (some e) = g d e := id rfl
theorem kCh3_0 {g : D → D → Option Sl} {rb : Sl} : kCh3 g rb (some (rc, ρ3)) = kOp3 g (rd ρ3 rb) (rd ρ3 rc) ρ3 := id rfl
theorem kCh3_1 {g : D → D → Option Sl} {rb : Sl} : kCh3 g rb (none) = none := id rfl
theorem kCh2_0 {g : D → D → Option Sl} {fc : Fe} {rb : Sl} {ρ : En} : kCh2 g fc rb ρ (some (.fz (.bl true))) = kCh3 g rb (fc ρ) := id rfl
theorem kCh2_1 {g : D → D → Option Sl} {fc : Fe} {rb : Sl} {ρ : En} : kCh2 g fc rb ρ (some (.fz (.bl false))) = some (.fz (.bl false), ρ) := id rfl
theorem kCh1_0 {g1 : D → D → Option Sl} {g2 : D → D → Option Sl} {fc : Fe} {ra : Sl} : kCh1 g1 g2 fc ra (some (rb, ρ2)) = kCh2 g2 fc rb ρ2 (kGG g1 (rd ρ2 ra) (rd ρ2 rb)) := id rfl
theorem kCh1_1 {g1 : D → D → Option Sl} {g2 : D → D → Option Sl} {fc : Fe} {ra : Sl} : kCh1 g1 g2 fc ra (none) = none := id rfl
theorem kCh_0 {g1 : D → D → Option Sl} {g2 : D → D → Option Sl} {fb : Fe} {fc : Fe} : kCh g1 g2 fb fc (some (ra, ρ1)) = kCh1 g1 g2 fc ra (fb ρ1) := id rfl
theorem kCh_1 {g1 : D → D → Option Sl} {g2 : D → D → Option Sl} {fb : Fe} {fc : Fe} : kCh g1 g2 fb fc (none) = none := id rfl
theorem kLRg_0 : kLRg (some (.fz (.int n), ρ1)) = if n ≤ 1000000 ∧ -1000000 ≤ n then some (.ow (.l (rangeD 0 n.toNat)), ρ1) else none := id rfl
theorem kLRh_0 {m : Int} : kLRh m (some (.fz (.int n), ρ2)) = if n ≤ 1000000 ∧ -1000000 ≤ n ∧ m ≤ 1000000 ∧ -1000000 ≤ m then some (.ow (.l (rangeD m (n - m).toNat)), ρ2) else none := id rfl
theorem kLRi_0 {g : Fe} : kLRi g (some (.fz (.int m), ρ1)) = kLRh m (g ρ1) := id rfl
theorem kMG_0 : kMG (some m) (some d) = mGet m d := id rfl
theorem kDG2_0 {ρ : En} : kDG2 (some (some v)) ρ = some (.fz v, ρ) := id rfl
theorem kDG1_0 {i : Nat} : kDG1 i (some (rk, ρ1)) = kDG2 (kMG (heldM ρ1[i]?) (rd ρ1 rk)) ρ1 := id rfl
theorem kDG1_1 {i : Nat} : kDG1 i (none) = none := id rfl
theorem kDG_0 {i : Nat} {p : Option (Sl × En)} : kDG i (some u1) p = kDG1 i p := id rfl
theorem kDG_1 {i : Nat} {p : Option (Sl × En)} : kDG i (none) p = none := id rfl
theorem kDI2_0 {neg : Bool} {ρ : En} : kDI2 neg (some v) ρ = some (.fz (.bl (neg ^^ v.isSome)), ρ) := id rfl
theorem kDI2_1 {neg : Bool} {ρ : En} : kDI2 neg (none) ρ = none := id rfl
theorem kDI_0 {neg : Bool} {i : Nat} : kDI neg i (some (rk, ρ1)) = kDI2 neg (kMG (heldM ρ1[i]?) (rd ρ1 rk)) ρ1 := id rfl
theorem kDI_1 {neg : Bool} {i : Nat} : kDI neg i (none) = none := id rfl
theorem kMP_0 {v : D} : kMP (some m) (some d) v = mPut m d v := id rfl
theorem kDP3_0 {i : Nat} {ρ : En} : kDP3 i (some m) ρ = some (.nx, putS ρ i m) := id rfl
theorem kDP3_1 {i : Nat} {ρ : En} : kDP3 i (none) ρ = none := id rfl
theorem kDP2_0 {i : Nat} {v : D} : kDP2 i v (some (rk, ρ2)) = kDP3 i (kMP (heldM ρ2[i]?) (rd ρ2 rk) v) ρ2 := id rfl
theorem kDP2_1 {i : Nat} {v : D} : kDP2 i v (none) = none := id rfl
theorem kDP1_0 {i : Nat} {v : D} {p : Option (Sl × En)} : kDP1 i v (some u1) p = kDP2 i v p := id rfl
theorem kDP1_1 {i : Nat} {v : D} {p : Option (Sl × En)} : kDP1 i v (none) p = none := id rfl
theorem kDP_0 {i : Nat} {fk : Fe} : kDP i fk (some (v, ρ1)) = kDP1 i v (heldM ρ1[i]?) (fk ρ1) := id rfl
theorem kDP_1 {i : Nat} {fk : Fe} : kDP i fk (none) = none := id rfl
theorem kPar2_0 {i : Nat} {j : Nat} {d : D} {e : D} {ρ : En} : kPar2 (true) i j d e ρ = some (.nx, (ρ.set i (.fz d)).set j (.fz e)) := id rfl
theorem kPar2_1 {i : Nat} {j : Nat} {d : D} {e : D} {ρ : En} : kPar2 (false) i j d e ρ = none := id rfl
theorem kPar_0 {i : Nat} {j : Nat} : kPar i j (some ([.fz d, .fz e], ρ1)) = kPar2 (notRf ρ1 i && notRf ρ1 j) i j d e ρ1 := id rfl
theorem kCat2_0 {rs : List Sl} : kCat2 rs (some (qs, ρ2)) = some (rs ++ qs, ρ2) := id rfl
theorem kCat2_1 {rs : List Sl} : kCat2 rs (none) = none := id rfl
theorem kCat_0 {fb : Fa} : kCat fb (some (rs, ρ1)) = kCat2 rs (fb ρ1) := id rfl
theorem kCat_1 {fb : Fa} : kCat fb (none) = none := id rfl
theorem kRev2_0 {ρ : En} : kRev2 (some (.lst xs)) ρ = some (.ow (.l xs.reverse), ρ) := id rfl
theorem kRev_0 : kRev (some (r, ρ1)) = kRev2 (rd ρ1 r) ρ1 := id rfl
theorem kRev_1 : kRev (none) = none := id rfl
theorem kSA3_0 {i : Nat} {d : D} {xs : List D} {ρ : En} : kSA3 i d xs (some j) ρ = some (putS ρ i (.l (xs.set j d))) := id rfl
theorem kSA3_1 {i : Nat} {d : D} {xs : List D} {ρ : En} : kSA3 i d xs (none) ρ = none := id rfl
theorem kSA2_0 {i : Nat} {d : D} {k : Int} {ρ : En} : kSA2 i d k (some xs) ρ = kSA3 i d xs (ixN xs.length k) ρ := id rfl
theorem kSA2_1 {i : Nat} {d : D} {k : Int} {ρ : En} : kSA2 i d k (none) ρ = none := id rfl
theorem kSA1_0 {i : Nat} {d : D} : kSA1 i d (some (.fz (.int k), ρ2)) = kSA2 i d k (heldL ρ2[i]?) ρ2 := id rfl
theorem kSA_0 {i : Nat} {d : D} {p : Option (Sl × En)} : kSA i d (some u1) p = kSA1 i d p := id rfl
theorem kSA_1 {i : Nat} {d : D} {p : Option (Sl × En)} : kSA i d (none) p = none := id rfl
theorem kS22_0 : kS22 (some ρ) = some (.nx, ρ) := id rfl
theorem kS22_1 : kS22 (none) = none := id rfl
theorem kS21_0 {i : Nat} {f2 : Fe} {e : D} : kS21 i f2 e (some ρ) = kS22 (setAt i f2 e ρ) := id rfl
theorem kS21_1 {i : Nat} {f2 : Fe} {e : D} : kS21 i f2 e (none) = none := id rfl
theorem kS2_0 {i : Nat} {f1 : Fe} {f2 : Fe} : kS2 i f1 f2 (some (.tup [d, e], ρ)) = kS21 i f2 e (setAt i f1 d ρ) := id rfl
set_option autoImplicit false
end DL
set_option Elab.async false
set_option linter.all false
set_option maxRecDepth 100000
set_option maxHeartbeats 1000000
namespace DL
open PySem PySem.Spec L2
/-! ### evaluation of the layer's functions on plain data -/
theorem atI0 {α : Type} (a : α) (l : List α) : atI (a :: l) 0 = some a := atI_nat (j := 0) rfl
theorem atI1 {α : Type} (a b : α) (l : List α) : atI (a :: b :: l) 1 = some b := atI_nat (j := 1) rfl
theorem atI2 {α : Type} (a b c : α) (l : List α) : atI (a :: b :: c :: l) 2 = some c := atI_nat (j := 2) rfl
theorem atI3 {α : Type} (a b c d : α) (l : List α) : atI (a :: b :: c :: d :: l) 3 = some d := atI_nat (j := 3) rfl
theorem ix_l0 (a : D) (l : List D) : gIx (.lst (a :: l)) (.int 0) = some (.fz a) := by show (atI _ _).map Sl.fz = _; rw [atI0]; rfl
theorem ix_l1 (a b : D) (l : List D) : gIx (.lst (a :: b :: l)) (.int 1) = some (.fz b) := by show (atI _ _).map Sl.fz = _; rw [atI1]; rfl
theorem ix_l2 (a b c : D) (l : List D) : gIx (.lst (a :: b :: c :: l)) (.int 2) = some (.fz c) := by show (atI _ _).map Sl.fz = _; rw [atI2]; rfl
theorem ix_t0 (a : D) (l : List D) : gIx (.tup (a :: l)) (.int 0) = some (.fz a) := by show (atI _ _).map Sl.fz = _; rw [atI0]; rfl
theorem ix_t1 (a b : D) (l : List D) : gIx (.tup (a :: b :: l)) (.int 1) = some (.fz b) := by show (atI _ _).map Sl.fz = _; rw [atI1]; rfl
theorem ix_t2 (a b c : D) (l : List D) : gIx (.tup (a :: b :: c :: l)) (.int 2) = some (.fz c) := by show (atI _ _).map Sl.fz = _; rw [atI2]; rfl
theorem ix_t3 (a b c d : D) (l : List D) : gIx (.tup (a :: b :: c :: d :: l)) (.int 3) = some (.fz d) := by show (atI _ _).map Sl.fz = _; rw [atI3]; rfl
theorem ix_tm2 (a b : D) : gIx (.tup [a, b]) (.int (-1)) = some (.fz b) := rfl
theorem ix_tm3 (a b c : D) : gIx (.tup [a, b, c]) (.int (-1)) = some (.fz c) := rfl
theorem ix_tm4 (a b c d : D) : gIx (.tup [a, b, c, d]) (.int (-1)) = some (.fz d) := rfl
theorem ixN3_0 : ixN 3 0 = some 0 := rfl
theorem ixN3_1 : ixN 3 1 = some 1 := rfl
theorem ixN3_2 : ixN 3 2 = some 2 := rfl
theorem ix_lst {xs : List D} {i : Nat} {d : D} (h : xs[i]? = some d) : gIx (.lst xs) (.int (i : Nat)) = some (.fz d) := by show (atI _ _).map Sl.fz = _; rw [atI_nat h]; rfl
theorem ix_tup {xs : List D} {i : Nat} {d : D} (h : xs[i]? = some d) : gIx (.tup xs) (.int (i : Nat)) = some (.fz d) := by show (atI _ _).map Sl.fz = _; rw [atI_nat h]; rfl
/-- an index that is an int -/
theorem ix_lstI {xs : List D} {i : Int} {d : D} (h0 : 0 ≤ i) (h : xs[i.toNat]? = some d) : gIx (.lst xs) (.int i) = some (.fz d) := by
  have e : i = ((i.toNat : Nat) : Int) := by omega
  rw [e]
  exact ix_lst h
theorem ix_tupI {xs : List D} {i : Int} {d : D} (h0 : 0 ≤ i) (h : xs[i.toNat]? = some d) : gIx (.tup xs) (.int i) = some (.fz d) := by
  have e : i = ((i.toNat : Nat) : Int) := by omega
  rw [e]
  exact ix_tup h
theorem mul_ok {i j : Int} {a b : Nat} (ha : i.natAbs < 2 ^ a) (hb : j.natAbs < 2 ^ b) (h0 : 0 < a) (h1 : 0 < b) (h : a + b ≤ 1000000) : gMul (.int i) (.int j) = some (.fz (.int (i * j))) := by
  have := wide_mul ha hb h0 h1 h
  unfold CMulW at this
  unfold gMul
  simp only [this, ↓reduceIte]
theorem mul_small {i j : Int} (ha : i.natAbs < 2 ^ 64) (hb : j.natAbs < 2 ^ 64) : gMul (.int i) (.int j) = some (.fz (.int (i * j))) := mul_ok ha hb (by decide) (by decide) (by decide)
theorem div_ok {i j : Int} (h0 : 0 < j) (h : j.natAbs.log2 < 9000) : gDiv (.int i) (.int j) = some (.fz (.int (i / j))) := by
  unfold gDiv
  simp only [h0, h, and_self, ↓reduceIte]
theorem mod_ok {i j : Int} (h0 : 0 < j) : gMod (.int i) (.int j) = some (.fz (.int (i % j))) := by
  unfold gMod
  simp only [h0, ↓reduceIte]
theorem intBits_le {i : Int} {n : Nat} (h : i.natAbs < 2 ^ n) (h0 : 0 < n) : Builtin.Int.intBits i ≤ n := by
  unfold Builtin.Int.intBits
  split
  · exact Nat.zero_le _
  · rename_i hz
    have := PySem.Flt.log2_lt_of h0 h
    omega
theorem pow_ok {i j : Int} {n : Nat} (h0 : 0 ≤ j) (h : i.natAbs < 2 ^ n) (hn : 0 < n) (hb : (n : Int) * j ≤ 2 ^ 27) : gPow (.int i) (.int j) = some (.fz (.int (i ^ j.toNat))) := by
  have h1 := intBits_le h hn
  have h2 : (Builtin.Int.intBits i : Int) * j ≤ 2 ^ 27 := Int.le_trans (Int.mul_le_mul_of_nonneg_right (by omega) h0) hb
  unfold gPow
  simp only [h0, h2, and_self, ↓reduceIte]
/-! ### loops -/
theorem forL_inv {h : Fg} {B : Fs} {xs : List D} (I : Nat → En → Prop)
    (hs : ∀ i d ρ, xs[i]? = some d → I i ρ → ∃ ρ1 ρ2, h d ρ = some ρ1 ∧ (B ρ1 = some (.nx, ρ2) ∨ B ρ1 = some (.ct, ρ2)) ∧ I (i + 1) ρ2) : ∀ {ρ : En}, I 0 ρ → ∃ ρ', forL h B xs ρ = some (.nx, ρ') ∧ I xs.length ρ' := by
  have go : ∀ (n i : Nat) (ρ : En), n = xs.length - i → i ≤ xs.length → I i ρ → ∃ ρ', forL h B (xs.drop i) ρ = some (.nx, ρ') ∧ I xs.length ρ' := by
    intro n
    induction n with
    | zero =>
      intro i ρ hn hi h0
      have e : i = xs.length := by omega
      subst e
      rw [List.drop_eq_nil_of_le (Nat.le_refl _)]
      exact ⟨ρ, rfl, h0⟩
    | succ n ih =>
      intro i ρ hn hi h0
      have hlt : i < xs.length := by omega
      rw [List.drop_eq_getElem_cons hlt]
      obtain ⟨ρ1, ρ2, e1, e2, h2⟩ := hs i xs[i] ρ (List.getElem?_eq_getElem hlt) h0
      obtain ⟨ρ', e3, h3⟩ := ih (i + 1) ρ2 (by omega) hlt h2
      refine ⟨ρ', ?_, h3⟩
      unfold forL
      rcases e2 with e2 | e2
      · simp only [e1, e2, e3]
      · simp only [e1, e2, e3]
  intro ρ h0
  have := go xs.length 0 ρ (by omega) (Nat.zero_le _) h0
  rwa [List.drop_zero] at this
/-- a comprehension: an invariant over the turn, what is made so far, and the slots -/
theorem lcL_inv {h : Fg} {ft : Ft} {fe : Fe} {vs : List Nat} {xs : List D} (I : Nat → List D → En → Prop)
    (hs : ∀ i d acc ρ, xs[i]? = some d → I i acc ρ → ∃ ρ1 ρ2, h d ρ = some ρ1 ∧ ((ft ρ1 = some (false, ρ2) ∧ I (i + 1) acc (wipeD ρ2 vs)) ∨ ∃ y ρ3, ft ρ1 = some (true, ρ2) ∧ dFr fe ρ2 = some (y, ρ3) ∧ acc.length < 16000000 ∧ I (i + 1) (acc ++ [y]) (wipeD ρ3 vs))) :
    ∀ {ρ : En}, I 0 [] ρ → ∃ acc ρ', lcL h ft fe vs xs [] ρ = some (acc, ρ') ∧ I xs.length acc ρ' := by
  have go : ∀ (n i : Nat) (acc : List D) (ρ : En), n = xs.length - i → i ≤ xs.length → I i acc ρ → ∃ acc' ρ', lcL h ft fe vs (xs.drop i) acc ρ = some (acc', ρ') ∧ I xs.length acc' ρ' := by
    intro n
    induction n with
    | zero =>
      intro i acc ρ hn hi h0
      have e : i = xs.length := by omega
      subst e
      rw [List.drop_eq_nil_of_le (Nat.le_refl _)]
      exact ⟨acc, ρ, rfl, h0⟩
    | succ n ih =>
      intro i acc ρ hn hi h0
      have hlt : i < xs.length := by omega
      rw [List.drop_eq_getElem_cons hlt]
      obtain ⟨ρ1, ρ2, e1, e2⟩ := hs i xs[i] acc ρ (List.getElem?_eq_getElem hlt) h0
      rcases e2 with ⟨e2, h2⟩ | ⟨y, ρ3, e2, e3, hl, h2⟩
      · obtain ⟨acc', ρ', e4, h4⟩ := ih (i + 1) _ _ (by omega) hlt h2
        refine ⟨acc', ρ', ?_, h4⟩
        unfold lcL
        simp only [e1, e2, e4]
      · obtain ⟨acc', ρ', e4, h4⟩ := ih (i + 1) _ _ (by omega) hlt h2
        refine ⟨acc', ρ', ?_, h4⟩
        unfold lcL
        simp only [e1, e2, e3, hl, ↓reduceIte, e4]
  intro ρ h0
  have := go xs.length 0 [] ρ (by omega) (Nat.zero_le _) h0
  rwa [List.drop_zero] at this
/-- a comprehension without a test whose element is a function of the item, that changes nothing -/
theorem lcL_map {h : Fg} {fe : Fe} {vs : List Nat} {xs : List D} {ρ : En} (f : D → D) (hl : xs.length ≤ 1000000)
    (hs : ∀ d, d ∈ xs → ∃ ρ1 ρ2, h d ρ = some ρ1 ∧ dFr fe ρ1 = some (f d, ρ2) ∧ wipeD ρ2 vs = ρ) : lcL h dYes fe vs xs [] ρ = some (xs.map f, ρ) := by
  have := lcL_inv (h := h) (ft := dYes) (fe := fe) (vs := vs) (xs := xs) (fun i acc ρ' => acc = (xs.take i).map f ∧ ρ' = ρ ∧ i ≤ xs.length) (fun i d acc ρ' hd ⟨e1, e2, e3⟩ => by
    subst e1
    subst e2
    have hi := (List.getElem?_eq_some_iff.mp hd).1
    obtain ⟨ρ1, ρ2, h1, h2, h3⟩ := hs d (List.mem_of_getElem? hd)
    refine ⟨ρ1, ρ1, h1, .inr ⟨f d, ρ2, rfl, h2, ?_, ?_, h3, hi⟩⟩
    · rw [List.length_map, List.length_take]
      omega
    · rw [List.take_succ, hd, List.map_append]
      rfl) (ρ := ρ) ⟨rfl, rfl, Nat.zero_le _⟩
  obtain ⟨acc, ρ', e, h1, h2, _⟩ := this
  rw [e, h1, h2, List.take_length]
/-! ### data that may be compared -/
def StrGood (s : Str) : Prop := PyData.strOk s = true
instance (s : Str) : Decidable (StrGood s) := inferInstanceAs (Decidable (PyData.strOk s = true))
inductive Fit : Nat → D → Prop
  | non (n : Nat) : Fit n .non
  | bl (n : Nat) (b : Bool) : Fit n (.bl b)
  | int (n : Nat) (i : Int) : Fit n (.int i)
  | str {s : Str} (n : Nat) (h : StrGood s) : Fit n (.str s)
  | tup {n : Nat} {xs : List D} (h : ∀ d ∈ xs, Fit n d) : Fit (n + 1) (.tup xs)
  | lst {n : Nat} {xs : List D} (h : ∀ d ∈ xs, Fit n d) : Fit (n + 1) (.lst xs)
theorem pys_lay : ∀ (xs : List D), (∀ d ∈ xs, d.py.canLay0 = true) → PyData.canLayAll0 (D.pys xs) = true
  | [], _ => by rw [D.pys]; rfl
  | x :: xs, h => by
    rw [D.pys, PyData.canLayAll0, h x (by simp), pys_lay xs fun d hd => h d (by simp [hd])]
    rfl
theorem pys_depth {n : Nat} : ∀ (xs : List D), (∀ d ∈ xs, d.py.depth ≤ n) → PyData.depthAll (D.pys xs) ≤ n
  | [], _ => by rw [D.pys]; exact Nat.zero_le _
  | x :: xs, h => by
    rw [D.pys, PyData.depthAll]
    exact Nat.max_le.mpr ⟨h x (by simp), pys_depth xs fun d hd => h d (by simp [hd])⟩
theorem plains_of : ∀ (xs : List D), (∀ d ∈ xs, d.plain = true) → D.plains xs = true
  | [], _ => by rw [D.plains]
  | x :: xs, h => by
    rw [D.plains, h x (by simp), plains_of xs fun d hd => h d (by simp [hd])]
    rfl
theorem Fit.parts {n : Nat} {d : D} (h : Fit n d) : d.plain = true ∧ d.py.canLay0 = true ∧ d.py.depth ≤ n := by
  induction h with
  | non n => rw [D.plain, D.py] <;> simp [PyData.canLay0, PyData.depth]
  | bl n b => rw [D.plain, D.py] <;> simp [PyData.canLay0, PyData.depth]
  | int n i => rw [D.plain, D.py] <;> simp [PyData.canLay0, PyData.depth]
  | @str s n h =>
    refine ⟨by simp [D.plain], ?_, ?_⟩
    · rw [D.py, PyData.canLay0]
      exact h
    · rw [D.py, PyData.depth]
      exact Nat.zero_le _
  | @tup n xs h ih =>
    rw [D.plain, D.py, PyData.canLay0, PyData.depth]
    exact ⟨plains_of xs fun d hd => (ih d hd).1, pys_lay xs fun d hd => (ih d hd).2.1, Nat.succ_le_succ (pys_depth xs fun d hd => (ih d hd).2.2)⟩
  | @lst n xs h ih =>
    rw [D.plain, D.py, PyData.canLay0, PyData.depth]
    exact ⟨plains_of xs fun d hd => (ih d hd).1, pys_lay xs fun d hd => (ih d hd).2.1, Nat.succ_le_succ (pys_depth xs fun d hd => (ih d hd).2.2)⟩
theorem Fit.ok {n : Nat} {d : D} (h : Fit n d) (hn : n ≤ 64) : d.ok = true := by
  obtain ⟨h1, h2, h3⟩ := h.parts
  unfold D.ok SeqAt.shaped
  rw [h1, h2, decide_eq_true (Nat.le_trans h3 hn)]
  rfl
theorem eqv_self {d : D} (h : d.ok = true) : d.eqv d = true := SeqAt.eqv_refl d.py (SeqAt.canLay_of_shaped (ok_parts h).2)
theorem ok_int (i : Int) : (D.int i).ok = true := (Fit.int 0 i).ok (by decide)
theorem ok_bl (i : Bool) : (D.bl i).ok = true := (Fit.bl 0 i).ok (by decide)
theorem ok_str {s : Str} (h : StrGood s) : (D.str s).ok = true := (Fit.str 0 h).ok (by decide)
theorem eqv_int (i j : Int) : (D.int i).eqv (.int j) = decide (i = j) := by
  unfold D.eqv
  rw [D.py, D.py, PyData.eqv, Bool.beq_eq_decide_eq]
theorem eqv_str (i j : Str) : (D.str i).eqv (.str j) = decide (i = j) := by
  unfold D.eqv
  rw [D.py, D.py, PyData.eqv, Bool.beq_eq_decide_eq]
theorem eqv_bl (i j : Bool) : (D.bl i).eqv (.bl j) = decide (i = j) := by
  unfold D.eqv
  rw [D.py, D.py, PyData.eqv, Bool.beq_eq_decide_eq]
theorem eqvs_cons (x y : D) (xs ys : List D) : PyData.eqvAll (D.pys (x :: xs)) (D.pys (y :: ys)) = (x.eqv y && PyData.eqvAll (D.pys xs) (D.pys ys)) := by
  rw [D.pys, D.pys, PyData.eqvAll]
  rfl
def eqvs (xs ys : List D) : Bool := PyData.eqvAll (D.pys xs) (D.pys ys)
theorem eqv_tup (xs ys : List D) : (D.tup xs).eqv (.tup ys) = eqvs xs ys := by
  unfold D.eqv
  rw [D.py, D.py, PyData.eqv]
  rfl
theorem eqv_lst (xs ys : List D) : (D.lst xs).eqv (.lst ys) = eqvs xs ys := by
  unfold D.eqv
  rw [D.py, D.py, PyData.eqv]
  rfl
theorem eqvs_nil : eqvs [] [] = true := by unfold eqvs; rw [D.pys]; rfl
theorem eqvs_nil_cons (y : D) (ys : List D) : eqvs [] (y :: ys) = false := by unfold eqvs; rw [D.pys, D.pys]; rfl
theorem eqvs_cons_nil (y : D) (ys : List D) : eqvs (y :: ys) [] = false := by unfold eqvs; rw [D.pys, D.pys]; rfl
theorem eqvs_cc (x y : D) (xs ys : List D) : eqvs (x :: xs) (y :: ys) = (x.eqv y && eqvs xs ys) := eqvs_cons x y xs ys
theorem gEq_int (i j : Int) : gEq (.int i) (.int j) = some (.fz (.bl (decide (i = j)))) := id rfl
theorem gNe_int (i j : Int) : gNe (.int i) (.int j) = some (.fz (.bl (!decide (i = j)))) := id rfl
theorem gEq_str (i j : Str) : gEq (.str i) (.str j) = some (.fz (.bl (decide (i = j)))) := id rfl
theorem gNe_str (i j : Str) : gNe (.str i) (.str j) = some (.fz (.bl (!decide (i = j)))) := id rfl
theorem gEq_self {d : D} (h : d.ok = true) : gEq d d = some (.fz (.bl true)) := by
  unfold gEq
  split
  · rw [decide_eq_true rfl]
  · rw [decide_eq_true rfl]
  · rw [if_pos ⟨h, h⟩, eqv_self h]
theorem gNe_self {d : D} (h : d.ok = true) : gNe d d = some (.fz (.bl false)) := by
  unfold gNe
  split
  · rw [decide_eq_true rfl]; rfl
  · rw [decide_eq_true rfl]; rfl
  · rw [if_pos ⟨h, h⟩, eqv_self h]
    rfl
theorem gNe_str_self (s : Str) : gNe (.str s) (.str s) = some (.fz (.bl false)) := by rw [gNe_str, decide_eq_true rfl]; rfl
/-- the words of boards and rules -/
theorem good_lit : StrGood "row" ∧ StrGood "ring" ∧ StrGood "floor" ∧ StrGood "swap" ∧ StrGood "over" ∧ StrGood "under" ∧ StrGood "/" := by
  refine ⟨?_, ?_, ?_, ?_, ?_, ?_, ?_⟩ <;> decide +kernel
theorem eq_row_floor : gEq (.str "row") (.str "floor") = some (.fz (.bl false)) := by rw [gEq_str]; rfl
theorem eq_ring_floor : gEq (.str "ring") (.str "floor") = some (.fz (.bl false)) := by rw [gEq_str]; rfl
theorem eq_floor_floor : gEq (.str "floor") (.str "floor") = some (.fz (.bl true)) := by rw [gEq_str]; rfl
theorem eq_row_ring : gEq (.str "row") (.str "ring") = some (.fz (.bl false)) := by rw [gEq_str]; rfl
theorem eq_ring_ring : gEq (.str "ring") (.str "ring") = some (.fz (.bl true)) := by rw [gEq_str]; rfl
theorem eq_floor_ring : gEq (.str "floor") (.str "ring") = some (.fz (.bl false)) := by rw [gEq_str]; rfl
theorem eq_row_row : gEq (.str "row") (.str "row") = some (.fz (.bl true)) := by rw [gEq_str]; rfl
theorem eq_ring_row : gEq (.str "ring") (.str "row") = some (.fz (.bl false)) := by rw [gEq_str]; rfl
theorem eq_floor_row : gEq (.str "floor") (.str "row") = some (.fz (.bl false)) := by rw [gEq_str]; rfl
theorem ne_row_floor : gNe (.str "row") (.str "floor") = some (.fz (.bl true)) := by rw [gNe_str]; rfl
theorem ne_ring_floor : gNe (.str "ring") (.str "floor") = some (.fz (.bl true)) := by rw [gNe_str]; rfl
theorem ne_floor_floor : gNe (.str "floor") (.str "floor") = some (.fz (.bl false)) := by rw [gNe_str]; rfl
theorem mul_nat {a b : Nat} (ha : a ≤ 1000000) (hb : b ≤ 1000000) : gMul (.int (a : Nat)) (.int (b : Nat)) = some (.fz (.int ((a * b : Nat) : Int))) := by
  rw [mul_small (by omega) (by omega)]
  simp
theorem mul_str {a : Str} {j : Int} (h0 : 0 ≤ j) (h1 : j ≤ 1000) (h2 : a.length ≤ 1000) : gMul (.str a) (.int j) = some (.fz (.str (Txt.mul a j))) := by
  show (if _ then _ else none) = _
  rw [if_pos ⟨h0, h1, h2⟩]
theorem mul_lst {a : List D} {j : Int} (h0 : 0 ≤ j) (h1 : j ≤ 1000) (h2 : a.length ≤ 1000) : gMul (.lst a) (.int j) = some (.ow (.l (List.replicate j.toNat a).flatten)) := by
  show (if _ then _ else none) = _
  rw [if_pos ⟨h0, h1, h2⟩]
theorem dLc_eq {fi : Fi} {h : Fg} {ft : Ft} {fe : Fe} {vs : List Nat} {ρ ρ1 ρ2 : En} {xs acc : List D} (h1 : fi ρ = some (xs, ρ1)) (h2 : lcL h ft fe vs xs [] (wipeD ρ1 vs) = some (acc, ρ2)) : dLc fi h ft fe vs ρ = some (.ow (.l acc), restD ρ1 ρ2 vs) := by
  unfold dLc
  simp only [h1, h2]
theorem bFor_eq {fi : Fi} {h : Fg} {B : Fs} {ρ ρ1 : En} {xs : List D} {r : Fl × En} (h1 : fi ρ = some (xs, ρ1)) (h2 : forL h B xs ρ1 = some r) : bFor fi h B ρ = some r := by
  unfold bFor
  simp only [h1, h2]
theorem rangeD_len (lo : Int) (n : Nat) : (rangeD lo n).length = n := by simp [rangeD]
theorem rangeD_get {lo : Int} {n i : Nat} {d : D} (h : (rangeD lo n)[i]? = some d) : i < n ∧ d = .int (lo + (i : Nat)) := by
  have hi : i < n := by
    have := (List.getElem?_eq_some_iff.mp h).1
    rwa [rangeD_len] at this
  unfold rangeD at h
  rw [List.getElem?_map, List.getElem?_range hi] at h
  exact ⟨hi, (Option.some.inj h).symm⟩
theorem rangeD_get0 {n i : Nat} {d : D} (h : (rangeD 0 n)[i]? = some d) : i < n ∧ d = .int (i : Nat) := by
  obtain ⟨h1, h2⟩ := rangeD_get h
  exact ⟨h1, by rw [h2, Int.zero_add]⟩
end DL
set_option Elab.async false
set_option linter.all false
set_option maxRecDepth 100000
set_option maxHeartbeats 1000000
set_option pp.maxSteps 1500
namespace DL
open PySem PySem.Spec L2
/-! ### texts by their codes -/
def S (l : List Nat) : Str := ⟨l.toArray⟩
theorem S_len (l : List Nat) : (S l).length = l.length := by simp [S, Str.length]
theorem S_app (a b : List Nat) : S a ++ S b = S (a ++ b) := by
  show (⟨a.toArray ++ b.toArray⟩ : Str) = _
  simp [S]
theorem S_cps (l : List Nat) : (S l).cps.toList = l := by simp [S]
theorem S_inj {a b : List Nat} (h : S a = S b) : a = b := by
  have := congrArg (fun s : Str => s.cps.toList) h
  simpa [S_cps] using this
theorem S_of (s : Str) : s = S s.cps.toList := by simp [S]
theorem S_mul0 (l : List Nat) : Txt.mul (S l) 0 = S [] := by
  unfold Txt.mul
  rw [if_pos (by decide)]
  rfl
theorem S_mul1 (l : List Nat) : Txt.mul (S l) 1 = S l := by
  unfold Txt.mul
  rw [if_neg (by decide), if_pos (by simp)]
theorem S_mul2 {l : List Nat} (h : l ≠ []) : Txt.mul (S l) 2 = S (l ++ l) := by
  unfold Txt.mul
  rw [if_neg (by decide), if_neg]
  · simp [S, List.replicate]
  · simp [S_len, h]
theorem good_S {l : List Nat} (h : ∀ c ∈ l, c < 0x110000) : StrGood (S l) := by
  unfold StrGood PyData.strOk
  rw [← Array.all_toList, S_cps]
  simpa using h
theorem ix_l3 (a b c d : D) (l : List D) : gIx (.lst (a :: b :: c :: d :: l)) (.int 3) = some (.fz d) := by show (atI _ _).map Sl.fz = _; rw [atI3]; rfl
theorem atI4 {α : Type} (a b c d e : α) (l : List α) : atI (a :: b :: c :: d :: e :: l) 4 = some e := atI_nat (j := 4) rfl
theorem atI5 {α : Type} (a b c d e f : α) (l : List α) : atI (a :: b :: c :: d :: e :: f :: l) 5 = some f := atI_nat (j := 5) rfl
theorem ix_l4 (a b c d e : D) (l : List D) : gIx (.lst (a :: b :: c :: d :: e :: l)) (.int 4) = some (.fz e) := by show (atI _ _).map Sl.fz = _; rw [atI4]; rfl
theorem ix_l5 (a b c d e f : D) (l : List D) : gIx (.lst (a :: b :: c :: d :: e :: f :: l)) (.int 5) = some (.fz f) := by show (atI _ _).map Sl.fz = _; rw [atI5]; rfl
theorem letters_at : ∀ i, i < 26 → atI (Str.ofString "abcdefghijklmnopqrstuvwxyz").cps.toList ((i : Nat) : Int) = some (97 + i) := by decide +kernel
theorem letters_len : (Str.ofString "abcdefghijklmnopqrstuvwxyz").length = 26 := by decide +kernel
theorem ix_letter {i : Nat} (h : i < 26) : gIx (.str "abcdefghijklmnopqrstuvwxyz") (.int (i : Nat)) = some (.fz (.str (S [97 + i]))) := by
  show (if (Str.ofString "abcdefghijklmnopqrstuvwxyz").length ≤ lim then _ else none) = _
  rw [if_pos (by rw [letters_len]; decide), letters_at i h]
  rfl
theorem cut_letter : ∀ i, i < 26 → cutS (Str.ofString "abcdefghijklmnopqrstuvwxyz") (some ((i : Nat) : Int)) (some (((i : Nat) : Int) + 1)) = S [97 + i] := by decide +kernel
/-- a name: one to four small letters -/
def NameOk (s : Str) : Prop := 1 ≤ s.length ∧ s.length ≤ 4 ∧ ∀ c ∈ s.cps.toList, 97 ≤ c ∧ c ≤ 122
theorem NameOk.good {s : Str} (h : NameOk s) : StrGood s := by
  rw [S_of s]
  exact good_S fun c hc => by have := h.2.2 c hc; omega
theorem name_S {l : List Nat} (h1 : 1 ≤ l.length) (h2 : l.length ≤ 4) (h : ∀ c ∈ l, 97 ≤ c ∧ c ≤ 122) : NameOk (S l) := ⟨by rw [S_len]; exact h1, by rw [S_len]; exact h2, by rw [S_cps]; exact h⟩
theorem seqIx {i : Int} {n : Nat} (h0 : 0 ≤ i) (h1 : i < n) : seqIndex? i n = some i.toNat := by
  unfold seqIndex?
  simp only [show ¬ i < 0 by omega, show 0 ≤ i by omega, h1, decide_true, Bool.and_self, ↓reduceIte]
theorem pop_ok {xs : List D} {i : Int} {d : D} (h0 : 0 ≤ i) (h1 : i < 2 ^ 60) (h : xs[i.toNat]? = some d) : gPopAt xs [.int i] = some (d, xs.eraseIdx i.toNat) := by
  have hl : i.toNat < xs.length := (List.getElem?_eq_some_iff.mp h).1
  show (if _ then _ else none) = _
  rw [if_pos (by omega), seqIx h0 (by omega)]
  simp only [h]
theorem app_ok {xs : List D} {d : D} (h : xs.length ≤ lim) : gApp xs [d] = some (.non, xs ++ [d]) := by
  show (if _ then _ else none) = _
  rw [if_pos h]
theorem perm_pick {α : Type} {l : List α} {i : Nat} {x : α} (h : l[i]? = some x) : (x :: l.eraseIdx i).Perm l := by
  induction l generalizing i with
  | nil => cases h
  | cons y l ih =>
    cases i with
    | zero => cases h; exact List.Perm.refl _
    | succ i => exact (List.Perm.swap y x _).trans (.cons _ (ih h))
theorem good_iff {s : Str} : StrGood s ↔ ∀ c ∈ s.cps.toList, c < 0x110000 := by
  unfold StrGood PyData.strOk
  rw [← Array.all_toList, List.all_eq_true]
  simp only [decide_eq_true_eq]
theorem good_joinL {a : List Nat} (ha : ∀ c ∈ a, c < 0x110000) : ∀ (ys : List (List Nat)), (∀ y ∈ ys, ∀ c ∈ y, c < 0x110000) → ∀ c ∈ TL.joinL a ys, c < 0x110000
  | [], _, c, hc => by cases hc
  | [y], h, c, hc => h y (by simp) c hc
  | y :: z :: ys, h, c, hc => by
    have hc' : c ∈ y ++ a ++ TL.joinL a (z :: ys) := by simpa [TL.joinL] using hc
    rcases List.mem_append.mp hc' with hc' | hc'
    · rcases List.mem_append.mp hc' with hc' | hc'
      · exact h y (by simp) c hc'
      · exact ha c hc'
    · exact good_joinL ha (z :: ys) (fun y hy => h y (by simp [hy])) c hc'
theorem good_join {a : Str} {ys : List Str} (ha : StrGood a) (h : ∀ y ∈ ys, StrGood y) : StrGood (Txt.join a ys) := by
  rw [good_iff, show (Txt.join a ys).cps.toList = TL.joinL (TL.tl a) (ys.map TL.tl) from (congrArg TL.tl (TL.join_eq a ys)).trans (TL.tl_join a ys)]
  refine good_joinL (good_iff.mp ha) _ fun y hy => ?_
  obtain ⟨z, hz, rfl⟩ := List.mem_map.mp hy
  exact good_iff.mp (h z hz)
theorem good_app {a b : Str} (ha : StrGood a) (hb : StrGood b) : StrGood (a ++ b) := by
  rw [good_iff] at *
  intro c hc
  have : (a ++ b).cps.toList = a.cps.toList ++ b.cps.toList := by show (a.cps ++ b.cps).toList = _; simp
  rw [this] at hc
  rcases List.mem_append.mp hc with hc | hc
  · exact ha c hc
  · exact hb c hc
theorem app_len (a b : Str) : (a ++ b).length = a.length + b.length := by show (a.cps ++ b.cps).size = _; simp [Str.length]
theorem join_ok {a : Str} {ys : List Str} {m : Nat} (h : ∀ y ∈ ys, y.length ≤ m) (hb : ys.length * (m + a.length) ≤ 1000000) : gJoin (.str a) (.lst (ys.map .str)) = some (.fz (.str (Txt.join a ys))) := by
  show (strsOf _).bind _ = _
  rw [strsOf_map]
  show (if _ then _ else none) = _
  have : (ys.map (·.length)).sum ≤ ys.length * m := by
    clear hb
    induction ys with
    | nil => simp
    | cons y ys ih =>
      have h1 := h y (by simp)
      have h2 := ih fun z hz => h z (by simp [hz])
      simp only [List.map_cons, List.sum_cons, List.length_cons, Nat.add_mul, Nat.one_mul]
      omega
  rw [if_pos (by rw [Nat.mul_add] at hb; omega)]
theorem add_str {a b : Str} (h : a.length + b.length ≤ lim) : gAdd (.str a) (.str b) = some (.fz (.str (a ++ b))) := by
  show (if _ then _ else none) = _
  rw [if_pos h]
end DL
namespace G
open PySem PySem.Spec L2 DL
theorem mod_nat {i w : Nat} (h : 0 < w) : gMod (.int (i : Nat)) (.int (w : Nat)) = some (.fz (.int ((i % w : Nat) : Int))) := by
  rw [mod_ok (by omega)]
  simp
theorem enumD_at {xs : List D} {i : Nat} {d : D} (h : (enumD xs)[i]? = some d) : ∃ x, xs[i]? = some x ∧ d = .tup [.int (i : Nat), x] := by
  rw [enumD_get] at h
  cases q : xs[i]? with
  | none => rw [q] at h; cases h
  | some x => rw [q] at h; exact ⟨x, rfl, (Option.some.inj h).symm⟩
theorem isb_bi (i : Int) : isB "bool" (.int i) = some false := rfl
theorem isb_ii (i : Int) : isB "int" (.int i) = some true := rfl
theorem gNe_int_self (i : Int) : gNe (.int i) (.int i) = some (.fz (.bl false)) := gNe_self (ok_int i)
/-- how many turns: of as many cells of the script as there are, k at most and one at least -/
theorem script_range {ns : List Int} (h : ns.length ≤ 63) (k : Int) (hk : 1 ≤ k) (hk2 : k ≤ 60) (rest : En) :
    ∃ t : Nat, t ≤ 60 ∧ iRange1 (aFr (dCall gMax (aCons (eC (.int 1)) (aCons (dCall gMin (aCons (eC (.int k)) (aCons (dCall gLen (aCons (eVar 0) aNil)) aNil))) aNil))) aNil) (.fz (.scr ns) :: rest) = some (rangeD 0 t, .fz (.scr ns) :: rest) := by
  obtain ⟨t, ht, h1, h2⟩ : ∃ t : Nat, (if (if ((ns.length : Nat) : Int) < k then ((ns.length : Nat) : Int) else k) > 1 then (if ((ns.length : Nat) : Int) < k then ((ns.length : Nat) : Int) else k) else 1) = (t : Nat) ∧ 1 ≤ t ∧ t ≤ 60 := by
    by_cases c1 : ((ns.length : Nat) : Int) < k
    · rw [if_pos c1]
      by_cases c2 : ((ns.length : Nat) : Int) > 1
      · exact ⟨ns.length, by rw [if_pos c2], by omega, by omega⟩
      · exact ⟨1, by rw [if_neg c2]; rfl, by omega, by omega⟩
    · rw [if_neg c1]
      by_cases c2 : k > 1
      · exact ⟨k.toNat, by rw [if_pos c2]; omega, by omega, by omega⟩
      · exact ⟨1, by rw [if_neg c2]; rfl, by omega, by omega⟩
  refine ⟨t, h2, ?_⟩
  have c1 : (t : Int) < 4000000000000000000 ∧ -4000000000000000000 ≤ (t : Int) := by omega
  simp only [wipeD, restD, allFz, eVar_e, eC_e, rd_fz, rd_ow, rd_bw, fr_fz, fr_ow, fr_bw, dFr_e, dOp2_e, dTst_e, dAnd_e, dOr_e, dNot_e, dIfE_e, dAndV_e, dOrV_e, dNotV_e, dYes_e, aNil_e, aCons_e, aFr_e, rds_nil, rds_cons, dCall_e, eTup_e, eLst_e, dsOf_nil, dsOf_fz, fCall_e, bSeq_e, bNext_e, bBreak_e, bCont_e, bRetN_e, bDrop_e, bRet_e, bIf_e, to_fz, to_ow, to_bw, notRf_e, bAsg_e, gNm_e, gsNil_e, gsCons_e, gTp_e, bUnp_e, dMt_e, held_ow, held_rf, putS_e, dM1_e, dIsi_e, oSome_e, oNo_e, dSl_e, dNeg_e, bSetIx_e, bAug_e, res_fz, res_ow, res_bw, runF_e, fin_nil, fin_nil1, fin_rf, fin_fz, iAny_e, iRange1_e, iRange2_e, iEnumD_e, dChain_e, dLRg1_e, dLRg2_e, heldM_ow, heldM_rf, eDict_e, dDGet_e, dDIn_e, bDPut_e, bPar_e, nc0, nc1, nc2, nc3, nc4, nc5, nc6, nc7, nc8, nc9, nc36, aCat_e, aKon_e, dRevL_e, setAt_e, bSet2_e, kVar_0, kVar_1, kVar_2, kRd_0, kRd_1, kRd_2, kFr_0, kFr_1, kDFr_0, fr2_fz, fr2_ow, kDFr_1, kZ_0, kZ_1, kOp3_0, kOp2_0, kOp2_1, kOp_0, kOp_1, kTst_0, kAnd_0, kAnd_1, kAnd_2, kOr_0, kOr_1, kOr_2, kNot_0, kNot_1, kIfE_0, kIfE_1, kIfE_2, kAndV_0, kAndV_1, kOrV_0, kOrV_1, kNotV_0, kAC2_0, kAC2_1, kAC_0, kAC_1, kAF_0, kAF_1, kRds_0, kCall2_0, kCall2_1, kCall_0, kCall_1, kTup2_0, kTup2_1, kTup_0, kTup_1, kLst2_0, kLst2_1, kLst_0, kLst_1, kFCo_0, kFCo_1, kFCr_0, kFCr_1, kFCf_0, kFCf_1, kFC2_0, kFC2_1, kFC3_0, kFC3_1, kFC1_0, kFC1_1, kFC1_2, kFC_0, kFC_1, kSeq_0, kSeq_1, kSeq_2, kSeq_3, kSeq_4, kSeq_5, kDrop_0, kDrop_1, kRet_0, kRet_1, kIf_0, kIf_1, kIf_2, kTo_0, kTo_1, kNR_0, kNR_1, kNR_2, kNR_3, kNR_4, kNR_5, kAsg3_0, kAsg3_1, kAsg2_0, kAsg2_1, kAsg_0, kAsg_1, kGN_0, kGN_1, kGC_0, kGC_1, kUn2_0, kUn2_1, kUn_0, kUn_1, kMt4_0, kMt4_1, kMt3_0, kMt2_0, kMt2_1, kMt_0, kMt_1, kPut_0, kPut_1, kPut_2, kPut_3, kPut_4, kPut_5, kM12_0, kM12_1, kM11_0, kM11_1, kM1_0, kIsi3_0, kIsi3_1, kIsi2_0, kIsi2_1, kIsi_0, kIsi_1, kOSo_0, kSl4_0, kSl4_1, kSl3_0, kSl3_1, kSl2_0, kSl2_1, kSl_0, kSl_1, kNeg_0, kSX3_0, kSX3_1, kSX2_0, kSX2_1, kSX1_0, kSX0_0, kSX0_1, kSX_0, kSX_1, kAug3_0, kAug3_1, kAug2_0, kAug_0, kRes_0, kRes_1, kEnd2_0, kEnd2_1, kEnd_0, kEnd_1, kAny_0, kAny_1, kAny_2, kR1_0, kR2_0, kEn_0, kEn_1, kFor_0, kFor_1, kLc2_0, kLc2_1, kLc_0, kLc_1, kGG_0, kCh3_0, kCh3_1, kCh2_0, kCh2_1, kCh1_0, kCh1_1, kCh_0, kCh_1, kLRg_0, kLRh_0, kLRi_0, kMG_0, kDG2_0, kDG1_0, kDG1_1, kDG_0, kDG_1, kDI2_0, kDI2_1, kDI_0, kDI_1, kMP_0, kDP3_0, kDP3_1, kDP2_0, kDP2_1, kDP1_0, kDP1_1, kDP_0, kDP_1, kPar2_0, kPar2_1, kPar_0, kCat2_0, kCat2_1, kCat_0, kCat_1, kRev2_0, kRev_0, kRev_1, kSA3_0, kSA3_1, kSA2_0, kSA2_1, kSA1_0, kSA_0, kSA_1, kS22_0, kS22_1, kS21_0, kS21_1, kS2_0, gAdd, DL.gSub, gCmp, gLen, gMax, gMin, gInt, gList, gTuple, gApp, ix_l0, ix_l1, ix_l2, ix_t0, ix_t1, ix_t2, ix_t3, ix_tm2, ix_tm3, ix_tm4, gEq_int, gNe_int, eq_row_floor, eq_ring_floor, eq_floor_floor, eq_row_ring, eq_ring_ring, eq_floor_ring, eq_row_row, eq_ring_row, eq_floor_row, ne_row_floor, ne_ring_floor, ne_floor_floor, lim, ixN3_0, ixN3_1, ixN3_2, List.getElem?_cons_zero, List.getElem?_cons_succ, List.set_cons_zero, List.set_cons_succ, List.replicate_succ, List.replicate_zero, List.cons_append, List.nil_append, List.zipWith_cons_cons, List.zipWith_nil_left, List.zipWith_nil_right, List.length_cons, List.length_nil, Option.map_some, Option.map_none, Nat.reduceAdd, Nat.reduceSub, Nat.reduceLT, Nat.reduceLeDiff, Int.reduceAdd, Int.reduceLT, Int.reduceLE, Int.reduceNeg, Int.reduceSub, Int.reduceMul, Int.reduceEq, if_true, if_false, ite_true, ite_false, decide_true, decide_false, Bool.not_true, Bool.not_false, Bool.and_true, Bool.true_and, Bool.and_false, Bool.false_and, ↓reduceIte, ht, c1, and_self, Int.toNat_natCast]
end G
set_option Elab.async false
set_option linter.all false
set_option maxRecDepth 100000
set_option maxHeartbeats 1000000
set_option pp.maxSteps 1500
namespace DL
open PySem PySem.Spec L2
/-! ### data that may be written out: depth, weight -/
inductive Shw : Nat → Nat → D → Prop
  | non (n w : Nat) : Shw n w .non
  | bl (n w : Nat) (b : Bool) : Shw n w (.bl b)
  | int {n w : Nat} {i : Int} (h : i.natAbs < 10 ^ 12) (hw : 40 ≤ w) : Shw n w (.int i)
  | str {n w : Nat} {s : Str} (h : StrGood s) (hw : s.length ≤ w) : Shw n w (.str s)
  | tup {n w W : Nat} {xs : List D} (h : ∀ d ∈ xs, Shw n w d) (hw : xs.length * (w + 1) ≤ W) : Shw (n + 1) W (.tup xs)
  | lst {n w W : Nat} {xs : List D} (h : ∀ d ∈ xs, Shw n w d) (hw : xs.length * (w + 1) ≤ W) : Shw (n + 1) W (.lst xs)
theorem Shw.fit {n w : Nat} {d : D} (h : Shw n w d) : Fit n d := by
  induction h with
  | non n w => exact .non n
  | bl n w b => exact .bl n b
  | int h hw => exact .int _ _
  | str h hw => exact .str _ h
  | tup h hw ih => exact .tup ih
  | lst h hw ih => exact .lst ih
theorem pys_showable : ∀ (xs : List D), (∀ d ∈ xs, d.py.showable = true) → PyData.showableAll (D.pys xs) = true
  | [], _ => by rw [D.pys]; rfl
  | x :: xs, h => by
    rw [D.pys, PyData.showableAll, h x (by simp), pys_showable xs fun d hd => h d (by simp [hd])]
    rfl
theorem pys_noDict : ∀ (xs : List D), (∀ d ∈ xs, d.py.hasDict = false) → PyData.hasDictAll (D.pys xs) = false
  | [], _ => by rw [D.pys]; rfl
  | x :: xs, h => by
    rw [D.pys, PyData.hasDictAll, h x (by simp), pys_noDict xs fun d hd => h d (by simp [hd])]
    rfl
theorem pys_leaves : ∀ (xs : List D), (∀ d ∈ xs, d.py.leavesShort 13 = true) → PyData.leavesShortAll 13 (D.pys xs) = true
  | [], _ => by rw [D.pys]; rfl
  | x :: xs, h => by
    rw [D.pys, PyData.leavesShortAll, h x (by simp), pys_leaves xs fun d hd => h d (by simp [hd])]
    rfl
theorem pys_weight {w : Nat} : ∀ (xs : List D), (∀ d ∈ xs, d.py.weight ≤ w) → PyData.weightAll (D.pys xs) ≤ xs.length * (w + 1)
  | [], _ => by rw [D.pys]; exact Nat.zero_le _
  | x :: xs, h => by
    have h1 := h x (by simp)
    have h2 := pys_weight xs fun d hd => h d (by simp [hd])
    rw [D.pys, PyData.weightAll, List.length_cons, Nat.add_mul]
    omega
theorem Shw.parts {n w : Nat} {d : D} (h : Shw n w d) : d.py.showable = true ∧ d.py.hasDict = false ∧ d.py.leavesShort 13 = true ∧ d.py.weight ≤ w := by
  induction h with
  | non n w => rw [D.py]; exact ⟨rfl, rfl, rfl, Nat.zero_le _⟩
  | bl n w b => rw [D.py]; exact ⟨rfl, rfl, rfl, Nat.zero_le _⟩
  | @int n w i h hw =>
    have h40 : i.natAbs < 2 ^ 40 := Nat.lt_of_lt_of_le h (by decide)
    have hl : i.natAbs.log2 < 40 := PySem.Flt.log2_lt_of (by decide) h40
    rw [D.py]
    refine ⟨?_, rfl, ?_, ?_⟩
    · rw [PyData.showable]
      exact decide_eq_true (by omega)
    · rw [PyData.leavesShort]
      exact decide_eq_true (PyData.shown_int_le h)
    · rw [PyData.weight]
      split <;> omega
  | @str n w s h hw =>
    rw [D.py]
    refine ⟨rfl, rfl, ?_, ?_⟩
    · have h' : s.cps.all (· < 0x110000) = true := h
      rw [← Array.all_toList, List.all_eq_true] at h'
      simp only [decide_eq_true_eq] at h'
      rw [PyData.leavesShort, List.all_eq_true]
      intro c hc
      have := h' c hc
      exact decide_eq_true (by omega)
    · rw [PyData.weight]
      exact hw
  | @tup n w W xs h hw ih =>
    rw [D.py, PyData.showable, PyData.hasDict, PyData.leavesShort, PyData.weight]
    exact ⟨pys_showable xs fun d hd => (ih d hd).1, pys_noDict xs fun d hd => (ih d hd).2.1, pys_leaves xs fun d hd => (ih d hd).2.2.1, Nat.le_trans (pys_weight xs fun d hd => (ih d hd).2.2.2) hw⟩
  | @lst n w W xs h hw ih =>
    rw [D.py, PyData.showable, PyData.hasDict, PyData.leavesShort, PyData.weight]
    exact ⟨pys_showable xs fun d hd => (ih d hd).1, pys_noDict xs fun d hd => (ih d hd).2.1, pys_leaves xs fun d hd => (ih d hd).2.2.1, Nat.le_trans (pys_weight xs fun d hd => (ih d hd).2.2.2) hw⟩
theorem Shw.rok {n w : Nat} {d : D} (h : Shw n w d) (hn : n ≤ 64) (hw : w ≤ 1000000) : d.rok = true := by
  obtain ⟨h1, h2, h3, h4⟩ := h.parts
  obtain ⟨h5, _, h6⟩ := h.fit.parts
  have h7 := PyData.shown_le 13 (by decide) d.py h3
  unfold D.rok
  rw [h1, h2, h5, decide_eq_true (show d.py.depth ≤ 64 by omega), decide_eq_true (show d.py.shown.length ≤ 16000000 by omega)]
  rfl
theorem repr_tup {n w : Nat} {xs : List D} (h : Shw n w (.tup xs)) (hn : n ≤ 64) (hw : w ≤ 1000000) : gRepr [.tup xs] = some (.fz (.str (D.tup xs).py.shown)) := by
  show (if _ then _ else none) = _
  rw [if_pos (h.rok hn hw)]
theorem repr_lst {n w : Nat} {xs : List D} (h : Shw n w (.lst xs)) (hn : n ≤ 64) (hw : w ≤ 1000000) : gRepr [.lst xs] = some (.fz (.str (D.lst xs).py.shown)) := by
  show (if _ then _ else none) = _
  rw [if_pos (h.rok hn hw)]
end DL
set_option Elab.async false
set_option linter.all false
set_option maxRecDepth 100000
set_option maxHeartbeats 1000000
/-! Typed data over the layer: each def is told once more by a function on typed data (Option: none where the layer tells nothing). -/
namespace DL
open PySem PySem.Spec L2
section
variable {α β γ δ S R T : Type}
/-! ### how typed data are told as data -/
def eP (ea : α → D) (eb : β → D) (p : α × β) : D := .tup [ea p.1, eb p.2]
def e3 (ea : α → D) (eb : β → D) (ec : γ → D) (p : α × β × γ) : D := .tup [ea p.1, eb p.2.1, ec p.2.2]
def e4 (ea : α → D) (eb : β → D) (ec : γ → D) (ed : δ → D) (p : α × β × γ × δ) : D := .tup [ea p.1, eb p.2.1, ec p.2.2.1, ed p.2.2.2]
def eV (ea : α → D) (xs : List α) : D := .tup (xs.map ea)
def eL (ea : α → D) (xs : List α) : D := .lst (xs.map ea)
def eO (ea : α → D) : Option α → D
  | none => .non
  | some a => ea a
/-! ### partial operations -/
theorem bnd {o : Option α} {f : α → Option β} {r : β} (h : o.bind f = some r) : ∃ a, o = some a ∧ f a = some r := Option.bind_eq_some_iff.mp h
theorem cnd_t {c : Bool} {a b : Option α} {r : α} (h : cond c a b = some r) (e : c = true) : a = some r := by subst e; exact h
theorem cnd_f {c : Bool} {a b : Option α} {r : α} (h : cond c a b = some r) (e : c = false) : b = some r := by subst e; exact h
def ixI (xs : List α) (i : Int) : Option α := atI xs i
def ixS (z : Str) (i : Int) : Option Str := if z.length ≤ lim then (atI z.cps.toList i).map fun c => ⟨#[c]⟩ else none
def mulI (i j : Int) : Option Int := if i.natAbs.log2 + j.natAbs.log2 < 1000000 then some (i * j) else none
def divI (i j : Int) : Option Int := if 0 < j ∧ j.natAbs.log2 < 9000 then some (i / j) else none
def modI (i j : Int) : Option Int := if 0 < j then some (i % j) else none
def powI (i j : Int) : Option Int := if 0 ≤ j ∧ (Builtin.Int.intBits i : Int) * j ≤ 2 ^ 27 then some (i ^ j.toNat) else none
def catL (xs ys : List α) : Option (List α) := if xs.length + ys.length ≤ lim then some (xs ++ ys) else none
def catS (a b : Str) : Option Str := if a.length + b.length ≤ lim then some (a ++ b) else none
def repL (xs : List α) (j : Int) : Option (List α) := if 0 ≤ j ∧ j ≤ 1000 ∧ xs.length ≤ 1000 then some (List.replicate j.toNat xs).flatten else none
def repS (a : Str) (j : Int) : Option Str := if 0 ≤ j ∧ j ≤ 1000 ∧ a.length ≤ 1000 then some (Txt.mul a j) else none
def appL (xs : List α) (x : α) : Option (List α) := if xs.length ≤ lim then some (xs ++ [x]) else none
def popL (xs : List α) : Option (α × List α) := (xs[xs.length - 1]?).map fun d => (d, xs.dropLast)
def popAtL (xs : List α) (i : Int) : Option (α × List α) := if -(2 ^ 63) ≤ i ∧ i < 2 ^ 63 then (seqIndex? i xs.length).bind fun k => (xs[k]?).map fun d => (d, xs.eraseIdx k) else none
def setL (xs : List α) (k : Int) (v : α) : Option (List α) := (ixN xs.length k).map fun j => xs.set j v
def eqO (x y : D) : Option Bool := if x.ok = true ∧ y.ok = true then some (x.eqv y) else none
def inS (a z : Str) : Option Bool := if a.cps.size = 1 then some (decide (a.cps.getD 0 0 ∈ z.cps.toList)) else none
def inO (x : D) (ys : List D) : Option Bool := if x.ok = true ∧ (D.lst ys).ok = true then some (ys.any fun y => y.eqv x) else none
def inV (x : D) (ys : List D) : Option Bool := if x.flat = true ∧ ys.all D.flat = true then some (ys.any fun y => y.eqv x) else if x.ok = true ∧ (D.tup ys).ok = true then some (ys.any fun y => y.eqv x) else none
def reprO (d : D) : Option Str := if d.rok = true then some d.py.shown else none
def strI (i : Int) : Option Str := if i.natAbs.log2 < 1920 then some (toString i) else none
def cutSO (z : Str) (lo hi : Option Int) : Option Str := if z.length ≤ lim then some (cutS z lo hi) else none
def joinO (a : Str) (ys : List Str) : Option Str := if (ys.map (·.length)).sum + ys.length * a.length ≤ 1000000 then some (Txt.join a ys) else none
def splitO (a b : Str) : Option (List Str) := if (b.length == 0) = false ∧ a.length ≤ lim then some (Txt.split a b) else none
def partO (a b : Str) : Option (Str × Str × Str) := if (b.length == 0) = false ∧ a.length ≤ lim then some (Txt.partition a b) else none
def rangeI (lo hi : Int) : List Int := (List.range (hi - lo).toNat).map fun i => lo + (i : Nat)
def rngO (lo hi : Int) : Option (List Int) := if hi < 4000000000000000000 ∧ -4000000000000000000 ≤ hi ∧ lo < 4000000000000000000 ∧ -4000000000000000000 ≤ lo then some (rangeI lo hi) else none
def rngL (lo hi : Int) : Option (List Int) := if hi ≤ 1000000 ∧ -1000000 ≤ hi ∧ lo ≤ 1000000 ∧ -1000000 ≤ lo then some (rangeI lo hi) else none
def enumI (xs : List α) : List (Int × α) := xs.zipIdx.map fun p => ((p.2 : Nat), p.1)
def signs (z : Str) : List Str := z.cps.toList.map fun c => ⟨#[c]⟩
def mxI (i j : Int) : Int := if j > i then j else i
def mnI (i j : Int) : Int := if j < i then j else i
def minL : List Int → Option Int
  | [] => none
  | n :: ns => some (leastI n ns)
def maxL : List Int → Option Int
  | [] => none
  | n :: ns => some (mostI n ns)
def andO (a : Bool) (b : Option Bool) : Option Bool := cond a b (some false)
def orO (a : Bool) (b : Option Bool) : Option Bool := cond a (some true) b
/-! ### walks -/
def forN (b : S → α → Option S) : List α → S → Option S
  | [], s => some s
  | x :: xs, s => (b s x).bind (forN b xs)
inductive Lp (S R : Type) where
  | nx (s : S) | bk (s : S) | rt (r : R)
def forE (b : S → α → Option (Lp S R)) : List α → S → Option (Lp S R)
  | [], s => some (.nx s)
  | x :: xs, s => (b s x).bind fun e => match e with
    | .nx s' => forE b xs s'
    | .bk s' => some (.nx s')
    | .rt r => some (.rt r)
def lpK (e : Lp S R) (k : S → Option T) (m : R → Option T) : Option T := match e with
  | .nx s => k s
  | .bk s => k s
  | .rt r => m r
def whileF (c : S → Option Bool) (b : S → Option S) : Nat → S → Option S
  | 0, _ => none
  | n + 1, s => (c s).bind fun t => cond t ((b s).bind (whileF c b n)) (some s)
noncomputable def whileU (c : S → Option Bool) (b : S → Option S) (s : S) : Option S := open Classical in if h : ∃ r n, whileF c b n s = some r then some h.choose else none
def whileEF (c : S → Option Bool) (b : S → Option (Lp S R)) : Nat → S → Option (Lp S R)
  | 0, _ => none
  | n + 1, s => (c s).bind fun t => cond t ((b s).bind fun e => match e with
    | .nx s' => whileEF c b n s'
    | .bk s' => some (.nx s')
    | .rt r => some (.rt r)) (some (.nx s))
noncomputable def whileE (c : S → Option Bool) (b : S → Option (Lp S R)) (s : S) : Option (Lp S R) := open Classical in if h : ∃ r n, whileEF c b n s = some r then some h.choose else none
theorem whileF_more {c : S → Option Bool} {b : S → Option S} : ∀ {n : Nat} {s r : S}, whileF c b n s = some r → whileF c b (n + 1) s = some r
  | 0, _, _, h => nomatch h
  | n + 1, s, r, h => by
    obtain ⟨t, e1, h⟩ := bnd h
    unfold whileF
    rw [e1]
    cases t with
    | false => exact h
    | true =>
      obtain ⟨s', e2, h⟩ := bnd h
      show (b s).bind _ = _
      rw [e2]
      exact whileF_more h
theorem whileF_le {c : S → Option Bool} {b : S → Option S} {n m : Nat} {s r : S} (h : whileF c b n s = some r) (l : n ≤ m) : whileF c b m s = some r := by
  induction l with
  | refl => exact h
  | step _ ih => exact whileF_more ih
theorem whileU_eq {c : S → Option Bool} {b : S → Option S} {n : Nat} {s r : S} (h : whileF c b n s = some r) : whileU c b s = some r := by
  have hx : ∃ r n, whileF c b n s = some r := ⟨r, n, h⟩
  unfold whileU
  rw [dif_pos hx]
  obtain ⟨n', h'⟩ := hx.choose_spec
  have h1 := whileF_le h (Nat.le_max_left n n')
  have h2 := whileF_le h' (Nat.le_max_right n n')
  rw [h1] at h2
  exact congrArg some (Option.some.inj h2).symm
theorem whileU_inv {c : S → Option Bool} {b : S → Option S} {s r : S} (h : whileU c b s = some r) : ∃ n, whileF c b n s = some r := by
  unfold whileU at h
  split at h
  · rename_i hx
    cases h
    exact hx.choose_spec
  · cases h
theorem whileEF_more {c : S → Option Bool} {b : S → Option (Lp S R)} : ∀ {n : Nat} {s : S} {r : Lp S R}, whileEF c b n s = some r → whileEF c b (n + 1) s = some r
  | 0, _, _, h => nomatch h
  | n + 1, s, r, h => by
    obtain ⟨t, e1, h⟩ := bnd h
    unfold whileEF
    rw [e1]
    cases t with
    | false => exact h
    | true =>
      obtain ⟨e, e2, h⟩ := bnd h
      show (b s).bind _ = _
      rw [e2]
      cases e with
      | nx s' => exact whileEF_more h
      | bk s' => exact h
      | rt r => exact h
theorem whileEF_le {c : S → Option Bool} {b : S → Option (Lp S R)} {n m : Nat} {s : S} {r : Lp S R} (h : whileEF c b n s = some r) (l : n ≤ m) : whileEF c b m s = some r := by
  induction l with
  | refl => exact h
  | step _ ih => exact whileEF_more ih
theorem whileE_eq {c : S → Option Bool} {b : S → Option (Lp S R)} {n : Nat} {s : S} {r : Lp S R} (h : whileEF c b n s = some r) : whileE c b s = some r := by
  have hx : ∃ r n, whileEF c b n s = some r := ⟨r, n, h⟩
  unfold whileE
  rw [dif_pos hx]
  obtain ⟨n', h'⟩ := hx.choose_spec
  have h1 := whileEF_le h (Nat.le_max_left n n')
  have h2 := whileEF_le h' (Nat.le_max_right n n')
  rw [h1] at h2
  exact congrArg some (Option.some.inj h2).symm
theorem whileE_inv {c : S → Option Bool} {b : S → Option (Lp S R)} {s : S} {r : Lp S R} (h : whileE c b s = some r) : ∃ n, whileEF c b n s = some r := by
  unfold whileE at h
  split at h
  · rename_i hx
    cases h
    exact hx.choose_spec
  · cases h
/-! comprehensions -/
def big : Nat := 16000000
def mapR (f : α → Option β) : List α → Option (List β)
  | [] => some []
  | x :: xs => (f x).bind fun y => (mapR f xs).bind fun ys => some (y :: ys)
def mapO (f : α → Option β) (xs : List α) : Option (List β) := if xs.length ≤ big then mapR f xs else none
def mapB (f : α → β) (xs : List α) : Option (List β) := if xs.length ≤ big then some (xs.map f) else none
def filR (p : α → Option Bool) (f : α → Option β) : List α → Option (List β)
  | [] => some []
  | x :: xs => (p x).bind fun c => cond c ((f x).bind fun y => (filR p f xs).bind fun ys => some (y :: ys)) (filR p f xs)
def filO (p : α → Option Bool) (f : α → Option β) (xs : List α) : Option (List β) := if xs.length ≤ big then filR p f xs else none
def mapSR (f : S → α → Option (β × S)) : List α → S → Option (List β × S)
  | [], s => some ([], s)
  | x :: xs, s => (f s x).bind fun y => (mapSR f xs y.2).bind fun ys => some (y.1 :: ys.1, ys.2)
def mapS (f : S → α → Option (β × S)) (xs : List α) (s : S) : Option (List β × S) := if xs.length ≤ big then mapSR f xs s else none
def flatR (f : α → Option (List β)) : List α → Option (List β)
  | [] => some []
  | x :: xs => (f x).bind fun ys => (flatR f xs).bind fun zs => some (ys ++ zs)
def flatO (f : α → Option (List β)) (xs : List α) : Option (List β) := (flatR f xs).bind fun zs => if zs.length ≤ big then some zs else none
end
/-! ### expressions -/
section
variable {f fa fb fc fo fe : Fe} {t u : Ft} {g ga : Fa} {ρ ρ0 ρ1 ρ2 ρ3 : En} {i j n : Nat} {d e x y w : D} {z z' r ra rb rc : Sl} {m m' : Mu} {rs : List Sl} {ds : List D} {b b1 b2 c : Bool}
theorem ev_var (h : ρ[i]? = some (.fz d)) : eVar i ρ = some (.fz d, ρ) := by unfold eVar; rw [h]
theorem ev_own (h : ρ[i]? = some (.ow m)) : eVar i ρ = some (.bw i, ρ) := by unfold eVar; rw [h]
theorem ev_lent (h : ρ[i]? = some (.rf m)) : eVar i ρ = some (.bw i, ρ) := by unfold eVar; rw [h]
theorem ev_c : eC d ρ = some (.fz d, ρ) := rfl
theorem ev_as (h : f ρ = some (z', ρ1)) (e : z' = z) : f ρ = some (z, ρ1) := by rw [h, e]
theorem ev_let {α : Type} {a x : α} (k : α → Sl) (h : some a = some x) (d : f ρ = some (k a, ρ1)) : f ρ = some (k x, ρ1) := by cases h; exact d
theorem ev_op {g : D → D → Option Sl} (ha : fa ρ = some (ra, ρ1)) (hb : fb ρ1 = some (rb, ρ2)) (hx : rd ρ2 ra = some x) (hy : rd ρ2 rb = some y) (hg : g x y = some z) : dOp2 g fa fb ρ = some (z, ρ2) := by
  unfold dOp2
  simp only [ha, hb, hx, hy, hg]
theorem ev_fr (h : f ρ = some (r, ρ1)) (q : fr ρ1 r = some (d, ρ2)) : dFr f ρ = some (d, ρ2) := by
  unfold dFr fr2
  simp only [h, q]
theorem ev_frK (h : f ρ = some (r, ρ1)) (n : fr ρ1 r = none) (q : frK ρ1 r = some (d, ρ2)) : dFr f ρ = some (d, ρ2) := by
  unfold dFr fr2
  simp only [h, n, q]
theorem te_tst (h : f ρ = some (.fz (.bl b), ρ1)) : dTst f ρ = some (b, ρ1) := by
  unfold dTst
  simp only [h]
theorem te_let {a x : Bool} (h : some a = some x) (d : t ρ = some (a, ρ1)) : t ρ = some (x, ρ1) := by cases h; exact d
theorem te_and (ha : t ρ = some (b1, ρ)) (hb : u ρ = some (b2, ρ)) : dAnd t u ρ = some (b1 && b2, ρ) := by
  unfold dAnd
  cases b1 <;> simp only [ha, hb, Bool.true_and, Bool.false_and]
theorem te_andO {o : Option Bool} (ha : t ρ = some (b1, ρ)) (E : andO b1 o = some b) (hb : ∀ c, o = some c → u ρ = some (c, ρ)) : dAnd t u ρ = some (b, ρ) := by
  unfold dAnd
  cases b1 with
  | false => cases E; simp only [ha]
  | true => simp only [ha]; exact hb b E
theorem te_or (ha : t ρ = some (b1, ρ)) (hb : u ρ = some (b2, ρ)) : dOr t u ρ = some (b1 || b2, ρ) := by
  unfold dOr
  cases b1 <;> simp only [ha, hb, Bool.true_or, Bool.false_or]
theorem te_orO {o : Option Bool} (ha : t ρ = some (b1, ρ)) (E : orO b1 o = some b) (hb : ∀ c, o = some c → u ρ = some (c, ρ)) : dOr t u ρ = some (b, ρ) := by
  unfold dOr
  cases b1 with
  | true => cases E; simp only [ha]
  | false => simp only [ha]; exact hb b E
theorem te_not (ha : t ρ = some (b, ρ1)) : dNot t ρ = some (!b, ρ1) := by
  unfold dNot
  simp only [ha]
theorem ev_and (ha : fa ρ = some (.fz (.bl b1), ρ)) (hb : fb ρ = some (.fz (.bl b2), ρ)) : dAndV fa fb ρ = some (.fz (.bl (b1 && b2)), ρ) := by
  unfold dAndV
  cases b1 <;> simp only [ha, hb, Bool.true_and, Bool.false_and]
theorem ev_andO {o : Option Bool} (ha : fa ρ = some (.fz (.bl b1), ρ)) (E : andO b1 o = some b) (hb : ∀ c, o = some c → fb ρ = some (.fz (.bl c), ρ)) : dAndV fa fb ρ = some (.fz (.bl b), ρ) := by
  unfold dAndV
  cases b1 with
  | false => cases E; simp only [ha]
  | true => simp only [ha]; exact hb b E
theorem ev_or (ha : fa ρ = some (.fz (.bl b1), ρ)) (hb : fb ρ = some (.fz (.bl b2), ρ)) : dOrV fa fb ρ = some (.fz (.bl (b1 || b2)), ρ) := by
  unfold dOrV
  cases b1 <;> simp only [ha, hb, Bool.true_or, Bool.false_or]
theorem ev_orO {o : Option Bool} (ha : fa ρ = some (.fz (.bl b1), ρ)) (E : orO b1 o = some b) (hb : ∀ c, o = some c → fb ρ = some (.fz (.bl c), ρ)) : dOrV fa fb ρ = some (.fz (.bl b), ρ) := by
  unfold dOrV
  cases b1 with
  | true => cases E; simp only [ha]
  | false => simp only [ha]; exact hb b E
theorem ev_not (ha : f ρ = some (.fz (.bl b), ρ1)) : dNotV f ρ = some (.fz (.bl (!b)), ρ1) := by
  unfold dNotV
  simp only [ha]
theorem ev_if {α : Type} {a a' : α} (k : α → Sl) (hc : t ρ = some (c, ρ)) (ha : fa ρ = some (k a, ρ1)) (hb : fb ρ = some (k a', ρ1)) : dIfE t fa fb ρ = some (k (cond c a a'), ρ1) := by
  unfold dIfE
  cases c <;> simp only [hc, ha, hb, cond_true, cond_false]
theorem ev_ifO {α : Type} {oa ob : Option α} {v : α} (k : α → Sl) (hc : t ρ = some (c, ρ)) (E : cond c oa ob = some v) (ha : ∀ a, oa = some a → fa ρ = some (k a, ρ1)) (hb : ∀ a, ob = some a → fb ρ = some (k a, ρ1)) : dIfE t fa fb ρ = some (k v, ρ1) := by
  unfold dIfE
  cases c with
  | true => simp only [hc]; exact ha v E
  | false => simp only [hc]; exact hb v E
theorem ev_chain {g1 g2 : D → D → Option Sl} (ha : fa ρ = some (ra, ρ)) (hb : fb ρ = some (rb, ρ)) (hx : rd ρ ra = some x) (hy : rd ρ rb = some y) (h1 : g1 x y = some (.fz (.bl b1))) (hc : fc ρ = some (rc, ρ)) (hw : rd ρ rc = some w) (h2 : g2 y w = some (.fz (.bl b2))) : dChain g1 g2 fa fb fc ρ = some (.fz (.bl (b1 && b2)), ρ) := by
  unfold dChain
  cases b1 <;> simp only [ha, hb, hx, hy, h1, hc, hw, h2, Bool.true_and, Bool.false_and]
theorem ev_neg {k : Int} (h : f ρ = some (.fz (.int k), ρ1)) : dNeg f ρ = some (.fz (.int (-k)), ρ1) := by
  unfold dNeg
  simp only [h]
theorem ar_nil : aNil ρ = some ([], ρ) := rfl
theorem ar_cons (h : f ρ = some (r, ρ1)) (hg : g ρ1 = some (rs, ρ2)) : aCons f g ρ = some (r :: rs, ρ2) := by
  unfold aCons
  simp only [h, hg]
theorem ar_fr (h : f ρ = some (r, ρ1)) (q : fr ρ1 r = some (d, ρ2)) (hg : g ρ2 = some (rs, ρ3)) : aFr f g ρ = some (.fz d :: rs, ρ3) := by
  unfold aFr
  simp only [ev_fr h q, hg]
theorem ar_cat {ga gb : Fa} {qs : List Sl} (ha : ga ρ = some (rs, ρ1)) (hb : gb ρ1 = some (qs, ρ2)) : aCat ga gb ρ = some (rs ++ qs, ρ2) := by
  unfold aCat
  simp only [ha, hb]
theorem ar_kon : aKon ds ρ = some (ds.map .fz, ρ) := rfl
theorem ev_call {gg : List D → Option Sl} (ha : g ρ = some (rs, ρ1)) (hd : rds ρ1 rs = some ds) (hg : gg ds = some z) : dCall gg g ρ = some (z, ρ1) := by
  unfold dCall
  simp only [ha, hd, hg]
theorem ev_tup (ha : g ρ = some (rs, ρ1)) (hd : dsOf rs = some ds) (hl : decide (ds.length ≤ 30) = true) : eTup g ρ = some (.fz (.tup ds), ρ1) := by
  have hl := of_decide_eq_true hl
  have : ds.length ≤ lim := Nat.le_trans hl (by decide)
  unfold eTup
  simp only [ha, hd, this, if_true]
theorem ev_lst (ha : g ρ = some (rs, ρ1)) (hd : dsOf rs = some ds) (hl : decide (ds.length ≤ 30) = true) : eLst g ρ = some (.ow (.l ds), ρ1) := by
  have hl := of_decide_eq_true hl
  have : ds.length ≤ lim := Nat.le_trans hl (by decide)
  unfold eLst
  simp only [ha, hd, this, if_true]
theorem ev_fc {F : FF} (ha : ga ρ = some (rs, ρ1)) (hz : allFz rs = true) (hF : ∃ ρ', F rs = some (z, ρ')) (hr : isRes z = true) : fCall F ga ρ = some (z, ρ1) := by
  obtain ⟨ρ', hF⟩ := hF
  unfold fCall
  simp only [ha]
  split
  · rename_i rs' i rest
    cases hz
  · simp only [hz, hF, hr, if_true]
theorem ev_fcO {F : FF} {rest : List Sl} (ha : ga ρ = some (.bw i :: rest, ρ1)) (hz : allFz rest = true) (hi : ρ1[i]? = some (.ow m)) (hF : ∃ ρ', F (.rf m :: rest) = some (z, .rf m' :: ρ')) (hr : isRes z = true) : fCall F ga ρ = some (z, ρ1.set i (.ow m')) := by
  obtain ⟨ρ', hF⟩ := hF
  unfold fCall
  simp only [ha, hz, hi, hF, hr, if_true]
theorem ev_fcR {F : FF} {rest : List Sl} (ha : ga ρ = some (.bw i :: rest, ρ1)) (hz : allFz rest = true) (hi : ρ1[i]? = some (.rf m)) (hF : ∃ ρ', F (.rf m :: rest) = some (z, .rf m' :: ρ')) (hr : isRes z = true) : fCall F ga ρ = some (z, ρ1.set i (.rf m')) := by
  obtain ⟨ρ', hF⟩ := hF
  unfold fCall
  simp only [ha, hz, hi, hF, hr, if_true]
theorem fo_no : oNo ρ = some (none, ρ) := rfl
theorem fo_some {k : Int} (h : f ρ = some (.fz (.int k), ρ1)) : oSome f ρ = some (some k, ρ1) := by
  unfold oSome
  simp only [h]
theorem ev_sl {fl fh : Fo} {lo hi : Option Int} (h : f ρ = some (r, ρ1)) (hl : fl ρ1 = some (lo, ρ2)) (hh : fh ρ2 = some (hi, ρ3)) (hd : rd ρ3 r = some d) (hg : gSl d lo hi = some z) : dSl f fl fh ρ = some (z, ρ3) := by
  unfold dSl
  simp only [h, hl, hh, hd, hg]
theorem ev_rev {xs : List D} (h : f ρ = some (r, ρ1)) (hd : rd ρ1 r = some (.lst xs)) : dRevL f ρ = some (.ow (.l xs.reverse), ρ1) := by
  unfold dRevL
  simp only [h, hd]
theorem ev_lrg1 {k : Int} {xs : List Int} (h : f ρ = some (.fz (.int k), ρ1)) (E : rngL 0 k = some xs) : dLRg1 f ρ = some (.ow (.l (xs.map D.int)), ρ1) := by
  unfold rngL at E
  split at E
  · rename_i hc
    cases E
    unfold dLRg1
    simp only [h, hc.1, hc.2.1, and_self, if_true]
    unfold rangeI rangeD
    rw [List.map_map, Int.sub_zero]
    rfl
  · cases E
theorem ev_lrg2 {k l : Int} {xs : List Int} (ha : fa ρ = some (.fz (.int k), ρ1)) (hb : fb ρ1 = some (.fz (.int l), ρ2)) (E : rngL k l = some xs) : dLRg2 fa fb ρ = some (.ow (.l (xs.map D.int)), ρ2) := by
  unfold rngL at E
  split at E
  · rename_i hc
    cases E
    unfold dLRg2
    simp only [ha, hb, hc.1, hc.2.1, hc.2.2.1, hc.2.2.2, and_self, if_true]
    unfold rangeI rangeD
    rw [List.map_map]
    rfl
  · cases E
/-- a list's own method -/
theorem ev_mt {gm : Gm} {xs ys : List D} (hh : (heldL ρ[i]?).isSome = true) (ha : ga ρ = some (rs, ρ1)) (hd : dsOf rs = some ds) (hx : heldL ρ1[i]? = some xs) (hg : gm xs ds = some (d, ys)) : dMt i ga gm ρ = some (.fz d, putS ρ1 i (.l ys)) := by
  unfold dMt
  cases q : heldL ρ[i]? with
  | none => rw [q] at hh; cases hh
  | some _ => simp only [ha, hd, hx, hg]
theorem ev_m1 {gg : D → D → Option Sl} {a : Str} (ho : fo ρ = some (.fz (.str a), ρ1)) (he : fe ρ1 = some (rb, ρ2)) (hd : rd ρ2 rb = some d) (hg : gg (.str a) d = some z) : dM1 gg fo fe ρ = some (z, ρ2) := by
  unfold dM1
  simp only [ho, he, hd, hg]
theorem ev_isi {T : String} (h : f ρ = some (r, ρ1)) (hd : rd ρ1 r = some d) (hb : isB T d = some b) : dIsi T f ρ = some (.fz (.bl b), ρ1) := by
  unfold dIsi
  simp only [h, hd, hb]
end
end DL
set_option Elab.async false
set_option linter.all false
set_option maxRecDepth 100000
set_option maxHeartbeats 1000000
namespace DL
open PySem PySem.Spec L2
/-! ### what the operations give on typed data -/
section
variable {α β γ S R T : Type} {ea : α → D} {eb : β → D}
theorem atI_map (xs : List α) (f : α → β) (i : Int) : atI (xs.map f) i = (atI xs i).map f := by
  unfold atI
  rw [List.length_map]
  cases ixN xs.length i with
  | none => rfl
  | some j => show (xs.map f)[j]? = (xs[j]?).map f; rw [List.getElem?_map]
theorem d_ixL {xs : List α} {i : Int} {v : α} (E : ixI xs i = some v) : gIx (.lst (xs.map ea)) (.int i) = some (.fz (ea v)) := by
  show (atI _ _).map Sl.fz = _
  unfold ixI at E
  rw [atI_map, E]
  rfl
theorem d_ixV {xs : List α} {i : Int} {v : α} (E : ixI xs i = some v) : gIx (.tup (xs.map ea)) (.int i) = some (.fz (ea v)) := by
  show (atI _ _).map Sl.fz = _
  unfold ixI at E
  rw [atI_map, E]
  rfl
theorem d_ixR {xs : List Int} {i v : Int} (E : ixI xs i = some v) : gIx (.scr xs) (.int i) = some (.fz (.int v)) := by
  show (atI _ _).map _ = _
  unfold ixI at E
  rw [E]
  rfl
theorem d_ixS {z v : Str} {i : Int} (E : ixS z i = some v) : gIx (.str z) (.int i) = some (.fz (.str v)) := by
  unfold ixS at E
  split at E
  · rename_i h
    show (if z.length ≤ lim then _ else _) = _
    rw [if_pos h]
    cases q : atI z.cps.toList i with
    | none => rw [q] at E; cases E
    | some c => rw [q] at E; cases E; rfl
  · cases E
theorem d_mul {i j v : Int} (E : mulI i j = some v) : gMul (.int i) (.int j) = some (.fz (.int v)) := by
  unfold mulI at E
  split at E
  · rename_i h
    cases E
    show (if _ then _ else _) = _
    rw [if_pos h]
  · cases E
theorem d_div {i j v : Int} (E : divI i j = some v) : gDiv (.int i) (.int j) = some (.fz (.int v)) := by
  unfold divI at E
  split at E
  · rename_i h
    cases E
    show (if _ then _ else _) = _
    rw [if_pos h]
  · cases E
theorem d_mod {i j v : Int} (E : modI i j = some v) : gMod (.int i) (.int j) = some (.fz (.int v)) := by
  unfold modI at E
  split at E
  · rename_i h
    cases E
    show (if _ then _ else _) = _
    rw [if_pos h]
  · cases E
theorem d_pow {i j v : Int} (E : powI i j = some v) : gPow (.int i) (.int j) = some (.fz (.int v)) := by
  unfold powI at E
  split at E
  · rename_i h
    cases E
    show (if _ then _ else _) = _
    rw [if_pos h]
  · cases E
theorem d_catL {xs ys v : List α} (E : catL xs ys = some v) : gAdd (.lst (xs.map ea)) (.lst (ys.map ea)) = some (.ow (.l (v.map ea))) := by
  unfold catL at E
  split at E
  · rename_i h
    cases E
    show (if _ then _ else _) = _
    rw [List.length_map, List.length_map, if_pos h, List.map_append]
  · cases E
theorem d_catV {xs ys v : List α} (E : catL xs ys = some v) : gAdd (.tup (xs.map ea)) (.tup (ys.map ea)) = some (.fz (.tup (v.map ea))) := by
  unfold catL at E
  split at E
  · rename_i h
    cases E
    show (if _ then _ else _) = _
    rw [List.length_map, List.length_map, if_pos h, List.map_append]
  · cases E
theorem d_catS {a b v : Str} (E : catS a b = some v) : gAdd (.str a) (.str b) = some (.fz (.str v)) := by
  unfold catS at E
  split at E
  · rename_i h
    cases E
    show (if _ then _ else _) = _
    rw [if_pos h]
  · cases E
theorem d_repL {xs v : List α} {j : Int} (E : repL xs j = some v) : gMul (.lst (xs.map ea)) (.int j) = some (.ow (.l (v.map ea))) := by
  unfold repL at E
  split at E
  · rename_i h
    cases E
    show (if _ then _ else _) = _
    rw [List.length_map, if_pos h, List.map_flatten, List.map_replicate]
  · cases E
theorem d_repS {a v : Str} {j : Int} (E : repS a j = some v) : gMul (.str a) (.int j) = some (.fz (.str v)) := by
  unfold repS at E
  split at E
  · rename_i h
    cases E
    show (if _ then _ else _) = _
    rw [if_pos h]
  · cases E
theorem d_app {xs v : List α} {x : α} (E : appL xs x = some v) : gApp (xs.map ea) [ea x] = some (.non, v.map ea) := by
  unfold appL at E
  split at E
  · rename_i h
    cases E
    show (if _ then _ else _) = _
    rw [List.length_map, if_pos h, List.map_append]
    rfl
  · cases E
theorem d_pop {xs : List α} {v : α × List α} (E : popL xs = some v) : gPop (xs.map ea) [] = some (ea v.1, v.2.map ea) := by
  unfold popL at E
  unfold gPop
  rw [List.length_map, List.getElem?_map]
  cases q : xs[xs.length - 1]? with
  | none => rw [q] at E; cases E
  | some d =>
    rw [q] at E
    cases E
    show some (ea d, (xs.map ea).dropLast) = _
    rw [List.map_dropLast]
theorem map_eraseIdx' {f : α → β} : ∀ (xs : List α) (k : Nat), (xs.map f).eraseIdx k = (xs.eraseIdx k).map f
  | [], _ => rfl
  | _ :: _, 0 => rfl
  | x :: xs, k + 1 => congrArg (f x :: ·) (map_eraseIdx' xs k)
theorem d_popAt {xs : List α} {i : Int} {v : α × List α} (E : popAtL xs i = some v) : gPopAt (xs.map ea) [.int i] = some (ea v.1, v.2.map ea) := by
  unfold popAtL at E
  split at E
  · rename_i h
    show (if _ then _ else _) = _
    rw [if_pos h, List.length_map]
    cases q : seqIndex? i xs.length with
    | none => rw [q] at E; cases E
    | some k =>
      rw [q] at E
      show (match (xs.map ea)[k]? with | some d => some (d, (xs.map ea).eraseIdx k) | none => none) = _
      rw [List.getElem?_map]
      cases q2 : xs[k]? with
      | none =>
        have E' : (xs[k]?).map (fun d => (d, xs.eraseIdx k)) = some v := E
        rw [q2] at E'
        cases E'
      | some d =>
        have E' : (xs[k]?).map (fun d => (d, xs.eraseIdx k)) = some v := E
        rw [q2] at E'
        cases E'
        show some (ea d, (xs.map ea).eraseIdx k) = _
        rw [map_eraseIdx']
  · cases E
theorem d_sl (xs : List α) (lo hi : Option Int) : gSl (.lst (xs.map ea)) lo hi = some (.ow (.l ((cutD xs lo hi).map ea))) := by
  show some (Sl.ow (.l (cutD _ _ _))) = _
  unfold cutD
  rw [List.length_map, ← List.map_drop, ← List.map_take]
theorem d_slV (xs : List α) (lo hi : Option Int) : gSl (.tup (xs.map ea)) lo hi = some (.fz (.tup ((cutD xs lo hi).map ea))) := by
  show some (Sl.fz (.tup (cutD _ _ _))) = _
  unfold cutD
  rw [List.length_map, ← List.map_drop, ← List.map_take]
theorem d_slS {z v : Str} {lo hi : Option Int} (E : cutSO z lo hi = some v) : gSl (.str z) lo hi = some (.fz (.str v)) := by
  unfold cutSO at E
  split at E
  · rename_i h
    cases E
    show (if _ then _ else _) = _
    rw [if_pos h]
  · cases E
theorem ev_revL {f : Fe} {ρ ρ1 : En} {r : Sl} {xs : List α} (h : f ρ = some (r, ρ1)) (hd : rd ρ1 r = some (.lst (xs.map ea))) : dRevL f ρ = some (.ow (.l (xs.reverse.map ea)), ρ1) := by
  rw [ev_rev h hd, List.map_reverse]
/-- == of any data -/
theorem d_eq {x y : D} {b : Bool} (E : eqO x y = some b) (hs : (match x, y with | .str _, .str _ => false | .int _, .int _ => false | _, _ => true) = true) : gEq x y = some (.fz (.bl b)) := by
  unfold eqO at E
  split at E
  · rename_i h
    cases E
    unfold gEq
    split
    · cases hs
    · cases hs
    · rw [if_pos h]
  · cases E
theorem d_ne {x y : D} {b : Bool} (E : eqO x y = some b) (hs : (match x, y with | .str _, .str _ => false | .int _, .int _ => false | _, _ => true) = true) : gNe x y = some (.fz (.bl (!b))) := by
  unfold eqO at E
  split at E
  · rename_i h
    cases E
    unfold gNe
    split
    · cases hs
    · cases hs
    · rw [if_pos h]
  · cases E
theorem d_eqB (a b : Bool) : gEq (.bl a) (.bl b) = some (.fz (.bl (a == b))) := by
  unfold gEq
  show (if _ then _ else _) = _
  rw [if_pos ⟨ok_bl a, ok_bl b⟩, eqv_bl]
  cases a <;> cases b <;> rfl
theorem d_neB (a b : Bool) : gNe (.bl a) (.bl b) = some (.fz (.bl (!(a == b)))) := by
  unfold gNe
  show (if _ then _ else _) = _
  rw [if_pos ⟨ok_bl a, ok_bl b⟩, eqv_bl]
  cases a <;> cases b <;> rfl
theorem gIn'_str {a z : Str} {b : Bool} (E : inS a z = some b) : gIn' (.str a) (.str z) = some b := E
theorem d_inS {a z : Str} {b : Bool} (E : inS a z = some b) : gIn (.str a) (.str z) = some (.fz (.bl b)) := by unfold gIn; rw [gIn'_str E]; rfl
theorem d_ninS {a z : Str} {b : Bool} (E : inS a z = some b) : gNotIn (.str a) (.str z) = some (.fz (.bl (!b))) := by unfold gNotIn; rw [gIn'_str E]; rfl
theorem gIn'_lst {x : D} {ys : List D} {b : Bool} (E : inO x ys = some b) : gIn' x (.lst ys) = some b := by
  unfold inO at E
  unfold gIn'
  split at E
  · rename_i h
    cases E
    cases x <;> (show (if _ then _ else _) = _; rw [if_pos h])
  · cases E
theorem gIn'_tup {x : D} {ys : List D} {b : Bool} (E : inV x ys = some b) : gIn' x (.tup ys) = some b := by
  unfold inV at E
  unfold gIn'
  cases x <;> exact E
theorem d_inL {x : D} {ys : List D} {b : Bool} (E : inO x ys = some b) : gIn x (.lst ys) = some (.fz (.bl b)) := by unfold gIn; rw [gIn'_lst E]; rfl
theorem d_ninL {x : D} {ys : List D} {b : Bool} (E : inO x ys = some b) : gNotIn x (.lst ys) = some (.fz (.bl (!b))) := by unfold gNotIn; rw [gIn'_lst E]; rfl
theorem d_inV {x : D} {ys : List D} {b : Bool} (E : inV x ys = some b) : gIn x (.tup ys) = some (.fz (.bl b)) := by unfold gIn; rw [gIn'_tup E]; rfl
theorem d_ninV {x : D} {ys : List D} {b : Bool} (E : inV x ys = some b) : gNotIn x (.tup ys) = some (.fz (.bl (!b))) := by unfold gNotIn; rw [gIn'_tup E]; rfl
theorem d_isO {o : Option α} (h : ∀ a, (ea a).isNon = false) : gIs (eO ea o) .non = some (.fz (.bl o.isNone)) := by
  cases o with
  | none => rfl
  | some a => show some (Sl.fz (.bl (ea a).isNon)) = _; rw [h a]; rfl
theorem d_isnO {o : Option α} (h : ∀ a, (ea a).isNon = false) : gIsNot (eO ea o) .non = some (.fz (.bl o.isSome)) := by
  cases o with
  | none => rfl
  | some a => show some (Sl.fz (.bl (!(ea a).isNon))) = _; rw [h a]; rfl
theorem d_lenL (xs : List α) : gLen [.lst (xs.map ea)] = some (.fz (.int (xs.length : Nat))) := by
  show some (Sl.fz (.int ((xs.map ea).length : Nat))) = _
  rw [List.length_map]
theorem d_lenV (xs : List α) : gLen [.tup (xs.map ea)] = some (.fz (.int (xs.length : Nat))) := by
  show some (Sl.fz (.int ((xs.map ea).length : Nat))) = _
  rw [List.length_map]
theorem d_sum (xs : List Int) : gSum [.lst (xs.map D.int)] = some (.fz (.int xs.sum)) := by
  show (intsOf _).map _ = _
  rw [intsOf_map]
  rfl
theorem d_all (xs : List Bool) : gAll [.lst (xs.map D.bl)] = some (.fz (.bl (xs.all id))) := by
  show (blsOf _).map _ = _
  rw [blsOf_map]
  rfl
theorem d_minL {xs : List Int} {v : Int} (E : minL xs = some v) : gMinL [.lst (xs.map D.int)] = some (.fz (.int v)) := by
  show (match intsOf (xs.map D.int) with | some (n :: ns) => some (Sl.fz (.int (leastI n ns))) | _ => none) = _
  rw [intsOf_map]
  cases xs with
  | nil => cases E
  | cons n ns => cases E; rfl
theorem d_maxL {xs : List Int} {v : Int} (E : maxL xs = some v) : gMaxL [.lst (xs.map D.int)] = some (.fz (.int v)) := by
  show (match intsOf (xs.map D.int) with | some (n :: ns) => some (Sl.fz (.int (mostI n ns))) | _ => none) = _
  rw [intsOf_map]
  cases xs with
  | nil => cases E
  | cons n ns => cases E; rfl
theorem d_str {i : Int} {v : Str} (E : strI i = some v) : gStr [.int i] = some (.fz (.str v)) := by
  unfold strI at E
  split at E
  · rename_i h
    cases E
    show (if _ then _ else _) = _
    rw [if_pos h]
  · cases E
theorem d_reprT {ds : List D} {v : Str} (E : reprO (.tup ds) = some v) : gRepr [.tup ds] = some (.fz (.str v)) := by
  unfold reprO at E
  split at E
  · rename_i h
    cases E
    show (if _ then _ else _) = _
    rw [if_pos h]
  · cases E
theorem d_reprL {ds : List D} {v : Str} (E : reprO (.lst ds) = some v) : gRepr [.lst ds] = some (.fz (.str v)) := by
  unfold reprO at E
  split at E
  · rename_i h
    cases E
    show (if _ then _ else _) = _
    rw [if_pos h]
  · cases E
theorem d_join {a v : Str} {ys : List Str} (E : joinO a ys = some v) : gJoin (.str a) (.lst (ys.map D.str)) = some (.fz (.str v)) := by
  show (strsOf (ys.map D.str)).bind _ = _
  rw [strsOf_map]
  unfold joinO at E
  show joinOk a ys = _
  unfold joinOk
  split at E
  · rename_i h
    cases E
    rw [if_pos h]
  · cases E
theorem d_split {a b : Str} {v : List Str} (E : splitO a b = some v) : gSplit (.str a) (.str b) = some (.ow (.l (v.map D.str))) := by
  unfold splitO at E
  unfold gSplit
  split at E
  · rename_i h
    cases E
    show (if _ then _ else _) = _
    rw [if_pos h]
  · cases E
theorem d_part {a b : Str} {v : Str × Str × Str} (E : partO a b = some v) : gPart (.str a) (.str b) = some (.fz (.tup [.str v.1, .str v.2.1, .str v.2.2])) := by
  unfold partO at E
  unfold gPart
  split at E
  · rename_i h
    cases E
    show (if _ then _ else _) = _
    rw [if_pos h]
  · cases E
/-! ### targets -/
theorem tg_nm {i : Nat} {d : D} {ρ : En} (h : kNR ρ[i]? = true) : gNm i d ρ = some (ρ.set i (.fz d)) := by rw [gNm_e, notRf_e, h]; rfl
theorem tg_tp {n : Nat} {gs : Fgs} {ds : List D} {ρ ρ1 : En} (hn : ds.length = n) (h : gs ds ρ = some ρ1) : gTp n gs (.tup ds) ρ = some ρ1 := by rw [gTp_e, if_pos hn]; exact h
theorem tg_cs {h : Fg} {gs : Fgs} {d : D} {ds : List D} {ρ ρ1 ρ2 : En} (h1 : h d ρ = some ρ1) (h2 : gs ds ρ1 = some ρ2) : gsCons h gs (d :: ds) ρ = some ρ2 := by rw [gsCons_e, h1]; exact h2
theorem tg_nl {ρ : En} : gsNil [] ρ = some ρ := rfl
/-! ### walks of typed data -/
theorem it_r1 {fa : Fa} {ρ ρ1 : En} {n : Int} {xs : List Int} (h : fa ρ = some ([.fz (.int n)], ρ1)) (E : rngO 0 n = some xs) : iRange1 fa ρ = some (xs.map D.int, ρ1) := by
  unfold rngO at E
  split at E
  · rename_i hc
    cases E
    unfold iRange1
    rw [h]
    show (if _ then _ else _) = _
    rw [if_pos ⟨hc.1, hc.2.1⟩]
    unfold rangeI rangeD
    rw [List.map_map, Int.sub_zero]
    rfl
  · cases E
theorem it_r2 {fa : Fa} {ρ ρ1 : En} {m n : Int} {xs : List Int} (h : fa ρ = some ([.fz (.int m), .fz (.int n)], ρ1)) (E : rngO m n = some xs) : iRange2 fa ρ = some (xs.map D.int, ρ1) := by
  unfold rngO at E
  split at E
  · rename_i hc
    cases E
    unfold iRange2
    rw [h]
    show (if _ then _ else _) = _
    rw [if_pos hc]
    unfold rangeI rangeD
    rw [List.map_map]
    rfl
  · cases E
theorem enumI_map (xs : List α) : enumD (xs.map ea) = (enumI xs).map (eP D.int ea) := by
  unfold enumD enumI
  rw [List.zipIdx_map, List.map_map, List.map_map]
  rfl
theorem it_enL {fa : Fa} {ρ ρ1 : En} {xs : List α} (h : fa ρ = some ([.fz (.lst (xs.map ea))], ρ1)) : iEnumD fa ρ = some ((enumI xs).map (eP D.int ea), ρ1) := by
  unfold iEnumD
  rw [h, ← enumI_map]
theorem it_enV {fa : Fa} {ρ ρ1 : En} {xs : List α} (h : fa ρ = some ([.fz (.tup (xs.map ea))], ρ1)) : iEnumD fa ρ = some ((enumI xs).map (eP D.int ea), ρ1) := by
  unfold iEnumD
  rw [h, ← enumI_map]
theorem it_L {f : Fe} {ρ ρ1 ρ2 : En} {r : Sl} {xs : List α} (h : f ρ = some (r, ρ1)) (q : fr ρ1 r = some (.lst (xs.map ea), ρ2)) : iAny f ρ = some (xs.map ea, ρ2) := by
  unfold iAny
  rw [ev_fr h q]
theorem it_V {f : Fe} {ρ ρ1 ρ2 : En} {r : Sl} {xs : List α} (h : f ρ = some (r, ρ1)) (q : fr ρ1 r = some (.tup (xs.map ea), ρ2)) : iAny f ρ = some (xs.map ea, ρ2) := by
  unfold iAny
  rw [ev_fr h q]
theorem it_S {f : Fe} {ρ ρ1 ρ2 : En} {r : Sl} {z : Str} (h : f ρ = some (r, ρ1)) (q : fr ρ1 r = some (.str z, ρ2)) : iAny f ρ = some ((signs z).map D.str, ρ2) := by
  unfold iAny
  rw [ev_fr h q]
  show some (signsD z, ρ2) = _
  unfold signsD signs
  rw [List.map_map]
  rfl
end
/-! ### comprehensions -/
section
variable {α β γ S : Type} {ea : α → D} {eb : β → D} {ec : γ → D} {fi fi1 : Fi} {h h1 : Fg} {ft : Ft} {fe : Fe} {vs vs1 : List Nat}
theorem ne_big {n : Nat} (h : n < big) : n < 16000000 := h
theorem lc_gen {X : Type} {ex : X → D} {st : S → En} (b : S → X → Option (Option β × S))
    (hs : ∀ s x o, b s x = some o → ∃ ρa c ρb, h (ex x) (st s) = some ρa ∧ ft ρa = some (c, ρb) ∧ (match c, o.1 with
      | false, none => wipeD ρb vs = st o.2
      | true, some y => ∃ ρc, dFr fe ρb = some (eb y, ρc) ∧ wipeD ρc vs = st o.2
      | _, _ => False)) (gR : List X → S → Option (List β × S))
    (g0 : ∀ s, gR [] s = some ([], s)) (g1 : ∀ x xs s r, gR (x :: xs) s = some r → ∃ o r', b s x = some o ∧ gR xs o.2 = some r' ∧ r = ((match o.1 with | some y => y :: r'.1 | none => r'.1), r'.2)) :
    ∀ (xs : List X) (s : S) (acc : List D) (r : List β × S), gR xs s = some r → acc.length + xs.length ≤ big → lcL h ft fe vs (xs.map ex) acc (st s) = some (acc ++ r.1.map eb, st r.2)
  | [], s, acc, r, e, _ => by
    rw [g0] at e
    cases e
    show some (acc, st s) = some (acc ++ [], st s)
    rw [List.append_nil]
  | x :: xs, s, acc, r, e, hl => by
    obtain ⟨o, r', e1, e2, rfl⟩ := g1 x xs s r e
    obtain ⟨ρa, c, ρb, k1, k2, k3⟩ := hs s x o e1
    have hlt : acc.length < 16000000 := by
      have hl2 : acc.length + (x :: xs).length ≤ 16000000 := hl
      rw [List.length_cons] at hl2
      omega
    obtain ⟨o1, o2⟩ := o
    cases c with
    | false =>
      cases o1 with
      | some y => exact k3.elim
      | none =>
        have k3' : wipeD ρb vs = st o2 := k3
        have ih := lc_gen b hs gR g0 g1 xs o2 acc r' e2 (by rw [List.length_cons] at hl; omega)
        rw [List.map_cons]
        unfold lcL
        simp only [k1, k2, k3', ih]
    | true =>
      cases o1 with
      | none => exact k3.elim
      | some y =>
        obtain ⟨ρc, k4, k5⟩ := k3
        have k5' : wipeD ρc vs = st o2 := k5
        have ih := lc_gen b hs gR g0 g1 xs o2 (acc ++ [eb y]) r' e2 (by rw [List.length_append, List.length_cons, List.length_nil]; rw [List.length_cons] at hl; omega)
        rw [List.map_cons]
        unfold lcL
        simp only [k1, k2, k4, k5', hlt, if_true, ih]
        rw [List.append_assoc]
        rfl
theorem lc_map (f : α → Option β) {ρ : En} (hs : ∀ x y, f x = some y → ∃ ρa ρc, h (ea x) ρ = some ρa ∧ dFr fe ρa = some (eb y, ρc) ∧ wipeD ρc vs = ρ) (xs : List α) (acc : List D) (r : List β) (e : mapR f xs = some r) (hl : acc.length + xs.length ≤ big) :
    lcL h dYes fe vs (xs.map ea) acc ρ = some (acc ++ r.map eb, ρ) :=
  lc_gen (S := Unit) (st := fun _ => ρ) (ex := ea) (eb := eb) (fun _ x => (f x).map fun y => (some y, ()))
    (fun s x o e => by
      cases q : f x with
      | none => rw [q] at e; cases e
      | some y =>
        rw [q] at e
        cases e
        obtain ⟨ρa, ρc, k1, k2, k3⟩ := hs x y q
        exact ⟨ρa, true, ρa, k1, rfl, ρc, k2, k3⟩) (fun xs s => (mapR f xs).map fun r => (r, ())) (fun _ => rfl)
    (fun x xs s r e => by
      cases q : mapR f (x :: xs) with
      | none => rw [q] at e; cases e
      | some zs =>
        rw [q] at e
        cases e
        obtain ⟨y, e1, q⟩ := bnd q
        obtain ⟨ys, e2, q⟩ := bnd q
        cases q
        exact ⟨(some y, ()), (ys, ()), by rw [e1]; rfl, by rw [e2]; rfl, rfl⟩) xs () acc (r, ()) (by rw [e]; rfl) hl
theorem ev_lcO {ρ ρ1 ρ2 : En} {f : α → Option β} {xs : List α} {r : List β} (E : mapO f xs = some r) (hi : fi ρ = some (xs.map ea, ρ1)) (hs : ∀ x y, f x = some y → ∃ ρa ρc, h (ea x) (wipeD ρ1 vs) = some ρa ∧ dFr fe ρa = some (eb y, ρc) ∧ wipeD ρc vs = wipeD ρ1 vs)
    (hr : restD ρ1 (wipeD ρ1 vs) vs = ρ2) : dLc fi h dYes fe vs ρ = some (.ow (.l (r.map eb)), ρ2) := by
  unfold mapO at E
  split at E
  · rename_i hl
    have := lc_map (h := h) (fe := fe) (vs := vs) f hs xs [] r E (by show 0 + _ ≤ _; omega)
    rw [dLc_eq hi this, hr, List.nil_append]
  · cases E
theorem ev_lcB {ρ ρ1 ρ2 : En} {f : α → β} {xs : List α} {r : List β} (E : mapB f xs = some r) (hi : fi ρ = some (xs.map ea, ρ1)) (hs : ∀ x, ∃ ρa ρc, h (ea x) (wipeD ρ1 vs) = some ρa ∧ dFr fe ρa = some (eb (f x), ρc) ∧ wipeD ρc vs = wipeD ρ1 vs)
    (hr : restD ρ1 (wipeD ρ1 vs) vs = ρ2) : dLc fi h dYes fe vs ρ = some (.ow (.l (r.map eb)), ρ2) := by
  unfold mapB at E
  split at E
  · rename_i hl
    cases E
    have q : ∀ xs : List α, mapR (fun x => some (f x)) xs = some (xs.map f) := fun xs => by
      induction xs with
      | nil => rfl
      | cons x xs ih => unfold mapR; rw [ih]; rfl
    refine ev_lcO (f := fun x => some (f x)) (xs := xs) ?_ hi (fun x y e => by cases e; exact hs x) hr
    unfold mapO
    rw [if_pos hl]
    exact q xs
  · cases E
theorem ev_lcF {ρ ρ1 ρ2 : En} {p : α → Option Bool} {f : α → Option β} {xs : List α} {r : List β} (E : filO p f xs = some r) (hi : fi ρ = some (xs.map ea, ρ1))
    (hs : ∀ x c, p x = some c → ∃ ρa, h (ea x) (wipeD ρ1 vs) = some ρa ∧ ft ρa = some (c, ρa) ∧ (c = false → wipeD ρa vs = wipeD ρ1 vs) ∧ (c = true → ∀ y, f x = some y → ∃ ρc, dFr fe ρa = some (eb y, ρc) ∧ wipeD ρc vs = wipeD ρ1 vs))
    (hr : restD ρ1 (wipeD ρ1 vs) vs = ρ2) : dLc fi h ft fe vs ρ = some (.ow (.l (r.map eb)), ρ2) := by
  unfold filO at E
  split at E
  · rename_i hl
    have := lc_gen (S := Unit) (st := fun _ => wipeD ρ1 vs) (ex := ea) (eb := eb) (h := h) (ft := ft) (fe := fe) (vs := vs) (fun _ x => (p x).bind fun c => cond c ((f x).map fun y => (some y, ())) (some (none, ())))
      (fun s x o e => by
        obtain ⟨c, e1, e⟩ := bnd e
        obtain ⟨ρa, k1, k2, k3, k4⟩ := hs x c e1
        cases c with
        | false =>
          cases e
          exact ⟨ρa, false, ρa, k1, k2, k3 rfl⟩
        | true =>
          have e' : (f x).map (fun y => (some y, ())) = some o := e
          cases q : f x with
          | none => rw [q] at e'; cases e'
          | some y =>
            rw [q] at e'
            cases e'
            obtain ⟨ρc, k5, k6⟩ := k4 rfl y q
            exact ⟨ρa, true, ρa, k1, k2, ρc, k5, k6⟩) (fun xs s => (filR p f xs).map fun r => (r, ())) (fun _ => rfl)
      (fun x xs s r e => by
        cases q : filR p f (x :: xs) with
        | none => rw [q] at e; cases e
        | some zs =>
          rw [q] at e
          cases e
          obtain ⟨c, e1, q⟩ := bnd q
          cases c with
          | false =>
            have q' : filR p f xs = some zs := q
            exact ⟨(none, ()), (zs, ()), by rw [e1]; rfl, by rw [q']; rfl, rfl⟩
          | true =>
            obtain ⟨y, e2, q⟩ := bnd (show (f x).bind _ = _ from q)
            obtain ⟨ys, e3, q⟩ := bnd q
            cases q
            exact ⟨(some y, ()), (ys, ()), by rw [e1]; show (f x).map _ = _; rw [e2]; rfl, by rw [e3]; rfl, rfl⟩) xs () [] (r, ()) (by rw [E]; rfl) (by show 0 + _ ≤ _; omega)
    rw [dLc_eq hi this, hr, List.nil_append]
  · cases E
theorem ev_lcS {ρ ρ1 ρ2 : En} {st : S → En} {s0 : S} {f : S → α → Option (β × S)} {xs : List α} {r : List β × S} (E : mapS f xs s0 = some r) (hi : fi ρ = some (xs.map ea, ρ1)) (h0 : wipeD ρ1 vs = st s0)
    (hs : ∀ s x y, f s x = some y → ∃ ρa ρc, h (ea x) (st s) = some ρa ∧ dFr fe ρa = some (eb y.1, ρc) ∧ wipeD ρc vs = st y.2)
    (hr : restD ρ1 (st r.2) vs = ρ2) : dLc fi h dYes fe vs ρ = some (.ow (.l (r.1.map eb)), ρ2) := by
  unfold mapS at E
  split at E
  · rename_i hl
    have := lc_gen (S := S) (st := st) (ex := ea) (eb := eb) (h := h) (ft := dYes) (fe := fe) (vs := vs) (fun s x => (f s x).map fun y => (some y.1, y.2))
      (fun s x o e => by
        cases q : f s x with
        | none => rw [q] at e; cases e
        | some y =>
          rw [q] at e
          cases e
          obtain ⟨ρa, ρc, k1, k2, k3⟩ := hs s x y q
          exact ⟨ρa, true, ρa, k1, rfl, ρc, k2, k3⟩) (mapSR f) (fun _ => rfl)
      (fun x xs s r e => by
        obtain ⟨y, e1, e⟩ := bnd e
        obtain ⟨ys, e2, e⟩ := bnd e
        cases e
        exact ⟨(some y.1, y.2), ys, by rw [e1]; rfl, e2, rfl⟩) xs s0 [] r E (by show 0 + _ ≤ _; omega)
    rw [← h0] at this
    rw [dLc_eq hi this, hr, List.nil_append]
  · cases E
/-- two walks: the inner one told by a list of its own -/
theorem flatR_big {f : α → Option (List β)} : ∀ {xs : List α} {zs : List β}, flatR f xs = some zs → ∀ x ∈ xs, ∃ ys, f x = some ys ∧ ys.length ≤ zs.length
  | x :: xs, zs, e, y, hy => by
    obtain ⟨a, e1, e⟩ := bnd e
    obtain ⟨b, e2, e⟩ := bnd e
    cases e
    rcases List.mem_cons.mp hy with rfl | hy
    · exact ⟨a, e1, by rw [List.length_append]; omega⟩
    · obtain ⟨c, h1, h2⟩ := flatR_big e2 y hy
      exact ⟨c, h1, by rw [List.length_append]; omega⟩
/-- one turn of the outer walk -/
def In2 (fi1 : Fi) (h1 : Fg) (ft1 : Ft) (fe : Fe) (vs vs1 : List Nat) (ρa ρ : En) (zs : List D) : Prop :=
  ∃ ys ρ3 ρ4, fi1 ρa = some (ys, ρ3) ∧ wipeD ρ4 vs = ρ ∧ ∀ acc : List D, acc.length + zs.length ≤ big → lcL h1 ft1 fe vs1 ys acc (wipeD ρ3 vs1) = some (acc ++ zs, ρ4)
theorem in2_map {fi1 : Fi} {h1 : Fg} {fe : Fe} {vs vs1 : List Nat} {ρa ρ ρ3 : En} {f : γ → Option β} {ys : List γ} {zs : List β} (E : mapR f ys = some zs) (hi : fi1 ρa = some (ys.map ec, ρ3)) (hw : wipeD (wipeD ρ3 vs1) vs = ρ)
    (hs : ∀ x y, f x = some y → ∃ ρb ρc, h1 (ec x) (wipeD ρ3 vs1) = some ρb ∧ dFr fe ρb = some (eb y, ρc) ∧ wipeD ρc vs1 = wipeD ρ3 vs1) : In2 fi1 h1 dYes fe vs vs1 ρa ρ (zs.map eb) := by
  have hl : zs.length = ys.length := by
    clear hi hs hw
    induction ys generalizing zs with
    | nil => cases E; rfl
    | cons y ys ih =>
      obtain ⟨a, e1, E⟩ := bnd E
      obtain ⟨b, e2, E⟩ := bnd E
      cases E
      rw [List.length_cons, List.length_cons, ih e2]
  exact ⟨_, ρ3, _, hi, hw, fun acc ha => lc_map (h := h1) (fe := fe) (vs := vs1) f hs ys acc zs E (by rw [List.length_map] at ha; omega)⟩
theorem lc2_gen {f : α → Option (List β)} {ρ : En} (hs : ∀ x zs, f x = some zs → ∃ ρa, h (ea x) ρ = some ρa ∧ In2 fi1 h1 dYes fe vs vs1 ρa ρ (zs.map eb)) :
    ∀ (xs : List α) (acc : List D) (zs : List β), flatR f xs = some zs → acc.length + zs.length ≤ big → lc2L h dYes fi1 h1 dYes fe vs vs1 (xs.map ea) acc ρ = some (acc ++ zs.map eb, ρ)
  | [], acc, zs, e, _ => by
    cases e
    show some (acc, ρ) = some (acc ++ [], ρ)
    rw [List.append_nil]
  | x :: xs, acc, zs, e, hl => by
    obtain ⟨a, e1, e⟩ := bnd e
    obtain ⟨b, e2, e⟩ := bnd e
    cases e
    rw [List.length_append] at hl
    obtain ⟨ρa, k1, ys, ρ3, ρ4, k2, k3, k4⟩ := hs x a e1
    have k5 := k4 acc (by rw [List.length_map]; omega)
    have ih := lc2_gen hs xs (acc ++ a.map eb) b e2 (by rw [List.length_append, List.length_map]; omega)
    rw [List.map_cons]
    unfold lc2L
    have y : ∀ ρ : En, dYes ρ = some (true, ρ) := fun _ => rfl
    simp only [k1, y, k2]
    rw [k5]
    show lc2L h dYes fi1 h1 dYes fe vs vs1 (xs.map ea) (acc ++ a.map eb) (wipeD ρ4 vs) = _
    rw [k3, ih, List.map_append, List.append_assoc]
theorem dLc2_eq' {ft ft1 : Ft} {ρ ρ1 ρ2 : En} {xs acc : List D} (e1 : fi ρ = some (xs, ρ1)) (e2 : lc2L h ft fi1 h1 ft1 fe vs vs1 xs [] (wipeD ρ1 vs) = some (acc, ρ2)) :
    dLc2 fi h ft fi1 h1 ft1 fe vs vs1 ρ = some (.ow (.l acc), restD ρ1 ρ2 vs) := by
  unfold dLc2
  simp only [e1, e2]
theorem ev_lc2 {ρ ρ1 ρ2 : En} {f : α → Option (List β)} {xs : List α} {r : List β} (E : flatO f xs = some r) (hi : fi ρ = some (xs.map ea, ρ1)) (hs : ∀ x zs, f x = some zs → ∃ ρa, h (ea x) (wipeD ρ1 vs) = some ρa ∧ In2 fi1 h1 dYes fe vs vs1 ρa (wipeD ρ1 vs) (zs.map eb))
    (hr : restD ρ1 (wipeD ρ1 vs) vs = ρ2) : dLc2 fi h dYes fi1 h1 dYes fe vs vs1 ρ = some (.ow (.l (r.map eb)), ρ2) := by
  obtain ⟨zs, e1, E⟩ := bnd E
  split at E
  · rename_i hl
    cases E
    have := lc2_gen (h := h) (fi1 := fi1) (h1 := h1) (fe := fe) (vs := vs) (vs1 := vs1) hs xs [] r e1 (by show 0 + _ ≤ _; omega)
    rw [dLc2_eq' hi this, hr, List.nil_append]
  · cases E
end
end DL
set_option Elab.async false
set_option linter.all false
set_option maxRecDepth 100000
set_option maxHeartbeats 1000000
namespace DL
open PySem PySem.Spec L2
/-! ### dicts -/
section
variable {κ ν : Type} [DecidableEq κ] {ev : ν → D}
def getK (kvs : List (κ × ν)) (k : κ) : Option ν := (kvs.find? fun p => decide (p.1 = k)).map (·.2)
def hasK (kvs : List (κ × ν)) (k : κ) : Bool := kvs.any fun p => decide (p.1 = k)
def putK' (kvs : List (κ × ν)) (k : κ) (v : ν) : List (κ × ν) := if hasK kvs k = true then kvs.map (fun p => if p.1 = k then (p.1, v) else p) else kvs ++ [(k, v)]
def putO (kvs : List (κ × ν)) (k : κ) (v : ν) : Option (List (κ × ν)) := if kvs.length ≤ lim then some (putK' kvs k v) else none
def mapKV {σ : Type} (ek : κ → σ) (ev : ν → D) (kvs : List (κ × ν)) : List (σ × D) := kvs.map fun p => (ek p.1, ev p.2)
variable {σ : Type} [DecidableEq σ] {ek : κ → σ}
theorem valD_map (hi : ∀ a b, ek a = ek b → a = b) (kvs : List (κ × ν)) (k : κ) : valD (mapKV ek ev kvs) (ek k) = (getK kvs k).map ev := by
  unfold valD getK mapKV
  rw [List.find?_map]
  have : ((fun p : σ × D => decide (p.1 = ek k)) ∘ fun p : κ × ν => (ek p.1, ev p.2)) = fun p : κ × ν => decide (p.1 = k) := funext fun p => by
    show decide (ek p.1 = ek k) = decide (p.1 = k)
    by_cases h : p.1 = k
    · rw [h]; simp
    · rw [decide_eq_false h, decide_eq_false fun e => h (hi _ _ e)]
  rw [this]
  cases kvs.find? fun p => decide (p.1 = k) <;> rfl
theorem has_get (kvs : List (κ × ν)) (k : κ) : (getK kvs k).isSome = hasK kvs k := by
  unfold getK hasK
  rw [Option.isSome_map]
  induction kvs with
  | nil => rfl
  | cons p kvs ih =>
    rw [List.find?_cons, List.any_cons]
    cases decide (p.1 = k) with
    | true => rfl
    | false => rw [Bool.false_or, ← ih]
theorem putD_map (hi : ∀ a b, ek a = ek b → a = b) (kvs : List (κ × ν)) (k : κ) (v : ν) : putD (mapKV ek ev kvs) (ek k) (ev v) = mapKV ek ev (putK' kvs k v) := by
  have h1 : ((mapKV ek ev kvs).any fun p => decide (p.1 = ek k)) = hasK kvs k := by
    unfold mapKV hasK
    rw [List.any_map]
    refine congrArg (fun f => kvs.any f) (funext fun p => ?_)
    show decide (ek p.1 = ek k) = decide (p.1 = k)
    by_cases h : p.1 = k
    · rw [h]; simp
    · rw [decide_eq_false h, decide_eq_false fun e => h (hi _ _ e)]
  unfold putD putK'
  rw [h1]
  split
  · unfold mapKV
    rw [List.map_map, List.map_map]
    refine List.map_congr_left fun p _ => ?_
    show (if ek p.1 = ek k then (ek p.1, ev v) else (ek p.1, ev p.2)) = _
    by_cases h : p.1 = k
    · rw [if_pos (by rw [h])]; show _ = (ek (if p.1 = k then (p.1, v) else p).1, ev (if p.1 = k then (p.1, v) else p).2); rw [if_pos h]
    · rw [if_neg fun e => h (hi _ _ e)]; show _ = (ek (if p.1 = k then (p.1, v) else p).1, ev (if p.1 = k then (p.1, v) else p).2); rw [if_neg h]
  · unfold mapKV
    rw [List.map_append]
    rfl
theorem mget_k {f : κ → D} {e : κ → Key} (hf : ∀ k, kOf (f k) = some (e k)) (hi : ∀ a b, e a = e b → a = b) (kvs : List (κ × ν)) (k : κ) : mGet (.k (mapKV e ev kvs)) (f k) = some ((getK kvs k).map ev) := by
  show (kOf _).map _ = _
  rw [hf, Option.map_some, valD_map hi]
theorem mget_t {f : κ → List D} {e : κ → List Key} (hf : ∀ k, ksOf (f k) = some (e k)) (hi : ∀ a b, e a = e b → a = b) (kvs : List (κ × ν)) (k : κ) : mGet (.t (mapKV e ev kvs)) (.tup (f k)) = some ((getK kvs k).map ev) := by
  show (ksOf _).map _ = _
  rw [hf, Option.map_some, valD_map hi]
theorem mput_k {f : κ → D} {e : κ → Key} (hf : ∀ k, kOf (f k) = some (e k)) (hi : ∀ a b, e a = e b → a = b) {kvs r : List (κ × ν)} {k : κ} {v : ν} (E : putO kvs k v = some r) : mPut (.k (mapKV e ev kvs)) (f k) (ev v) = some (.k (mapKV e ev r)) := by
  unfold putO at E
  split at E
  · rename_i hl
    cases E
    show (if (mapKV e ev kvs).length ≤ lim then (kOf (f k)).map (fun k => Mu.k (putD (mapKV e ev kvs) k (ev v))) else none) = _
    rw [if_pos (by unfold mapKV; rw [List.length_map]; exact hl), hf, Option.map_some, putD_map hi]
  · cases E
theorem mput_t {f : κ → List D} {e : κ → List Key} (hf : ∀ k, ksOf (f k) = some (e k)) (hi : ∀ a b, e a = e b → a = b) {kvs r : List (κ × ν)} {k : κ} {v : ν} (E : putO kvs k v = some r) : mPut (.t (mapKV e ev kvs)) (.tup (f k)) (ev v) = some (.t (mapKV e ev r)) := by
  unfold putO at E
  split at E
  · rename_i hl
    cases E
    show (if (mapKV e ev kvs).length ≤ lim then (ksOf (f k)).map (fun k => Mu.t (putD (mapKV e ev kvs) k (ev v))) else none) = _
    rw [if_pos (by unfold mapKV; rw [List.length_map]; exact hl), hf, Option.map_some, putD_map hi]
  · cases E
end
/-- keys -/
abbrev kI : Int → Key := .inl
abbrev kS : Str → Key := .inr
abbrev kII (p : Int × Int) : List Key := [.inl p.1, .inl p.2]
abbrev kSI (p : Str × Int) : List Key := [.inr p.1, .inl p.2]
abbrev kL (xs : List Int) : List Key := xs.map .inl
theorem kI_inj : ∀ a b : Int, kI a = kI b → a = b := fun a b h => Sum.inl.inj h
theorem kS_inj : ∀ a b : Str, kS a = kS b → a = b := fun a b h => Sum.inr.inj h
theorem kII_inj : ∀ a b : Int × Int, kII a = kII b → a = b := fun a b h => by
  obtain ⟨a1, a2⟩ := a
  obtain ⟨b1, b2⟩ := b
  simpa [kII] using h
theorem kSI_inj : ∀ a b : Str × Int, kSI a = kSI b → a = b := fun a b h => by
  obtain ⟨a1, a2⟩ := a
  obtain ⟨b1, b2⟩ := b
  simpa [kSI] using h
theorem kL_inj : ∀ a b : List Int, kL a = kL b → a = b
  | [], [], _ => rfl
  | [], _ :: _, h => by cases h
  | _ :: _, [], h => by cases h
  | x :: xs, y :: ys, h => by
    have h1 : Sum.inl x = (Sum.inl y : Key) := (List.cons.inj h).1
    have h2 := kL_inj xs ys (List.cons.inj h).2
    rw [Sum.inl.inj h1, h2]
theorem ksL : ∀ xs : List Int, ksOf (xs.map D.int) = some (kL xs)
  | [] => rfl
  | x :: xs => by
    show (match kOf (.int x), ksOf (xs.map D.int) with | some k, some ks => some (k :: ks) | _, _ => none) = _
    rw [ksL xs]
    rfl
theorem kfI (k : Int) : kOf (.int k) = some (kI k) := rfl
theorem kfS (k : Str) : kOf (.str k) = some (kS k) := rfl
theorem kfII (k : Int × Int) : ksOf [.int k.1, .int k.2] = some (kII k) := rfl
theorem kfSI (k : Str × Int) : ksOf [.str k.1, .int k.2] = some (kSI k) := rfl
section
variable {fk fv : Fe} {ρ ρ1 ρ2 : En} {i : Nat} {rk r : Sl} {d v : D} {m m' : Mu} {o : Option D} {neg : Bool}
theorem ev_dget (h0 : (heldM ρ[i]?).isSome = true) (hk : fk ρ = some (rk, ρ1)) (hd : rd ρ1 rk = some d) (hm : heldM ρ1[i]? = some m) (hg : mGet m d = some (some v)) : dDGet i fk ρ = some (.fz v, ρ1) := by
  unfold dDGet
  cases q : heldM ρ[i]? with
  | none => rw [q] at h0; cases h0
  | some _ => simp only [hk, hd, hm, hg]
theorem ev_din (hk : fk ρ = some (rk, ρ1)) (hd : rd ρ1 rk = some d) (hm : heldM ρ1[i]? = some m) (hg : mGet m d = some o) : dDIn neg i fk ρ = some (.fz (.bl (neg ^^ o.isSome)), ρ1) := by
  unfold dDIn
  simp only [hk, hd, hm, hg]
end
section
variable {κ ν : Type} [DecidableEq κ] {ev : ν → D} {fk : Fe} {ρ ρ1 : En} {i : Nat} {rk : Sl} {kvs : List (κ × ν)} {k : κ} {v : ν}
theorem ev_getK {f : κ → D} {e : κ → Key} (hf : ∀ k, kOf (f k) = some (e k)) (hi : ∀ a b, e a = e b → a = b) (E : getK kvs k = some v) (h0 : (heldM ρ[i]?).isSome = true) (hk : fk ρ = some (rk, ρ1)) (hd : rd ρ1 rk = some (f k)) (hm : heldM ρ1[i]? = some (.k (mapKV e ev kvs))) :
    dDGet i fk ρ = some (.fz (ev v), ρ1) := ev_dget h0 hk hd hm (by rw [mget_k hf hi, E]; rfl)
theorem ev_getT {f : κ → List D} {e : κ → List Key} (hf : ∀ k, ksOf (f k) = some (e k)) (hi : ∀ a b, e a = e b → a = b) (E : getK kvs k = some v) (h0 : (heldM ρ[i]?).isSome = true) (hk : fk ρ = some (rk, ρ1)) (hd : rd ρ1 rk = some (.tup (f k))) (hm : heldM ρ1[i]? = some (.t (mapKV e ev kvs))) :
    dDGet i fk ρ = some (.fz (ev v), ρ1) := ev_dget h0 hk hd hm (by rw [mget_t hf hi, E]; rfl)
theorem ev_hasK {neg : Bool} {f : κ → D} {e : κ → Key} (hf : ∀ k, kOf (f k) = some (e k)) (hi : ∀ a b, e a = e b → a = b) (hk : fk ρ = some (rk, ρ1)) (hd : rd ρ1 rk = some (f k)) (hm : heldM ρ1[i]? = some (.k (mapKV e ev kvs))) :
    dDIn neg i fk ρ = some (.fz (.bl (neg ^^ hasK kvs k)), ρ1) := by
  rw [ev_din hk hd hm (mget_k hf hi kvs k), Option.isSome_map, has_get]
theorem ev_hasT {neg : Bool} {f : κ → List D} {e : κ → List Key} (hf : ∀ k, ksOf (f k) = some (e k)) (hi : ∀ a b, e a = e b → a = b) (hk : fk ρ = some (rk, ρ1)) (hd : rd ρ1 rk = some (.tup (f k))) (hm : heldM ρ1[i]? = some (.t (mapKV e ev kvs))) :
    dDIn neg i fk ρ = some (.fz (.bl (neg ^^ hasK kvs k)), ρ1) := by
  rw [ev_din hk hd hm (mget_t hf hi kvs k), Option.isSome_map, has_get]
end
/-! ### statements -/
def Run (B : Fs) (ρ : En) (Q : Fl → En → Prop) : Prop := ∃ fl ρ', B ρ = some (fl, ρ') ∧ Q fl ρ'
section
variable {A B C : Fs} {f fe fk : Fe} {t : Ft} {ga : Fa} {ρ ρ1 ρ2 ρ3 : En} {i j : Nat} {d d' v : D} {r z : Sl} {c : Bool} {Q : Fl → En → Prop} {R S α : Type}
theorem run_seq (h : A ρ = some (.nx, ρ1)) (k : Run B ρ1 Q) : Run (bSeq A B) ρ Q := by
  obtain ⟨fl, ρ', e, q⟩ := k
  exact ⟨fl, ρ', by unfold bSeq; simp only [h, e], q⟩
theorem run_out {fl : Fl} (h : A ρ = some (fl, ρ1)) (n : fl ≠ .nx) (q : Q fl ρ1) : Run (bSeq A B) ρ Q := by
  refine ⟨fl, ρ1, ?_, q⟩
  unfold bSeq
  simp only [h]
  cases fl with
  | nx => exact absurd rfl n
  | _ => rfl
theorem run_asg (hf : f ρ = some (r, ρ1)) (hz : toSlot ρ1 r = some (z, ρ2)) (hn : kNR ρ2[i]? = true) (k : Run B (ρ2.set i z) Q) : Run (bSeq (bAsg i f) B) ρ Q :=
  run_seq (by rw [bAsg_e, hf]; show kAsg2 i (toSlot ρ1 r) = _; rw [hz]; show kAsg3 (notRf ρ2 i) i z ρ2 = _; rw [notRf_e, hn]; rfl) k
theorem run_unp {h : Fg} (hf : f ρ = some (r, ρ1)) (hq : fr ρ1 r = some (d, ρ2)) (hd : d = d') (hh : h d' ρ2 = some ρ3) (k : Run B ρ3 Q) : Run (bSeq (bUnp h f) B) ρ Q :=
  run_seq (by unfold bUnp; subst hd; simp only [ev_fr hf hq, hh]) k
theorem run_par (ha : ga ρ = some ([.fz d, .fz v], ρ1)) (hi : kNR ρ1[i]? = true) (hj : kNR ρ1[j]? = true) (k : Run B ((ρ1.set i (.fz d)).set j (.fz v)) Q) : Run (bSeq (bPar i j ga) B) ρ Q :=
  run_seq (by unfold bPar; rw [ha]; show (if _ then _ else _) = _; rw [if_pos ⟨by rw [notRf_e]; exact hi, by rw [notRf_e]; exact hj⟩]) k
theorem run_drop (hf : f ρ = some (r, ρ1)) (k : Run B ρ1 Q) : Run (bSeq (bDrop f) B) ρ Q := run_seq (by unfold bDrop; simp only [hf]) k
theorem run_aug {h : Int → Int → Int} {a b : Int} (hi : ρ[i]? = some (.fz (.int a))) (hf : f ρ = some (.fz (.int b), ρ1)) (hn : kNR ρ1[i]? = true) (k : Run B (ρ1.set i (.fz (.int (h a b)))) Q) : Run (bSeq (bAug i h f) B) ρ Q :=
  run_seq (by unfold bAug; rw [hi]; simp only [hf]; rw [notRf_e, hn]; rfl) k
theorem run_if (ht : t ρ = some (c, ρ)) (h1 : c = true → Run (bSeq A C) ρ Q) (h2 : c = false → Run (bSeq B C) ρ Q) : Run (bSeq (bIf t A B) C) ρ Q := by
  cases c with
  | true =>
    obtain ⟨fl, ρ', e, q⟩ := h1 rfl
    refine ⟨fl, ρ', ?_, q⟩
    rw [← e]
    unfold bSeq bIf
    simp only [ht]
  | false =>
    obtain ⟨fl, ρ', e, q⟩ := h2 rfl
    refine ⟨fl, ρ', ?_, q⟩
    rw [← e]
    unfold bSeq bIf
    simp only [ht]
theorem run_assoc (h : Run (bSeq A (bSeq B C)) ρ Q) : Run (bSeq (bSeq A B) C) ρ Q := by
  obtain ⟨fl, ρ', e, q⟩ := h
  refine ⟨fl, ρ', ?_, q⟩
  rw [← e]
  unfold bSeq
  cases A ρ with
  | none => rfl
  | some y =>
    obtain ⟨fl, ρ1⟩ := y
    cases fl <;> rfl
theorem run_next (h : Run C ρ Q) : Run (bSeq bNext C) ρ Q := h
theorem run_last (h : Run (bSeq A bNext) ρ Q) : Run A ρ Q := by
  obtain ⟨fl, ρ', e, q⟩ := h
  refine ⟨fl, ρ', ?_, q⟩
  rw [← e]
  unfold bSeq bNext
  cases A ρ with
  | none => rfl
  | some y =>
    obtain ⟨fl, ρ1⟩ := y
    cases fl <;> rfl
theorem run_setIx {fi : Fe} {k : Int} {xs : List α} {ea : α → D} {x : α} {w : List α} (hf : fe ρ = some (r, ρ1)) (hq : fr ρ1 r = some (ea x, ρ2)) (h0 : (heldL ρ2[i]?).isSome = true) (hi : fi ρ2 = some (.fz (.int k), ρ3)) (hx : heldL ρ3[i]? = some (xs.map ea)) (E : setL xs k x = some w)
    (kk : Run B (putS ρ3 i (.l (w.map ea))) Q) : Run (bSeq (bSetIx i fi fe) B) ρ Q :=
  run_seq (by
    unfold setL at E
    unfold bSetIx
    simp only [ev_fr hf hq]
    cases q : heldL ρ2[i]? with
    | none => rw [q] at h0; cases h0
    | some _ =>
      simp only [hi, hx, List.length_map]
      cases q2 : ixN xs.length k with
      | none => rw [q2] at E; cases E
      | some j =>
        rw [q2] at E
        cases E
        simp only [List.map_set]) kk
theorem setAt_d {fi : Fe} {k : Int} {xs w : List α} {ea : α → D} {x : α} (h0 : (heldL ρ[i]?).isSome = true) (hi : fi ρ = some (.fz (.int k), ρ1)) (hx : heldL ρ1[i]? = some (xs.map ea)) (E : setL xs k x = some w) : setAt i fi (ea x) ρ = some (putS ρ1 i (.l (w.map ea))) := by
  unfold setL at E
  unfold setAt
  cases q : heldL ρ[i]? with
  | none => rw [q] at h0; cases h0
  | some _ =>
    simp only [hi, hx, List.length_map]
    cases q2 : ixN xs.length k with
    | none => rw [q2] at E; cases E
    | some j =>
      rw [q2] at E
      cases E
      simp only [List.map_set]
theorem run_set2 {f1 f2 : Fe} (hf : f ρ = some (r, ρ1)) (hq : fr ρ1 r = some (.tup [d, v], ρ2)) (h1 : setAt i f1 d ρ2 = some ρ3) {ρ4 : En} (h2 : setAt i f2 v ρ3 = some ρ4) (k : Run B ρ4 Q) : Run (bSeq (bSet2 i f1 f2 f) B) ρ Q :=
  run_seq (by unfold bSet2; simp only [ev_fr hf hq, h1, h2]) k
theorem run_dput {rk : Sl} {m m' : Mu} (hf : f ρ = some (r, ρ1)) (hq : fr ρ1 r = some (v, ρ2)) (h0 : (heldM ρ2[i]?).isSome = true) (hk : fk ρ2 = some (rk, ρ3)) (hd : rd ρ3 rk = some d) (hm : heldM ρ3[i]? = some m) (hp : mPut m d v = some m') (k : Run B (putS ρ3 i m') Q) : Run (bSeq (bDPut i fk f) B) ρ Q :=
  run_seq (by
    unfold bDPut
    simp only [ev_fr hf hq]
    cases q : heldM ρ2[i]? with
    | none => rw [q] at h0; cases h0
    | some _ => simp only [hk, hd, hm, hp]) k
theorem run_cont (h : Q .ct ρ) : Run (bSeq bCont C) ρ Q := run_out rfl (by intro h; cases h) h
theorem run_brk (h : Q .bk ρ) : Run (bSeq bBreak C) ρ Q := run_out rfl (by intro h; cases h) h
/-! return: the result is told by the typed end -/
theorem run_ret {Qr : R → Fl → En → Prop} {x y : R} (h : some x = some y) (hf : f ρ = some (r, ρ1)) (q : Qr x (.rt r) ρ1) : Run (bSeq (bRet f) C) ρ (Qr y) := by
  cases h
  exact run_out (by unfold bRet; simp only [hf]) (by intro h; cases h) q
theorem run_retN {Qr : R → Fl → En → Prop} {x y : R} (h : some x = some y) (q : Qr x (.rt (.fz .non)) ρ) : Run (bSeq bRetN C) ρ (Qr y) := by
  cases h
  exact run_out rfl (by intro h; cases h) q
theorem run_done {Qr : R → Fl → En → Prop} {x y : R} (h : some x = some y) (q : Qr x .nx ρ) : Run bNext ρ (Qr y) := by
  cases h
  exact ⟨.nx, ρ, rfl, q⟩
/-! ### loops -/
def LoopQ (P : S → En → Prop) (s : S) : Fl → En → Prop := fun fl ρ => (fl = .nx ∨ fl = .ct) ∧ P s ρ
/-- what leaves the loop's def: a return, a refusal -/
def isOut : Fl → Bool
  | .rt _ => true
  | .ex _ _ _ => true
  | _ => false
def StepQ (P : S → En → Prop) (Qr : R → Fl → En → Prop) : Lp S R → Fl → En → Prop
  | .nx s, fl, ρ => (fl = .nx ∨ fl = .ct) ∧ P s ρ
  | .bk s, fl, ρ => fl = .bk ∧ P s ρ
  | .rt r, fl, ρ => isOut fl = true ∧ Qr r fl ρ
theorem for_n {ea : α → D} {h : Fg} (body : S → α → Option S) (Rel : S → En → Prop) (hs : ∀ s x s' ρ, Rel s ρ → body s x = some s' → ∃ ρa, h (ea x) ρ = some ρa ∧ Run B ρa (LoopQ Rel s')) :
    ∀ (xs : List α) (s s1 : S) (ρ : En), forN body xs s = some s1 → Rel s ρ → ∃ ρ', forL h B (xs.map ea) ρ = some (.nx, ρ') ∧ Rel s1 ρ'
  | [], s, s1, ρ, e, hr => by
    cases e
    exact ⟨ρ, rfl, hr⟩
  | x :: xs, s, s1, ρ, e, hr => by
    obtain ⟨s', e1, e2⟩ := bnd e
    obtain ⟨ρa, k1, fl, ρb, k2, k3, k4⟩ := hs s x s' ρ hr e1
    obtain ⟨ρ', k5, k6⟩ := for_n body Rel hs xs s' s1 ρb e2 k4
    refine ⟨ρ', ?_, k6⟩
    rw [List.map_cons]
    unfold forL
    rcases k3 with rfl | rfl
    · simp only [k1, k2, k5]
    · simp only [k1, k2, k5]
theorem run_for {ea : α → D} {h : Fg} {fi : Fi} {body : S → α → Option S} {xs : List α} {s0 s1 : S} (E : forN body xs s0 = some s1) (Rel : S → En → Prop) (hi : fi ρ = some (xs.map ea, ρ1)) (h0 : Rel s0 ρ1)
    (hs : ∀ s x s' ρ, Rel s ρ → body s x = some s' → ∃ ρa, h (ea x) ρ = some ρa ∧ Run B ρa (LoopQ Rel s')) (k : ∀ ρ, Rel s1 ρ → Run C ρ Q) : Run (bSeq (bFor fi h B) C) ρ Q := by
  obtain ⟨ρ', e1, e2⟩ := for_n body Rel hs xs s0 s1 ρ1 E h0
  exact run_seq (bFor_eq hi e1) (k ρ' e2)
theorem for_e {ea : α → D} {h : Fg} {Qr : R → Fl → En → Prop} (body : S → α → Option (Lp S R)) (Rel : S → En → Prop) (hs : ∀ s x e ρ, Rel s ρ → body s x = some e → ∃ ρa, h (ea x) ρ = some ρa ∧ Run B ρa (StepQ Rel Qr e)) :
    ∀ (xs : List α) (s : S) (e1 : Lp S R) (ρ : En), forE body xs s = some e1 → Rel s ρ → ∃ fl ρ', forL h B (xs.map ea) ρ = some (fl, ρ') ∧ (match e1 with | .nx s => fl = .nx ∧ Rel s ρ' | .bk _ => False | .rt r => isOut fl = true ∧ Qr r fl ρ')
  | [], s, s1, ρ, e, hr => by
    cases e
    exact ⟨.nx, ρ, rfl, rfl, hr⟩
  | x :: xs, s, s1, ρ, e, hr => by
    obtain ⟨e', e1, e2⟩ := bnd e
    obtain ⟨ρa, k1, fl, ρb, k2, k3⟩ := hs s x e' ρ hr e1
    rw [List.map_cons]
    unfold forL
    cases e' with
    | nx s' =>
      obtain ⟨k3, k4⟩ := k3
      obtain ⟨fl', ρ', k5, k6⟩ := for_e body Rel hs xs s' s1 ρb e2 k4
      refine ⟨fl', ρ', ?_, k6⟩
      rcases k3 with rfl | rfl
      · simp only [k1, k2, k5]
      · simp only [k1, k2, k5]
    | bk s' =>
      obtain ⟨rfl, k4⟩ := k3
      cases e2
      exact ⟨.nx, ρb, by simp only [k1, k2], rfl, k4⟩
    | rt r =>
      obtain ⟨ho, k4⟩ := k3
      cases e2
      refine ⟨fl, ρb, ?_, ho, k4⟩
      cases fl with
      | rt z => simp only [k1, k2]
      | ex _ _ _ => simp only [k1, k2]
      | nx => cases ho
      | bk => cases ho
      | ct => cases ho
theorem run_forE {ea : α → D} {h : Fg} {fi : Fi} {body : S → α → Option (Lp S R)} {xs : List α} {s0 : S} {e1 : Lp S R} (E : forE body xs s0 = some e1) (Rel : S → En → Prop) (Qr : R → Fl → En → Prop) (hi : fi ρ = some (xs.map ea, ρ1)) (h0 : Rel s0 ρ1)
    (hs : ∀ s x e ρ, Rel s ρ → body s x = some e → ∃ ρa, h (ea x) ρ = some ρa ∧ Run B ρa (StepQ Rel Qr e)) (k : ∀ s ρ, e1 = .nx s → Rel s ρ → Run C ρ Q) (kr : ∀ r fl ρ, e1 = .rt r → isOut fl = true → Qr r fl ρ → Q fl ρ) : Run (bSeq (bFor fi h B) C) ρ Q := by
  obtain ⟨fl, ρ', h1, h2⟩ := for_e body Rel hs xs s0 e1 ρ1 E h0
  cases e1 with
  | nx s =>
    obtain ⟨rfl, h2⟩ := h2
    exact run_seq (bFor_eq hi h1) (k s ρ' rfl h2)
  | bk s => exact h2.elim
  | rt r =>
    obtain ⟨ho, h2⟩ := h2
    exact run_out (bFor_eq hi h1) (by rintro rfl; cases ho) (kr r fl ρ' rfl ho h2)
theorem run_while {cond_ : S → Option Bool} {body : S → Option S} {s0 s1 : S} (E : whileU cond_ body s0 = some s1) (Rel : S → En → Prop) (h0 : Rel s0 ρ)
    (ht : ∀ s c ρ, Rel s ρ → cond_ s = some c → t ρ = some (c, ρ)) (hs : ∀ s s' ρ, Rel s ρ → cond_ s = some true → body s = some s' → Run B ρ (LoopQ Rel s')) (k : ∀ ρ, Rel s1 ρ → Run C ρ Q) : Run (bSeq (bWhile t B) C) ρ Q := by
  obtain ⟨n, E⟩ := whileU_inv E
  have go : ∀ (n : Nat) (s : S) (ρ : En), whileF cond_ body n s = some s1 → Rel s ρ → ∃ ρ', whileN t B n ρ = some (.nx, ρ') ∧ Rel s1 ρ' := by
    intro n
    induction n with
    | zero => intro s ρ e; cases e
    | succ n ih =>
      intro s ρ e hr
      obtain ⟨c, e1, e⟩ := bnd e
      have h1 := ht s c ρ hr e1
      unfold whileN
      cases c with
      | false =>
        cases e
        exact ⟨ρ, by simp only [h1], hr⟩
      | true =>
        obtain ⟨s', e2, e⟩ := bnd (show (body s).bind _ = _ from e)
        obtain ⟨fl, ρb, k1, k2, k3⟩ := hs s s' ρ hr e1 e2
        obtain ⟨ρ', k4, k5⟩ := ih s' ρb e k3
        refine ⟨ρ', ?_, k5⟩
        rcases k2 with rfl | rfl
        · simp only [h1, k1, k4]
        · simp only [h1, k1, k4]
  obtain ⟨ρ', e1, e2⟩ := go n s0 ρ E h0
  exact run_seq (bWhile_eq e1) (k ρ' e2)
theorem run_whileE {cond_ : S → Option Bool} {body : S → Option (Lp S R)} {s0 : S} {e1 : Lp S R} (E : whileE cond_ body s0 = some e1) (Rel : S → En → Prop) (Qr : R → Fl → En → Prop) (h0 : Rel s0 ρ)
    (ht : ∀ s c ρ, Rel s ρ → cond_ s = some c → t ρ = some (c, ρ)) (hs : ∀ s e ρ, Rel s ρ → cond_ s = some true → body s = some e → Run B ρ (StepQ Rel Qr e))
    (k : ∀ s ρ, e1 = .nx s → Rel s ρ → Run C ρ Q) (kr : ∀ r fl ρ, e1 = .rt r → isOut fl = true → Qr r fl ρ → Q fl ρ) : Run (bSeq (bWhile t B) C) ρ Q := by
  obtain ⟨n, E⟩ := whileE_inv E
  have go : ∀ (n : Nat) (s : S) (ρ : En), whileEF cond_ body n s = some e1 → Rel s ρ → ∃ fl ρ', whileN t B n ρ = some (fl, ρ') ∧ (match e1 with | .nx s => fl = .nx ∧ Rel s ρ' | .bk _ => False | .rt r => isOut fl = true ∧ Qr r fl ρ') := by
    intro n
    induction n with
    | zero => intro s ρ e; cases e
    | succ n ih =>
      intro s ρ e hr
      obtain ⟨c, e1, e⟩ := bnd e
      have h1 := ht s c ρ hr e1
      unfold whileN
      cases c with
      | false =>
        cases e
        exact ⟨.nx, ρ, by simp only [h1], rfl, hr⟩
      | true =>
        obtain ⟨e', e2, e⟩ := bnd (show (body s).bind _ = _ from e)
        obtain ⟨fl, ρb, k1, k2⟩ := hs s e' ρ hr e1 e2
        cases e' with
        | nx s' =>
          obtain ⟨k2, k3⟩ := k2
          obtain ⟨fl', ρ', k4, k5⟩ := ih s' ρb e k3
          refine ⟨fl', ρ', ?_, k5⟩
          rcases k2 with rfl | rfl
          · simp only [h1, k1, k4]
          · simp only [h1, k1, k4]
        | bk s' =>
          obtain ⟨rfl, k3⟩ := k2
          cases e
          exact ⟨.nx, ρb, by simp only [h1, k1], rfl, k3⟩
        | rt r =>
          obtain ⟨ho, k3⟩ := k2
          cases e
          refine ⟨fl, ρb, ?_, ho, k3⟩
          cases fl with
          | rt z => simp only [h1, k1]
          | ex _ _ _ => simp only [h1, k1]
          | nx => cases ho
          | bk => cases ho
          | ct => cases ho
  obtain ⟨fl, ρ', h1, h2⟩ := go n s0 ρ E h0
  cases e1 with
  | nx s =>
    obtain ⟨rfl, h2⟩ := h2
    exact run_seq (bWhile_eq h1) (k s ρ' rfl h2)
  | bk s => exact h2.elim
  | rt r =>
    obtain ⟨ho, h2⟩ := h2
    exact run_out (bWhile_eq h1) (by rintro rfl; cases ho) (kr r fl ρ' rfl ho h2)
/-! ### defs -/
/-- what a def's body ends in -/
def RetQ (zf : R → Sl) (r : R) : Fl → En → Prop := fun fl ρ => match fl with
  | .rt x => resolve ρ x = some (zf r)
  | .nx => zf r = .fz .non
  | _ => False
def RetL (zf : R → Sl) (mf : R → Mu) (r : R) : Fl → En → Prop := fun fl ρ => (match fl with
  | .rt x => resolve ρ x = some (zf r)
  | .nx => zf r = .fz .non
  | _ => False) ∧ ρ[0]? = some (.rf (mf r))
theorem fn_ok {k : Nat} {zf : R → Sl} {x : R} (h : Run B (ρ ++ List.replicate k .un) (RetQ zf x)) : ∃ ρ', runF k B ρ = some (zf x, ρ') := by
  obtain ⟨fl, ρe, e, q⟩ := h
  unfold runF
  rw [e]
  cases fl with
  | rt x =>
    have q' : resolve ρe x = some _ := q
    exact ⟨fin ρ ρe, by unfold endF; simp only [q']⟩
  | nx =>
    have q' : _ = Sl.fz .non := q
    exact ⟨fin ρ ρe, by unfold endF; simp only [q']⟩
  | bk => exact q.elim
  | ct => exact q.elim
  | ex _ _ _ => exact q.elim
theorem fn_rf {k : Nat} {m : Mu} {zf : R → Sl} {mf : R → Mu} {x : R} (h : Run B ((.rf m :: ρ) ++ List.replicate k .un) (RetL zf mf x)) : ∃ ρ', runF k B (.rf m :: ρ) = some (zf x, .rf (mf x) :: ρ') := by
  obtain ⟨fl, ρe, e, q, q0⟩ := h
  have hf : ∃ ρ', fin (.rf m :: ρ) ρe = .rf (mf x) :: ρ' := by
    cases ρe with
    | nil => cases q0
    | cons a ρe =>
      have : a = .rf (mf x) := Option.some.inj q0
      subst this
      exact ⟨List.zipWith finS ρ ρe, rfl⟩
  obtain ⟨ρ', hf⟩ := hf
  unfold runF
  rw [e]
  cases fl with
  | rt x =>
    have q' : resolve ρe x = some _ := q
    exact ⟨ρ', by unfold endF; simp only [q', hf]⟩
  | nx =>
    have q' : _ = Sl.fz .non := q
    exact ⟨ρ', by unfold endF; simp only [q', hf]⟩
  | bk => exact q.elim
  | ct => exact q.elim
  | ex _ _ _ => exact q.elim
end
end DL
set_option Elab.async false
set_option linter.all false
set_option maxRecDepth 100000
set_option maxHeartbeats 1000000
namespace DL
open PySem PySem.Spec L2
/-! ### boards and rules as typed data -/
inductive Board where
  | row (n : Int) | ring (n : Int) | floor (h w : Int)
  deriving DecidableEq
def Board.d : Board → D
  | .row n => .tup [.str "row", .int n]
  | .ring n => .tup [.str "ring", .int n]
  | .floor h w => .tup [.str "floor", .int h, .int w]
def Board.tag : Board → Str
  | .row _ => "row"
  | .ring _ => "ring"
  | .floor _ _ => "floor"
def Board.isRow : Board → Bool
  | .row _ => true
  | _ => false
def Board.isRing : Board → Bool
  | .ring _ => true
  | _ => false
def Board.isFloor : Board → Bool
  | .floor _ _ => true
  | _ => false
def Board.n1 : Board → Int
  | .row n => n
  | .ring n => n
  | .floor h _ => h
def Board.n2 : Board → Option Int
  | .floor _ w => some w
  | _ => none
def Board.last : Board → Int
  | .row n => n
  | .ring n => n
  | .floor _ w => w
def Board.hw : Board → Option (Int × Int)
  | .floor h w => some (h, w)
  | _ => none
def Board.shw : Board → Option (Str × Int × Int)
  | .floor h w => some ("floor", h, w)
  | _ => none
inductive Rule where
  | swap (k c : Int) | over (h w c : Int) | under (h w c : Int)
  deriving DecidableEq
def Rule.d : Rule → D
  | .swap k c => .tup [.str "swap", .int k, .int c]
  | .over h w c => .tup [.str "over", .int h, .int w, .int c]
  | .under h w c => .tup [.str "under", .int h, .int w, .int c]
def Rule.tag : Rule → Str
  | .swap _ _ => "swap"
  | .over _ _ _ => "over"
  | .under _ _ _ => "under"
def Rule.isSwap : Rule → Bool
  | .swap _ _ => true
  | _ => false
def Rule.isOver : Rule → Bool
  | .over _ _ _ => true
  | _ => false
def Rule.isUnder : Rule → Bool
  | .under _ _ _ => true
  | _ => false
def Rule.n1 : Rule → Int
  | .swap k _ => k
  | .over h _ _ => h
  | .under h _ _ => h
def Rule.n2 : Rule → Int
  | .swap _ c => c
  | .over _ w _ => w
  | .under _ w _ => w
def Rule.m2 : Rule → Int
  | .swap k _ => k
  | .over _ w _ => w
  | .under _ w _ => w
def Rule.bent : Rule → Int
  | .swap _ c => c
  | .over _ _ c => c
  | .under _ _ c => c
theorem b_ix0 (b : Board) : gIx b.d (.int 0) = some (.fz (.str b.tag)) := by cases b <;> rfl
theorem b_ix1 (b : Board) : gIx b.d (.int 1) = some (.fz (.int b.n1)) := by cases b <;> rfl
theorem b_ix2 {b : Board} {v : Int} (E : b.n2 = some v) : gIx b.d (.int 2) = some (.fz (.int v)) := by
  cases b with
  | floor h w => cases E; rfl
  | _ => cases E
theorem b_ixm (b : Board) : gIx b.d (.int (-1)) = some (.fz (.int b.last)) := by cases b <;> rfl
theorem b_hw {b : Board} {v : Int × Int} (E : b.hw = some v) : gSl b.d (some 1) none = some (.fz (.tup [.int v.1, .int v.2])) := by
  cases b with
  | floor h w => cases E; rfl
  | _ => cases E
theorem b_shw {b : Board} {v : Str × Int × Int} (E : b.shw = some v) : b.d = .tup [.str v.1, .int v.2.1, .int v.2.2] := by
  cases b with
  | floor h w => cases E; rfl
  | _ => cases E
theorem b_eqF (b : Board) : gEq (.str b.tag) (.str "floor") = some (.fz (.bl b.isFloor)) := by
  cases b
  · exact eq_row_floor
  · exact eq_ring_floor
  · exact eq_floor_floor
theorem b_eqG (b : Board) : gEq (.str b.tag) (.str "ring") = some (.fz (.bl b.isRing)) := by
  cases b
  · exact eq_row_ring
  · exact eq_ring_ring
  · exact eq_floor_ring
theorem b_eqR (b : Board) : gEq (.str b.tag) (.str "row") = some (.fz (.bl b.isRow)) := by
  cases b
  · exact eq_row_row
  · exact eq_ring_row
  · exact eq_floor_row
theorem b_neF (b : Board) : gNe (.str b.tag) (.str "floor") = some (.fz (.bl (!b.isFloor))) := by
  cases b
  · exact ne_row_floor
  · exact ne_ring_floor
  · exact ne_floor_floor
theorem r_ix0 (b : Rule) : gIx b.d (.int 0) = some (.fz (.str b.tag)) := by cases b <;> rfl
theorem r_ix1 (b : Rule) : gIx b.d (.int 1) = some (.fz (.int b.n1)) := by cases b <;> rfl
theorem r_ix2 (b : Rule) : gIx b.d (.int 2) = some (.fz (.int b.n2)) := by cases b <;> rfl
theorem r_ixm (b : Rule) : gIx b.d (.int (-1)) = some (.fz (.int b.bent)) := by cases b <;> rfl
theorem r_ixm2 (b : Rule) : gIx b.d (.int (-2)) = some (.fz (.int b.m2)) := by cases b <;> rfl
theorem eq_lit (a b : Str) {c : Bool} (h : decide (a = b) = c) : gEq (.str a) (.str b) = some (.fz (.bl c)) := by rw [gEq_str, h]
theorem r_eqS (b : Rule) : gEq (.str b.tag) (.str "swap") = some (.fz (.bl b.isSwap)) := by
  cases b
  · exact eq_lit "swap" "swap" (c := true) (by decide +kernel)
  · exact eq_lit "over" "swap" (c := false) (by decide +kernel)
  · exact eq_lit "under" "swap" (c := false) (by decide +kernel)
theorem r_eqO (b : Rule) : gEq (.str b.tag) (.str "over") = some (.fz (.bl b.isOver)) := by
  cases b
  · exact eq_lit "swap" "over" (c := false) (by decide +kernel)
  · exact eq_lit "over" "over" (c := true) (by decide +kernel)
  · exact eq_lit "under" "over" (c := false) (by decide +kernel)
theorem r_eqU (b : Rule) : gEq (.str b.tag) (.str "under") = some (.fz (.bl b.isUnder)) := by
  cases b
  · exact eq_lit "swap" "under" (c := false) (by decide +kernel)
  · exact eq_lit "over" "under" (c := false) (by decide +kernel)
  · exact eq_lit "under" "under" (c := true) (by decide +kernel)
/-! where a thing may lack -/
def optK {α β : Type} (o : Option α) (a : Option β) (b : α → Option β) : Option β := match o with
  | none => a
  | some x => b x
theorem optK_n {α β : Type} {o : Option α} {a : Option β} {b : α → Option β} {r : β} (h : optK o a b = some r) (e : o.isNone = true) : o = none ∧ a = some r := by
  cases o with
  | none => exact ⟨rfl, h⟩
  | some x => cases e
theorem optK_s {α β : Type} {o : Option α} {a : Option β} {b : α → Option β} {r : β} (h : optK o a b = some r) (e : o.isNone = false) : ∃ x, o = some x ∧ b x = some r := by
  cases o with
  | none => cases e
  | some x => exact ⟨x, rfl, h⟩
theorem optK_s' {α β : Type} {o : Option α} {a : Option β} {b : α → Option β} {r : β} (h : optK o a b = some r) (e : o.isSome = true) : ∃ x, o = some x ∧ b x = some r := by
  cases o with
  | none => cases e
  | some x => exact ⟨x, rfl, h⟩
theorem optK_n' {α β : Type} {o : Option α} {a : Option β} {b : α → Option β} {r : β} (h : optK o a b = some r) (e : o.isSome = false) : o = none ∧ a = some r := by
  cases o with
  | none => exact ⟨rfl, h⟩
  | some x => cases e
section
variable {B C : Fs} {ρ ρ' : En} {Q : Fl → En → Prop} {R S : Type} {P : S → En → Prop} {Qr : R → Fl → En → Prop} {zf : R → Sl} {mf : R → Mu} {r : R} {s : S} {fl : Fl} {x : Sl}
theorem run_env (h : ρ = ρ') (k : Run B ρ' Q) : Run B ρ Q := by rw [h]; exact k
theorem st_nx (h : (fl = .nx ∨ fl = .ct) ∧ P s ρ) : StepQ P Qr (.nx s) fl ρ := h
theorem st_bk (h : fl = .bk ∧ P s ρ) : StepQ P Qr (.bk s) fl ρ := h
theorem st_rt {z : Sl} (h : Qr r (.rt z) ρ) : StepQ P Qr (.rt r) (.rt z) ρ := ⟨rfl, h⟩
theorem st_out {fl : Fl} (ho : isOut fl = true) (h : Qr r fl ρ) : StepQ P Qr (.rt r) fl ρ := ⟨ho, h⟩
theorem lp_q (h : (fl = .nx ∨ fl = .ct) ∧ P s ρ) : LoopQ P s fl ρ := h
theorem rq (h : resolve ρ x = some (zf r)) : RetQ zf r (.rt x) ρ := h
theorem rqn (h : zf r = .fz .non) : RetQ zf r .nx ρ := h
theorem rql (h : resolve ρ x = some (zf r)) (h0 : ρ[0]? = some (.rf (mf r))) : RetL zf mf r (.rt x) ρ := ⟨h, h0⟩
theorem rqln (h : zf r = .fz .non) (h0 : ρ[0]? = some (.rf (mf r))) : RetL zf mf r .nx ρ := ⟨h, h0⟩
theorem run_contQ {x y : R} (h : some x = some y) (q : Qr x .ct ρ) : Run (bSeq bCont C) ρ (Qr y) := by cases h; exact run_cont q
theorem run_brkQ {x y : R} (h : some x = some y) (q : Qr x .bk ρ) : Run (bSeq bBreak C) ρ (Qr y) := by cases h; exact run_brk q
end
def b2i (b : Bool) : Int := if b then 1 else 0
def lenS (z : Str) : Option Int := if z.length ≤ lim then some (z.length : Nat) else none
theorem d_lenS {z : Str} {v : Int} (E : lenS z = some v) : gLen [.str z] = some (.fz (.int v)) := by
  unfold lenS at E
  split at E
  · rename_i h
    cases E
    show (if _ then _ else _) = _
    rw [if_pos h]
  · cases E
theorem it_if {α : Type} {ea : α → D} {t : Ft} {fa fb : Fe} {ρ ρ1 : En} {c : Bool} {xs ys : List α} (ht : t ρ = some (c, ρ)) (ha : iAny fa ρ = some (xs.map ea, ρ1)) (hb : iAny fb ρ = some (ys.map ea, ρ1)) : iAny (dIfE t fa fb) ρ = some ((cond c xs ys).map ea, ρ1) := by
  cases c with
  | true =>
    rw [← show iAny fa ρ = some ((cond true xs ys).map ea, ρ1) from ha]
    unfold iAny dFr dIfE
    simp only [ht]
  | false =>
    rw [← show iAny fb ρ = some ((cond false xs ys).map ea, ρ1) from hb]
    unfold iAny dFr dIfE
    simp only [ht]
end DL
set_option Elab.async false
set_option linter.all false
set_option maxRecDepth 100000
set_option maxHeartbeats 2000000
namespace DL
open PySem PySem.Spec L2
/-! typed: sorted, dicts told as lists, near -/
section
variable {α β κ S : Type} {ea : α → D} {eb : β → D}
theorem d_sorted {xs : List Int} : gSorted [.lst (xs.map D.int)] = some (.ow (.l ((sortI xs).map D.int))) := by
  show (intsOf (xs.map D.int)).map _ = _
  rw [intsOf_map]
  rfl
def usortO (xs : List Int) : Option (List Int) := if xs.length < 64 then some (usortI xs) else none
theorem ev_sortSet {f : Fe} {ρ ρ1 : En} {r : Sl} {xs v : List Int} (h : f ρ = some (r, ρ1)) (hd : rd ρ1 r = some (.lst (xs.map D.int))) (E : usortO xs = some v) : dSortSet f ρ = some (.ow (.l (v.map D.int)), ρ1) := by
  unfold usortO at E
  split at E
  · rename_i hl
    cases E
    unfold dSortSet
    simp only [h, hd, intsOf_map]
    rw [if_pos hl]
  · cases E
/-! ### a dict of tuple keys -/
variable [DecidableEq κ]
def tieT (k : κ) (acc : List κ) : Option (List κ) := if acc.length ≤ lim then (if (acc.any fun d => decide (d = k)) = true then some acc else some (acc ++ [k])) else none
/-- how a key is told -/
structure TK (ek : κ → D) (el : κ → List Leaf) : Prop where
  key : ∀ k, keyD (ek k) = some (el k)
  inj : ∀ a b, el a = el b → a = b
variable {ek : κ → D} {el : κ → List Leaf}
theorem tieS_map (t : TK ek el) {k : κ} {acc acc' : List κ} (E : tieT k acc = some acc') : tieS (ek k) (acc.map ek) = some (acc'.map ek) := by
  unfold tieT at E
  split at E
  · rename_i hl
    unfold tieS
    simp only [t.key k]
    rw [if_pos (by rw [List.length_map]; exact hl)]
    have an : ((acc.map ek).any fun d => decide (keyD d = some (el k))) = acc.any fun d => decide (d = k) := by
      rw [List.any_map]
      congr 1
      funext d
      show decide (keyD (ek d) = some (el k)) = _
      rw [t.key d]
      by_cases c : d = k
      · subst c; simp
      · rw [decide_eq_false c, decide_eq_false]
        exact fun z => c (t.inj _ _ (Option.some.inj z))
    rw [an]
    split at E
    · rename_i c
      cases E
      rw [if_pos c]
    · rename_i c
      cases E
      rw [if_neg c, List.map_append]
      rfl
  · cases E
theorem tie_in_t {h2 : Fg} {fk : Fe} (t : TK ek el) (body : List κ → β → Option (List κ)) (Rel : En → Prop)
    (hs : ∀ s x s' ρ, Rel ρ → body s x = some s' → ∃ ρa k r ρb ρc, h2 (eb x) ρ = some ρa ∧ fk ρa = some (r, ρb) ∧ fr ρb r = some (ek k, ρc) ∧ tieT k s = some s' ∧ Rel ρc) :
    ∀ (ys : List β) (s s1 : List κ) (ρ : En), forN body ys s = some s1 → Rel ρ → ∃ ρ', tieIn h2 fk (ys.map eb) (s.map ek) ρ = some (s1.map ek, ρ') ∧ Rel ρ'
  | [], s, s1, ρ, e, hr => by
    cases e
    exact ⟨ρ, rfl, hr⟩
  | y :: ys, s, s1, ρ, e, hr => by
    obtain ⟨s', e1, e2⟩ := bnd e
    obtain ⟨ρa, k, r, ρb, ρc, k1, k2, k3, k4, k5⟩ := hs s y s' ρ hr e1
    obtain ⟨ρ', k6, k7⟩ := tie_in_t t body Rel hs ys s' s1 ρc e2 k5
    refine ⟨ρ', ?_, k7⟩
    rw [List.map_cons]
    unfold tieIn
    have kk : dFr fk ρa = some (ek k, ρc) := by
      exact ev_fr k2 k3
    simp only [k1, kk, tieS_map t k4, k6]
theorem tie_out_t {h h2 : Fg} {pre : En → Option En} {fi2 : Fi} {fk : Fe} (body : List κ → α → Option (List κ)) (Rel : En → Prop)
    (hs : ∀ s x s' ρ, Rel ρ → body s x = some s' → ∃ ρa ρb ys ρc ρd, h (ea x) ρ = some ρa ∧ pre ρa = some ρb ∧ fi2 ρb = some (ys, ρc) ∧ tieIn h2 fk ys (s.map ek) ρc = some (s'.map ek, ρd) ∧ Rel ρd) :
    ∀ (xs : List α) (s s1 : List κ) (ρ : En), forN body xs s = some s1 → Rel ρ → ∃ ρ', tieOut h pre fi2 h2 fk (xs.map ea) (s.map ek) ρ = some (s1.map ek, ρ') ∧ Rel ρ'
  | [], s, s1, ρ, e, hr => by
    cases e
    exact ⟨ρ, rfl, hr⟩
  | y :: ys, s, s1, ρ, e, hr => by
    obtain ⟨s', e1, e2⟩ := bnd e
    obtain ⟨ρa, ρb, zs, ρc, ρd, k1, k2, k3, k4, k5⟩ := hs s y s' ρ hr e1
    obtain ⟨ρ', k6, k7⟩ := tie_out_t body Rel hs ys s' s1 ρd e2 k5
    refine ⟨ρ', ?_, k7⟩
    rw [List.map_cons]
    unfold tieOut
    simp only [k1, k2, k3, k4, k6]
theorem pre_asg {r : Nat} {f : Fe} {ρ ρ1 ρ2 : En} {z : Sl} {d : D} (hf : f ρ = some (z, ρ1)) (hq : fr ρ1 z = some (d, ρ2)) (hn : kNR ρ2[r]? = true) : preA r f ρ = some (ρ2.set r (.fz d)) := by
  unfold preA
  simp only [ev_fr hf hq]
  rw [if_pos (by rw [notRf_e]; exact hn)]
theorem run_ties {F : Nat} {fi fi2 : Fi} {h h2 : Fg} {pre : En → Option En} {fk : Fe} {body : List κ → α → Option (List κ)} {xs : List α} {ρ ρ1 : En} {r : List κ} (hn : kNR ρ[F]? = true) (hi : fi (ρ.set F .un) = some (xs.map ea, ρ1)) (Rel : En → Prop) (h0 : Rel ρ1)
    (hs : ∀ s x s' ρ, Rel ρ → body s x = some s' → ∃ ρa ρb ys ρc ρd, h (ea x) ρ = some ρa ∧ pre ρa = some ρb ∧ fi2 ρb = some (ys, ρc) ∧ tieIn h2 fk ys (s.map ek) ρc = some (s'.map ek, ρd) ∧ Rel ρd) (E : forN body xs [] = some r) :
    Run (bTies F fi h pre fi2 h2 fk) ρ (RetQ (fun r => .ow (.l (r.map ek))) r) := by
  obtain ⟨ρ', e1, e2⟩ := tie_out_t body Rel hs xs [] r ρ1 E h0
  rw [List.map_nil] at e1
  refine ⟨.rt (.ow (.l (r.map ek))), ρ', ?_, rfl⟩
  unfold bTies
  rw [if_pos (by rw [notRf_e]; exact hn)]
  simp only [hi, e1]
/-! ### near -/
def nearI (acc : List (List α)) (i : Int) (d : α) : Option (List (List α)) := (ixN acc.length i).bind fun j => (acc[j]?).bind fun ys => if ys.length ≤ lim then some (acc.set j (ys ++ [d])) else none
theorem nearAt_map {acc acc' : List (List α)} {i : Int} {d : α} (E : nearI acc i d = some acc') : nearAt i (ea d) (acc.map fun ys => ys.map ea) = some (acc'.map fun ys => ys.map ea) := by
  obtain ⟨j, e1, e2⟩ := bnd E
  obtain ⟨ys, e3, e4⟩ := bnd e2
  split at e4
  · rename_i hl
    cases e4
    unfold nearAt
    simp only [List.length_map, e1, List.getElem?_map, e3, Option.map_some]
    rw [if_pos hl, List.map_set, List.map_append]
    rfl
  · cases e4
theorem near_st {fk f : Fe} {ρ ρ1 ρ2 ρ3 : En} {rk r : Sl} {i : Int} {d : α} {acc acc' : List (List α)} (hk : fk ρ = some (rk, ρ1)) (hd : rd ρ1 rk = some (.int i)) (hf : f ρ1 = some (r, ρ2)) (hq : fr ρ2 r = some (ea d, ρ3)) (E : nearI acc i d = some acc') :
    nearS fk f (acc.map fun ys => ys.map ea) ρ = some (acc'.map fun ys => ys.map ea, ρ3) := by
  unfold nearS
  have q : dFr f ρ1 = some (ea d, ρ3) := by
    exact ev_fr hf hq
  simp only [hk, hd, q, nearAt_map E]
theorem near_l {h : Fg} {k1 f1 k2 f2 : Fe} (body : List (List α) → β → Option (List (List α))) (Rel : En → Prop)
    (hs : ∀ s x s' ρ, Rel ρ → body s x = some s' → ∃ ρa s1 ρb ρc, h (eb x) ρ = some ρa ∧ nearS k1 f1 (s.map fun ys => ys.map ea) ρa = some (s1, ρb) ∧ nearS k2 f2 s1 ρb = some (s'.map fun ys => ys.map ea, ρc) ∧ Rel ρc) :
    ∀ (xs : List β) (s s1 : List (List α)) (ρ : En), forN body xs s = some s1 → Rel ρ → ∃ ρ', nearL h k1 f1 k2 f2 (xs.map eb) (s.map fun ys => ys.map ea) ρ = some (s1.map fun ys => ys.map ea, ρ') ∧ Rel ρ'
  | [], s, s1, ρ, e, hr => by
    cases e
    exact ⟨ρ, rfl, hr⟩
  | y :: ys, s, s1, ρ, e, hr => by
    obtain ⟨s', e1, e2⟩ := bnd e
    obtain ⟨ρa, sa, ρb, ρc, k1', k2', k3', k4'⟩ := hs s y s' ρ hr e1
    obtain ⟨ρ', k6, k7⟩ := near_l body Rel hs ys s' s1 ρc e2 k4'
    refine ⟨ρ', ?_, k7⟩
    rw [List.map_cons]
    unfold nearL
    simp only [k1', k2', k3', k6]
theorem run_near {N : Nat} {fl : Fe} {fi : Fi} {h : Fg} {k1 f1 k2 f2 : Fe} {B : Fs} {Q : Fl → En → Prop} {body : List (List α) → β → Option (List (List α))} {zs : List D} {n : Nat} {xs : List β} {ρ ρ1 ρ2 : En} {r : List (List α)}
    (hl : fl ρ = some (.ow (.l zs), ρ1)) (hz : zs.length = n) (hn : kNR ρ1[N]? = true) (hi : fi (ρ1.set N .un) = some (xs.map eb, ρ2)) (Rel : En → Prop) (h0 : Rel ρ2)
    (hs : ∀ s x s' ρ, Rel ρ → body s x = some s' → ∃ ρa s1 ρb ρc, h (eb x) ρ = some ρa ∧ nearS k1 f1 (s.map fun ys => ys.map ea) ρa = some (s1, ρb) ∧ nearS k2 f2 s1 ρb = some (s'.map fun ys => ys.map ea, ρc) ∧ Rel ρc)
    (E : forN body xs (List.replicate n []) = some r) (k : ∀ ρ, Rel ρ → kNR ρ[N]? = true ∧ Run B (ρ.set N (.fz (.lst (r.map (eL ea))))) Q) : Run (bSeq (bNear N fl fi h k1 f1 k2 f2) B) ρ Q := by
  obtain ⟨ρ', e1, e2⟩ := near_l body Rel hs xs _ r ρ2 E h0
  obtain ⟨q1, q2⟩ := k ρ' e2
  refine run_seq (ρ1 := ρ'.set N (.fz (.lst (r.map (eL ea))))) ?_ q2
  unfold bNear
  rw [List.map_replicate, List.map_nil] at e1
  simp only [hl, hz]
  rw [if_pos (by rw [notRf_e]; exact hn)]
  simp only [hi, e1]
  rw [if_pos (by rw [notRf_e]; exact q1), List.map_map]
  rfl
end
/-! ### the keys of ties -/
def dTB (k : Int × Int × Bool) : D := .tup [.int k.1, .int k.2.1, .bl k.2.2]
def dTI (k : Int × Int × Int) : D := .tup [.int k.1, .int k.2.1, .int k.2.2]
theorem tkB : TK (e3 D.int D.int D.bl) (fun k => [Leaf.num k.1, Leaf.num k.2.1, Leaf.num (if k.2.2 = true then 1 else 0)]) :=
  ⟨fun k => rfl, fun a b h => by
    obtain ⟨a1, a2, a3⟩ := a
    obtain ⟨b1, b2, b3⟩ := b
    cases a3 <;> cases b3 <;> simp_all⟩
theorem tkI : TK (e3 D.int D.int D.int) (fun k => [Leaf.num k.1, Leaf.num k.2.1, Leaf.num k.2.2]) :=
  ⟨fun k => rfl, fun a b h => by
    obtain ⟨a1, a2, a3⟩ := a
    obtain ⟨b1, b2, b3⟩ := b
    simp_all⟩
end DL
set_option Elab.async false
set_option linter.all false
set_option maxRecDepth 100000
set_option maxHeartbeats 2000000
namespace DL
open PySem PySem.Spec L2
/-! typed: dicts that stay, d.get(k, x), zip -/
section
variable {κ ν α β : Type} [DecidableEq κ] {ek : κ → Key} {ev : ν → D}
/-- a dict that stays, as a datum -/
def dkOf (ek : κ → Key) (ev : ν → D) (kvs : List (κ × ν)) : D := .dk (kvs.map fun p => ek p.1) (kvs.map fun p => ev p.2)
theorem dkOf_map (kvs : List (κ × ν)) : D.dk ((mapKV ek ev kvs).map (·.1)) ((mapKV ek ev kvs).map (·.2)) = dkOf ek ev kvs := by
  unfold dkOf mapKV
  rw [List.map_map, List.map_map]
  rfl
theorem dfr_k {f : Fe} {ρ ρ1 : En} {kvs : List (κ × ν)} (h : f ρ = some (.ow (.k (mapKV ek ev kvs)), ρ1)) : dFr f ρ = some (dkOf ek ev kvs, ρ1) :=
  ev_frK h rfl (by show some (D.dk _ _, ρ1) = _; rw [dkOf_map])
theorem ar_frD {f : Fe} {g : Fa} {ρ ρ1 ρ2 : En} {d : D} {rs : List Sl} (h : dFr f ρ = some (d, ρ1)) (t : g ρ1 = some (rs, ρ2)) : aFr f g ρ = some (.fz d :: rs, ρ2) := by
  unfold aFr
  simp only [h, t]
theorem ev_fzK {f : Fe} {ρ ρ1 : En} {kvs : List (κ × ν)} (h : f ρ = some (.ow (.k (mapKV ek ev kvs)), ρ1)) : eFz f ρ = some (.fz (dkOf ek ev kvs), ρ1) := by
  unfold eFz
  rw [dfr_k h]
theorem ev_fzz {f : Fe} {ρ ρ1 ρ2 : En} {r : Sl} {d : D} (h : f ρ = some (r, ρ1)) (q : fr ρ1 r = some (d, ρ2)) : eFz f ρ = some (.fz d, ρ2) := by
  unfold eFz
  rw [ev_fr h q]
theorem zip_maps {γ δ : Type} (f : α → γ) (g : α → δ) : ∀ l : List α, (l.map f).zip (l.map g) = l.map fun x => (f x, g x)
  | [] => rfl
  | x :: l => by rw [List.map_cons, List.map_cons, List.zip_cons_cons, zip_maps f g l]; rfl
theorem dkGet_map {f : κ → D} (hf : ∀ k, kOf (f k) = some (ek k)) (hi : ∀ a b, ek a = ek b → a = b) (kvs : List (κ × ν)) (k : κ) : dkGet (dkOf ek ev kvs) (f k) = some ((getK kvs k).map ev) := by
  unfold dkOf
  show (kOf (f k)).map _ = _
  rw [hf, Option.map_some, zip_maps]
  exact congrArg some (valD_map hi kvs k)
theorem ev_dgF {fo fk : Fe} {ρ ρ1 ρ2 : En} {ra rk : Sl} {f : κ → D} {kvs : List (κ × ν)} {k : κ} {v : ν} (hf : ∀ k, kOf (f k) = some (ek k)) (hi : ∀ a b, ek a = ek b → a = b) (E : getK kvs k = some v) (ho : fo ρ = some (ra, ρ1)) (hk : fk ρ1 = some (rk, ρ2))
    (h1 : rd ρ2 ra = some (dkOf ek ev kvs)) (h2 : rd ρ2 rk = some (f k)) : dDgF fo fk ρ = some (.fz (ev v), ρ2) := by
  unfold dDgF
  simp only [ho, hk, h1, h2, dkGet_map hf hi, E, Option.map_some]
theorem ev_hasF {neg : Bool} {fo fk : Fe} {ρ ρ1 ρ2 : En} {ra rk : Sl} {f : κ → D} {kvs : List (κ × ν)} {k : κ} (hf : ∀ k, kOf (f k) = some (ek k)) (hi : ∀ a b, ek a = ek b → a = b) (hk : fk ρ = some (rk, ρ1)) (ho : fo ρ1 = some (ra, ρ2))
    (h1 : rd ρ2 ra = some (dkOf ek ev kvs)) (h2 : rd ρ2 rk = some (f k)) : dDinF neg fk fo ρ = some (.fz (.bl (neg ^^ hasK kvs k)), ρ2) := by
  unfold dDinF
  simp only [ho, hk, h1, h2, dkGet_map hf hi, Option.isSome_map, has_get]
theorem ev_get2 {i : Nat} {fk fx : Fe} {ρ ρ1 ρ2 ρ3 : En} {rk r : Sl} {f : κ → D} {kvs : List (κ × ν)} {k : κ} {x : ν} (hf : ∀ k, kOf (f k) = some (ek k)) (hi : ∀ a b, ek a = ek b → a = b) {kvs0 : List (Key × D)} (h0 : heldM ρ[i]? = some (.k kvs0)) (hk : fk ρ = some (rk, ρ1)) (hx : fx ρ1 = some (r, ρ2)) (hq : fr ρ2 r = some (ev x, ρ3))
    (hd : rd ρ3 rk = some (f k)) (hm : heldM ρ3[i]? = some (.k (mapKV ek ev kvs))) : dGet2 i fk fx ρ = some (.fz (ev ((getK kvs k).getD x)), ρ3) := by
  unfold dGet2
  simp only [h0, hk, ev_fr hx hq, hd, hm, mget_k hf hi]
  cases getK kvs k <;> rfl
/-! zip -/
def zipT (xs : List α) (ys : List β) : List (α × β) := xs.zip ys
variable {ea : α → D} {eb : β → D}
theorem zipD_map (xs : List α) (ys : List β) : zipD (xs.map ea) (ys.map eb) = (zipT xs ys).map (eP ea eb) := by
  unfold zipD zipT
  rw [List.zip_map, List.map_map]
  rfl
theorem it_zipVV {fa : Fa} {ρ ρ1 : En} {xs : List α} {ys : List β} (h : fa ρ = some ([.fz (.tup (xs.map ea)), .fz (.tup (ys.map eb))], ρ1)) : iZipD fa ρ = some ((zipT xs ys).map (eP ea eb), ρ1) := by
  unfold iZipD; simp only [h, seqD]; rw [zipD_map]
theorem it_zipLL {fa : Fa} {ρ ρ1 : En} {xs : List α} {ys : List β} (h : fa ρ = some ([.fz (.lst (xs.map ea)), .fz (.lst (ys.map eb))], ρ1)) : iZipD fa ρ = some ((zipT xs ys).map (eP ea eb), ρ1) := by
  unfold iZipD; simp only [h, seqD]; rw [zipD_map]
theorem it_zipVL {fa : Fa} {ρ ρ1 : En} {xs : List α} {ys : List β} (h : fa ρ = some ([.fz (.tup (xs.map ea)), .fz (.lst (ys.map eb))], ρ1)) : iZipD fa ρ = some ((zipT xs ys).map (eP ea eb), ρ1) := by
  unfold iZipD; simp only [h, seqD]; rw [zipD_map]
theorem it_zipLV {fa : Fa} {ρ ρ1 : En} {xs : List α} {ys : List β} (h : fa ρ = some ([.fz (.lst (xs.map ea)), .fz (.tup (ys.map eb))], ρ1)) : iZipD fa ρ = some ((zipT xs ys).map (eP ea eb), ρ1) := by
  unfold iZipD; simp only [h, seqD]; rw [zipD_map]
theorem it_keysI {f : Fe} {ρ ρ1 ρ2 : En} {r : Sl} {kvs : List (Int × ν)} (h : f ρ = some (r, ρ1)) (q : fr ρ1 r = some (dkOf kI ev kvs, ρ2)) : iKeysF f ρ = some ((kvs.map (·.1)).map D.int, ρ2) := by
  unfold iKeysF
  rw [ev_fr h q]
  unfold dkOf
  simp only [List.length_map, ↓reduceIte, List.map_map]
  rfl
end
/-! the kind of a thing: its name, or name and rest -/
inductive Kd where
  | n (s : Str) | p (s : Str) (i : Int)
  deriving DecidableEq
def Kd.d : Kd → D
  | .n s => .str s
  | .p s i => .tup [.str s, .int i]
/-! a result that is None, or a new list -/
def zO {α : Type} (ea : α → D) : Option (List α) → Sl
  | none => .fz .non
  | some xs => .ow (.l (xs.map ea))
theorem ev_fzO {α : Type} {ea : α → D} {f : Fe} {ρ ρ1 : En} {r : Option (List α)} (h : f ρ = some (zO ea r, ρ1)) : eFz f ρ = some (.fz (eO (eL ea) r), ρ1) := by
  have : dFr f ρ = some (eO (eL ea) r, ρ1) := by
    cases r with
    | none => exact ev_fr h rfl
    | some xs => exact ev_fr h rfl
  unfold eFz
  rw [this]
/-! a rule with another bent -/
def Rule.initD : Rule → List D
  | .swap k _ => [.str "swap", .int k]
  | .over h w _ => [.str "over", .int h, .int w]
  | .under h w _ => [.str "under", .int h, .int w]
def Rule.withB : Rule → Int → Rule
  | .swap k _, c => .swap k c
  | .over h w _, c => .over h w c
  | .under h w _, c => .under h w c
theorem r_init (r : Rule) : gSl r.d none (some (-1)) = some (.fz (.tup r.initD)) := by cases r <;> rfl
theorem r_cat (r : Rule) (c : Int) : gAdd (.tup r.initD) (.tup [.int c]) = some (.fz (r.withB c).d) := by cases r <;> rfl
theorem res_zO {α : Type} {ea : α → D} {ρ : En} : ∀ o : Option (List α), resolve ρ (zO ea o) = some (zO ea o)
  | none => rfl
  | some _ => rfl
theorem isRes_zO {α : Type} {ea : α → D} : ∀ o : Option (List α), isRes (zO ea o) = true
  | none => rfl
  | some _ => rfl
theorem lpK_nx {S R T : Type} {s : S} {k : S → Option T} {m : R → Option T} {r : T} (h : lpK (Lp.nx s) k m = some r) : k s = some r := h
/-! an int that may be None against an int -/
theorem d_eqOI (o : Option Int) (k : Int) : gEq (eO D.int o) (.int k) = some (.fz (.bl (decide (o = some k)))) := by
  cases o with
  | none => rfl
  | some i =>
    show some (Sl.fz (.bl (decide (i = k)))) = _
    by_cases e : i = k
    · rw [decide_eq_true e, decide_eq_true (congrArg some e)]
    · rw [decide_eq_false e, decide_eq_false fun h => e (Option.some.inj h)]
theorem d_neOI (o : Option Int) (k : Int) : gNe (eO D.int o) (.int k) = some (.fz (.bl (!decide (o = some k)))) := by
  cases o with
  | none => rfl
  | some i =>
    show some (Sl.fz (.bl (!decide (i = k)))) = _
    by_cases e : i = k
    · rw [decide_eq_true e, decide_eq_true (congrArg some e)]
    · rw [decide_eq_false e, decide_eq_false fun h => e (Option.some.inj h)]
/-! a part of a rule by a number that is worked out -/
def Rule.at (r : Rule) (i : Int) : Option Int := if i = 1 then some r.n1 else if i = 2 then some r.n2 else if i = 3 then (match r with
  | .swap _ _ => none
  | .over _ _ c => some c
  | .under _ _ c => some c) else none
theorem r_ixv {r : Rule} {i v : Int} (h : r.at i = some v) : gIx r.d (.int i) = some (.fz (.int v)) := by
  unfold Rule.at at h
  split at h
  · rename_i e
    subst e
    cases h
    exact r_ix1 r
  · split at h
    · rename_i e
      subst e
      cases h
      exact r_ix2 r
    · split at h
      · rename_i e
        subst e
        cases r <;> first | (cases h; rfl) | cases h
      · cases h
/-! a test of two, the second of which may let lists stay -/
theorem te_and0 {t u : Ft} {ρ : En} (ha : t ρ = some (false, ρ)) : dAnd t u ρ = some (false, ρ) := by
  unfold dAnd
  simp only [ha]
theorem te_and1 {t u : Ft} {ρ ρ1 : En} {c : Bool} (ha : t ρ = some (true, ρ)) (hb : u ρ = some (c, ρ1)) : dAnd t u ρ = some (c, ρ1) := by
  unfold dAnd
  simp only [ha, hb]
theorem run_ifE {A B C : Fs} {t : Ft} {ρ ρ1 : En} {c : Bool} {Q : Fl → En → Prop} (ht : t ρ = some (c, ρ1)) (h1 : c = true → Run (bSeq A C) ρ1 Q) (h2 : c = false → Run (bSeq B C) ρ1 Q) : Run (bSeq (bIf t A B) C) ρ Q := by
  have e : bSeq (bIf t A B) C ρ = bSeq (cond c A B) C ρ1 := by
    unfold bSeq bIf
    cases c <;> simp only [ht] <;> rfl
  cases c with
  | true =>
    obtain ⟨fl, ρ', e1, q⟩ := h1 rfl
    exact ⟨fl, ρ', e.trans e1, q⟩
  | false =>
    obtain ⟨fl, ρ', e1, q⟩ := h2 rfl
    exact ⟨fl, ρ', e.trans e1, q⟩
end DL
set_option Elab.async false
set_option linter.all false
set_option maxRecDepth 100000
set_option maxHeartbeats 1000000
/-! Plain tools for the typed functions -/
namespace DL
open PySem PySem.Spec L2
section
variable {α β γ S R : Type}
theorem bs {a : α} {f : α → Option β} : (some a).bind f = f a := id rfl
theorem ct {a b : α} : cond true a b = a := id rfl
theorem cf {a b : α} : cond false a b = b := id rfl
theorem ixI_nat {xs : List α} {j : Nat} {v : α} (h : xs[j]? = some v) : ixI xs (j : Nat) = some v := atI_nat h
theorem ixI_of {xs : List α} {i : Int} {v : α} (h0 : 0 ≤ i) (h : xs[i.toNat]? = some v) : ixI xs i = some v := by
  have e : i = ((i.toNat : Nat) : Int) := by omega
  rw [e]
  exact ixI_nat h
theorem ixI_lt {xs : List α} {i : Int} (h0 : 0 ≤ i) (h : i < xs.length) : ∃ v, ixI xs i = some v ∧ v ∈ xs ∧ xs[i.toNat]? = some v := by
  have hl : i.toNat < xs.length := by omega
  exact ⟨xs[i.toNat], ixI_of h0 (List.getElem?_eq_getElem hl), List.getElem_mem hl, List.getElem?_eq_getElem hl⟩
theorem ixI_mem {xs : List α} {i : Int} {v : α} (h : ixI xs i = some v) : v ∈ xs := by
  unfold ixI atI at h
  obtain ⟨j, _, h⟩ := bnd h
  exact List.mem_of_getElem? h
theorem ixI_0 (a : α) (l : List α) : ixI (a :: l) 0 = some a := ixI_nat (j := 0) rfl
theorem ixI_1 (a b : α) (l : List α) : ixI (a :: b :: l) 1 = some b := ixI_nat (j := 1) rfl
theorem ixI_2 (a b c : α) (l : List α) : ixI (a :: b :: c :: l) 2 = some c := ixI_nat (j := 2) rfl
theorem ixI_3 (a b c d : α) (l : List α) : ixI (a :: b :: c :: d :: l) 3 = some d := ixI_nat (j := 3) rfl
theorem setL_of {xs : List α} {i : Int} {v : α} (h0 : 0 ≤ i) (h : i < xs.length) : setL xs i v = some (xs.set i.toNat v) := by
  unfold setL ixN
  rw [if_pos h0, if_pos h]
  rfl
theorem mulI_ok {i j : Int} {a b : Nat} (ha : i.natAbs < 2 ^ a) (hb : j.natAbs < 2 ^ b) (h0 : 0 < a) (h1 : 0 < b) (h : a + b ≤ 1000000) : mulI i j = some (i * j) := by
  have := wide_mul ha hb h0 h1 h
  unfold CMulW at this
  unfold mulI
  rw [if_pos this]
theorem mulI_s {i j : Int} (ha : i.natAbs < 2 ^ 64) (hb : j.natAbs < 2 ^ 64) : mulI i j = some (i * j) := mulI_ok ha hb (by decide) (by decide) (by decide)
theorem divI_ok {i j : Int} (h0 : 0 < j) (h : j.natAbs.log2 < 9000) : divI i j = some (i / j) := by
  unfold divI
  rw [if_pos ⟨h0, h⟩]
theorem log_s {m : Int} (h0 : 0 < m) (h : m < 2 ^ 8000) : m.natAbs.log2 < 9000 := by
  have : m.natAbs < 2 ^ 8000 := by omega
  exact Nat.lt_of_lt_of_le (PySem.Flt.log2_lt_of (by decide) this) (by decide)
theorem divI_s {i j : Int} (h0 : 0 < j) (h : j < 2 ^ 64) : divI i j = some (i / j) := divI_ok h0 (log_s h0 (Int.lt_of_lt_of_le h (by decide)))
theorem modI_ok {i j : Int} (h0 : 0 < j) : modI i j = some (i % j) := by
  unfold modI
  rw [if_pos h0]
theorem powI_ok {i j : Int} {n : Nat} (h0 : 0 ≤ j) (h : i.natAbs < 2 ^ n) (hn : 0 < n) (hb : (n : Int) * j ≤ 2 ^ 27) : powI i j = some (i ^ j.toNat) := by
  have h1 := intBits_le h hn
  have h2 : (Builtin.Int.intBits i : Int) * j ≤ 2 ^ 27 := Int.le_trans (Int.mul_le_mul_of_nonneg_right (by omega) h0) hb
  unfold powI
  rw [if_pos ⟨h0, h2⟩]
theorem pow10_ok (n : Nat) (h : n ≤ 60) : powI 10 (n : Nat) = some (10 ^ n) := by
  have := powI_ok (i := 10) (j := (n : Nat)) (n := 4) (by omega) (by decide) (by decide) (by omega)
  simpa using this
theorem catL_ok {xs ys : List α} (h : xs.length + ys.length ≤ 1000000) : catL xs ys = some (xs ++ ys) := by
  unfold catL
  rw [if_pos (show _ ≤ lim from h)]
theorem appL_ok {xs : List α} {x : α} (h : xs.length ≤ 1000000) : appL xs x = some (xs ++ [x]) := by
  unfold appL
  rw [if_pos (show _ ≤ lim from h)]
theorem catS_ok {a b : Str} (h : a.length + b.length ≤ 1000000) : catS a b = some (a ++ b) := by
  unfold catS
  rw [if_pos (show _ ≤ lim from h)]
theorem repL_ok {xs : List α} {j : Int} (h0 : 0 ≤ j) (h1 : j ≤ 1000) (h2 : xs.length ≤ 1000) : repL xs j = some (List.replicate j.toNat xs).flatten := by
  unfold repL
  rw [if_pos ⟨h0, h1, h2⟩]
theorem popAtL_of {xs : List α} {i : Int} (h0 : 0 ≤ i) (h : i < xs.length) (hl : xs.length ≤ 1000000) : ∃ v, popAtL xs i = some (v, xs.eraseIdx i.toNat) ∧ xs[i.toNat]? = some v := by
  have hi : i.toNat < xs.length := by omega
  have hs : seqIndex? i xs.length = some i.toNat := by
    unfold seqIndex?
    simp
    omega
  refine ⟨xs[i.toNat], ?_, List.getElem?_eq_getElem hi⟩
  unfold popAtL
  rw [if_pos ⟨by omega, by omega⟩, hs]
  show (xs[i.toNat]?).map _ = _
  rw [List.getElem?_eq_getElem hi]
  rfl
/-! ranges -/
theorem rngO_ok {a b : Int} (ha : a.natAbs ≤ 10 ^ 18) (hb : b.natAbs ≤ 10 ^ 18) : rngO a b = some (rangeI a b) := by
  unfold rngO
  rw [if_pos ⟨by omega, by omega, by omega, by omega⟩]
theorem rngL_ok {a b : Int} (ha : a.natAbs ≤ 1000000) (hb : b.natAbs ≤ 1000000) : rngL a b = some (rangeI a b) := by
  unfold rngL
  rw [if_pos ⟨by omega, by omega, by omega, by omega⟩]
theorem mem_rangeI {a b x : Int} : x ∈ rangeI a b ↔ a ≤ x ∧ x < b := by
  unfold rangeI
  rw [List.mem_map]
  constructor
  · rintro ⟨i, hi, rfl⟩
    rw [List.mem_range] at hi
    omega
  · intro ⟨h1, h2⟩
    exact ⟨(x - a).toNat, List.mem_range.mpr (by omega), by omega⟩
theorem rangeI_len (a b : Int) : (rangeI a b).length = (b - a).toNat := by
  unfold rangeI
  rw [List.length_map, List.length_range]
theorem rangeI_get {a b : Int} {i : Nat} {x : Int} (h : (rangeI a b)[i]? = some x) : x = a + (i : Nat) ∧ i < (b - a).toNat := by
  unfold rangeI at h
  rw [List.getElem?_map] at h
  cases q : (List.range (b - a).toNat)[i]? with
  | none => rw [q] at h; cases h
  | some j =>
    rw [q] at h
    cases h
    have hi := (List.getElem?_eq_some_iff.mp q).1
    rw [List.length_range] at hi
    rw [List.getElem?_range hi] at q
    cases q
    exact ⟨rfl, hi⟩
theorem rangeI_at {a b : Int} {i : Nat} (h : (i : Int) < b - a) : (rangeI a b)[i]? = some (a + (i : Nat)) := by
  unfold rangeI
  rw [List.getElem?_map, List.getElem?_range (by omega)]
  rfl
theorem rangeI_nat (n : Nat) : rangeI 0 (n : Nat) = (List.range n).map fun i => ((i : Nat) : Int) := by
  unfold rangeI
  rw [Int.sub_zero, Int.toNat_natCast]
  exact List.map_congr_left fun i _ => by omega
theorem rangeI_nil {a b : Int} (h : b ≤ a) : rangeI a b = [] := by
  unfold rangeI
  rw [Int.toNat_of_nonpos (by omega)]
  rfl
theorem rangeI_cons {a b : Int} (h : a < b) : rangeI a b = a :: rangeI (a + 1) b := by
  unfold rangeI
  rw [show (b - a).toNat = (b - (a + 1)).toNat + 1 by omega, List.range_succ_eq_map, List.map_cons, List.map_map]
  congr 1
  · show a + ((0 : Nat) : Int) = a
    omega
  · refine List.map_congr_left fun i _ => ?_
    show a + (((i + 1 : Nat)) : Int) = a + 1 + (i : Nat)
    omega
theorem rangeI_snoc {a b : Int} (h : a ≤ b) : rangeI a (b + 1) = rangeI a b ++ [b] := by
  unfold rangeI
  rw [show (b + 1 - a).toNat = (b - a).toNat + 1 by omega, List.range_succ, List.map_append]
  congr 1
  show [a + (((b - a).toNat : Nat) : Int)] = [b]
  rw [show a + (((b - a).toNat : Nat) : Int) = b by omega]
theorem nodup_map {f : α → β} {l : List α} (h : ∀ x ∈ l, ∀ y ∈ l, f x = f y → x = y) (d : l.Nodup) : (l.map f).Nodup := by
  rw [List.Nodup, List.pairwise_map]
  exact List.Pairwise.imp_of_mem (fun {a b} ha hb n e => n (h a ha b hb e)) d
theorem rangeI_nodup (a b : Int) : (rangeI a b).Nodup := by
  unfold rangeI
  exact nodup_map (fun i _ j _ h => by omega) List.nodup_range
/-! comprehensions -/
theorem mapR_ok {f : α → Option β} (g : α → β) : ∀ {xs : List α}, (∀ x ∈ xs, f x = some (g x)) → mapR f xs = some (xs.map g)
  | [], _ => rfl
  | x :: xs, h => by
    unfold mapR
    rw [h x (by simp), bs, mapR_ok g fun y hy => h y (by simp [hy])]
    rfl
theorem mapR_mem {f : α → Option β} : ∀ {xs : List α} {ys : List β}, mapR f xs = some ys → ys.length = xs.length ∧ ∀ (i : Nat) x, xs[i]? = some x → ∃ y, f x = some y ∧ ys[i]? = some y
  | [], _, h => by cases h; exact ⟨rfl, fun i x h => by simp at h⟩
  | x :: xs, ys, h => by
    obtain ⟨y, e1, h⟩ := bnd h
    obtain ⟨zs, e2, h⟩ := bnd h
    cases h
    obtain ⟨h1, h2⟩ := mapR_mem e2
    refine ⟨by simp [h1], fun i z hz => ?_⟩
    cases i with
    | zero => cases hz; exact ⟨y, e1, rfl⟩
    | succ i => exact h2 i z (by simpa using hz)
theorem mapO_ok {f : α → Option β} (g : α → β) {xs : List α} (h : ∀ x ∈ xs, f x = some (g x)) (hl : xs.length ≤ 16000000) : mapO f xs = some (xs.map g) := by
  unfold mapO
  rw [if_pos (show xs.length ≤ big from hl), mapR_ok g h]
theorem mapB_ok {f : α → β} {xs : List α} (hl : xs.length ≤ 16000000) : mapB f xs = some (xs.map f) := by
  unfold mapB
  rw [if_pos (show xs.length ≤ big from hl)]
theorem filR_ok {p : α → Option Bool} {f : α → Option β} (q : α → Bool) (g : α → β) : ∀ {xs : List α}, (∀ x ∈ xs, p x = some (q x)) → (∀ x ∈ xs, q x = true → f x = some (g x)) → filR p f xs = some ((xs.filter q).map g)
  | [], _, _ => rfl
  | x :: xs, h1, h2 => by
    unfold filR
    have ih := filR_ok q g (xs := xs) (fun y hy => h1 y (by simp [hy])) (fun y hy => h2 y (by simp [hy]))
    rw [h1 x (by simp), bs]
    cases e : q x with
    | true =>
      rw [cond_true, h2 x (by simp) e, bs, ih, List.filter_cons_of_pos e]
      rfl
    | false => rw [cond_false, ih, List.filter_cons_of_neg (by simp [e])]
theorem filO_ok {p : α → Option Bool} {f : α → Option β} (q : α → Bool) (g : α → β) {xs : List α} (h1 : ∀ x ∈ xs, p x = some (q x)) (h2 : ∀ x ∈ xs, q x = true → f x = some (g x)) (hl : xs.length ≤ 16000000) : filO p f xs = some ((xs.filter q).map g) := by
  unfold filO
  rw [if_pos (show xs.length ≤ big from hl), filR_ok q g h1 h2]
theorem flatR_ok {f : α → Option (List β)} (g : α → List β) : ∀ {xs : List α}, (∀ x ∈ xs, f x = some (g x)) → flatR f xs = some (xs.flatMap g)
  | [], _ => rfl
  | x :: xs, h => by
    unfold flatR
    rw [h x (by simp), bs, flatR_ok g fun y hy => h y (by simp [hy])]
    rfl
theorem flatO_ok {f : α → Option (List β)} (g : α → List β) {xs : List α} (h : ∀ x ∈ xs, f x = some (g x)) (hl : (xs.flatMap g).length ≤ 16000000) : flatO f xs = some (xs.flatMap g) := by
  unfold flatO
  rw [flatR_ok g h, bs, if_pos (show _ ≤ big from hl)]
/-- a walk that carries something along: each item's own word P, the budget growing by k a turn -/
theorem mapSR_inv {f : S → α → Option (β × S)} (I : Nat → S → Prop) (P : α → β → Prop) (k : Nat) : ∀ {xs : List α} {n : Nat} {s : S}, (∀ n' s x, n ≤ n' → n' ≤ n + k * xs.length → x ∈ xs → I n' s → ∃ y s', f s x = some (y, s') ∧ P x y ∧ I (n' + k) s') → I n s →
    ∃ ys s', mapSR f xs s = some (ys, s') ∧ ys.length = xs.length ∧ (∀ (i : Nat) x, xs[i]? = some x → ∃ y, ys[i]? = some y ∧ P x y) ∧ I (n + k * xs.length) s'
  | [], n, s, _, h => ⟨[], s, rfl, rfl, fun i x h => by simp at h, h⟩
  | x :: xs, n, s, hs, h => by
    have el : k * (x :: xs).length = k * xs.length + k := by rw [List.length_cons, Nat.mul_succ]
    obtain ⟨y, s', e1, e2, e3⟩ := hs n s x (Nat.le_refl _) (by omega) (by simp) h
    obtain ⟨ys, s'', e4, e5, e6, e7⟩ := mapSR_inv I P k (xs := xs) (n := n + k) (s := s') (fun n' s z h1 h2 hz hi => hs n' s z (by omega) (by omega) (by simp [hz]) hi) e3
    refine ⟨y :: ys, s'', ?_, by simp [e5], fun i z hz => ?_, ?_⟩
    · unfold mapSR
      rw [e1, bs, e4]
      rfl
    · cases i with
      | zero => cases hz; exact ⟨y, rfl, e2⟩
      | succ i => exact e6 i z (by simpa using hz)
    · rw [el, show n + (k * xs.length + k) = n + k + k * xs.length by omega]
      exact e7
theorem mapS_inv {f : S → α → Option (β × S)} (I : Nat → S → Prop) (P : α → β → Prop) (k : Nat) {xs : List α} {n : Nat} {s : S} (hs : ∀ n' s x, n ≤ n' → n' ≤ n + k * xs.length → x ∈ xs → I n' s → ∃ y s', f s x = some (y, s') ∧ P x y ∧ I (n' + k) s') (h : I n s) (hl : xs.length ≤ 16000000) :
    ∃ ys s', mapS f xs s = some (ys, s') ∧ ys.length = xs.length ∧ (∀ (i : Nat) x, xs[i]? = some x → ∃ y, ys[i]? = some y ∧ P x y) ∧ I (n + k * xs.length) s' := by
  unfold mapS
  rw [if_pos (show xs.length ≤ big from hl)]
  exact mapSR_inv I P k hs h
/-! loops -/
theorem forN_inv {b : S → α → Option S} (I : Nat → S → Prop) : ∀ {xs : List α} {n : Nat} {s : S}, (∀ i x s, xs[i]? = some x → I (n + i) s → ∃ s', b s x = some s' ∧ I (n + i + 1) s') → I n s → ∃ s', forN b xs s = some s' ∧ I (n + xs.length) s'
  | [], n, s, _, h => ⟨s, rfl, h⟩
  | x :: xs, n, s, hs, h => by
    obtain ⟨s', e1, e2⟩ := hs 0 x s rfl h
    obtain ⟨s'', e3, e4⟩ := forN_inv I (xs := xs) (n := n + 1) (s := s') (fun i y s hy hi => by
      have := hs (i + 1) y s (by simpa using hy) (by rwa [show n + (i + 1) = n + 1 + i by omega])
      rwa [show n + (i + 1) + 1 = n + 1 + i + 1 by omega] at this) e2
    refine ⟨s'', ?_, by rw [List.length_cons, show n + (xs.length + 1) = n + 1 + xs.length by omega]; exact e4⟩
    unfold forN
    rw [e1]
    exact e3
theorem forN_fold {b : S → α → Option S} (g : S → α → S) (P : S → Prop) : ∀ {xs : List α} {s : S}, (∀ s x, x ∈ xs → P s → b s x = some (g s x) ∧ P (g s x)) → P s → forN b xs s = some (xs.foldl g s) ∧ P (xs.foldl g s)
  | [], s, _, h => ⟨rfl, h⟩
  | x :: xs, s, hs, h => by
    obtain ⟨e1, e2⟩ := hs s x (by simp) h
    have := forN_fold g P (xs := xs) (s := g s x) (fun s y hy => hs s y (by simp [hy])) e2
    refine ⟨?_, this.2⟩
    unfold forN
    rw [e1]
    exact this.1
theorem forN_app {b : S → α → Option S} : ∀ (xs ys : List α) (s : S), forN b (xs ++ ys) s = (forN b xs s).bind (forN b ys)
  | [], ys, s => rfl
  | x :: xs, ys, s => by
    show (b s x).bind _ = ((b s x).bind _).bind _
    cases b s x with
    | none => rfl
    | some s' => exact forN_app xs ys s'
/-- a loop that adds to a list -/
theorem forN_add {b : List β → α → Option (List β)} (g : α → List β) : ∀ {xs : List α} {s : List β}, (∀ s x, x ∈ xs → b s x = some (s ++ g x)) → forN b xs s = some (s ++ xs.flatMap g)
  | [], s, _ => by show some s = some (s ++ []); rw [List.append_nil]
  | x :: xs, s, h => by
    unfold forN
    rw [h s x (by simp), bs, forN_add g fun s y hy => h s y (by simp [hy]), List.append_assoc]
    rfl
/-- .. as long as it stays below a bound -/
theorem forN_addB {b : List β → α → Option (List β)} (g : α → List β) (m : Nat) : ∀ {xs : List α} {s : List β}, (∀ s x, x ∈ xs → s.length + (g x).length ≤ m → b s x = some (s ++ g x)) → s.length + (xs.flatMap g).length ≤ m → forN b xs s = some (s ++ xs.flatMap g)
  | [], s, _, _ => by show some s = some (s ++ []); rw [List.append_nil]
  | x :: xs, s, h, hl => by
    rw [List.flatMap_cons, List.length_append] at hl
    unfold forN
    rw [h s x (by simp) (by omega), bs, forN_addB g m (fun s y hy => h s y (by simp [hy])) (by rw [List.length_append]; omega), List.append_assoc]
    rfl
theorem forE_all {b : S → α → Option (Lp S R)} (I : Nat → S → Prop) : ∀ {xs : List α} {n : Nat} {s : S}, (∀ i x s, xs[i]? = some x → I (n + i) s → ∃ s', b s x = some (.nx s') ∧ I (n + i + 1) s') → I n s → ∃ s', forE b xs s = some (.nx s') ∧ I (n + xs.length) s'
  | [], n, s, _, h => ⟨s, rfl, h⟩
  | x :: xs, n, s, hs, h => by
    obtain ⟨s', e1, e2⟩ := hs 0 x s rfl h
    obtain ⟨s'', e3, e4⟩ := forE_all I (xs := xs) (n := n + 1) (s := s') (fun i y s hy hi => by
      have := hs (i + 1) y s (by simpa using hy) (by rwa [show n + (i + 1) = n + 1 + i by omega])
      rwa [show n + (i + 1) + 1 = n + 1 + i + 1 by omega] at this) e2
    refine ⟨s'', ?_, by rw [List.length_cons, show n + (xs.length + 1) = n + 1 + xs.length by omega]; exact e4⟩
    unfold forE
    rw [e1]
    exact e3
theorem forN_then {b : S → α → Option S} {xs : List α} {s0 : S} {K : S → Option β} {r : Option β} (I : Nat → S → Prop) (h0 : I 0 s0) (hs : ∀ i x s, xs[i]? = some x → I i s → ∃ s', b s x = some s' ∧ I (i + 1) s') (hk : ∀ s, I xs.length s → K s = r) : (forN b xs s0).bind K = r := by
  obtain ⟨s', e, h⟩ := forN_inv I (xs := xs) (n := 0) (s := s0) (fun i x s hx hi => by rw [Nat.zero_add] at hi ⊢; exact hs i x s hx hi) h0
  rw [e, bs]
  exact hk s' (by rwa [Nat.zero_add] at h)
theorem forE_then {b : S → α → Option (Lp S R)} {xs : List α} {s0 : S} {k : S → Option β} {m : R → Option β} {r : Option β} (I : Nat → S → Prop) (h0 : I 0 s0) (hs : ∀ i x s, xs[i]? = some x → I i s → ∃ s', b s x = some (.nx s') ∧ I (i + 1) s') (hk : ∀ s, I xs.length s → k s = r) : ((forE b xs s0).bind fun e => lpK e k m) = r := by
  obtain ⟨s', e, h⟩ := forE_all I (xs := xs) (n := 0) (s := s0) (fun i x s hx hi => by rw [Nat.zero_add] at hi ⊢; exact hs i x s hx hi) h0
  rw [e, bs]
  exact hk s' (by rwa [Nat.zero_add] at h)
theorem forE_then' {b : Unit → α → Option (Lp Unit R)} {xs : List α} {k : Unit → Option β} {m : R → Option β} {r : Option β} (hs : ∀ x ∈ xs, b () x = some (.nx ())) (hk : k () = r) : ((forE b xs ()).bind fun e => lpK e k m) = r :=
  forE_then (fun _ _ => True) trivial (fun i x s hx _ => ⟨(), hs x (List.mem_of_getElem? hx), trivial⟩) fun s _ => hk
/-- nothing is carried -/
theorem forE_unit {b : Unit → α → Option (Lp Unit R)} {xs : List α} (h : ∀ x ∈ xs, b () x = some (.nx ())) : forE b xs () = some (.nx ()) := by
  obtain ⟨s', e, _⟩ := forE_all (b := b) (R := R) (fun _ _ => True) (xs := xs) (n := 0) (s := ()) (fun i x s hx _ => ⟨(), h x (List.mem_of_getElem? hx), trivial⟩) trivial
  exact e
theorem forN_unit {b : Unit → α → Option Unit} {xs : List α} (h : ∀ x ∈ xs, b () x = some ()) : forN b xs () = some () := by
  obtain ⟨s', e, _⟩ := forN_inv (b := b) (fun _ _ => True) (xs := xs) (n := 0) (s := ()) (fun i x s hx _ => ⟨(), h x (List.mem_of_getElem? hx), trivial⟩) trivial
  exact e
/-! dicts -/
variable {κ ν : Type} [DecidableEq κ]
theorem getK_nil (k : κ) : getK ([] : List (κ × ν)) k = none := rfl
theorem hasK_iff {kvs : List (κ × ν)} {k : κ} : hasK kvs k = true ↔ ∃ v, getK kvs k = some v := by
  rw [← has_get, Option.isSome_iff_exists]
theorem getK_put (kvs : List (κ × ν)) (k k' : κ) (v : ν) : getK (putK' kvs k v) k' = if k = k' then some v else getK kvs k' := by
  unfold putK'
  split
  · rename_i h
    induction kvs with
    | nil => cases h
    | cons p kvs ih =>
      unfold getK at ih ⊢
      rw [List.map_cons, List.find?_cons, List.find?_cons]
      by_cases e : p.1 = k
      · rw [if_pos e]
        by_cases e2 : k = k'
        · have e3 : p.1 = k' := e.trans e2
          simp [e2, e3]
        · rw [if_neg e2]
          have : decide (p.1 = k') = false := by rw [e]; simp [e2]
          rw [show decide ((p.1, v).1 = k') = false from this]
          first | rw [this] | skip
          show Option.map _ (List.find? _ (List.map _ kvs)) = _
          by_cases h2 : hasK kvs k = true
          · have := ih h2
            rw [if_neg e2] at this
            exact this
          · have hm : kvs.map (fun p => if p.1 = k then (p.1, v) else p) = kvs := by
              have hn : ∀ q ∈ kvs, ¬ q.1 = k := fun q hq e => h2 (List.any_eq_true.mpr ⟨q, hq, by simp [e]⟩)
              conv => rhs; rw [← List.map_id kvs]
              exact List.map_congr_left fun q hq => by rw [if_neg (hn q hq)]; rfl
            rw [hm]
      · rw [if_neg e]
        have h2 : hasK kvs k = true := by
          unfold hasK at h ⊢
          rw [List.any_cons] at h
          simpa [e] using h
        have := ih h2
        by_cases e2 : p.1 = k'
        · have : ¬ k = k' := fun z => e (e2.trans z.symm)
          simp [e2, this]
        · rw [show decide (p.1 = k') = false by simp [e2]]
          exact this
  · rename_i h
    unfold getK
    rw [List.find?_append]
    have hn : k = k' → kvs.find? (fun p => decide (p.1 = k')) = none := fun e => by
      rw [List.find?_eq_none]
      intro q hq z
      exact h (List.any_eq_true.mpr ⟨q, hq, by simpa [e] using z⟩)
    by_cases e : k = k'
    · rw [hn e, if_pos e]
      simp [e]
    · rw [if_neg e]
      cases q : kvs.find? (fun p => decide (p.1 = k')) with
      | some p => rfl
      | none => simp [e]
theorem hasK_put (kvs : List (κ × ν)) (k k' : κ) (v : ν) : hasK (putK' kvs k v) k' = (decide (k = k') || hasK kvs k') := by
  rw [← has_get, ← has_get, getK_put]
  by_cases e : k = k'
  · simp [e]
  · simp [e]
theorem putK_len (kvs : List (κ × ν)) (k : κ) (v : ν) : (putK' kvs k v).length ≤ kvs.length + 1 := by
  unfold putK'
  split
  · rw [List.length_map]; omega
  · rw [List.length_append]; simp
theorem putO_ok {kvs : List (κ × ν)} {k : κ} {v : ν} (h : kvs.length ≤ 1000000) : putO kvs k v = some (putK' kvs k v) := by
  unfold putO
  rw [if_pos (show _ ≤ lim from h)]
end
/-! == -/
theorem eqO_self {d : D} (h : d.ok = true) : eqO d d = some true := by
  unfold eqO
  rw [if_pos ⟨h, h⟩, eqv_self h]
theorem eqO_fit {x y : D} {n : Nat} (hx : Fit n x) (hy : Fit n y) (hn : n ≤ 64) : eqO x y = some (x.eqv y) := by
  unfold eqO
  rw [if_pos ⟨hx.ok hn, hy.ok hn⟩]
theorem ok_ints (xs : List Int) : (D.lst (xs.map D.int)).ok = true :=
  Fit.ok (n := 1) (.lst fun d hd => by obtain ⟨i, _, rfl⟩ := List.mem_map.mp hd; exact .int 0 i) (by decide)
theorem inO_int (x : Int) (ys : List Int) : inO (.int x) (ys.map D.int) = some (decide (x ∈ ys)) := by
  unfold inO
  rw [if_pos ⟨ok_int x, ok_ints ys⟩, List.any_map]
  congr 1
  induction ys with
  | nil => rfl
  | cons y ys ih =>
    rw [List.any_cons, ih]
    show ((D.int y).eqv (.int x) || _) = _
    rw [eqv_int]
    by_cases e : y = x
    · simp [e]
    · have : ¬ x = y := fun z => e z.symm
      simp [e, this]
theorem eqv_bool (a b : D) (h : a.eqv b = true ↔ a = b) [DecidableEq D] : a.eqv b = decide (a = b) := by
  cases q : a.eqv b with
  | true => simp [h.mp q]
  | false =>
    have : ¬ a = b := fun e => by rw [h.mpr e] at q; cases q
    simp [this]
end DL
set_option Elab.async false
set_option linter.all false
set_option maxRecDepth 100000
set_option maxHeartbeats 1000000
namespace DL
open PySem PySem.Spec L2
/-! ### boards, rules, deeds in plain words -/
def Board.cells : Board → Int
  | .row n => n
  | .ring n => n
  | .floor h w => h * w
def Board.ok (m : Int) : Board → Prop
  | .row n => 3 ≤ n ∧ n ≤ m
  | .ring n => 5 ≤ n ∧ n ≤ m
  | .floor h w => 1 ≤ h ∧ 1 ≤ w ∧ h ≤ m ∧ w ≤ m ∧ h * w ≤ m ∧ (3 ≤ h ∨ 3 ≤ w)
theorem Board.ok.more {m k : Int} {b : Board} (h : b.ok m) (l : m ≤ k) : b.ok k := by
  cases b with
  | row n => exact ⟨h.1, Int.le_trans h.2 l⟩
  | ring n => exact ⟨h.1, Int.le_trans h.2 l⟩
  | floor a w => exact ⟨h.1, h.2.1, Int.le_trans h.2.2.1 l, Int.le_trans h.2.2.2.1 l, Int.le_trans h.2.2.2.2.1 l, h.2.2.2.2.2⟩
theorem Board.cells_pos {m : Int} {b : Board} (h : b.ok m) : 3 ≤ b.cells ∧ b.cells ≤ m := by
  cases b with
  | row n => exact h
  | ring n => exact ⟨by have := h.1; show 3 ≤ n; omega, h.2⟩
  | floor a w =>
    obtain ⟨h1, h2, h3, h4, h5, h6⟩ := h
    refine ⟨?_, h5⟩
    show 3 ≤ a * w
    rcases h6 with h6 | h6
    · have := Int.mul_le_mul h6 h2 (by decide) (by omega); omega
    · have := Int.mul_le_mul h1 h6 (by decide) (by omega); omega
/-- a rule that fits a board -/
def Rule.fits : Board → Rule → Prop
  | .row n, .swap k c => 1 ≤ k ∧ 3 * k ≤ n ∧ 0 ≤ c ∧ c ≤ 1
  | .ring n, .swap k c => 1 ≤ k ∧ 5 * k ≤ n ∧ 0 ≤ c ∧ c ≤ 1
  | .floor H W, .over h w c => 1 ≤ h ∧ 1 ≤ w ∧ 3 * w ≤ W ∧ 2 * h - 1 ≤ H ∧ 0 ≤ c ∧ c ≤ 1
  | .floor H W, .under h w c => 1 ≤ h ∧ 1 ≤ w ∧ 3 * h ≤ H ∧ 2 * w - 1 ≤ W ∧ 0 ≤ c ∧ c ≤ 1
  | _, _ => False
theorem Rule.bent01 {b : Board} {r : Rule} (h : r.fits b) : 0 ≤ r.bent ∧ r.bent ≤ 1 := by
  cases b <;> cases r <;> first | exact h.elim | (obtain ⟨_, _, h1, h2⟩ := h; exact ⟨h1, h2⟩) | (obtain ⟨_, _, _, _, h1, h2⟩ := h; exact ⟨h1, h2⟩)
def BkOk (b : Board) (bk : List Rule) : Prop := 1 ≤ bk.length ∧ bk.length ≤ 4 ∧ bk.Nodup ∧ ∀ r ∈ bk, r.fits b
/-- the cells of a grid -/
def grid (o W R C : Int) : List Int := (rangeI 0 R).flatMap fun i => (rangeI 0 C).map fun j => o + i * W + j
def cellsAt : Board → Rule → List Int
  | .row n, .swap k _ => rangeI 0 (n - 2 * k + 1)
  | .ring n, .swap _ _ => rangeI 0 n
  | .floor H W, .over h w _ => grid 0 W (H - h + 1) (W - 2 * w + 1)
  | .floor H W, .under h w _ => grid 0 W (H - 2 * h + 1) (W - w + 1)
  | _, _ => []
theorem flatMap_len {α β : Type} (f : α → List β) (c : Nat) : ∀ l : List α, (∀ x ∈ l, (f x).length ≤ c) → (l.flatMap f).length ≤ l.length * c
  | [], _ => by simp
  | x :: l, h => by
    rw [List.flatMap_cons, List.length_append, List.length_cons, Nat.succ_mul]
    have := flatMap_len f c l fun y hy => h y (by simp [hy])
    have := h x (by simp)
    omega
theorem grid_len (o W R C : Int) : (grid o W R C).length ≤ R.toNat * C.toNat := by
  unfold grid
  have := flatMap_len (fun i => (rangeI 0 C).map fun j => o + i * W + j) C.toNat (rangeI 0 R) fun x _ => by rw [List.length_map, rangeI_len]; omega
  rw [rangeI_len] at this
  simpa using this
theorem mem_grid {o W R C x : Int} : x ∈ grid o W R C ↔ ∃ i j, 0 ≤ i ∧ i < R ∧ 0 ≤ j ∧ j < C ∧ x = o + i * W + j := by
  unfold grid
  rw [List.mem_flatMap]
  constructor
  · rintro ⟨i, hi, h⟩
    rw [List.mem_map] at h
    obtain ⟨j, hj, rfl⟩ := h
    rw [mem_rangeI] at hi hj
    exact ⟨i, j, hi.1, hi.2, hj.1, hj.2, rfl⟩
  · rintro ⟨i, j, h1, h2, h3, h4, rfl⟩
    exact ⟨i, mem_rangeI.mpr ⟨h1, h2⟩, List.mem_map.mpr ⟨j, mem_rangeI.mpr ⟨h3, h4⟩, rfl⟩⟩
theorem cellsAt_len {b : Board} {r : Rule} (hb : b.ok 36) (h : r.fits b) : (cellsAt b r).length ≤ 1369 := by
  cases b <;> cases r <;> first | exact h.elim | skip
  · show (rangeI _ _).length ≤ _
    rw [rangeI_len]
    obtain ⟨_, h2⟩ := hb
    obtain ⟨h3, h4, _⟩ := h
    omega
  · show (rangeI _ _).length ≤ _
    rw [rangeI_len]
    obtain ⟨_, h2⟩ := hb
    omega
  · obtain ⟨h1, h2, h3, h4, h5, h6⟩ := hb
    obtain ⟨k1, k2, k3, k4, _⟩ := h
    refine Nat.le_trans (grid_len _ _ _ _) ?_
    exact Nat.mul_le_mul (show _ ≤ 37 by omega) (show _ ≤ 37 by omega)
  · obtain ⟨h1, h2, h3, h4, h5, h6⟩ := hb
    obtain ⟨k1, k2, k3, k4, _⟩ := h
    refine Nat.le_trans (grid_len _ _ _ _) ?_
    exact Nat.mul_le_mul (show _ ≤ 37 by omega) (show _ ≤ 37 by omega)
theorem mul_lt_grid {i j H W : Int} (hi : 0 ≤ i) (hi2 : i < H) (hj : 0 ≤ j) (hj2 : j < W) : 0 ≤ i * W + j ∧ i * W + j < H * W := by
  have h1 : 0 ≤ i * W := Int.mul_nonneg hi (by omega)
  have h2 : (i + 1) * W ≤ H * W := Int.mul_le_mul_of_nonneg_right (by omega) (by omega)
  rw [Int.add_mul, Int.one_mul] at h2
  omega
/-- each such cell is the board's -/
theorem cellsAt_lt {b : Board} {r : Rule} (hb : b.ok 36) (h : r.fits b) {c : Int} (hc : c ∈ cellsAt b r) : 0 ≤ c ∧ c < b.cells := by
  cases b <;> cases r <;> first | exact h.elim | skip
  · have := mem_rangeI.mp hc
    obtain ⟨h3, h4, _⟩ := h
    show 0 ≤ c ∧ c < _
    simp only [Board.cells]
    omega
  · exact mem_rangeI.mp hc
  · obtain ⟨i, j, h1, h2, h3, h4, rfl⟩ := mem_grid.mp hc
    obtain ⟨k1, k2, k3, k4, _⟩ := h
    rw [Int.zero_add]
    exact mul_lt_grid h1 (by omega) h3 (by omega)
  · obtain ⟨i, j, h1, h2, h3, h4, rfl⟩ := mem_grid.mp hc
    obtain ⟨k1, k2, k3, k4, _⟩ := h
    rw [Int.zero_add]
    exact mul_lt_grid h1 (by omega) h3 (by omega)
def deedsAt (b : Board) (bk : List Rule) (n : Int) : List (Int × Int) := match bk[n.toNat]? with
  | some r => (cellsAt b r).map fun c => (n, c)
  | none => []
def deedsOf (b : Board) (bk : List Rule) : List (Int × Int) := (rangeI 0 (bk.length : Nat)).flatMap (deedsAt b bk)
/-- a deed of a book -/
def IsDeed (b : Board) (bk : List Rule) (d : Int × Int) : Prop := ∃ r, 0 ≤ d.1 ∧ bk[d.1.toNat]? = some r ∧ d.2 ∈ cellsAt b r
theorem mem_deeds {b : Board} {bk : List Rule} {d : Int × Int} : d ∈ deedsOf b bk ↔ IsDeed b bk d := by
  unfold deedsOf
  rw [List.mem_flatMap]
  constructor
  · rintro ⟨n, hn, h⟩
    rw [mem_rangeI] at hn
    unfold deedsAt at h
    cases q : bk[n.toNat]? with
    | none => rw [q] at h; cases h
    | some r =>
      rw [q] at h
      obtain ⟨c, hc, rfl⟩ := List.mem_map.mp h
      exact ⟨r, hn.1, q, hc⟩
  · rintro ⟨r, h0, hr, hc⟩
    have hl := (List.getElem?_eq_some_iff.mp hr).1
    refine ⟨d.1, mem_rangeI.mpr ⟨h0, by omega⟩, ?_⟩
    unfold deedsAt
    rw [hr]
    exact List.mem_map.mpr ⟨d.2, hc, rfl⟩
theorem deedsAt_len {b : Board} {bk : List Rule} (hb : b.ok 36) (h : ∀ r ∈ bk, r.fits b) (n : Int) : (deedsAt b bk n).length ≤ 1369 := by
  unfold deedsAt
  cases q : bk[n.toNat]? with
  | none => exact Nat.zero_le _
  | some r => simpa using cellsAt_len hb (h r (List.mem_of_getElem? q))
theorem deedsOf_len {b : Board} {bk : List Rule} (hb : b.ok 36) (h : BkOk b bk) : (deedsOf b bk).length ≤ 5476 := by
  unfold deedsOf
  have := flatMap_len (deedsAt b bk) 1369 (rangeI 0 (bk.length : Nat)) fun x _ => deedsAt_len hb h.2.2.2 x
  rw [rangeI_len] at this
  obtain ⟨_, h2, _⟩ := h
  have e : ((bk.length : Int) - 0).toNat = bk.length := by omega
  rw [e] at this
  have : bk.length * 1369 ≤ 4 * 1369 := Nat.mul_le_mul_right _ h2
  omega
/-- the pairs of a deed -/
def pairsAt (b : Board) (r : Rule) (c : Int) : List (Int × Int) := match b, r with
  | .row n, .swap k _ => (rangeI 0 k).map fun j => ((c + j) % n, (c + j + k) % n)
  | .ring n, .swap k _ => (rangeI 0 k).map fun j => ((c + j) % n, (c + j + k) % n)
  | .floor _ W, .over h w _ => (grid c W h w).map fun x => (x, x + w)
  | .floor _ W, .under h w _ => (grid c W h w).map fun x => (x, x + h * W)
  | _, _ => []
theorem pairsAt_len {b : Board} {r : Rule} (hb : b.ok 36) (h : r.fits b) (c : Int) : (pairsAt b r c).length ≤ 1369 := by
  cases b <;> cases r <;> first | exact h.elim | skip
  · show ((rangeI _ _).map _).length ≤ _
    rw [List.length_map, rangeI_len]
    obtain ⟨_, h2⟩ := hb
    obtain ⟨h3, h4, _⟩ := h
    omega
  · show ((rangeI _ _).map _).length ≤ _
    rw [List.length_map, rangeI_len]
    obtain ⟨_, h2⟩ := hb
    obtain ⟨h3, h4, _⟩ := h
    omega
  · obtain ⟨h1, h2, h3, h4, h5, h6⟩ := hb
    obtain ⟨k1, k2, k3, k4, _⟩ := h
    show ((grid _ _ _ _).map _).length ≤ _
    rw [List.length_map]
    exact Nat.le_trans (grid_len _ _ _ _) (Nat.mul_le_mul (show _ ≤ 37 by omega) (show _ ≤ 37 by omega))
  · obtain ⟨h1, h2, h3, h4, h5, h6⟩ := hb
    obtain ⟨k1, k2, k3, k4, _⟩ := h
    show ((grid _ _ _ _).map _).length ≤ _
    rw [List.length_map]
    exact Nat.le_trans (grid_len _ _ _ _) (Nat.mul_le_mul (show _ ≤ 37 by omega) (show _ ≤ 37 by omega))
/-- each pair's cells are the board's, and unlike -/
theorem pairsAt_lt {b : Board} {r : Rule} (hb : b.ok 36) (h : r.fits b) {c : Int} (hc : c ∈ cellsAt b r) {p : Int × Int} (hp : p ∈ pairsAt b r c) : 0 ≤ p.1 ∧ p.1 < b.cells ∧ 0 ≤ p.2 ∧ p.2 < b.cells := by
  cases b <;> cases r <;> first | exact h.elim | skip
  · obtain ⟨j, hj, rfl⟩ := List.mem_map.mp hp
    have hn := hb.1
    exact ⟨Int.emod_nonneg _ (by omega), Int.emod_lt_of_pos _ (by omega), Int.emod_nonneg _ (by omega), Int.emod_lt_of_pos _ (by omega)⟩
  · obtain ⟨j, hj, rfl⟩ := List.mem_map.mp hp
    have hn := hb.1
    exact ⟨Int.emod_nonneg _ (by omega), Int.emod_lt_of_pos _ (by omega), Int.emod_nonneg _ (by omega), Int.emod_lt_of_pos _ (by omega)⟩
  · rename_i H W h w cc
    obtain ⟨i0, j0, a1, a2, a3, a4, rfl⟩ := mem_grid.mp hc
    obtain ⟨x, hx, rfl⟩ := List.mem_map.mp hp
    obtain ⟨i, j, b1, b2, b3, b4, rfl⟩ := mem_grid.mp hx
    obtain ⟨k1, k2, k3, k4, _⟩ := h
    have e1 : 0 + i0 * W + j0 + i * W + j = (i0 + i) * W + (j0 + j) := by rw [Int.add_mul]; omega
    have e2 : (i0 + i) * W + (j0 + j) + w = (i0 + i) * W + (j0 + j + w) := by omega
    simp only [e1, e2]
    have g1 := mul_lt_grid (i := i0 + i) (j := j0 + j) (H := H) (W := W) (by omega) (by omega) (by omega) (by omega)
    have g2 := mul_lt_grid (i := i0 + i) (j := j0 + j + w) (H := H) (W := W) (by omega) (by omega) (by omega) (by omega)
    exact ⟨g1.1, g1.2, g2.1, g2.2⟩
  · rename_i H W h w cc
    obtain ⟨i0, j0, a1, a2, a3, a4, rfl⟩ := mem_grid.mp hc
    obtain ⟨x, hx, rfl⟩ := List.mem_map.mp hp
    obtain ⟨i, j, b1, b2, b3, b4, rfl⟩ := mem_grid.mp hx
    obtain ⟨k1, k2, k3, k4, _⟩ := h
    have e1 : 0 + i0 * W + j0 + i * W + j = (i0 + i) * W + (j0 + j) := by rw [Int.add_mul]; omega
    have e2 : (i0 + i) * W + (j0 + j) + h * W = (i0 + i + h) * W + (j0 + j) := by rw [Int.add_mul (i0 + i)]; omega
    simp only [e1, e2]
    have g1 := mul_lt_grid (i := i0 + i) (j := j0 + j) (H := H) (W := W) (by omega) (by omega) (by omega) (by omega)
    have g2 := mul_lt_grid (i := i0 + i + h) (j := j0 + j) (H := H) (W := W) (by omega) (by omega) (by omega) (by omega)
    exact ⟨g1.1, g1.2, g2.1, g2.2⟩
theorem zero_cell {b : Board} {r : Rule} (hb : b.ok 36) (h : r.fits b) : 0 ∈ cellsAt b r := by
  cases b <;> cases r <;> first | exact h.elim | skip
  · obtain ⟨h3, h4, _⟩ := h
    exact mem_rangeI.mpr ⟨by decide, by omega⟩
  · obtain ⟨h1, _⟩ := hb
    exact mem_rangeI.mpr ⟨by decide, by omega⟩
  · obtain ⟨k1, k2, k3, k4, _⟩ := h
    exact mem_grid.mpr ⟨0, 0, by decide, by omega, by decide, by omega, by omega⟩
  · obtain ⟨k1, k2, k3, k4, _⟩ := h
    exact mem_grid.mpr ⟨0, 0, by decide, by omega, by decide, by omega, by omega⟩
theorem deeds_pos {b : Board} {bk : List Rule} (hb : b.ok 36) (h : BkOk b bk) : 0 < (deedsOf b bk).length := by
  have hl := h.1
  have hr : bk[(0 : Int).toNat]? = some (bk[0]'(by omega)) := List.getElem?_eq_getElem (by omega)
  have : ((0 : Int), (0 : Int)) ∈ deedsOf b bk := mem_deeds.mpr ⟨_, by decide, hr, zero_cell hb (h.2.2.2 _ (List.getElem_mem _))⟩
  exact List.length_pos_of_mem this
end DL
set_option Elab.async false
set_option linter.all false
set_option maxRecDepth 100000
set_option maxHeartbeats 1000000
namespace DL
open PySem PySem.Spec L2
/-! ### deeds done, in plain words -/
def StOk (st : List (Str × Int)) : Prop := ∀ p ∈ st, NameOk p.1 ∧ 0 ≤ p.2 ∧ p.2 ≤ 1
/-- whatever the names: faces are 0 or 1 -/
def Faces (st : List (Str × Int)) : Prop := ∀ p ∈ st, 0 ≤ p.2 ∧ p.2 ≤ 1
theorem StOk.faces {st : List (Str × Int)} (h : StOk st) : Faces st := fun p hp => (h p hp).2
abbrev eTh : Str × Int → D := eP D.str D.int
def turnT (t : Str × Int) (c : Int) : Str × Int := (t.1, (t.2 + c) % 2)
def exch (c : Int) (st : List (Str × Int)) (p : Int × Int) : List (Str × Int) := match st[p.1.toNat]?, st[p.2.toNat]? with
  | some x, some y => (st.set p.1.toNat (turnT y c)).set p.2.toNat (turnT x c)
  | _, _ => st
def doPairs (c : Int) (st : List (Str × Int)) (ps : List (Int × Int)) : List (Str × Int) := ps.foldl (exch c) st
def doDeed (b : Board) (bk : List Rule) (st : List (Str × Int)) (d : Int × Int) : List (Str × Int) := match bk[d.1.toNat]? with
  | some r => doPairs r.bent st (pairsAt b r d.2)
  | none => st
def doAll (b : Board) (bk : List Rule) (st : List (Str × Int)) (ds : List (Int × Int)) : List (Str × Int) := ds.foldl (doDeed b bk) st
theorem exch_len (c : Int) (st : List (Str × Int)) (p : Int × Int) : (exch c st p).length = st.length := by
  unfold exch
  split
  · rw [List.length_set, List.length_set]
  · rfl
theorem mem_set_or {α : Type} {l : List α} {i : Nat} {x y : α} (h : y ∈ l.set i x) : y ∈ l ∨ y = x := List.mem_or_eq_of_mem_set h
/-- what holds of each thing whatever its face -/
theorem exch_mem {c : Int} {st : List (Str × Int)} {p : Int × Int} {t : Str × Int} (h : t ∈ exch c st p) : t ∈ st ∨ ∃ u ∈ st, t = turnT u c := by
  unfold exch at h
  split at h
  · rename_i x y hx hy
    rcases mem_set_or h with h | h
    · rcases mem_set_or h with h | h
      · exact .inl h
      · exact .inr ⟨y, List.mem_of_getElem? hy, h⟩
    · exact .inr ⟨x, List.mem_of_getElem? hx, h⟩
  · exact .inl h
theorem exch_ok {c : Int} {st : List (Str × Int)} {p : Int × Int} (h : StOk st) : StOk (exch c st p) := fun t ht => by
  rcases exch_mem ht with ht | ⟨u, hu, rfl⟩
  · exact h t ht
  · obtain ⟨h1, h2, h3⟩ := h u hu
    exact ⟨h1, Int.emod_nonneg _ (by decide), by have := Int.emod_lt_of_pos (u.2 + c) (show (0 : Int) < 2 by decide); show (u.2 + c) % 2 ≤ 1; omega⟩
theorem doPairs_len (c : Int) : ∀ (ps : List (Int × Int)) (st : List (Str × Int)), (doPairs c st ps).length = st.length
  | [], _ => rfl
  | p :: ps, st => by
    show (doPairs c (exch c st p) ps).length = _
    rw [doPairs_len c ps, exch_len]
theorem doPairs_ok {c : Int} : ∀ {ps : List (Int × Int)} {st : List (Str × Int)}, StOk st → StOk (doPairs c st ps)
  | [], _, h => h
  | p :: ps, st, h => doPairs_ok (ps := ps) (exch_ok (p := p) h)
theorem doDeed_len (b : Board) (bk : List Rule) (st : List (Str × Int)) (d : Int × Int) : (doDeed b bk st d).length = st.length := by
  unfold doDeed
  split
  · exact doPairs_len _ _ _
  · rfl
theorem doDeed_ok {b : Board} {bk : List Rule} {st : List (Str × Int)} {d : Int × Int} (h : StOk st) : StOk (doDeed b bk st d) := by
  unfold doDeed
  split
  · exact doPairs_ok h
  · exact h
theorem doAll_len (b : Board) (bk : List Rule) : ∀ (ds : List (Int × Int)) (st : List (Str × Int)), (doAll b bk st ds).length = st.length
  | [], _ => rfl
  | d :: ds, st => by
    show (doAll b bk (doDeed b bk st d) ds).length = _
    rw [doAll_len b bk ds, doDeed_len]
theorem doAll_ok {b : Board} {bk : List Rule} : ∀ {ds : List (Int × Int)} {st : List (Str × Int)}, StOk st → StOk (doAll b bk st ds)
  | [], _, h => h
  | d :: ds, st, h => doAll_ok (ds := ds) (doDeed_ok (d := d) h)
/-- what may be shown and compared -/
theorem things_shw {st : List (Str × Int)} (h : StOk st) (hl : st.length ≤ 36) : Shw 2 10000 (.tup (st.map eTh)) := by
  refine .tup (n := 1) (w := 200) (fun d hd => ?_) (by rw [List.length_map]; omega)
  obtain ⟨p, hp, rfl⟩ := List.mem_map.mp hd
  obtain ⟨h1, h2, h3⟩ := h p hp
  refine .tup (n := 0) (w := 41) (fun e he => ?_) (by simp)
  rcases (by simpa using he : e = .str p.1 ∨ e = .int p.2) with rfl | rfl
  · exact .str h1.good (by have := h1.2.1; omega)
  · exact .int (by omega) (by decide)
theorem reprO_shw {n w : Nat} {d : D} (h : Shw n w d) (hn : n ≤ 64) (hw : w ≤ 1000000) : reprO d = some d.py.shown := by
  unfold reprO
  rw [if_pos (h.rok hn hw)]
theorem eqO_shw {n w : Nat} {d : D} (h : Shw n w d) (hn : n ≤ 64) : eqO d d = some true := eqO_self (h.fit.ok hn)
end DL
namespace G
open PySem PySem.Spec L2 DL
def top (i : Nat) : Stmt := PySem.Challenge.pw_stridelots_k14_whole_even_by_lengths.main.body.getD i (.Pass ⟨0, 0, 0, 0⟩)
abbrev s_cells_many : Stmt := top 1
abbrev N_cells_many : List Str := ["board"]
abbrev ps_cells_many : List Str := ["board"]
theorem sc_cells_many : FnScope N_cells_many ps_cells_many (defScope s_cells_many) := ⟨rfl, rfl, rfl, by decide +kernel, rfl, by decide +kernel, by decide +kernel⟩
def df_cells_many : He.DefD := ⟨("cells_many", none), "cells_many", "cells_many", defArgs s_cells_many, defBody s_cells_many, defScope s_cells_many, [], []⟩
abbrev s_first_cells : Stmt := top 3
abbrev N_first_cells : List Str := ["board", "rule", "many", "high", "wide", "rows", "columns", "row", "column"]
abbrev ps_first_cells : List Str := ["board", "rule"]
theorem sc_first_cells : FnScope N_first_cells ps_first_cells (defScope s_first_cells) := ⟨rfl, rfl, rfl, by decide +kernel, rfl, by decide +kernel, by decide +kernel⟩
def df_first_cells : He.DefD := ⟨("first_cells", none), "first_cells", "first_cells", defArgs s_first_cells, defBody s_first_cells, defScope s_first_cells, [], []⟩
abbrev s_all_deeds : Stmt := top 4
abbrev N_all_deeds : List Str := ["board", "book", "number", "rule", "cell"]
abbrev ps_all_deeds : List Str := ["board", "book"]
theorem sc_all_deeds : FnScope N_all_deeds ps_all_deeds (defScope s_all_deeds) := ⟨rfl, rfl, rfl, by decide +kernel, rfl, by decide +kernel, by decide +kernel⟩
def df_all_deeds : He.DefD := ⟨("all_deeds", none), "all_deeds", "all_deeds", defArgs s_all_deeds, defBody s_all_deeds, defScope s_all_deeds, [], []⟩
abbrev s_pairs_at : Stmt := top 5
abbrev N_pairs_at : List Str := ["board", "rule", "cell", "many", "wide", "far", "lot", "k", "row", "column", "one"]
abbrev ps_pairs_at : List Str := ["board", "rule", "cell"]
theorem sc_pairs_at : FnScope N_pairs_at ps_pairs_at (defScope s_pairs_at) := ⟨rfl, rfl, rfl, by decide +kernel, rfl, by decide +kernel, by decide +kernel⟩
def df_pairs_at : He.DefD := ⟨("pairs_at", none), "pairs_at", "pairs_at", defArgs s_pairs_at, defBody s_pairs_at, defScope s_pairs_at, [], []⟩
abbrev s_is_bent : Stmt := top 6
abbrev N_is_bent : List Str := ["rule"]
abbrev ps_is_bent : List Str := ["rule"]
theorem sc_is_bent : FnScope N_is_bent ps_is_bent (defScope s_is_bent) := ⟨rfl, rfl, rfl, by decide +kernel, rfl, by decide +kernel, by decide +kernel⟩
def df_is_bent : He.DefD := ⟨("is_bent", none), "is_bent", "is_bent", defArgs s_is_bent, defBody s_is_bent, defScope s_is_bent, [], []⟩
abbrev s_ties_of : Stmt := top 8
abbrev N_ties_of : List Str := ["board", "book", "found", "number", "cell", "rule", "one", "other"]
abbrev ps_ties_of : List Str := ["board", "book"]
theorem sc_ties_of : FnScope N_ties_of ps_ties_of (defScope s_ties_of) := ⟨rfl, rfl, rfl, by decide +kernel, rfl, by decide +kernel, by decide +kernel⟩
def df_ties_of : He.DefD := ⟨("ties_of", none), "ties_of", "ties_of", defArgs s_ties_of, defBody s_ties_of, defScope s_ties_of, [], []⟩
abbrev s_near_cells : Stmt := top 9
abbrev N_near_cells : List Str := ["board", "book", "near", "one", "other", "bent", "cell"]
abbrev ps_near_cells : List Str := ["board", "book"]
theorem sc_near_cells : FnScope N_near_cells ps_near_cells (defScope s_near_cells) := ⟨rfl, rfl, rfl, by decide +kernel, rfl, by decide +kernel, by decide +kernel⟩
def df_near_cells : He.DefD := ⟨("near_cells", none), "near_cells", "near_cells", defArgs s_near_cells, defBody s_near_cells, defScope s_near_cells, [], []⟩
abbrev s_marks_found : Stmt := top 11
abbrev N_marks_found : List Str := ["board", "book", "near", "marks", "first", "due", "cell", "other", "bent", "mark"]
abbrev ps_marks_found : List Str := ["board", "book"]
theorem sc_marks_found : FnScope N_marks_found ps_marks_found (defScope s_marks_found) := ⟨rfl, rfl, rfl, by decide +kernel, rfl, by decide +kernel, by decide +kernel⟩
def df_marks_found : He.DefD := ⟨("marks_found", none), "marks_found", "marks_found", defArgs s_marks_found, defBody s_marks_found, defScope s_marks_found, [], []⟩
abbrev s_is_even : Stmt := top 12
abbrev N_is_even : List Str := ["board", "book"]
abbrev ps_is_even : List Str := ["board", "book"]
theorem sc_is_even : FnScope N_is_even ps_is_even (defScope s_is_even) := ⟨rfl, rfl, rfl, by decide +kernel, rfl, by decide +kernel, by decide +kernel⟩
def df_is_even : He.DefD := ⟨("is_even", none), "is_even", "is_even", defArgs s_is_even, defBody s_is_even, defScope s_is_even, [], []⟩
abbrev s__law_pot : Stmt := top 14
abbrev N__law_pot : List Str := ["script", "at", "cell"]
abbrev ps__law_pot : List Str := ["script", "at"]
theorem sc__law_pot : FnScope N__law_pot ps__law_pot (defScope s__law_pot) := ⟨rfl, rfl, rfl, by decide +kernel, rfl, by decide +kernel, by decide +kernel⟩
def df__law_pot : He.DefD := ⟨("_law_pot", none), "_law_pot", "_law_pot", defArgs s__law_pot, defBody s__law_pot, defScope s__law_pot, [], []⟩
abbrev s__law_dip : Stmt := top 15
abbrev N__law_dip : List Str := ["pot", "many", "digit", "mixed"]
abbrev ps__law_dip : List Str := ["pot", "many"]
theorem sc__law_dip : FnScope N__law_dip ps__law_dip (defScope s__law_dip) := ⟨rfl, rfl, rfl, by decide +kernel, rfl, by decide +kernel, by decide +kernel⟩
def df__law_dip : He.DefD := ⟨("_law_dip", none), "_law_dip", "_law_dip", defArgs s__law_dip, defBody s__law_dip, defScope s__law_dip, [], []⟩
abbrev s__law_board : Stmt := top 16
abbrev N__law_board : List Str := ["pot", "most", "way", "short", "long"]
abbrev ps__law_board : List Str := ["pot", "most"]
theorem sc__law_board : FnScope N__law_board ps__law_board (defScope s__law_board) := ⟨rfl, rfl, rfl, by decide +kernel, rfl, by decide +kernel, by decide +kernel⟩
def df__law_board : He.DefD := ⟨("_law_board", none), "_law_board", "_law_board", defArgs s__law_board, defBody s__law_board, defScope s__law_board, [], []⟩
abbrev s__law_rules : Stmt := top 17
abbrev N__law_rules : List Str := ["board", "found", "k", "sort", "high", "wide", "h", "w"]
abbrev ps__law_rules : List Str := ["board"]
theorem sc__law_rules : FnScope N__law_rules ps__law_rules (defScope s__law_rules) := ⟨rfl, rfl, rfl, by decide +kernel, rfl, by decide +kernel, by decide +kernel⟩
def df__law_rules : He.DefD := ⟨("_law_rules", none), "_law_rules", "_law_rules", defArgs s__law_rules, defBody s__law_rules, defScope s__law_rules, [], []⟩
abbrev s__law_book : Stmt := top 18
abbrev N__law_book : List Str := ["pot", "board", "left", "found", "k"]
abbrev ps__law_book : List Str := ["pot", "board"]
theorem sc__law_book : FnScope N__law_book ps__law_book (defScope s__law_book) := ⟨rfl, rfl, rfl, by decide +kernel, rfl, by decide +kernel, by decide +kernel⟩
def df__law_book : He.DefD := ⟨("_law_book", none), "_law_book", "_law_book", defArgs s__law_book, defBody s__law_book, defScope s__law_book, [], []⟩
abbrev s__law_measure : Stmt := top 19
abbrev N__law_measure : List Str := ["numbers", "found", "number", "one", "other"]
abbrev ps__law_measure : List Str := ["numbers"]
theorem sc__law_measure : FnScope N__law_measure ps__law_measure (defScope s__law_measure) := ⟨rfl, rfl, rfl, by decide +kernel, rfl, by decide +kernel, by decide +kernel⟩
def df__law_measure : He.DefD := ⟨("_law_measure", none), "_law_measure", "_law_measure", defArgs s__law_measure, defBody s__law_measure, defScope s__law_measure, [], []⟩
abbrev s__law_calm : Stmt := top 20
abbrev N__law_calm : List Str := ["pot", "book", "way", "found", "rule", "length", "calm"]
abbrev ps__law_calm : List Str := ["pot", "book"]
theorem sc__law_calm : FnScope N__law_calm ps__law_calm (defScope s__law_calm) := ⟨rfl, rfl, rfl, by decide +kernel, rfl, by decide +kernel, by decide +kernel⟩
def df__law_calm : He.DefD := ⟨("_law_calm", none), "_law_calm", "_law_calm", defArgs s__law_calm, defBody s__law_calm, defScope s__law_calm, [], []⟩
abbrev s__law_fits : Stmt := top 21
abbrev N__law_fits : List Str := ["lengths", "bents", "measure", "round_about", "length"]
abbrev ps__law_fits : List Str := ["lengths", "bents", "measure", "round_about"]
theorem sc__law_fits : FnScope N__law_fits ps__law_fits (defScope s__law_fits) := ⟨rfl, rfl, rfl, by decide +kernel, rfl, by decide +kernel, by decide +kernel⟩
def df__law_fits : He.DefD := ⟨("_law_fits", none), "_law_fits", "_law_fits", defArgs s__law_fits, defBody s__law_fits, defScope s__law_fits, [], []⟩
abbrev s__law_even : Stmt := top 22
abbrev N__law_even : List Str := ["board", "book", "lengths", "around", "sort", "place", "bents", "rule"]
abbrev ps__law_even : List Str := ["board", "book"]
theorem sc__law_even : FnScope N__law_even ps__law_even (defScope s__law_even) := ⟨rfl, rfl, rfl, by decide +kernel, rfl, by decide +kernel, by decide +kernel⟩
def df__law_even : He.DefD := ⟨("_law_even", none), "_law_even", "_law_even", defArgs s__law_even, defBody s__law_even, defScope s__law_even, [], []⟩
abbrev s_law : Stmt := top 23
abbrev N_law : List Str := ["script", "at", "pot", "board", "book"]
abbrev ps_law : List Str := ["script"]
theorem sc_law : FnScope N_law ps_law (defScope s_law) := ⟨rfl, rfl, rfl, by decide +kernel, rfl, by decide +kernel, by decide +kernel⟩
def df_law : He.DefD := ⟨("law", none), "law", "law", defArgs s_law, defBody s_law, defScope s_law, [], []⟩
def fn : List He.DefD := [df_cells_many, df_first_cells, df_all_deeds, df_pairs_at, df_is_bent, df_ties_of, df_near_cells, df_marks_found, df_is_even, df__law_pot, df__law_dip, df__law_board, df__law_rules, df__law_book, df__law_measure, df__law_calm, df__law_fits, df__law_even, df_law]
def fa : List He.Fa := [.free "list", .free "range", .free "int", .free "enumerate", .free "tuple", .free "len", .free "max", .free "min", .free "sum", .glo "cells_many", .glo "first_cells", .glo "all_deeds", .glo "pairs_at", .glo "is_bent", .glo "ties_of", .glo "near_cells", .glo "marks_found", .glo "is_even", .glo "_law_pot", .glo "_law_dip", .glo "_law_board", .glo "_law_rules", .glo "_law_book", .glo "_law_measure", .glo "_law_calm", .glo "_law_fits", .glo "_law_even", .glo "law"]
noncomputable def d_cells_many : Fs :=
  (bSeq (bIf (dTst (dOp2 gEq (dOp2 gIx (eVar 0) (eC (.int 0))) (eC (.str "floor")))) (bRet (dOp2 gMul (dOp2 gIx (eVar 0) (eC (.int 1))) (dOp2 gIx (eVar 0) (eC (.int 2))))) bNext)
  (bRet (dOp2 gIx (eVar 0) (eC (.int 1)))))
noncomputable def F_cells_many : FF := runF 0 d_cells_many
noncomputable def d_first_cells : Fs :=
  (bSeq (bAsg 2 (fCall F_cells_many (aFr (eVar 0) aNil)))
  (bSeq (bIf (dTst (dOp2 gEq (dOp2 gIx (eVar 0) (eC (.int 0))) (eC (.str "row")))) (bRet (dLRg1 (dOp2 gAdd (dOp2 DL.gSub (eVar 2) (dOp2 gMul (eC (.int 2)) (dOp2 gIx (eVar 1) (eC (.int 1))))) (eC (.int 1))))) bNext)
  (bSeq (bIf (dTst (dOp2 gEq (dOp2 gIx (eVar 0) (eC (.int 0))) (eC (.str "ring")))) (bRet (dLRg1 (eVar 2))) bNext)
  (bSeq (bUnp (gTp 2 (gsCons (gNm 3) (gsCons (gNm 4) gsNil))) (dSl (eVar 0) (oSome (eC (.int 1))) oNo))
  (bSeq (bAsg 5 (dOp2 gAdd (dOp2 DL.gSub (eVar 3) (dOp2 gMul (dOp2 gIx (eVar 1) (eC (.int 1))) (dOp2 gAdd (eC (.int 1)) (dCall gInt (aCons (dOp2 gEq (dOp2 gIx (eVar 1) (eC (.int 0))) (eC (.str "under"))) aNil))))) (eC (.int 1))))
  (bSeq (bAsg 6 (dOp2 gAdd (dOp2 DL.gSub (eVar 4) (dOp2 gMul (dOp2 gIx (eVar 1) (eC (.int 2))) (dOp2 gAdd (eC (.int 1)) (dCall gInt (aCons (dOp2 gEq (dOp2 gIx (eVar 1) (eC (.int 0))) (eC (.str "over"))) aNil))))) (eC (.int 1))))
  (bRet (dLc2 (iRange1 (aFr (eVar 5) aNil)) (gNm 7) dYes (iRange1 (aFr (eVar 6) aNil)) (gNm 8) dYes (dOp2 gAdd (dOp2 gMul (eVar 7) (eVar 4)) (eVar 8)) [7, 8] [8]))))))))
noncomputable def F_first_cells : FF := runF 7 d_first_cells
noncomputable def d_all_deeds : Fs :=
  (bRet (dCall gTuple (aCons (dLc2 (iEnumD (aFr (eVar 1) aNil)) (gTp 2 (gsCons (gNm 2) (gsCons (gNm 3) gsNil))) dYes (iAny (fCall F_first_cells (aFr (eVar 0) (aFr (eVar 3) aNil)))) (gNm 4) dYes (eTup (aFr (eVar 2) (aFr (eVar 4) aNil))) [2, 3, 4] [4]) aNil)))
noncomputable def F_all_deeds : FF := runF 3 d_all_deeds
noncomputable def d_pairs_at : Fs :=
  (bSeq (bAsg 3 (fCall F_cells_many (aFr (eVar 0) aNil)))
  (bSeq (bIf (dTst (dOp2 gEq (dOp2 gIx (eVar 1) (eC (.int 0))) (eC (.str "swap")))) (bRet (dCall gTuple (aCons (dLc (iRange1 (aFr (dOp2 gIx (eVar 1) (eC (.int 1))) aNil)) (gNm 7) dYes (eTup (aFr (dOp2 gMod (dOp2 gAdd (eVar 2) (eVar 7)) (eVar 3)) (aFr (dOp2 gMod (dOp2 gAdd (dOp2 gAdd (eVar 2) (eVar 7)) (dOp2 gIx (eVar 1) (eC (.int 1)))) (eVar 3)) aNil))) [7]) aNil))) bNext)
  (bSeq (bAsg 4 (dOp2 gIx (eVar 0) (eC (.int 2))))
  (bSeq (bAsg 5 (dOp2 gIx (eVar 1) (eC (.int 2))))
  (bSeq (bIf (dTst (dOp2 gEq (dOp2 gIx (eVar 1) (eC (.int 0))) (eC (.str "under")))) (bAsg 5 (dOp2 gMul (dOp2 gIx (eVar 1) (eC (.int 1))) (eVar 4))) bNext)
  (bSeq (bAsg 6 (dLc2 (iRange1 (aFr (dOp2 gIx (eVar 1) (eC (.int 1))) aNil)) (gNm 8) dYes (iRange1 (aFr (dOp2 gIx (eVar 1) (eC (.int 2))) aNil)) (gNm 9) dYes (dOp2 gAdd (dOp2 gAdd (eVar 2) (dOp2 gMul (eVar 8) (eVar 4))) (eVar 9)) [8, 9] [9]))
  (bRet (dCall gTuple (aCons (dLc (iAny (eVar 6)) (gNm 10) dYes (eTup (aFr (eVar 10) (aFr (dOp2 gAdd (eVar 10) (eVar 5)) aNil))) [10]) aNil)))))))))
noncomputable def F_pairs_at : FF := runF 8 d_pairs_at
noncomputable def d_is_bent : Fs :=
  (bRet (dOp2 gEq (dOp2 gIx (eVar 0) (dNeg (eC (.int 1)))) (eC (.int 1))))
noncomputable def F_is_bent : FF := runF 0 d_is_bent
noncomputable def d_ties_of : Fs :=
  (bTies 2 (iAny (fCall F_all_deeds (aFr (eVar 0) (aFr (eVar 1) aNil)))) (gTp 2 (gsCons (gNm 3) (gsCons (gNm 4) gsNil))) (preA 5 (dOp2 gIx (eVar 1) (eVar 3))) (iAny (fCall F_pairs_at (aFr (eVar 0) (aFr (eVar 5) (aFr (eVar 4) aNil))))) (gTp 2 (gsCons (gNm 6) (gsCons (gNm 7) gsNil))) (eTup (aFr (eVar 6) (aFr (eVar 7) (aFr (fCall F_is_bent (aFr (eVar 5) aNil)) aNil)))))
noncomputable def F_ties_of : FF := runF 6 d_ties_of
noncomputable def d_near_cells : Fs :=
  (bSeq (bNear 2 (dLc (iRange1 (aFr (fCall F_cells_many (aFr (eVar 0) aNil)) aNil)) (gNm 6) dYes (eC .non) [6]) (iAny (fCall F_ties_of (aFr (eVar 0) (aFr (eVar 1) aNil)))) (gTp 3 (gsCons (gNm 3) (gsCons (gNm 4) (gsCons (gNm 5) gsNil)))) (eVar 3) (eTup (aFr (eVar 4) (aFr (eVar 5) aNil))) (eVar 4) (eTup (aFr (eVar 3) (aFr (eVar 5) aNil))))
  (bRet (eVar 2)))
noncomputable def F_near_cells : FF := runF 5 d_near_cells
noncomputable def d_marks_found : Fs :=
  (bSeq (bAsg 2 (fCall F_near_cells (aFr (eVar 0) (aFr (eVar 1) aNil))))
  (bSeq (bAsg 3 (eDict (.k [])))
  (bSeq (bFor (iRange1 (aFr (dCall gLen (aCons (eVar 2) aNil)) aNil)) (gNm 4)
  (bSeq (bIf (dTst (dDIn false 3 (eVar 4))) bCont bNext)
  (bSeq (bDPut 3 (eVar 4) (eC (.int 0)))
  (bSeq (bAsg 5 (eLst (aFr (eVar 4) aNil)))
  (bWhile (dTst (dOp2 gNe (eVar 5) (eLst aNil))) (bSeq (bAsg 6 (dMt 5 aNil gPop))
  (bFor (iAny (dOp2 gIx (eVar 2) (eVar 6))) (gTp 2 (gsCons (gNm 7) (gsCons (gNm 8) gsNil)))
  (bSeq (bAsg 9 (dOp2 gMod (dOp2 gAdd (dDGet 3 (eVar 6)) (dCall gInt (aCons (eVar 8) aNil))) (eC (.int 2))))
  (bIf (dTst (dDIn true 3 (eVar 7))) (bSeq (bDPut 3 (eVar 7) (eVar 9))
  (bDrop (dMt 5 (aFr (eVar 7) aNil) gApp))) (bIf (dTst (dOp2 gNe (dDGet 3 (eVar 7)) (eVar 9))) (bRet (eC .non)) bNext))))))))))
  (bRet (dCall gTuple (aCons (dLc (iRange1 (aFr (dCall gLen (aCons (eVar 2) aNil)) aNil)) (gNm 6) dYes (dDGet 3 (eVar 6)) [6]) aNil))))))
noncomputable def F_marks_found : FF := runF 8 d_marks_found
noncomputable def d_is_even : Fs :=
  (bRet (dOp2 gIsNot (fCall F_marks_found (aFr (eVar 0) (aFr (eVar 1) aNil))) (eC .non)))
noncomputable def F_is_even : FF := runF 0 d_is_even
noncomputable def d__law_pot : Fs :=
  (bSeq (bAsg 2 (eC (.int 0)))
  (bSeq (bIf (dTst (dOp2 gLt (eVar 1) (dCall gLen (aCons (eVar 0) aNil)))) (bAsg 2 (dOp2 gIx (eVar 0) (eVar 1))) bNext)
  (bRet (eLst (aFr (dCall gMax (aCons (eC (.int 0)) (aCons (dOp2 DL.gSub (eVar 2) (dOp2 gPow (eC (.int 10)) (eC (.int 18)))) aNil))) (aFr (dOp2 gAdd (dOp2 gMod (eVar 2) (dOp2 gAdd (dOp2 gPow (eC (.int 10)) (eC (.int 37))) (eC (.int 43)))) (dOp2 gMul (eC (.int 104729)) (eVar 1))) (aFr (eC (.int 0)) aNil)))))))
noncomputable def F__law_pot : FF := runF 1 d__law_pot
noncomputable def d__law_dip : Fs :=
  (bSeq (bIf (dTst (dOp2 gGt (dOp2 gIx (eVar 0) (eC (.int 0))) (eC (.int 0)))) (bSeq (bAsg 2 (dOp2 gMod (dOp2 gIx (eVar 0) (eC (.int 0))) (eVar 1)))
  (bSeq (bSetIx 0 (eC (.int 0)) (dOp2 gDiv (dOp2 gIx (eVar 0) (eC (.int 0))) (eVar 1)))
  (bRet (eVar 2)))) bNext)
  (bSeq (bSetIx 0 (eC (.int 2)) (dOp2 gAdd (dOp2 gIx (eVar 0) (eC (.int 2))) (eC (.int 1))))
  (bSeq (bAsg 3 (dOp2 gMod (dOp2 gPow (dOp2 gAdd (dOp2 gIx (eVar 0) (eC (.int 1))) (dOp2 gMul (eC (.int 9999991)) (dOp2 gIx (eVar 0) (eC (.int 2))))) (eC (.int 3))) (dOp2 gAdd (dOp2 gPow (eC (.int 10)) (eC (.int 36))) (eC (.int 67)))))
  (bSeq (bAsg 3 (dOp2 gMod (dOp2 gPow (dOp2 gAdd (eVar 3) (dOp2 gMul (eC (.int 7919)) (dOp2 gIx (eVar 0) (eC (.int 2))))) (eC (.int 3))) (dOp2 gAdd (dOp2 gPow (eC (.int 10)) (eC (.int 33))) (eC (.int 61)))))
  (bRet (dOp2 gMod (dOp2 gDiv (eVar 3) (eC (.int 4096))) (eVar 1)))))))
noncomputable def F__law_dip : FF := runF 2 d__law_dip
noncomputable def d__law_board : Fs :=
  (bSeq (bAsg 2 (fCall F__law_dip (aCons (eVar 0) (aFr (eC (.int 4)) aNil))))
  (bSeq (bIf (dTst (dOp2 gLt (eVar 2) (eC (.int 2)))) (bRet (eTup (aFr (eC (.str "row")) (aFr (dOp2 gAdd (eC (.int 3)) (fCall F__law_dip (aCons (eVar 0) (aFr (dOp2 DL.gSub (eVar 1) (eC (.int 2))) aNil)))) aNil)))) bNext)
  (bSeq (bIf (dTst (dOp2 gEq (eVar 2) (eC (.int 2)))) (bRet (eTup (aFr (eC (.str "ring")) (aFr (dOp2 gAdd (eC (.int 5)) (fCall F__law_dip (aCons (eVar 0) (aFr (dOp2 DL.gSub (eVar 1) (eC (.int 4))) aNil)))) aNil)))) bNext)
  (bSeq (bAsg 3 (dOp2 gAdd (eC (.int 1)) (fCall F__law_dip (aCons (eVar 0) (aFr (eC (.int 6)) aNil)))))
  (bSeq (bIf (dTst (dOp2 gGt (dOp2 gMul (eC (.int 3)) (eVar 3)) (eVar 1))) (bAsg 3 (dOp2 gDiv (eVar 1) (eC (.int 3)))) bNext)
  (bSeq (bAsg 4 (dOp2 gAdd (eC (.int 3)) (fCall F__law_dip (aCons (eVar 0) (aFr (dOp2 DL.gSub (dOp2 gDiv (eVar 1) (eVar 3)) (eC (.int 2))) aNil)))))
  (bRet (dOp2 gIx (eLst (aFr (eTup (aFr (eC (.str "floor")) (aFr (eVar 3) (aFr (eVar 4) aNil)))) (aFr (eTup (aFr (eC (.str "floor")) (aFr (eVar 4) (aFr (eVar 3) aNil)))) aNil))) (fCall F__law_dip (aCons (eVar 0) (aFr (eC (.int 2)) aNil)))))))))))
noncomputable def F__law_board : FF := runF 3 d__law_board
noncomputable def d__law_rules : Fs :=
  (bSeq (bAsg 1 (eLst aNil))
  (bSeq (bIf (dTst (dOp2 gNe (dOp2 gIx (eVar 0) (eC (.int 0))) (eC (.str "floor")))) (bSeq (bFor (iRange2 (aFr (eC (.int 1)) (aFr (dOp2 gAdd (dOp2 gDiv (dOp2 gIx (eVar 0) (eC (.int 1))) (dOp2 gIx (eLst (aFr (eC (.int 3)) (aFr (eC (.int 5)) aNil))) (dCall gInt (aCons (dOp2 gEq (dOp2 gIx (eVar 0) (eC (.int 0))) (eC (.str "ring"))) aNil)))) (eC (.int 1))) aNil))) (gNm 2)
  (bAsg 1 (dOp2 gAdd (eVar 1) (eLst (aFr (eTup (aFr (eC (.str "swap")) (aFr (eVar 2) (aFr (eC (.int 0)) aNil)))) (aFr (eTup (aFr (eC (.str "swap")) (aFr (eVar 2) (aFr (eC (.int 1)) aNil)))) aNil))))))
  (bRet (eVar 1))) bNext)
  (bSeq (bUnp (gTp 3 (gsCons (gNm 3) (gsCons (gNm 4) (gsCons (gNm 5) gsNil)))) (eVar 0))
  (bSeq (bFor (iRange2 (aFr (eC (.int 1)) (aFr (dOp2 gAdd (eVar 4) (eC (.int 1))) aNil))) (gNm 6)
  (bFor (iRange2 (aFr (eC (.int 1)) (aFr (dOp2 gAdd (eVar 5) (eC (.int 1))) aNil))) (gNm 7)
  (bSeq (bIf (dAnd (dTst (dOp2 gLe (dOp2 gMul (eC (.int 3)) (eVar 7)) (eVar 5))) (dTst (dOp2 gLe (dOp2 DL.gSub (dOp2 gMul (eC (.int 2)) (eVar 6)) (eC (.int 1))) (eVar 4)))) (bAsg 1 (dOp2 gAdd (eVar 1) (eLst (aFr (eTup (aFr (eC (.str "over")) (aFr (eVar 6) (aFr (eVar 7) (aFr (eC (.int 0)) aNil))))) (aFr (eTup (aFr (eC (.str "over")) (aFr (eVar 6) (aFr (eVar 7) (aFr (eC (.int 1)) aNil))))) aNil))))) bNext)
  (bIf (dAnd (dTst (dOp2 gLe (dOp2 gMul (eC (.int 3)) (eVar 6)) (eVar 4))) (dTst (dOp2 gLe (dOp2 DL.gSub (dOp2 gMul (eC (.int 2)) (eVar 7)) (eC (.int 1))) (eVar 5)))) (bAsg 1 (dOp2 gAdd (eVar 1) (eLst (aFr (eTup (aFr (eC (.str "under")) (aFr (eVar 6) (aFr (eVar 7) (aFr (eC (.int 0)) aNil))))) (aFr (eTup (aFr (eC (.str "under")) (aFr (eVar 6) (aFr (eVar 7) (aFr (eC (.int 1)) aNil))))) aNil))))) bNext))))
  (bRet (eVar 1))))))
noncomputable def F__law_rules : FF := runF 7 d__law_rules
noncomputable def d__law_book : Fs :=
  (bSeq (bAsg 2 (fCall F__law_rules (aFr (eVar 1) aNil)))
  (bSeq (bAsg 3 (eLst aNil))
  (bSeq (bFor (iRange1 (aFr (dCall gMin (aCons (dCall gLen (aCons (eVar 2) aNil)) (aCons (dOp2 gAdd (eC (.int 1)) (fCall F__law_dip (aCons (eVar 0) (aFr (eC (.int 4)) aNil)))) aNil))) aNil)) (gNm 4)
  (bDrop (dMt 3 (aFr (dMt 2 (aFr (fCall F__law_dip (aCons (eVar 0) (aFr (dCall gLen (aCons (eVar 2) aNil)) aNil))) aNil) gPopAt) aNil) gApp)))
  (bRet (dCall gTuple (aCons (eVar 3) aNil))))))
noncomputable def F__law_book : FF := runF 3 d__law_book
noncomputable def d__law_measure : Fs :=
  (bSeq (bAsg 1 (eC (.int 0)))
  (bSeq (bFor (iAny (eVar 0)) (gNm 2)
  (bSeq (bPar 3 4 (aFr (eVar 1) (aFr (eVar 2) aNil)))
  (bSeq (bWhile (dTst (dOp2 gGt (eVar 4) (eC (.int 0)))) (bPar 3 4 (aFr (eVar 4) (aFr (dOp2 gMod (eVar 3) (eVar 4)) aNil))))
  (bAsg 1 (eVar 3)))))
  (bRet (eVar 1))))
noncomputable def F__law_measure : FF := runF 4 d__law_measure
noncomputable def d__law_calm : Fs :=
  (bSeq (bAsg 2 (fCall F__law_dip (aCons (eVar 0) (aFr (eC (.int 4)) aNil))))
  (bSeq (bIf (dTst (dOp2 gLt (eVar 2) (eC (.int 2)))) (bRet (eVar 1)) bNext)
  (bSeq (bAsg 3 (eLst aNil))
  (bSeq (bFor (iAny (eVar 1)) (gNm 4)
  (bSeq (bAsg 5 (dIfE (dTst (dOp2 gEq (dOp2 gIx (eVar 4) (eC (.int 0))) (eC (.str "over")))) (dOp2 gIx (eVar 4) (eC (.int 2))) (dOp2 gIx (eVar 4) (eC (.int 1)))))
  (bSeq (bAsg 6 (dOp2 gAdd (dSl (eVar 4) oNo (oSome (dNeg (eC (.int 1))))) (eTup (aFr (dOp2 gMul (dOp2 gMod (eVar 5) (eC (.int 2))) (dOp2 DL.gSub (eC (.int 3)) (eVar 2))) aNil))))
  (bIf (dTst (dOp2 gNotIn (eVar 6) (eVar 3))) (bDrop (dMt 3 (aFr (eVar 6) aNil) gApp)) bNext))))
  (bRet (dCall gTuple (aCons (eVar 3) aNil)))))))
noncomputable def F__law_calm : FF := runF 5 d__law_calm
noncomputable def d__law_fits : Fs :=
  (bSeq (bIf (dTst (dOp2 gEq (dCall gSum (aCons (eVar 1) aNil)) (eC (.int 0)))) (bRet (eC (.bl true))) bNext)
  (bSeq (bIf (dTst (dOp2 gEq (dOp2 gMod (dOp2 gDiv (eVar 3) (eVar 2)) (eC (.int 2))) (eC (.int 1)))) (bRet (eC (.bl false))) bNext)
  (bRet (dOp2 gEq (eVar 1) (dLc (iAny (eVar 0)) (gNm 4) dYes (dOp2 gMod (dOp2 gDiv (eVar 4) (eVar 2)) (eC (.int 2))) [4])))))
noncomputable def F__law_fits : FF := runF 1 d__law_fits
noncomputable def d__law_even : Fs :=
  (bSeq (bIf (dTst (dOp2 gNe (dOp2 gIx (eVar 0) (eC (.int 0))) (eC (.str "floor")))) (bSeq (bAsg 2 (dLc (iAny (eVar 1)) (gNm 7) dYes (dOp2 gIx (eVar 7) (eC (.int 1))) [7]))
  (bSeq (bAsg 3 (dOp2 gMul (dOp2 gIx (eVar 0) (eC (.int 1))) (dCall gInt (aCons (dOp2 gEq (dOp2 gIx (eVar 0) (eC (.int 0))) (eC (.str "ring"))) aNil))))
  (bRet (fCall F__law_fits (aFr (eVar 2) (aFr (dLc (iAny (eVar 1)) (gNm 7) dYes (dOp2 gIx (eVar 7) (eC (.int 2))) [7]) (aFr (fCall F__law_measure (aFr (dOp2 gAdd (eVar 2) (eLst (aFr (eVar 3) aNil))) aNil)) (aFr (eVar 3) aNil)))))))) bNext)
  (bSeq (bFor (iAny (eTup (aFr (eTup (aFr (eC (.str "over")) (aFr (eC (.int 2)) aNil))) (aFr (eTup (aFr (eC (.str "under")) (aFr (eC (.int 1)) aNil))) aNil)))) (gTp 2 (gsCons (gNm 4) (gsCons (gNm 5) gsNil)))
  (bSeq (bAsg 2 (dLc (iAny (eVar 1)) (gNm 7) (dTst (dOp2 gEq (dOp2 gIx (eVar 7) (eC (.int 0))) (eVar 4))) (dOp2 gIx (eVar 7) (eVar 5)) [7]))
  (bSeq (bAsg 6 (dLc (iAny (eVar 1)) (gNm 7) (dTst (dOp2 gEq (dOp2 gIx (eVar 7) (eC (.int 0))) (eVar 4))) (dOp2 gIx (eVar 7) (eC (.int 3))) [7]))
  (bIf (dAnd (dTst (dOp2 gNe (eVar 2) (eLst aNil))) (dNot (dTst (fCall F__law_fits (aFr (eVar 2) (aFr (eVar 6) (aFr (fCall F__law_measure (aFr (eVar 2) aNil)) (aFr (eC (.int 0)) aNil)))))))) (bRet (eC (.bl false))) bNext))))
  (bRet (eC (.bl true)))))
noncomputable def F__law_even : FF := runF 6 d__law_even
noncomputable def d_law : Fs :=
  (bSeq (bFor (iRange1 (aFr (dCall gMax (aCons (eC (.int 1)) (aCons (dCall gMin (aCons (eC (.int 6)) (aCons (dCall gLen (aCons (eVar 0) aNil)) aNil))) aNil))) aNil)) (gNm 1)
  (bSeq (bAsg 2 (fCall F__law_pot (aFr (eVar 0) (aFr (eVar 1) aNil))))
  (bSeq (bAsg 3 (fCall F__law_board (aCons (eVar 2) (aFr (eC (.int 36)) aNil))))
  (bSeq (bAsg 4 (fCall F__law_calm (aCons (eVar 2) (aFr (fCall F__law_book (aCons (eVar 2) (aFr (eVar 3) aNil))) aNil))))
  (bIf (dTst (dOp2 gNe (fCall F_is_even (aFr (eVar 3) (aFr (eVar 4) aNil))) (fCall F__law_even (aFr (eVar 3) (aFr (eVar 4) aNil))))) (bRet (eC (.bl false))) bNext)))))
  (bRet (eC (.bl true))))
noncomputable def F_law : FF := runF 4 d_law
section
variable {P : Program} {w : World} {K : PySem.W.Frag} {mg : Str → Option Value} {base : Heap}
theorem ok_cells_many (T : Tx fa fn K mg)   : Df P w K mg base 1 "cells_many" ps_cells_many F_cells_many := by
  obtain ⟨fd, Fd⟩ := T.c.def_ 0 (d := df_cells_many) rfl
  refine dfMk (st := s_cells_many) (N := N_cells_many) Fd (T.gl 9 rfl) sc_cells_many (fun _ _ _ _ _ _ us hl => match us, hl with | [_], _ => rfl) fun cdv A outer s H gd hr => ?_
  have nd := sc_cells_many.nd
  exact (db_cons (ds_if (dt_cmp (OpR.or op_eq (op_eqD (hu64 hr))) g_eq (de_ix (dv 0) de_int) de_str (nomark _)) (db_one (ds_ret (de_op op_mulU g_mul (de_ix (dv 0) de_int) (de_ix (dv 0) de_int)))) db_nil)
    (db_one (ds_ret (de_ix (dv 0) de_int))))
theorem ok_first_cells (T : Tx fa fn K mg)  (D_cells_many : Df P w K mg base 1 "cells_many" ps_cells_many F_cells_many) : Df P w K mg base 2 "first_cells" ps_first_cells F_first_cells := by
  obtain ⟨fd, Fd⟩ := T.c.def_ 1 (d := df_first_cells) rfl
  refine dfMk (st := s_first_cells) (N := N_first_cells) Fd (T.gl 10 rfl) sc_first_cells (fun _ _ _ _ _ _ us hl => match us, hl with | [_, _], _ => rfl) fun cdv A outer s H gd hr => ?_
  have nd := sc_first_cells.nd
  have hr_cells_many := hr.mono (show 1 ≤ 1 by decide)
  exact (db_cons (sset 2 nd (de_callD D_cells_many gd hr_cells_many rfl (da_fr (dv 0) da_nil) (.fr .nil)))
    (db_cons (ds_if (dt_cmp (OpR.or op_eq (op_eqD (hu64 hr))) g_eq (de_ix (dv 0) de_int) de_str (nomark _)) (db_one (ds_ret (de_lrg1 rfl rfl (T.fr 0 rfl) rfl (T.fr 1 rfl) (de_op op_addU g_add (de_op op_sub g_sub (dv 2) (de_op op_mulU g_mul de_int (de_ix (dv 1) de_int))) de_int)))) db_nil)
    (db_cons (ds_if (dt_cmp (OpR.or op_eq (op_eqD (hu64 hr))) g_eq (de_ix (dv 0) de_int) de_str (nomark _)) (db_one (ds_ret (de_lrg1 rfl rfl (T.fr 0 rfl) rfl (T.fr 1 rfl) (dv 2)))) db_nil)
    (db_cons (ds_unp (de_sl (dv 0) (do_some de_int) do_no) (dg_tup rfl (dgs_cons (gnm 3 nd) (dgs_cons (gnm 4 nd) dgs_nil))))
    (db_cons (sset 5 nd (de_op op_addU g_add (de_op op_sub g_sub (dv 3) (de_op op_mulU g_mul (de_ix (dv 1) de_int) (de_op op_addU g_add de_int (de_callTy call_int1 c_int rfl (T.fr 2 rfl) (by decide +kernel) (da_cons (de_cmp (OpR.or op_eq (op_eqD (hu64 hr))) g_eq (de_ix (dv 1) de_int) de_str (nomark _)) da_nil))))) de_int))
    (db_cons (sset 6 nd (de_op op_addU g_add (de_op op_sub g_sub (dv 4) (de_op op_mulU g_mul (de_ix (dv 1) de_int) (de_op op_addU g_add de_int (de_callTy call_int1 c_int rfl (T.fr 2 rfl) (by decide +kernel) (da_cons (de_cmp (OpR.or op_eq (op_eqD (hu64 hr))) g_eq (de_ix (dv 1) de_int) de_str (nomark _)) da_nil))))) de_int))
    (db_one (ds_ret (de_lc2 (own := [("row", 7), ("column", 8)]) (vs1 := [8]) rfl nd (di_range1 rfl (T.fr 1 rfl) (da_fr (dv 5) da_nil)) (blkOk_by (own := [("row", 7), ("column", 8)]) (N := N_first_cells) (sc := defScope s_first_cells) (by decide +kernel)) (fun _ _ _ _ _ => (gnm 7 nd)) (fun _ _ _ _ _ => dts_nil) (fun _ _ _ _ _ => (di_range1 rfl (T.fr 1 rfl) (da_fr (dv 6) da_nil))) (fun _ _ _ _ _ => (gnm 8 nd)) (fun _ _ _ _ _ => dts_nil) (fun _ _ _ _ _ => (de_op op_addU g_add (de_op op_mulU g_mul (dv 7) (dv 4)) (dv 8))))))))))))
theorem ok_all_deeds (T : Tx fa fn K mg)  (D_first_cells : Df P w K mg base 2 "first_cells" ps_first_cells F_first_cells) : Df P w K mg base 3 "all_deeds" ps_all_deeds F_all_deeds := by
  obtain ⟨fd, Fd⟩ := T.c.def_ 2 (d := df_all_deeds) rfl
  refine dfMk (st := s_all_deeds) (N := N_all_deeds) Fd (T.gl 11 rfl) sc_all_deeds (fun _ _ _ _ _ _ us hl => match us, hl with | [_, _], _ => rfl) fun cdv A outer s H gd hr => ?_
  have nd := sc_all_deeds.nd
  have hr_first_cells := hr.mono (show 2 ≤ 2 by decide)
  exact (db_one (ds_ret (de_callTy call_tuple_of c_tuple rfl (T.fr 4 rfl) (by decide +kernel) (da_cons (de_lc2 (own := [("number", 2), ("rule", 3), ("cell", 4)]) (vs1 := [4]) rfl nd (di_enum rfl (T.fr 3 rfl) (da_fr (dv 1) da_nil)) (blkOk_by (own := [("number", 2), ("rule", 3), ("cell", 4)]) (N := N_all_deeds) (sc := defScope s_all_deeds) (by decide +kernel)) (fun _ _ _ _ _ => (dg_tup rfl (dgs_cons (gnm 2 nd) (dgs_cons (gnm 3 nd) dgs_nil)))) (fun _ _ _ _ _ => dts_nil) (fun _ _ _ _ _ => (di_any (de_callD D_first_cells gd hr_first_cells rfl (da_fr (dv 0) (da_fr (dv 3) da_nil)) (.fr (.fr .nil))))) (fun _ _ _ _ _ => (gnm 4 nd)) (fun _ _ _ _ _ => dts_nil) (fun _ _ _ _ _ => (de_tup (da_fr (dv 2) (da_fr (dv 4) da_nil))))) da_nil))))
theorem ok_pairs_at (T : Tx fa fn K mg)  (D_cells_many : Df P w K mg base 1 "cells_many" ps_cells_many F_cells_many) : Df P w K mg base 2 "pairs_at" ps_pairs_at F_pairs_at := by
  obtain ⟨fd, Fd⟩ := T.c.def_ 3 (d := df_pairs_at) rfl
  refine dfMk (st := s_pairs_at) (N := N_pairs_at) Fd (T.gl 12 rfl) sc_pairs_at (fun _ _ _ _ _ _ us hl => match us, hl with | [_, _, _], _ => rfl) fun cdv A outer s H gd hr => ?_
  have nd := sc_pairs_at.nd
  have hr_cells_many := hr.mono (show 1 ≤ 1 by decide)
  exact (db_cons (sset 3 nd (de_callD D_cells_many gd hr_cells_many rfl (da_fr (dv 0) da_nil) (.fr .nil)))
    (db_cons (ds_if (dt_cmp (OpR.or op_eq (op_eqD (hu64 hr))) g_eq (de_ix (dv 1) de_int) de_str (nomark _)) (db_one (ds_ret (de_callTy call_tuple_of c_tuple rfl (T.fr 4 rfl) (by decide +kernel) (da_cons (de_lc (own := [("k", 7)]) rfl nd (di_range1 rfl (T.fr 1 rfl) (da_fr (de_ix (dv 1) de_int) da_nil)) (blkOk_by (own := [("k", 7)]) (N := N_pairs_at) (sc := defScope s_pairs_at) (by decide +kernel)) (fun _ _ _ _ _ => (gnm 7 nd)) (fun _ _ _ _ _ => dts_nil) (fun _ _ _ _ _ => (de_tup (da_fr (de_op op_mod g_mod (de_op op_addU g_add (dv 2) (dv 7)) (dv 3)) (da_fr (de_op op_mod g_mod (de_op op_addU g_add (de_op op_addU g_add (dv 2) (dv 7)) (de_ix (dv 1) de_int)) (dv 3)) da_nil))))) da_nil)))) db_nil)
    (db_cons (sset 4 nd (de_ix (dv 0) de_int))
    (db_cons (sset 5 nd (de_ix (dv 1) de_int))
    (db_cons (ds_if (dt_cmp (OpR.or op_eq (op_eqD (hu64 hr))) g_eq (de_ix (dv 1) de_int) de_str (nomark _)) (db_one (sset 5 nd (de_op op_mulU g_mul (de_ix (dv 1) de_int) (dv 4)))) db_nil)
    (db_cons (ds_setLc2 (i := 6) (own := [("row", 8), ("column", 9)]) (vs1 := [9]) rfl nd rfl rfl (sw_true rfl rfl rfl (by decide +kernel)) (di_range1 rfl (T.fr 1 rfl) (da_fr (de_ix (dv 1) de_int) da_nil)) (blkOk_by (own := [("row", 8), ("column", 9)]) (N := N_pairs_at) (sc := defScope s_pairs_at) (by decide +kernel)) (fun _ _ _ _ _ => (gnm 8 nd)) (fun _ _ _ _ _ => dts_nil) (fun _ _ _ _ _ => (di_range1 rfl (T.fr 1 rfl) (da_fr (de_ix (dv 1) de_int) da_nil))) (fun _ _ _ _ _ => (gnm 9 nd)) (fun _ _ _ _ _ => dts_nil) (fun _ _ _ _ _ => (de_op op_addU g_add (de_op op_addU g_add (dv 2) (de_op op_mulU g_mul (dv 8) (dv 4))) (dv 9))))
    (db_one (ds_ret (de_callTy call_tuple_of c_tuple rfl (T.fr 4 rfl) (by decide +kernel) (da_cons (de_lc (own := [("one", 10)]) rfl nd (di_any (dv 6)) (blkOk_by (own := [("one", 10)]) (N := N_pairs_at) (sc := defScope s_pairs_at) (by decide +kernel)) (fun _ _ _ _ _ => (gnm 10 nd)) (fun _ _ _ _ _ => dts_nil) (fun _ _ _ _ _ => (de_tup (da_fr (dv 10) (da_fr (de_op op_addU g_add (dv 10) (dv 5)) da_nil))))) da_nil))))))))))
theorem ok_is_bent (T : Tx fa fn K mg)   : Df P w K mg base 1 "is_bent" ps_is_bent F_is_bent := by
  obtain ⟨fd, Fd⟩ := T.c.def_ 4 (d := df_is_bent) rfl
  refine dfMk (st := s_is_bent) (N := N_is_bent) Fd (T.gl 13 rfl) sc_is_bent (fun _ _ _ _ _ _ us hl => match us, hl with | [_], _ => rfl) fun cdv A outer s H gd hr => ?_
  have nd := sc_is_bent.nd
  exact (db_one (ds_ret (de_cmp (OpR.or op_eq (op_eqD (hu64 hr))) g_eq (de_ix (dv 0) (de_neg de_int)) de_int (nomark _))))
theorem ok_ties_of (T : Tx fa fn K mg)  (D_all_deeds : Df P w K mg base 3 "all_deeds" ps_all_deeds F_all_deeds) (D_pairs_at : Df P w K mg base 2 "pairs_at" ps_pairs_at F_pairs_at) (D_is_bent : Df P w K mg base 1 "is_bent" ps_is_bent F_is_bent) : Df P w K mg base 4 "ties_of" ps_ties_of F_ties_of := by
  obtain ⟨fd, Fd⟩ := T.c.def_ 5 (d := df_ties_of) rfl
  refine dfMk (st := s_ties_of) (N := N_ties_of) Fd (T.gl 14 rfl) sc_ties_of (fun _ _ _ _ _ _ us hl => match us, hl with | [_, _], _ => rfl) fun cdv A outer s H gd hr => ?_
  have nd := sc_ties_of.nd
  have hr_all_deeds := hr.mono (show 3 ≤ 3 by decide)
  have hr_pairs_at := hr.mono (show 2 ≤ 3 by decide)
  have hr_is_bent := hr.mono (show 1 ≤ 3 by decide)
  exact (db_ties (F := 2) (r := 5) PassesOwn.never rfl (hu65 hr) nd rfl (by first | exact Or.inl rfl | exact Or.inr rfl) rfl (by first | exact Or.inl rfl | exact Or.inr rfl) (di_any (de_callD D_all_deeds gd hr_all_deeds rfl (da_fr (dv 0) (da_fr (dv 1) da_nil)) (.fr (.fr .nil)))) (dg_tup rfl (dgs_cons (gnm 3 nd) (dgs_cons (gnm 4 nd) dgs_nil))) (de_ix (dv 1) (dv 3)) (di_any (de_callD D_pairs_at gd hr_pairs_at rfl (da_fr (dv 0) (da_fr (dv 5) (da_fr (dv 4) da_nil))) (.fr (.fr (.fr .nil))))) (dg_tup rfl (dgs_cons (gnm 6 nd) (dgs_cons (gnm 7 nd) dgs_nil))) (de_tup (da_fr (dv 6) (da_fr (dv 7) (da_fr (de_callD D_is_bent gd hr_is_bent rfl (da_fr (dv 5) da_nil) (.fr .nil)) da_nil)))) (pv 2) (pv 2) rfl (T.fr 0 rfl))
theorem ok_near_cells (T : Tx fa fn K mg)  (D_cells_many : Df P w K mg base 1 "cells_many" ps_cells_many F_cells_many) (D_ties_of : Df P w K mg base 4 "ties_of" ps_ties_of F_ties_of) : Df P w K mg base 5 "near_cells" ps_near_cells F_near_cells := by
  obtain ⟨fd, Fd⟩ := T.c.def_ 6 (d := df_near_cells) rfl
  refine dfMk (st := s_near_cells) (N := N_near_cells) Fd (T.gl 15 rfl) sc_near_cells (fun _ _ _ _ _ _ us hl => match us, hl with | [_, _], _ => rfl) fun cdv A outer s H gd hr => ?_
  have nd := sc_near_cells.nd
  have hr_cells_many := hr.mono (show 1 ≤ 4 by decide)
  have hr_ties_of := hr.mono (show 4 ≤ 4 by decide)
  exact (db_near (N := 2) (own := [("cell", 6)]) PassesOwn.never rfl nd rfl rfl (sw_true rfl rfl rfl (by decide +kernel)) (di_range1 rfl (T.fr 1 rfl) (da_fr (de_callD D_cells_many gd hr_cells_many rfl (da_fr (dv 0) da_nil) (.fr .nil)) da_nil)) (blkOk_by (own := [("cell", 6)]) (N := N_near_cells) (sc := defScope s_near_cells) (by decide +kernel)) (fun _ _ _ _ _ => (gnm 6 nd))
    (di_any (de_callD D_ties_of gd hr_ties_of rfl (da_fr (dv 0) (da_fr (dv 1) da_nil)) (.fr (.fr .nil)))) (dg_tup rfl (dgs_cons (gnm 3 nd) (dgs_cons (gnm 4 nd) (dgs_cons (gnm 5 nd) dgs_nil)))) (pv 2) (dv 3) (de_tup (da_fr (dv 4) (da_fr (dv 5) da_nil))) (pv 2) (dv 4) (de_tup (da_fr (dv 3) (da_fr (dv 5) da_nil)))
    (db_one (ds_ret (dv 2))))
theorem ok_marks_found (T : Tx fa fn K mg)  (D_near_cells : Df P w K mg base 5 "near_cells" ps_near_cells F_near_cells) : Df P w K mg base 6 "marks_found" ps_marks_found F_marks_found := by
  obtain ⟨fd, Fd⟩ := T.c.def_ 7 (d := df_marks_found) rfl
  refine dfMk (st := s_marks_found) (N := N_marks_found) Fd (T.gl 16 rfl) sc_marks_found (fun _ _ _ _ _ _ us hl => match us, hl with | [_, _], _ => rfl) fun cdv A outer s H gd hr => ?_
  have nd := sc_marks_found.nd
  have hr_near_cells := hr.mono (show 5 ≤ 5 by decide)
  exact (db_cons (sset 2 nd (de_callD D_near_cells gd hr_near_cells rfl (da_fr (dv 0) (da_fr (dv 1) da_nil)) (.fr (.fr .nil))))
    (db_cons (sset 3 nd de_dnewK)
    (db_cons (ds_for PassesOwn.never rfl (di_range1 rfl (T.fr 1 rfl) (da_fr (de_callB call_len c_len rfl (T.fr 5 rfl) PySem.boot_len (da_cons (dv 2) da_nil)) da_nil)) (gnm 4 nd)
    (db_cons (ds_if (dt_din (hu65 hr) (dv 4) (pv 3)) (db_one ds_cont) db_nil)
    (db_cons (ds_dput (hu65 hr) (pv 3) (dv 4) de_int)
    (db_cons (sset 5 nd (de_lst (da_fr (dv 4) da_nil)))
    (db_one (ds_while PassesOwn.never (dt_cmp (OpR.or op_ne (op_neD (hu64 hr))) g_ne (dv 5) (de_lst da_nil) (nomark _)) (db_cons (sset 6 nd (de_mt0 PySem.F.slot_list_pop PySem.F.type_list_pop mt_pop m_pop (pv 5)))
    (db_one (ds_for PassesOwn.never rfl (di_any (de_ix (dv 2) (dv 6))) (dg_tup rfl (dgs_cons (gnm 7 nd) (dgs_cons (gnm 8 nd) dgs_nil)))
    (db_cons (sset 9 nd (de_op op_mod g_mod (de_op op_addU g_add (de_dget (hu65 hr) (pv 3) (dv 6)) (de_callTy call_int1 c_int rfl (T.fr 2 rfl) (by decide +kernel) (da_cons (dv 8) da_nil))) de_int))
    (db_one (ds_if (dt_dnotin (hu65 hr) (dv 7) (pv 3)) (db_cons (ds_dput (hu65 hr) (pv 3) (dv 7) (dv 9))
    (db_one (ds_expr (de_mt PySem.F.slot_list_append PySem.F.type_list_append mt_append m_app (pv 5) (da_fr (dv 7) da_nil))))) (db_one (ds_if (dt_cmp (OpR.or op_ne (op_neD (hu64 hr))) g_ne (de_dget (hu65 hr) (pv 3) (dv 7)) (dv 9) (nomark _)) (db_one (ds_ret de_non)) db_nil))))))))))))))
    (db_one (ds_ret (de_callTy call_tuple_of c_tuple rfl (T.fr 4 rfl) (by decide +kernel) (da_cons (de_lc (own := [("cell", 6)]) rfl nd (di_range1 rfl (T.fr 1 rfl) (da_fr (de_callB call_len c_len rfl (T.fr 5 rfl) PySem.boot_len (da_cons (dv 2) da_nil)) da_nil)) (blkOk_by (own := [("cell", 6)]) (N := N_marks_found) (sc := defScope s_marks_found) (by decide +kernel)) (fun _ _ _ _ _ => (gnm 6 nd)) (fun _ _ _ _ _ => dts_nil) (fun _ _ _ _ _ => (de_dget (hu65 hr) (pv 3) (dv 6)))) da_nil)))))))
theorem ok_is_even (T : Tx fa fn K mg)  (D_marks_found : Df P w K mg base 6 "marks_found" ps_marks_found F_marks_found) : Df P w K mg base 7 "is_even" ps_is_even F_is_even := by
  obtain ⟨fd, Fd⟩ := T.c.def_ 8 (d := df_is_even) rfl
  refine dfMk (st := s_is_even) (N := N_is_even) Fd (T.gl 17 rfl) sc_is_even (fun _ _ _ _ _ _ us hl => match us, hl with | [_, _], _ => rfl) fun cdv A outer s H gd hr => ?_
  have nd := sc_is_even.nd
  have hr_marks_found := hr.mono (show 6 ≤ 6 by decide)
  exact (db_one (ds_ret (de_cmp op_notN g_isnot (de_callD D_marks_found gd hr_marks_found rfl (da_fr (dv 0) (da_fr (dv 1) da_nil)) (.fr (.fr .nil))) de_non (nomark _))))
theorem ok__law_pot (T : Tx fa fn K mg)   : Df P w K mg base 1 "_law_pot" ps__law_pot F__law_pot := by
  obtain ⟨fd, Fd⟩ := T.c.def_ 9 (d := df__law_pot) rfl
  refine dfMk (st := s__law_pot) (N := N__law_pot) Fd (T.gl 18 rfl) sc__law_pot (fun _ _ _ _ _ _ us hl => match us, hl with | [_, _], _ => rfl) fun cdv A outer s H gd hr => ?_
  have nd := sc__law_pot.nd
  exact (db_cons (sset 2 nd de_int)
    (db_cons (ds_if (dt_cmp op_lt (g_cmp _) (dv 1) (de_callB call_len c_len rfl (T.fr 5 rfl) PySem.boot_len (da_cons (dv 0) da_nil)) (nomark _)) (db_one (sset 2 nd (de_ix (dv 0) (dv 1)))) db_nil)
    (db_one (ds_ret (de_lst (da_fr (de_callB (call_max2 rfl) c_max rfl (T.fr 6 rfl) (by decide +kernel) (da_cons de_int (da_cons (de_op op_sub g_sub (dv 2) (de_op op_powW g_pow de_int de_int)) da_nil))) (da_fr (de_op op_addU g_add (de_op op_mod g_mod (dv 2) (de_op op_addU g_add (de_op op_powW g_pow de_int de_int) de_int)) (de_op op_mulU g_mul de_int (dv 1))) (da_fr de_int da_nil))))))))
theorem ok__law_dip (T : Tx fa fn K mg)   : Df P w K mg base 1 "_law_dip" ps__law_dip F__law_dip := by
  obtain ⟨fd, Fd⟩ := T.c.def_ 10 (d := df__law_dip) rfl
  refine dfMk (st := s__law_dip) (N := N__law_dip) Fd (T.gl 19 rfl) sc__law_dip (fun _ _ _ _ _ _ us hl => match us, hl with | [_, _], _ => rfl) fun cdv A outer s H gd hr => ?_
  have nd := sc__law_dip.nd
  exact (db_cons (ds_if (dt_cmp op_gt (g_cmp _) (de_ix (dv 0) de_int) de_int (nomark _)) (db_cons (sset 2 nd (de_op op_mod g_mod (de_ix (dv 0) de_int) (dv 1)))
    (db_cons (ds_setIx (i := 0) (de_op op_fdivW g_div (de_ix (dv 0) de_int) (dv 1)) (pv 0) de_int)
    (db_one (ds_ret (dv 2))))) db_nil)
    (db_cons (ds_setIx (i := 0) (de_op op_addU g_add (de_ix (dv 0) de_int) de_int) (pv 0) de_int)
    (db_cons (sset 3 nd (de_op op_mod g_mod (de_op op_powW g_pow (de_op op_addU g_add (de_ix (dv 0) de_int) (de_op op_mulU g_mul de_int (de_ix (dv 0) de_int))) de_int) (de_op op_addU g_add (de_op op_powW g_pow de_int de_int) de_int)))
    (db_cons (sset 3 nd (de_op op_mod g_mod (de_op op_powW g_pow (de_op op_addU g_add (dv 3) (de_op op_mulU g_mul de_int (de_ix (dv 0) de_int))) de_int) (de_op op_addU g_add (de_op op_powW g_pow de_int de_int) de_int)))
    (db_one (ds_ret (de_op op_mod g_mod (de_op op_fdivW g_div (dv 3) de_int) (dv 1))))))))
theorem ok__law_board (T : Tx fa fn K mg)  (D__law_dip : Df P w K mg base 1 "_law_dip" ps__law_dip F__law_dip) : Df P w K mg base 2 "_law_board" ps__law_board F__law_board := by
  obtain ⟨fd, Fd⟩ := T.c.def_ 11 (d := df__law_board) rfl
  refine dfMk (st := s__law_board) (N := N__law_board) Fd (T.gl 20 rfl) sc__law_board (fun _ _ _ _ _ _ us hl => match us, hl with | [_, _], _ => rfl) fun cdv A outer s H gd hr => ?_
  have nd := sc__law_board.nd
  have hr__law_dip := hr.mono (show 1 ≤ 1 by decide)
  exact (db_cons (sset 2 nd (de_callD D__law_dip gd hr__law_dip rfl (da_cons (dv 0) (da_fr de_int da_nil)) (.cons (.fr .nil))))
    (db_cons (ds_if (dt_cmp op_lt (g_cmp _) (dv 2) de_int (nomark _)) (db_one (ds_ret (de_tup (da_fr de_str (da_fr (de_op op_addU g_add de_int (de_callD D__law_dip gd hr__law_dip rfl (da_cons (dv 0) (da_fr (de_op op_sub g_sub (dv 1) de_int) da_nil)) (.cons (.fr .nil)))) da_nil))))) db_nil)
    (db_cons (ds_if (dt_cmp (OpR.or op_eq (op_eqD (hu64 hr))) g_eq (dv 2) de_int (nomark _)) (db_one (ds_ret (de_tup (da_fr de_str (da_fr (de_op op_addU g_add de_int (de_callD D__law_dip gd hr__law_dip rfl (da_cons (dv 0) (da_fr (de_op op_sub g_sub (dv 1) de_int) da_nil)) (.cons (.fr .nil)))) da_nil))))) db_nil)
    (db_cons (sset 3 nd (de_op op_addU g_add de_int (de_callD D__law_dip gd hr__law_dip rfl (da_cons (dv 0) (da_fr de_int da_nil)) (.cons (.fr .nil)))))
    (db_cons (ds_if (dt_cmp op_gt (g_cmp _) (de_op op_mulU g_mul de_int (dv 3)) (dv 1) (nomark _)) (db_one (sset 3 nd (de_op op_fdivW g_div (dv 1) de_int))) db_nil)
    (db_cons (sset 4 nd (de_op op_addU g_add de_int (de_callD D__law_dip gd hr__law_dip rfl (da_cons (dv 0) (da_fr (de_op op_sub g_sub (de_op op_fdivW g_div (dv 1) (dv 3)) de_int) da_nil)) (.cons (.fr .nil)))))
    (db_one (ds_ret (de_ix (de_lst (da_fr (de_tup (da_fr de_str (da_fr (dv 3) (da_fr (dv 4) da_nil)))) (da_fr (de_tup (da_fr de_str (da_fr (dv 4) (da_fr (dv 3) da_nil)))) da_nil))) (de_callD D__law_dip gd hr__law_dip rfl (da_cons (dv 0) (da_fr de_int da_nil)) (.cons (.fr .nil))))))))))))
theorem ok__law_rules (T : Tx fa fn K mg)   : Df P w K mg base 1 "_law_rules" ps__law_rules F__law_rules := by
  obtain ⟨fd, Fd⟩ := T.c.def_ 12 (d := df__law_rules) rfl
  refine dfMk (st := s__law_rules) (N := N__law_rules) Fd (T.gl 21 rfl) sc__law_rules (fun _ _ _ _ _ _ us hl => match us, hl with | [_], _ => rfl) fun cdv A outer s H gd hr => ?_
  have nd := sc__law_rules.nd
  exact (db_cons (sset 1 nd (de_lst da_nil))
    (db_cons (ds_if (dt_cmp (OpR.or op_ne (op_neD (hu64 hr))) g_ne (de_ix (dv 0) de_int) de_str (nomark _)) (db_cons (ds_for PassesOwn.never rfl (di_range2 rfl (T.fr 1 rfl) (da_fr de_int (da_fr (de_op op_addU g_add (de_op op_fdivW g_div (de_ix (dv 0) de_int) (de_ix (de_lst (da_fr de_int (da_fr de_int da_nil))) (de_callTy call_int1 c_int rfl (T.fr 2 rfl) (by decide +kernel) (da_cons (de_cmp (OpR.or op_eq (op_eqD (hu64 hr))) g_eq (de_ix (dv 0) de_int) de_str (nomark _)) da_nil)))) de_int) da_nil))) (gnm 2 nd)
    (db_one (sset 1 nd (de_op op_addU g_add (dv 1) (de_lst (da_fr (de_tup (da_fr de_str (da_fr (dv 2) (da_fr de_int da_nil)))) (da_fr (de_tup (da_fr de_str (da_fr (dv 2) (da_fr de_int da_nil)))) da_nil)))))))
    (db_one (ds_ret (dv 1)))) db_nil)
    (db_cons (ds_unp (dv 0) (dg_tup rfl (dgs_cons (gnm 3 nd) (dgs_cons (gnm 4 nd) (dgs_cons (gnm 5 nd) dgs_nil)))))
    (db_cons (ds_for PassesOwn.never rfl (di_range2 rfl (T.fr 1 rfl) (da_fr de_int (da_fr (de_op op_addU g_add (dv 4) de_int) da_nil))) (gnm 6 nd)
    (db_one (ds_for PassesOwn.never rfl (di_range2 rfl (T.fr 1 rfl) (da_fr de_int (da_fr (de_op op_addU g_add (dv 5) de_int) da_nil))) (gnm 7 nd)
    (db_cons (ds_if (dt_bool (dw_and (dt_cmp op_le (g_cmp _) (de_op op_mulU g_mul de_int (dv 7)) (dv 5) (nomark _)) (dw_and1 (dt_cmp op_le (g_cmp _) (de_op op_sub g_sub (de_op op_mulU g_mul de_int (dv 6)) de_int) (dv 4) (nomark _))))) (db_one (sset 1 nd (de_op op_addU g_add (dv 1) (de_lst (da_fr (de_tup (da_fr de_str (da_fr (dv 6) (da_fr (dv 7) (da_fr de_int da_nil))))) (da_fr (de_tup (da_fr de_str (da_fr (dv 6) (da_fr (dv 7) (da_fr de_int da_nil))))) da_nil)))))) db_nil)
    (db_one (ds_if (dt_bool (dw_and (dt_cmp op_le (g_cmp _) (de_op op_mulU g_mul de_int (dv 6)) (dv 4) (nomark _)) (dw_and1 (dt_cmp op_le (g_cmp _) (de_op op_sub g_sub (de_op op_mulU g_mul de_int (dv 7)) de_int) (dv 5) (nomark _))))) (db_one (sset 1 nd (de_op op_addU g_add (dv 1) (de_lst (da_fr (de_tup (da_fr de_str (da_fr (dv 6) (da_fr (dv 7) (da_fr de_int da_nil))))) (da_fr (de_tup (da_fr de_str (da_fr (dv 6) (da_fr (dv 7) (da_fr de_int da_nil))))) da_nil)))))) db_nil))))))
    (db_one (ds_ret (dv 1)))))))
theorem ok__law_book (T : Tx fa fn K mg)  (D__law_rules : Df P w K mg base 1 "_law_rules" ps__law_rules F__law_rules) (D__law_dip : Df P w K mg base 1 "_law_dip" ps__law_dip F__law_dip) : Df P w K mg base 2 "_law_book" ps__law_book F__law_book := by
  obtain ⟨fd, Fd⟩ := T.c.def_ 13 (d := df__law_book) rfl
  refine dfMk (st := s__law_book) (N := N__law_book) Fd (T.gl 22 rfl) sc__law_book (fun _ _ _ _ _ _ us hl => match us, hl with | [_, _], _ => rfl) fun cdv A outer s H gd hr => ?_
  have nd := sc__law_book.nd
  have hr__law_rules := hr.mono (show 1 ≤ 1 by decide)
  have hr__law_dip := hr.mono (show 1 ≤ 1 by decide)
  exact (db_cons (sset 2 nd (de_callD D__law_rules gd hr__law_rules rfl (da_fr (dv 1) da_nil) (.fr .nil)))
    (db_cons (sset 3 nd (de_lst da_nil))
    (db_cons (ds_for PassesOwn.never rfl (di_range1 rfl (T.fr 1 rfl) (da_fr (de_callB (call_min2 rfl) c_min rfl (T.fr 7 rfl) (by decide +kernel) (da_cons (de_callB call_len c_len rfl (T.fr 5 rfl) PySem.boot_len (da_cons (dv 2) da_nil)) (da_cons (de_op op_addU g_add de_int (de_callD D__law_dip gd hr__law_dip rfl (da_cons (dv 0) (da_fr de_int da_nil)) (.cons (.fr .nil)))) da_nil))) da_nil)) (gnm 4 nd)
    (db_one (ds_expr (de_mt PySem.F.slot_list_append PySem.F.type_list_append mt_append m_app (pv 3) (da_fr (de_mt PySem.F.slot_list_pop PySem.F.type_list_pop mt_popAt m_popAt (pv 2) (da_fr (de_callD D__law_dip gd hr__law_dip rfl (da_cons (dv 0) (da_fr (de_callB call_len c_len rfl (T.fr 5 rfl) PySem.boot_len (da_cons (dv 2) da_nil)) da_nil)) (.cons (.fr .nil))) da_nil)) da_nil)))))
    (db_one (ds_ret (de_callTy call_tuple_of c_tuple rfl (T.fr 4 rfl) (by decide +kernel) (da_cons (dv 3) da_nil)))))))
theorem ok__law_measure (T : Tx fa fn K mg)   : Df P w K mg base 1 "_law_measure" ps__law_measure F__law_measure := by
  obtain ⟨fd, Fd⟩ := T.c.def_ 14 (d := df__law_measure) rfl
  refine dfMk (st := s__law_measure) (N := N__law_measure) Fd (T.gl 23 rfl) sc__law_measure (fun _ _ _ _ _ _ us hl => match us, hl with | [_], _ => rfl) fun cdv A outer s H gd hr => ?_
  have nd := sc__law_measure.nd
  exact (db_cons (sset 1 nd de_int)
    (db_cons (ds_for PassesOwn.never rfl (di_any (dv 0)) (gnm 2 nd)
    (db_cons (ds_par (i := 3) (j := 4) rfl nd (da_fr (dv 1) (da_fr (dv 2) da_nil)))
    (db_cons (ds_while PassesOwn.never (dt_cmp op_gt (g_cmp _) (dv 4) de_int (nomark _)) (db_one (ds_par (i := 3) (j := 4) rfl nd (da_fr (dv 4) (da_fr (de_op op_mod g_mod (dv 3) (dv 4)) da_nil)))))
    (db_one (sset 1 nd (dv 3))))))
    (db_one (ds_ret (dv 1)))))
theorem ok__law_calm (T : Tx fa fn K mg)  (D__law_dip : Df P w K mg base 1 "_law_dip" ps__law_dip F__law_dip) : Df P w K mg base 2 "_law_calm" ps__law_calm F__law_calm := by
  obtain ⟨fd, Fd⟩ := T.c.def_ 15 (d := df__law_calm) rfl
  refine dfMk (st := s__law_calm) (N := N__law_calm) Fd (T.gl 24 rfl) sc__law_calm (fun _ _ _ _ _ _ us hl => match us, hl with | [_, _], _ => rfl) fun cdv A outer s H gd hr => ?_
  have nd := sc__law_calm.nd
  have hr__law_dip := hr.mono (show 1 ≤ 1 by decide)
  exact (db_cons (sset 2 nd (de_callD D__law_dip gd hr__law_dip rfl (da_cons (dv 0) (da_fr de_int da_nil)) (.cons (.fr .nil))))
    (db_cons (ds_if (dt_cmp op_lt (g_cmp _) (dv 2) de_int (nomark _)) (db_one (ds_ret (dv 1))) db_nil)
    (db_cons (sset 3 nd (de_lst da_nil))
    (db_cons (ds_for PassesOwn.never rfl (di_any (dv 1)) (gnm 4 nd)
    (db_cons (sset 5 nd (de_if (dt_cmp (OpR.or op_eq (op_eqD (hu64 hr))) g_eq (de_ix (dv 4) de_int) de_str (nomark _)) (de_ix (dv 4) de_int) (de_ix (dv 4) de_int)))
    (db_cons (sset 6 nd (de_op op_addU g_add (de_sl (dv 4) do_no (do_some (de_neg de_int))) (de_tup (da_fr (de_op op_mulU g_mul (de_op op_mod g_mod (dv 5) de_int) (de_op op_sub g_sub de_int (dv 2))) da_nil))))
    (db_one (ds_if (dt_cmp (op_notInU (hu65 hr)) g_notIn (dv 6) (dv 3) (by rfl)) (db_one (ds_expr (de_mt PySem.F.slot_list_append PySem.F.type_list_append mt_append m_app (pv 3) (da_fr (dv 6) da_nil)))) db_nil)))))
    (db_one (ds_ret (de_callTy call_tuple_of c_tuple rfl (T.fr 4 rfl) (by decide +kernel) (da_cons (dv 3) da_nil))))))))
theorem ok__law_fits (T : Tx fa fn K mg)   : Df P w K mg base 1 "_law_fits" ps__law_fits F__law_fits := by
  obtain ⟨fd, Fd⟩ := T.c.def_ 16 (d := df__law_fits) rfl
  refine dfMk (st := s__law_fits) (N := N__law_fits) Fd (T.gl 25 rfl) sc__law_fits (fun _ _ _ _ _ _ us hl => match us, hl with | [_, _, _, _], _ => rfl) fun cdv A outer s H gd hr => ?_
  have nd := sc__law_fits.nd
  exact (db_cons (ds_if (dt_cmp (OpR.or op_eq (op_eqD (hu64 hr))) g_eq (de_callB (cr_sum rfl) c_sum rfl (T.fr 8 rfl) (by decide +kernel) (da_cons (dv 1) da_nil)) de_int (nomark _)) (db_one (ds_ret de_bl)) db_nil)
    (db_cons (ds_if (dt_cmp (OpR.or op_eq (op_eqD (hu64 hr))) g_eq (de_op op_mod g_mod (de_op op_fdivW g_div (dv 3) (dv 2)) de_int) de_int (nomark _)) (db_one (ds_ret de_bl)) db_nil)
    (db_one (ds_ret (de_cmp (OpR.or op_eq (op_eqD (hu64 hr))) g_eq (dv 1) (de_lc (own := [("length", 4)]) rfl nd (di_any (dv 0)) (blkOk_by (own := [("length", 4)]) (N := N__law_fits) (sc := defScope s__law_fits) (by decide +kernel)) (fun _ _ _ _ _ => (gnm 4 nd)) (fun _ _ _ _ _ => dts_nil) (fun _ _ _ _ _ => (de_op op_mod g_mod (de_op op_fdivW g_div (dv 4) (dv 2)) de_int))) (nomark _))))))
theorem ok__law_even (T : Tx fa fn K mg)  (D__law_fits : Df P w K mg base 1 "_law_fits" ps__law_fits F__law_fits) (D__law_measure : Df P w K mg base 1 "_law_measure" ps__law_measure F__law_measure) : Df P w K mg base 2 "_law_even" ps__law_even F__law_even := by
  obtain ⟨fd, Fd⟩ := T.c.def_ 17 (d := df__law_even) rfl
  refine dfMk (st := s__law_even) (N := N__law_even) Fd (T.gl 26 rfl) sc__law_even (fun _ _ _ _ _ _ us hl => match us, hl with | [_, _], _ => rfl) fun cdv A outer s H gd hr => ?_
  have nd := sc__law_even.nd
  have hr__law_fits := hr.mono (show 1 ≤ 1 by decide)
  have hr__law_measure := hr.mono (show 1 ≤ 1 by decide)
  exact (db_cons (ds_if (dt_cmp (OpR.or op_ne (op_neD (hu64 hr))) g_ne (de_ix (dv 0) de_int) de_str (nomark _)) (db_cons (ds_setLc (i := 2) (own := [("rule", 7)]) rfl nd rfl rfl (sw_true rfl rfl rfl (by decide +kernel)) (di_any (dv 1)) (blkOk_by (own := [("rule", 7)]) (N := N__law_even) (sc := defScope s__law_even) (by decide +kernel)) (fun _ _ _ _ _ => (gnm 7 nd)) (fun _ _ _ _ _ => dts_nil) (fun _ _ _ _ _ => (de_ix (dv 7) de_int)))
    (db_cons (sset 3 nd (de_op op_mulU g_mul (de_ix (dv 0) de_int) (de_callTy call_int1 c_int rfl (T.fr 2 rfl) (by decide +kernel) (da_cons (de_cmp (OpR.or op_eq (op_eqD (hu64 hr))) g_eq (de_ix (dv 0) de_int) de_str (nomark _)) da_nil))))
    (db_one (ds_ret (de_callD D__law_fits gd hr__law_fits rfl (da_fr (dv 2) (da_fr (de_lc (own := [("rule", 7)]) rfl nd (di_any (dv 1)) (blkOk_by (own := [("rule", 7)]) (N := N__law_even) (sc := defScope s__law_even) (by decide +kernel)) (fun _ _ _ _ _ => (gnm 7 nd)) (fun _ _ _ _ _ => dts_nil) (fun _ _ _ _ _ => (de_ix (dv 7) de_int))) (da_fr (de_callD D__law_measure gd hr__law_measure rfl (da_fr (de_op op_addU g_add (dv 2) (de_lst (da_fr (dv 3) da_nil))) da_nil) (.fr .nil)) (da_fr (dv 3) da_nil)))) (.fr (.fr (.fr (.fr .nil))))))))) db_nil)
    (db_cons (ds_for PassesOwn.never rfl (di_any (de_tup (da_fr (de_tup (da_fr de_str (da_fr de_int da_nil))) (da_fr (de_tup (da_fr de_str (da_fr de_int da_nil))) da_nil)))) (dg_tup rfl (dgs_cons (gnm 4 nd) (dgs_cons (gnm 5 nd) dgs_nil)))
    (db_cons (ds_setLc (i := 2) (own := [("rule", 7)]) rfl nd rfl rfl (sw_true rfl rfl rfl (by decide +kernel)) (di_any (dv 1)) (blkOk_by (own := [("rule", 7)]) (N := N__law_even) (sc := defScope s__law_even) (by decide +kernel)) (fun _ _ _ _ _ => (gnm 7 nd)) (fun _ _ _ _ _ => (dts_one (dt_cmp (OpR.or op_eq (op_eqD (hu64 hr))) g_eq (de_ix (dv 7) de_int) (dv 4) (nomark _)))) (fun _ _ _ _ _ => (de_ix (dv 7) (dv 5))))
    (db_cons (ds_setLc (i := 6) (own := [("rule", 7)]) rfl nd rfl rfl (sw_true rfl rfl rfl (by decide +kernel)) (di_any (dv 1)) (blkOk_by (own := [("rule", 7)]) (N := N__law_even) (sc := defScope s__law_even) (by decide +kernel)) (fun _ _ _ _ _ => (gnm 7 nd)) (fun _ _ _ _ _ => (dts_one (dt_cmp (OpR.or op_eq (op_eqD (hu64 hr))) g_eq (de_ix (dv 7) de_int) (dv 4) (nomark _)))) (fun _ _ _ _ _ => (de_ix (dv 7) de_int)))
    (db_one (ds_if (dt_bool (dw_and (dt_cmp (OpR.or op_ne (op_neD (hu64 hr))) g_ne (dv 2) (de_lst da_nil) (nomark _)) (dw_and1 (dt_not (dt_val (de_callD D__law_fits gd hr__law_fits rfl (da_fr (dv 2) (da_fr (dv 6) (da_fr (de_callD D__law_measure gd hr__law_measure rfl (da_fr (dv 2) da_nil) (.fr .nil)) (da_fr de_int da_nil)))) (.fr (.fr (.fr (.fr .nil)))))))))) (db_one (ds_ret de_bl)) db_nil)))))
    (db_one (ds_ret de_bl))))
theorem okL_law (T : Tx fa fn K mg) {fd : FuncData} (Fd : FunD K "law" "law" (defArgs s_law) (defBody s_law) (defScope s_law) [] [] (He.fAd K ("law", none)) fd)  (D__law_pot : Df P w K mg base 1 "_law_pot" ps__law_pot F__law_pot) (D__law_board : Df P w K mg base 2 "_law_board" ps__law_board F__law_board) (D__law_calm : Df P w K mg base 2 "_law_calm" ps__law_calm F__law_calm) (D__law_book : Df P w K mg base 2 "_law_book" ps__law_book F__law_book) (D_is_even : Df P w K mg base 7 "is_even" ps_is_even F_is_even) (D__law_even : Df P w K mg base 2 "_law_even" ps__law_even F__law_even) : FnG P w K mg base 8 (He.fAd K ("law", none)) fd ["script"] (spD K 1 F_law) := by
  refine okF (st := s_law) (N := N_law) (ps := ["script"]) Fd sc_law fun cdv A outer s H gd hr => ?_
  have nd := sc_law.nd
  have hr__law_pot := hr.mono (show 1 ≤ 7 by decide)
  have hr__law_board := hr.mono (show 2 ≤ 7 by decide)
  have hr__law_calm := hr.mono (show 2 ≤ 7 by decide)
  have hr__law_book := hr.mono (show 2 ≤ 7 by decide)
  have hr_is_even := hr.mono (show 7 ≤ 7 by decide)
  have hr__law_even := hr.mono (show 2 ≤ 7 by decide)
  exact (db_cons (ds_for PassesOwn.never rfl (di_range1 rfl (T.fr 1 rfl) (da_fr (de_callB (call_max2 rfl) c_max rfl (T.fr 6 rfl) (by decide +kernel) (da_cons de_int (da_cons (de_callB (call_min2 rfl) c_min rfl (T.fr 7 rfl) (by decide +kernel) (da_cons de_int (da_cons (de_callB call_len c_len rfl (T.fr 5 rfl) PySem.boot_len (da_cons (dv 0) da_nil)) da_nil))) da_nil))) da_nil)) (gnm 1 nd)
    (db_cons (sset 2 nd (de_callD D__law_pot gd hr__law_pot rfl (da_fr (dv 0) (da_fr (dv 1) da_nil)) (.fr (.fr .nil))))
    (db_cons (sset 3 nd (de_callD D__law_board gd hr__law_board rfl (da_cons (dv 2) (da_fr de_int da_nil)) (.cons (.fr .nil))))
    (db_cons (sset 4 nd (de_callD D__law_calm gd hr__law_calm rfl (da_cons (dv 2) (da_fr (de_callD D__law_book gd hr__law_book rfl (da_cons (dv 2) (da_fr (dv 3) da_nil)) (.cons (.fr .nil))) da_nil)) (.cons (.fr .nil))))
    (db_one (ds_if (dt_cmp (OpR.or op_ne (op_neD (hu64 hr))) g_ne (de_callD D_is_even gd hr_is_even rfl (da_fr (dv 3) (da_fr (dv 4) da_nil)) (.fr (.fr .nil))) (de_callD D__law_even gd hr__law_even rfl (da_fr (dv 3) (da_fr (dv 4) da_nil)) (.fr (.fr .nil))) (nomark _)) (db_one (ds_ret de_bl)) db_nil))))))
    (db_one (ds_ret de_bl)))
end
end G
namespace G
open PySem PySem.Spec L2 DL
noncomputable def t_cells_many (board_ : Board) : Option Int :=
  cond (board_.isFloor)
 ((board_.n2).bind fun v2 =>
  (mulI board_.n1 v2).bind fun v3 =>
  some v3)
 (some board_.n1)
theorem C_cells_many {board_ : Board} {r : Int} (h : t_cells_many board_ = some r) : ∃ ρ', F_cells_many [.fz (Board.d board_)] = some ((fun (r : Int) => .fz (.int r)) r, ρ') := by
  refine fn_ok (ρ := [.fz (Board.d board_)]) (zf := (fun (r : Int) => .fz (.int r))) (x := r) ?_
  unfold t_cells_many at h
  unfold d_cells_many
  show Run _ [.fz (Board.d board_)] _
  refine run_if (te_tst (ev_op (ev_op (ev_var rfl) ev_c rfl rfl (b_ix0 _)) ev_c rfl rfl (b_eqF _))) (fun c1 => ?_) (fun c1 => ?_)
  · have h := cnd_t h c1
    obtain ⟨v2, ev2, h⟩ := bnd h
    obtain ⟨v3, ev3, h⟩ := bnd h
    exact run_ret h (ev_op (ev_op (ev_var rfl) ev_c rfl rfl (b_ix1 _)) (ev_op (ev_var rfl) ev_c rfl rfl (b_ix2 ev2)) rfl rfl (d_mul ev3)) (rq rfl)
  · have h := cnd_f h c1
    refine run_next ?_
    refine run_last ?_
    exact run_ret h (ev_op (ev_var rfl) ev_c rfl rfl (b_ix1 _)) (rq rfl)
noncomputable def t_first_cells (board_ : Board) (rule_ : Rule) : Option (List Int) :=
  (t_cells_many board_).bind fun v1 =>
  cond (board_.isRow)
 ((mulI (2 : Int) rule_.n1).bind fun v3 =>
  (rngL (0 : Int) ((v1 - v3) + (1 : Int))).bind fun v4 =>
  some v4)
 (cond (board_.isRing)
 ((rngL (0 : Int) v1).bind fun v6 =>
  some v6)
 ((board_.hw).bind fun v7 =>
  (mulI rule_.n1 ((1 : Int) + (b2i (rule_.isUnder)))).bind fun v8 =>
  (mulI rule_.n2 ((1 : Int) + (b2i (rule_.isOver)))).bind fun v9 =>
  (rngO (0 : Int) ((v7.1 - v8) + (1 : Int))).bind fun v10 =>
  (flatO (fun (x11 : Int) =>
  (rngO (0 : Int) ((v7.2 - v9) + (1 : Int))).bind fun v12 =>
  mapR (fun (x13 : Int) => (mulI x11 v7.2).bind fun v14 =>
  some (v14 + x13)) v12) v10).bind fun v15 =>
  some v15))
theorem C_first_cells {board_ : Board} {rule_ : Rule} {r : (List Int)} (h : t_first_cells board_ rule_ = some r) : ∃ ρ', F_first_cells [.fz (Board.d board_), .fz (Rule.d rule_)] = some ((fun (r : (List Int)) => .ow (.l (List.map D.int r))) r, ρ') := by
  refine fn_ok (ρ := [.fz (Board.d board_), .fz (Rule.d rule_)]) (zf := (fun (r : (List Int)) => .ow (.l (List.map D.int r)))) (x := r) ?_
  unfold t_first_cells at h
  unfold d_first_cells
  show Run _ [.fz (Board.d board_), .fz (Rule.d rule_), .un, .un, .un, .un, .un, .un, .un] _
  obtain ⟨v1, ev1, h⟩ := bnd h
  refine run_asg (ev_fc (ar_fr (ev_var rfl) rfl ar_nil) rfl (C_cells_many ev1) rfl) rfl rfl ?_
  show Run _ [.fz (Board.d board_), .fz (Rule.d rule_), .fz (.int v1), .un, .un, .un, .un, .un, .un] _
  refine run_if (te_tst (ev_op (ev_op (ev_var rfl) ev_c rfl rfl (b_ix0 _)) ev_c rfl rfl (b_eqR _))) (fun c2 => ?_) (fun c2 => ?_)
  · have h := cnd_t h c2
    obtain ⟨v3, ev3, h⟩ := bnd h
    obtain ⟨v4, ev4, h⟩ := bnd h
    exact run_ret h (ev_lrg1 (ev_op (ev_op (ev_var rfl) (ev_op ev_c (ev_op (ev_var rfl) ev_c rfl rfl (r_ix1 _)) rfl rfl (d_mul ev3)) rfl rfl rfl) ev_c rfl rfl rfl) ev4) (rq rfl)
  · have h := cnd_f h c2
    refine run_next ?_
    refine run_if (te_tst (ev_op (ev_op (ev_var rfl) ev_c rfl rfl (b_ix0 _)) ev_c rfl rfl (b_eqG _))) (fun c5 => ?_) (fun c5 => ?_)
    · have h := cnd_t h c5
      obtain ⟨v6, ev6, h⟩ := bnd h
      exact run_ret h (ev_lrg1 (ev_var rfl) ev6) (rq rfl)
    · have h := cnd_f h c5
      refine run_next ?_
      obtain ⟨v7, ev7, h⟩ := bnd h
      refine run_unp (ev_sl (ev_var rfl) (fo_some ev_c) fo_no rfl (b_hw ev7)) rfl rfl (tg_tp rfl (tg_cs (tg_nm rfl) (tg_cs (tg_nm rfl) tg_nl))) ?_
      show Run _ [.fz (Board.d board_), .fz (Rule.d rule_), .fz (.int v1), .fz (.int v7.1), .fz (.int v7.2), .un, .un, .un, .un] _
      obtain ⟨v8, ev8, h⟩ := bnd h
      refine run_asg (ev_op (ev_op (ev_var rfl) (ev_op (ev_op (ev_var rfl) ev_c rfl rfl (r_ix1 _)) (ev_op ev_c (ev_call (ar_cons (ev_op (ev_op (ev_var rfl) ev_c rfl rfl (r_ix0 _)) ev_c rfl rfl (r_eqU _)) ar_nil) rfl rfl) rfl rfl rfl) rfl rfl (d_mul ev8)) rfl rfl rfl) ev_c rfl rfl rfl) rfl rfl ?_
      show Run _ [.fz (Board.d board_), .fz (Rule.d rule_), .fz (.int v1), .fz (.int v7.1), .fz (.int v7.2), .fz (.int ((v7.1 - v8) + (1 : Int))), .un, .un, .un] _
      obtain ⟨v9, ev9, h⟩ := bnd h
      refine run_asg (ev_op (ev_op (ev_var rfl) (ev_op (ev_op (ev_var rfl) ev_c rfl rfl (r_ix2 _)) (ev_op ev_c (ev_call (ar_cons (ev_op (ev_op (ev_var rfl) ev_c rfl rfl (r_ix0 _)) ev_c rfl rfl (r_eqO _)) ar_nil) rfl rfl) rfl rfl rfl) rfl rfl (d_mul ev9)) rfl rfl rfl) ev_c rfl rfl rfl) rfl rfl ?_
      show Run _ [.fz (Board.d board_), .fz (Rule.d rule_), .fz (.int v1), .fz (.int v7.1), .fz (.int v7.2), .fz (.int ((v7.1 - v8) + (1 : Int))), .fz (.int ((v7.2 - v9) + (1 : Int))), .un, .un] _
      refine run_last ?_
      obtain ⟨v10, ev10, h⟩ := bnd h
      obtain ⟨v15, ev15, h⟩ := bnd h
      exact run_ret h (ev_lc2 (eb := D.int) ev15 (it_r1 (ar_fr (ev_var rfl) rfl ar_nil) ev10) (by intro x11 zs E; obtain ⟨v12, ev12, E⟩ := bnd E; exact ⟨_, (tg_nm rfl), in2_map E (it_r1 (ar_fr (ev_var rfl) rfl ar_nil) ev12) rfl (by intro x13 y E; obtain ⟨v14, ev14, E⟩ := bnd E; obtain rfl := Option.some.inj E; exact ⟨_, _, (tg_nm rfl), ev_fr (ev_op (ev_op (ev_var rfl) (ev_var rfl) rfl rfl (d_mul ev14)) (ev_var rfl) rfl rfl rfl) rfl, rfl⟩)⟩) rfl) (rq rfl)
noncomputable def t_all_deeds (board_ : Board) (book_ : (List Rule)) : Option (List (Int × Int)) :=
  (flatO (fun (x1 : (Int × Rule)) =>
  (t_first_cells board_ x1.2).bind fun v2 =>
  mapR (fun (x3 : Int) => some (x1.1, x3)) v2) (enumI book_)).bind fun v4 =>
  some v4
theorem C_all_deeds {board_ : Board} {book_ : (List Rule)} {r : (List (Int × Int))} (h : t_all_deeds board_ book_ = some r) : ∃ ρ', F_all_deeds [.fz (Board.d board_), .fz (.tup (List.map Rule.d book_))] = some ((fun (r : (List (Int × Int))) => .fz (.tup (List.map (eP D.int D.int) r))) r, ρ') := by
  refine fn_ok (ρ := [.fz (Board.d board_), .fz (.tup (List.map Rule.d book_))]) (zf := (fun (r : (List (Int × Int))) => .fz (.tup (List.map (eP D.int D.int) r)))) (x := r) ?_
  unfold t_all_deeds at h
  unfold d_all_deeds
  show Run _ [.fz (Board.d board_), .fz (.tup (List.map Rule.d book_)), .un, .un, .un] _
  refine run_last ?_
  obtain ⟨v4, ev4, h⟩ := bnd h
  exact run_ret h (ev_call (ar_cons (ev_lc2 (eb := (eP D.int D.int)) ev4 (it_enV (ar_fr (ev_var rfl) rfl ar_nil)) (by intro x1 zs E; obtain ⟨v2, ev2, E⟩ := bnd E; exact ⟨_, (tg_tp rfl (tg_cs (tg_nm rfl) (tg_cs (tg_nm rfl) tg_nl))), in2_map E (it_L (ev_fc (ar_fr (ev_var rfl) rfl (ar_fr (ev_var rfl) rfl ar_nil)) rfl (C_first_cells ev2) rfl) rfl) rfl (by intro x3 y E; obtain rfl := Option.some.inj E; exact ⟨_, _, (tg_nm rfl), ev_fr (ev_tup (ar_fr (ev_var rfl) rfl (ar_fr (ev_var rfl) rfl ar_nil)) rfl rfl) rfl, rfl⟩)⟩) rfl) ar_nil) rfl rfl) (rq rfl)
noncomputable def t_pairs_at (board_ : Board) (rule_ : Rule) (cell_ : Int) : Option (List (Int × Int)) :=
  (t_cells_many board_).bind fun v1 =>
  cond (rule_.isSwap)
 ((rngO (0 : Int) rule_.n1).bind fun v3 =>
  (mapO (fun (x4 : Int) =>
  (modI (cell_ + x4) v1).bind fun v5 =>
  (modI ((cell_ + x4) + rule_.n1) v1).bind fun v6 =>
  some (v5, v6)) v3).bind fun v7 =>
  some v7)
 ((board_.n2).bind fun v8 =>
  cond (rule_.isUnder)
 ((mulI rule_.n1 v8).bind fun v10 =>
  (rngO (0 : Int) rule_.n1).bind fun v11 =>
  (flatO (fun (x12 : Int) =>
  (rngO (0 : Int) rule_.n2).bind fun v13 =>
  mapR (fun (x14 : Int) => (mulI x12 v8).bind fun v15 =>
  some ((cell_ + v15) + x14)) v13) v11).bind fun v16 =>
  (mapB (fun (x17 : Int) => (x17, (x17 + v10))) v16).bind fun v18 =>
  some v18)
 ((rngO (0 : Int) rule_.n1).bind fun v19 =>
  (flatO (fun (x20 : Int) =>
  (rngO (0 : Int) rule_.n2).bind fun v21 =>
  mapR (fun (x22 : Int) => (mulI x20 v8).bind fun v23 =>
  some ((cell_ + v23) + x22)) v21) v19).bind fun v24 =>
  (mapB (fun (x25 : Int) => (x25, (x25 + rule_.n2))) v24).bind fun v26 =>
  some v26))
theorem C_pairs_at {board_ : Board} {rule_ : Rule} {cell_ : Int} {r : (List (Int × Int))} (h : t_pairs_at board_ rule_ cell_ = some r) : ∃ ρ', F_pairs_at [.fz (Board.d board_), .fz (Rule.d rule_), .fz (.int cell_)] = some ((fun (r : (List (Int × Int))) => .fz (.tup (List.map (eP D.int D.int) r))) r, ρ') := by
  refine fn_ok (ρ := [.fz (Board.d board_), .fz (Rule.d rule_), .fz (.int cell_)]) (zf := (fun (r : (List (Int × Int))) => .fz (.tup (List.map (eP D.int D.int) r)))) (x := r) ?_
  unfold t_pairs_at at h
  unfold d_pairs_at
  show Run _ [.fz (Board.d board_), .fz (Rule.d rule_), .fz (.int cell_), .un, .un, .un, .un, .un, .un, .un, .un] _
  obtain ⟨v1, ev1, h⟩ := bnd h
  refine run_asg (ev_fc (ar_fr (ev_var rfl) rfl ar_nil) rfl (C_cells_many ev1) rfl) rfl rfl ?_
  show Run _ [.fz (Board.d board_), .fz (Rule.d rule_), .fz (.int cell_), .fz (.int v1), .un, .un, .un, .un, .un, .un, .un] _
  refine run_if (te_tst (ev_op (ev_op (ev_var rfl) ev_c rfl rfl (r_ix0 _)) ev_c rfl rfl (r_eqS _))) (fun c2 => ?_) (fun c2 => ?_)
  · have h := cnd_t h c2
    obtain ⟨v3, ev3, h⟩ := bnd h
    obtain ⟨v7, ev7, h⟩ := bnd h
    exact run_ret h (ev_call (ar_cons (ev_lcO (eb := (eP D.int D.int)) ev7 (it_r1 (ar_fr (ev_op (ev_var rfl) ev_c rfl rfl (r_ix1 _)) rfl ar_nil) ev3) (by intro x4 y E; obtain ⟨v5, ev5, E⟩ := bnd E; obtain ⟨v6, ev6, E⟩ := bnd E; obtain rfl := Option.some.inj E; exact ⟨_, _, (tg_nm rfl), ev_fr (ev_tup (ar_fr (ev_op (ev_op (ev_var rfl) (ev_var rfl) rfl rfl rfl) (ev_var rfl) rfl rfl (d_mod ev5)) rfl (ar_fr (ev_op (ev_op (ev_op (ev_var rfl) (ev_var rfl) rfl rfl rfl) (ev_op (ev_var rfl) ev_c rfl rfl (r_ix1 _)) rfl rfl rfl) (ev_var rfl) rfl rfl (d_mod ev6)) rfl ar_nil)) rfl rfl) rfl, rfl⟩) rfl) ar_nil) rfl rfl) (rq rfl)
  · have h := cnd_f h c2
    refine run_next ?_
    obtain ⟨v8, ev8, h⟩ := bnd h
    refine run_asg (ev_op (ev_var rfl) ev_c rfl rfl (b_ix2 ev8)) rfl rfl ?_
    show Run _ [.fz (Board.d board_), .fz (Rule.d rule_), .fz (.int cell_), .fz (.int v1), .fz (.int v8), .un, .un, .un, .un, .un, .un] _
    refine run_asg (ev_op (ev_var rfl) ev_c rfl rfl (r_ix2 _)) rfl rfl ?_
    show Run _ [.fz (Board.d board_), .fz (Rule.d rule_), .fz (.int cell_), .fz (.int v1), .fz (.int v8), .fz (.int rule_.n2), .un, .un, .un, .un, .un] _
    refine run_if (te_tst (ev_op (ev_op (ev_var rfl) ev_c rfl rfl (r_ix0 _)) ev_c rfl rfl (r_eqU _))) (fun c9 => ?_) (fun c9 => ?_)
    · have h := cnd_t h c9
      obtain ⟨v10, ev10, h⟩ := bnd h
      refine run_asg (ev_op (ev_op (ev_var rfl) ev_c rfl rfl (r_ix1 _)) (ev_var rfl) rfl rfl (d_mul ev10)) rfl rfl ?_
      show Run _ [.fz (Board.d board_), .fz (Rule.d rule_), .fz (.int cell_), .fz (.int v1), .fz (.int v8), .fz (.int v10), .un, .un, .un, .un, .un] _
      obtain ⟨v11, ev11, h⟩ := bnd h
      obtain ⟨v16, ev16, h⟩ := bnd h
      refine run_asg (ev_lc2 (eb := D.int) ev16 (it_r1 (ar_fr (ev_op (ev_var rfl) ev_c rfl rfl (r_ix1 _)) rfl ar_nil) ev11) (by intro x12 zs E; obtain ⟨v13, ev13, E⟩ := bnd E; exact ⟨_, (tg_nm rfl), in2_map E (it_r1 (ar_fr (ev_op (ev_var rfl) ev_c rfl rfl (r_ix2 _)) rfl ar_nil) ev13) rfl (by intro x14 y E; obtain ⟨v15, ev15, E⟩ := bnd E; obtain rfl := Option.some.inj E; exact ⟨_, _, (tg_nm rfl), ev_fr (ev_op (ev_op (ev_var rfl) (ev_op (ev_var rfl) (ev_var rfl) rfl rfl (d_mul ev15)) rfl rfl rfl) (ev_var rfl) rfl rfl rfl) rfl, rfl⟩)⟩) rfl) rfl rfl ?_
      show Run _ [.fz (Board.d board_), .fz (Rule.d rule_), .fz (.int cell_), .fz (.int v1), .fz (.int v8), .fz (.int v10), .ow (.l (List.map D.int v16)), .un, .un, .un, .un] _
      refine run_last ?_
      obtain ⟨v18, ev18, h⟩ := bnd h
      exact run_ret h (ev_call (ar_cons (ev_lcB (eb := (eP D.int D.int)) ev18 (it_L (ev_own rfl) rfl) (fun x17 => ⟨_, _, (tg_nm rfl), ev_fr (ev_tup (ar_fr (ev_var rfl) rfl (ar_fr (ev_op (ev_var rfl) (ev_var rfl) rfl rfl rfl) rfl ar_nil)) rfl rfl) rfl, rfl⟩) rfl) ar_nil) rfl rfl) (rq rfl)
    · have h := cnd_f h c9
      refine run_next ?_
      obtain ⟨v19, ev19, h⟩ := bnd h
      obtain ⟨v24, ev24, h⟩ := bnd h
      refine run_asg (ev_lc2 (eb := D.int) ev24 (it_r1 (ar_fr (ev_op (ev_var rfl) ev_c rfl rfl (r_ix1 _)) rfl ar_nil) ev19) (by intro x20 zs E; obtain ⟨v21, ev21, E⟩ := bnd E; exact ⟨_, (tg_nm rfl), in2_map E (it_r1 (ar_fr (ev_op (ev_var rfl) ev_c rfl rfl (r_ix2 _)) rfl ar_nil) ev21) rfl (by intro x22 y E; obtain ⟨v23, ev23, E⟩ := bnd E; obtain rfl := Option.some.inj E; exact ⟨_, _, (tg_nm rfl), ev_fr (ev_op (ev_op (ev_var rfl) (ev_op (ev_var rfl) (ev_var rfl) rfl rfl (d_mul ev23)) rfl rfl rfl) (ev_var rfl) rfl rfl rfl) rfl, rfl⟩)⟩) rfl) rfl rfl ?_
      show Run _ [.fz (Board.d board_), .fz (Rule.d rule_), .fz (.int cell_), .fz (.int v1), .fz (.int v8), .fz (.int rule_.n2), .ow (.l (List.map D.int v24)), .un, .un, .un, .un] _
      refine run_last ?_
      obtain ⟨v26, ev26, h⟩ := bnd h
      exact run_ret h (ev_call (ar_cons (ev_lcB (eb := (eP D.int D.int)) ev26 (it_L (ev_own rfl) rfl) (fun x25 => ⟨_, _, (tg_nm rfl), ev_fr (ev_tup (ar_fr (ev_var rfl) rfl (ar_fr (ev_op (ev_var rfl) (ev_var rfl) rfl rfl rfl) rfl ar_nil)) rfl rfl) rfl, rfl⟩) rfl) ar_nil) rfl rfl) (rq rfl)
noncomputable def t_is_bent (rule_ : Rule) : Option Bool :=
  some (decide (rule_.bent = (1 : Int)))
theorem C_is_bent {rule_ : Rule} {r : Bool} (h : t_is_bent rule_ = some r) : ∃ ρ', F_is_bent [.fz (Rule.d rule_)] = some ((fun (r : Bool) => .fz (.bl r)) r, ρ') := by
  refine fn_ok (ρ := [.fz (Rule.d rule_)]) (zf := (fun (r : Bool) => .fz (.bl r))) (x := r) ?_
  unfold t_is_bent at h
  unfold d_is_bent
  show Run _ [.fz (Rule.d rule_)] _
  refine run_last ?_
  exact run_ret h (ev_op (ev_op (ev_var rfl) (ev_neg ev_c) rfl rfl (r_ixm _)) ev_c rfl rfl rfl) (rq rfl)
noncomputable def t_ties_of (board_ : Board) (book_ : (List Rule)) : Option (List (Int × Int × Bool)) :=
  (t_all_deeds board_ book_).bind fun v1 =>
  forN (fun (s9 : List (Int × Int × Bool)) (x7 : (Int × Int)) =>
  (ixI book_ x7.1).bind fun v11 =>
  (t_pairs_at board_ v11 x7.2).bind fun v12 =>
  forN (fun (s10 : List (Int × Int × Bool)) (y8 : (Int × Int)) =>
  (t_is_bent v11).bind fun v15 =>
  tieT (y8.1, y8.2, v15) s10) v12 s9) v1 ([] : List (Int × Int × Bool))
theorem C_ties_of {board_ : Board} {book_ : (List Rule)} {r : (List (Int × Int × Bool))} (h : t_ties_of board_ book_ = some r) : ∃ ρ', F_ties_of [.fz (Board.d board_), .fz (.tup (List.map Rule.d book_))] = some ((fun (r : (List (Int × Int × Bool))) => .ow (.l (List.map (e3 D.int D.int D.bl) r))) r, ρ') := by
  refine fn_ok (ρ := [.fz (Board.d board_), .fz (.tup (List.map Rule.d book_))]) (zf := (fun (r : (List (Int × Int × Bool))) => .ow (.l (List.map (e3 D.int D.int D.bl) r)))) (x := r) ?_
  unfold t_ties_of at h
  unfold d_ties_of
  show Run _ [.fz (Board.d board_), .fz (.tup (List.map Rule.d book_)), .un, .un, .un, .un, .un, .un] _
  obtain ⟨v1, ev1, h⟩ := bnd h
  refine run_ties (ek := (e3 D.int D.int D.bl)) rfl (it_V (ev_fc (ar_fr (ev_var rfl) rfl (ar_fr (ev_var rfl) rfl ar_nil)) rfl (C_all_deeds ev1) rfl) rfl) (fun ρ => ∃ j2 j3 j4 j5 j6 : Sl, ρ = [.fz (Board.d board_), .fz (.tup (List.map Rule.d book_)), .un, j2, j3, j4, j5, j6] ∧ kNR (some j2) = true ∧ kNR (some j3) = true ∧ kNR (some j4) = true ∧ kNR (some j5) = true ∧ kNR (some j6) = true) ⟨.un, .un, .un, .un, .un, rfl, rfl, rfl, rfl, rfl, rfl⟩ ?_ h
  rintro s9 x7 s_ ρ ⟨j2, j3, j4, j5, j6, rfl, nj2, nj3, nj4, nj5, nj6⟩ h
  obtain ⟨v11, ev11, h⟩ := bnd h
  obtain ⟨v12, ev12, h⟩ := bnd h
  obtain ⟨ρ9, k1, k2⟩ := tie_in_t (eb := (eP D.int D.int)) (h2 := (gTp 2 (gsCons (gNm 6) (gsCons (gNm 7) gsNil)))) (fk := (eTup (aFr (eVar 6) (aFr (eVar 7) (aFr (fCall F_is_bent (aFr (eVar 5) aNil)) aNil))))) tkB _ (fun ρ => ∃ j13 j14 : Sl, ρ = [.fz (Board.d board_), .fz (.tup (List.map Rule.d book_)), .un, .fz (.int x7.1), .fz (.int x7.2), .fz (Rule.d v11), j13, j14] ∧ kNR (some j13) = true ∧ kNR (some j14) = true) (by rintro s10 y8 s_ ρ ⟨j13, j14, rfl, nj13, nj14⟩ h; obtain ⟨v15, ev15, h⟩ := bnd h; exact ⟨_, (y8.1, y8.2, v15), _, _, _, (tg_tp rfl (tg_cs (tg_nm nj13) (tg_cs (tg_nm nj14) tg_nl))), (ev_tup (ar_fr (ev_var rfl) rfl (ar_fr (ev_var rfl) rfl (ar_fr (ev_fc (ar_fr (ev_var rfl) rfl ar_nil) rfl (C_is_bent ev15) rfl) rfl ar_nil))) rfl rfl), rfl, h, ⟨.fz (.int y8.1), .fz (.int y8.2), rfl, rfl, rfl⟩⟩) _ _ _ _ h ⟨j5, j6, rfl, nj5, nj6⟩
  obtain ⟨j13, j14, rfl, nj13, nj14⟩ := k2
  exact ⟨_, _, _, _, _, (tg_tp rfl (tg_cs (tg_nm nj2) (tg_cs (tg_nm nj3) tg_nl))), (pre_asg (ev_op (ev_var rfl) (ev_var rfl) rfl rfl (d_ixV ev11)) rfl nj4), (it_V (ev_fc (ar_fr (ev_var rfl) rfl (ar_fr (ev_var rfl) rfl (ar_fr (ev_var rfl) rfl ar_nil))) rfl (C_pairs_at ev12) rfl) rfl), k1, ⟨.fz (.int x7.1), .fz (.int x7.2), .fz (Rule.d v11), j13, j14, rfl, rfl, rfl, rfl, nj13, nj14⟩⟩
noncomputable def t_near_cells (board_ : Board) (book_ : (List Rule)) : Option (List (List (Int × Bool))) :=
  (t_cells_many board_).bind fun v1 =>
  (rngO (0 : Int) v1).bind fun v2 =>
  (mapB (fun (x3 : Int) => ()) v2).bind fun v4 =>
  (t_ties_of board_ book_).bind fun v5 =>
  (forN (fun (s10 : List (List (Int × Bool))) (x9 : (Int × Int × Bool)) =>
  (nearI s10 x9.1 (x9.2.1, x9.2.2)).bind fun s11 =>
  (nearI s11 x9.2.1 (x9.1, x9.2.2)).bind fun s12 =>
  some s12) v5 (List.replicate v4.length [])).bind fun near_13 =>
  some near_13
theorem C_near_cells {board_ : Board} {book_ : (List Rule)} {r : (List (List (Int × Bool)))} (h : t_near_cells board_ book_ = some r) : ∃ ρ', F_near_cells [.fz (Board.d board_), .fz (.tup (List.map Rule.d book_))] = some ((fun (r : (List (List (Int × Bool)))) => .fz (.lst (List.map (eL (eP D.int D.bl)) r))) r, ρ') := by
  refine fn_ok (ρ := [.fz (Board.d board_), .fz (.tup (List.map Rule.d book_))]) (zf := (fun (r : (List (List (Int × Bool)))) => .fz (.lst (List.map (eL (eP D.int D.bl)) r)))) (x := r) ?_
  unfold t_near_cells at h
  unfold d_near_cells
  show Run _ [.fz (Board.d board_), .fz (.tup (List.map Rule.d book_)), .un, .un, .un, .un, .un] _
  obtain ⟨v1, ev1, h⟩ := bnd h
  obtain ⟨v2, ev2, h⟩ := bnd h
  obtain ⟨v4, ev4, h⟩ := bnd h
  obtain ⟨v5, ev5, h⟩ := bnd h
  obtain ⟨near_13, enear_13, h⟩ := bnd h
  refine run_near (ea := (eP D.int D.bl)) (ev_lcB (eb := fun (_ : Unit) => D.non) ev4 (it_r1 (ar_fr (ev_fc (ar_fr (ev_var rfl) rfl ar_nil) rfl (C_cells_many ev1) rfl) rfl ar_nil) ev2) (fun x3 => ⟨_, _, (tg_nm rfl), ev_fr ev_c rfl, rfl⟩) rfl) (List.length_map ..) rfl (it_L (ev_fc (ar_fr (ev_var rfl) rfl (ar_fr (ev_var rfl) rfl ar_nil)) rfl (C_ties_of ev5) rfl) rfl) (fun ρ => ∃ j6 j7 j8 : Sl, ρ = [.fz (Board.d board_), .fz (.tup (List.map Rule.d book_)), .un, j6, j7, j8, .un] ∧ kNR (some j6) = true ∧ kNR (some j7) = true ∧ kNR (some j8) = true) ⟨.un, .un, .un, rfl, rfl, rfl, rfl⟩ ?_ enear_13 ?_
  · rintro s10 x9 s_ ρ ⟨j6, j7, j8, rfl, nj6, nj7, nj8⟩ h
    obtain ⟨s11, es11, h⟩ := bnd h
    obtain ⟨s12, es12, h⟩ := bnd h
    obtain rfl := Option.some.inj h
    exact ⟨_, _, _, _, (tg_tp rfl (tg_cs (tg_nm nj6) (tg_cs (tg_nm nj7) (tg_cs (tg_nm nj8) tg_nl)))), (near_st (d := (x9.2.1, x9.2.2)) (ev_var rfl) rfl (ev_tup (ar_fr (ev_var rfl) rfl (ar_fr (ev_var rfl) rfl ar_nil)) rfl rfl) rfl es11), (near_st (d := (x9.1, x9.2.2)) (ev_var rfl) rfl (ev_tup (ar_fr (ev_var rfl) rfl (ar_fr (ev_var rfl) rfl ar_nil)) rfl rfl) rfl es12), ⟨.fz (.int x9.1), .fz (.int x9.2.1), .fz (.bl x9.2.2), rfl, rfl, rfl, rfl⟩⟩
  · rintro ρ ⟨j14, j15, j16, rfl, nj14, nj15, nj16⟩
    refine ⟨rfl, ?_⟩
    show Run _ [.fz (Board.d board_), .fz (.tup (List.map Rule.d book_)), .fz (.lst (List.map (eL (eP D.int D.bl)) near_13)), j14, j15, j16, .un] _
    refine run_last ?_
    exact run_ret h (ev_var rfl) (rq rfl)
noncomputable def t_marks_found (board_ : Board) (book_ : (List Rule)) : Option (Option (List Int)) :=
  (t_near_cells board_ book_).bind fun v1 =>
  (rngO (0 : Int) (v1.length : Int)).bind fun v2 =>
  (forE (R := (Option (List Int))) (fun (s3 : (List (Int × Int))) (x4 : Int) =>
  cond (hasK s3 x4)
 (some (Lp.nx s3))
 ((putO s3 x4 (0 : Int)).bind fun marks_12 =>
  (whileE (R := (Option (List Int))) (fun (s13 : (List (Int × Int)) × (List Int)) => (eqO (.lst (List.map D.int s13.2)) (.lst (List.map D.int ([] : List Int)))).bind fun v19 =>
  some (!v19)) (fun (s13 : (List (Int × Int)) × (List Int)) =>
  (popL s13.2).bind fun v20 =>
  (ixI v1 v20.1).bind fun v21 =>
  (forE (R := (Option (List Int))) (fun (s22 : (List (Int × Int)) × (List Int)) (x23 : (Int × Bool)) =>
  (getK s22.1 v20.1).bind fun v27 =>
  (modI (v27 + (b2i x23.2)) (2 : Int)).bind fun v28 =>
  cond (!(hasK s22.1 x23.1))
 ((putO s22.1 x23.1 v28).bind fun marks_30 =>
  (appL s22.2 x23.1).bind fun v31 =>
  some (Lp.nx (marks_30, v31)))
 ((getK s22.1 x23.1).bind fun v32 =>
  cond (!decide (v32 = v28))
 (some (Lp.rt none))
 (some (Lp.nx (s22.1, s22.2))))) v21 (s13.1, v20.2)).bind fun s34e =>
  lpK s34e (fun s34 => some (Lp.nx (s34.1, s34.2))) (fun r => some (Lp.rt r))) (marks_12, ([x4] : List Int))).bind fun s39e =>
  lpK s39e (fun s39 => some (Lp.nx s39.1)) (fun r => some (Lp.rt r)))) v2 ([] : (List (Int × Int)))).bind fun s45e =>
  lpK s45e (fun s45 => (rngO (0 : Int) (v1.length : Int)).bind fun v52 =>
  (mapO (fun (x53 : Int) =>
  (getK s45 x53).bind fun v54 =>
  some v54) v52).bind fun v55 =>
  some (some v55)) (fun r => some r)
theorem C_marks_found {board_ : Board} {book_ : (List Rule)} {r : (Option (List Int))} (h : t_marks_found board_ book_ = some r) : ∃ ρ', F_marks_found [.fz (Board.d board_), .fz (.tup (List.map Rule.d book_))] = some ((fun (r : (Option (List Int))) => .fz (eO (eV D.int) r)) r, ρ') := by
  refine fn_ok (ρ := [.fz (Board.d board_), .fz (.tup (List.map Rule.d book_))]) (zf := (fun (r : (Option (List Int))) => .fz (eO (eV D.int) r))) (x := r) ?_
  unfold t_marks_found at h
  unfold d_marks_found
  show Run _ [.fz (Board.d board_), .fz (.tup (List.map Rule.d book_)), .un, .un, .un, .un, .un, .un, .un, .un] _
  obtain ⟨v1, ev1, h⟩ := bnd h
  refine run_asg (ev_fc (ar_fr (ev_var rfl) rfl (ar_fr (ev_var rfl) rfl ar_nil)) rfl (C_near_cells ev1) rfl) rfl rfl ?_
  show Run _ [.fz (Board.d board_), .fz (.tup (List.map Rule.d book_)), .fz (.lst (List.map (eL (eP D.int D.bl)) v1)), .un, .un, .un, .un, .un, .un, .un] _
  refine run_asg (ev_as (z := .ow (.k (mapKV kI D.int ([] : (List (Int × Int)))))) rfl rfl) rfl rfl ?_
  show Run _ [.fz (Board.d board_), .fz (.tup (List.map Rule.d book_)), .fz (.lst (List.map (eL (eP D.int D.bl)) v1)), .ow (.k (mapKV kI D.int ([] : (List (Int × Int))))), .un, .un, .un, .un, .un, .un] _
  obtain ⟨v2, ev2, h⟩ := bnd h
  obtain ⟨s45e, es45, h⟩ := bnd h
  refine run_forE es45 (fun (s3 : (List (Int × Int))) ρ => ∃ j5 j6 j7 j8 j9 j10 : Sl, ρ = [.fz (Board.d board_), .fz (.tup (List.map Rule.d book_)), .fz (.lst (List.map (eL (eP D.int D.bl)) v1)), .ow (.k (mapKV kI D.int s3)), j5, j6, j7, j8, j9, j10] ∧ kNR (some j5) = true ∧ kNR (some j6) = true ∧ kNR (some j7) = true ∧ kNR (some j8) = true ∧ kNR (some j9) = true ∧ kNR (some j10) = true) (RetQ (fun (r : (Option (List Int))) => .fz (eO (eV D.int) r))) (it_r1 (ar_fr (ev_call (ar_cons (ev_var rfl) ar_nil) rfl (d_lenL _)) rfl ar_nil) ev2) ⟨_, _, _, _, _, _, rfl, rfl, rfl, rfl, rfl, rfl, rfl⟩ ?_ ?_ ?_
  · rintro s3 x4 s56 ρ ⟨j5, j6, j7, j8, j9, j10, rfl, nj5, nj6, nj7, nj8, nj9, nj10⟩ h
    refine ⟨_, (tg_nm nj5), ?_⟩
    show Run _ [.fz (Board.d board_), .fz (.tup (List.map Rule.d book_)), .fz (.lst (List.map (eL (eP D.int D.bl)) v1)), .ow (.k (mapKV kI D.int s3)), .fz (.int x4), j6, j7, j8, j9, j10] _
    refine run_if (te_tst (ev_as (z := .fz (.bl (hasK s3 x4))) (ev_hasK (neg := false) (k := x4) kfI kI_inj (ev_var rfl) rfl rfl) (by simp only [Bool.false_xor, Bool.true_xor]))) (fun c11 => ?_) (fun c11 => ?_)
    · have h := cnd_t h c11
      exact run_contQ h (st_nx ⟨.inr rfl, ⟨_, _, _, _, _, _, rfl, rfl, nj6, nj7, nj8, nj9, nj10⟩⟩)
    · have h := cnd_f h c11
      refine run_next ?_
      obtain ⟨marks_12, emarks_12, h⟩ := bnd h
      refine run_dput ev_c rfl rfl (ev_var rfl) rfl rfl (mput_k (ev := D.int) kfI kI_inj emarks_12) ?_
      show Run _ [.fz (Board.d board_), .fz (.tup (List.map Rule.d book_)), .fz (.lst (List.map (eL (eP D.int D.bl)) v1)), .ow (.k (mapKV kI D.int marks_12)), .fz (.int x4), j6, j7, j8, j9, j10] _
      refine run_asg (ev_as (z := .ow (.l (List.map D.int ([x4] : List Int)))) (ev_lst (ar_fr (ev_var rfl) rfl ar_nil) rfl rfl) rfl) rfl nj6 ?_
      show Run _ [.fz (Board.d board_), .fz (.tup (List.map Rule.d book_)), .fz (.lst (List.map (eL (eP D.int D.bl)) v1)), .ow (.k (mapKV kI D.int marks_12)), .fz (.int x4), .ow (.l (List.map D.int ([x4] : List Int))), j7, j8, j9, j10] _
      refine run_last ?_
      obtain ⟨s39e, es39, h⟩ := bnd h
      refine run_whileE es39 (fun (s13 : (List (Int × Int)) × (List Int)) ρ => ∃ j15 j16 j17 j18 : Sl, ρ = [.fz (Board.d board_), .fz (.tup (List.map Rule.d book_)), .fz (.lst (List.map (eL (eP D.int D.bl)) v1)), .ow (.k (mapKV kI D.int s13.1)), .fz (.int x4), .ow (.l (List.map D.int s13.2)), j15, j16, j17, j18] ∧ kNR (some j15) = true ∧ kNR (some j16) = true ∧ kNR (some j17) = true ∧ kNR (some j18) = true) (RetQ (fun (r : (Option (List Int))) => .fz (eO (eV D.int) r))) ⟨_, _, _, _, rfl, nj7, nj8, nj9, nj10⟩ ?_ ?_ ?_ ?_
      · rintro s13 c ρ ⟨j15, j16, j17, j18, rfl, nj15, nj16, nj17, nj18⟩ h
        obtain ⟨v19, ev19, h⟩ := bnd h
        exact te_let h (te_tst (ev_op (ev_own rfl) (ev_as (z := .ow (.l (List.map D.int ([] : List Int)))) (ev_lst ar_nil rfl rfl) rfl) rfl rfl (d_ne ev19 rfl)))
      · rintro s13 s44 ρ ⟨j15, j16, j17, j18, rfl, nj15, nj16, nj17, nj18⟩ _ h
        show Run _ [.fz (Board.d board_), .fz (.tup (List.map Rule.d book_)), .fz (.lst (List.map (eL (eP D.int D.bl)) v1)), .ow (.k (mapKV kI D.int s13.1)), .fz (.int x4), .ow (.l (List.map D.int s13.2)), j15, j16, j17, j18] _
        obtain ⟨v20, ev20, h⟩ := bnd h
        refine run_asg (ev_mt rfl ar_nil rfl rfl (d_pop ev20)) rfl nj15 ?_
        show Run _ [.fz (Board.d board_), .fz (.tup (List.map Rule.d book_)), .fz (.lst (List.map (eL (eP D.int D.bl)) v1)), .ow (.k (mapKV kI D.int s13.1)), .fz (.int x4), .ow (.l (List.map D.int v20.2)), .fz (.int v20.1), j16, j17, j18] _
        refine run_last ?_
        obtain ⟨v21, ev21, h⟩ := bnd h
        obtain ⟨s34e, es34, h⟩ := bnd h
        refine run_forE es34 (fun (s22 : (List (Int × Int)) × (List Int)) ρ => ∃ j24 j25 j26 : Sl, ρ = [.fz (Board.d board_), .fz (.tup (List.map Rule.d book_)), .fz (.lst (List.map (eL (eP D.int D.bl)) v1)), .ow (.k (mapKV kI D.int s22.1)), .fz (.int x4), .ow (.l (List.map D.int s22.2)), .fz (.int v20.1), j24, j25, j26] ∧ kNR (some j24) = true ∧ kNR (some j25) = true ∧ kNR (some j26) = true) (RetQ (fun (r : (Option (List Int))) => .fz (eO (eV D.int) r))) (it_L (ev_op (ev_var rfl) (ev_var rfl) rfl rfl (d_ixL ev21)) rfl) ⟨_, _, _, rfl, nj16, nj17, nj18⟩ ?_ ?_ ?_
        · rintro s22 x23 s38 ρ ⟨j24, j25, j26, rfl, nj24, nj25, nj26⟩ h
          refine ⟨_, (tg_tp rfl (tg_cs (tg_nm nj24) (tg_cs (tg_nm nj25) tg_nl))), ?_⟩
          show Run _ [.fz (Board.d board_), .fz (.tup (List.map Rule.d book_)), .fz (.lst (List.map (eL (eP D.int D.bl)) v1)), .ow (.k (mapKV kI D.int s22.1)), .fz (.int x4), .ow (.l (List.map D.int s22.2)), .fz (.int v20.1), .fz (.int x23.1), .fz (.bl x23.2), j26] _
          obtain ⟨v27, ev27, h⟩ := bnd h
          obtain ⟨v28, ev28, h⟩ := bnd h
          refine run_asg (ev_op (ev_op (ev_getK kfI kI_inj ev27 rfl (ev_var rfl) rfl rfl) (ev_call (ar_cons (ev_var rfl) ar_nil) rfl rfl) rfl rfl rfl) ev_c rfl rfl (d_mod ev28)) rfl nj26 ?_
          show Run _ [.fz (Board.d board_), .fz (.tup (List.map Rule.d book_)), .fz (.lst (List.map (eL (eP D.int D.bl)) v1)), .ow (.k (mapKV kI D.int s22.1)), .fz (.int x4), .ow (.l (List.map D.int s22.2)), .fz (.int v20.1), .fz (.int x23.1), .fz (.bl x23.2), .fz (.int v28)] _
          refine run_last ?_
          refine run_if (te_tst (ev_as (z := .fz (.bl (!(hasK s22.1 x23.1)))) (ev_hasK (neg := true) (k := x23.1) kfI kI_inj (ev_var rfl) rfl rfl) (by simp only [Bool.false_xor, Bool.true_xor]))) (fun c29 => ?_) (fun c29 => ?_)
          · have h := cnd_t h c29
            refine run_assoc ?_
            obtain ⟨marks_30, emarks_30, h⟩ := bnd h
            refine run_dput (ev_var rfl) rfl rfl (ev_var rfl) rfl rfl (mput_k (ev := D.int) kfI kI_inj emarks_30) ?_
            show Run _ [.fz (Board.d board_), .fz (.tup (List.map Rule.d book_)), .fz (.lst (List.map (eL (eP D.int D.bl)) v1)), .ow (.k (mapKV kI D.int marks_30)), .fz (.int x4), .ow (.l (List.map D.int s22.2)), .fz (.int v20.1), .fz (.int x23.1), .fz (.bl x23.2), .fz (.int v28)] _
            obtain ⟨v31, ev31, h⟩ := bnd h
            refine run_drop (ev_mt rfl (ar_fr (ev_var rfl) rfl ar_nil) rfl rfl (d_app (ea := D.int) (x := x23.1) ev31)) ?_
            show Run _ [.fz (Board.d board_), .fz (.tup (List.map Rule.d book_)), .fz (.lst (List.map (eL (eP D.int D.bl)) v1)), .ow (.k (mapKV kI D.int marks_30)), .fz (.int x4), .ow (.l (List.map D.int v31)), .fz (.int v20.1), .fz (.int x23.1), .fz (.bl x23.2), .fz (.int v28)] _
            exact run_done h (st_nx ⟨.inl rfl, ⟨_, _, _, rfl, rfl, rfl, rfl⟩⟩)
          · have h := cnd_f h c29
            obtain ⟨v32, ev32, h⟩ := bnd h
            refine run_if (te_tst (ev_op (ev_getK kfI kI_inj ev32 rfl (ev_var rfl) rfl rfl) (ev_var rfl) rfl rfl rfl)) (fun c33 => ?_) (fun c33 => ?_)
            · have h := cnd_t h c33
              exact run_ret h (ev_as (z := .fz (eO (eV D.int) none)) ev_c rfl) (st_rt (rq rfl))
            · have h := cnd_f h c33
              refine run_next ?_
              exact run_done h (st_nx ⟨.inl rfl, ⟨_, _, _, rfl, rfl, rfl, rfl⟩⟩)
        · rintro s34 ρ rfl ⟨j35, j36, j37, rfl, nj35, nj36, nj37⟩
          have h := lpK_nx h
          exact run_done h (st_nx ⟨.inl rfl, ⟨_, _, _, _, rfl, rfl, nj35, nj36, nj37⟩⟩)
        · rintro r fl ρ rfl ho q
          obtain rfl := Option.some.inj h
          exact st_out ho q
      · rintro s39 ρ rfl ⟨j40, j41, j42, j43, rfl, nj40, nj41, nj42, nj43⟩
        have h := lpK_nx h
        exact run_done h (st_nx ⟨.inl rfl, ⟨_, _, _, _, _, _, rfl, rfl, rfl, nj40, nj41, nj42, nj43⟩⟩)
      · rintro r fl ρ rfl ho q
        obtain rfl := Option.some.inj h
        exact st_out ho q
  · rintro s45 ρ rfl ⟨j46, j47, j48, j49, j50, j51, rfl, nj46, nj47, nj48, nj49, nj50, nj51⟩
    have h := lpK_nx h
    refine run_last ?_
    obtain ⟨v52, ev52, h⟩ := bnd h
    obtain ⟨v55, ev55, h⟩ := bnd h
    exact run_ret h (ev_as (z := .fz (eO (eV D.int) (some v55))) (ev_call (ar_cons (ev_lcO (eb := D.int) ev55 (it_r1 (ar_fr (ev_call (ar_cons (ev_var rfl) ar_nil) rfl (d_lenL _)) rfl ar_nil) ev52) (by intro x53 y E; obtain ⟨v54, ev54, E⟩ := bnd E; obtain rfl := Option.some.inj E; exact ⟨_, _, (tg_nm rfl), ev_fr (ev_getK kfI kI_inj ev54 rfl (ev_var rfl) rfl rfl) rfl, rfl⟩) rfl) ar_nil) rfl rfl) rfl) (rq rfl)
  · rintro r fl ρ rfl ho q
    obtain rfl := Option.some.inj h
    exact q
noncomputable def t_is_even (board_ : Board) (book_ : (List Rule)) : Option Bool :=
  (t_marks_found board_ book_).bind fun v1 =>
  some v1.isSome
theorem C_is_even {board_ : Board} {book_ : (List Rule)} {r : Bool} (h : t_is_even board_ book_ = some r) : ∃ ρ', F_is_even [.fz (Board.d board_), .fz (.tup (List.map Rule.d book_))] = some ((fun (r : Bool) => .fz (.bl r)) r, ρ') := by
  refine fn_ok (ρ := [.fz (Board.d board_), .fz (.tup (List.map Rule.d book_))]) (zf := (fun (r : Bool) => .fz (.bl r))) (x := r) ?_
  unfold t_is_even at h
  unfold d_is_even
  show Run _ [.fz (Board.d board_), .fz (.tup (List.map Rule.d book_))] _
  refine run_last ?_
  obtain ⟨v1, ev1, h⟩ := bnd h
  exact run_ret h (ev_op (ev_fc (ar_fr (ev_var rfl) rfl (ar_fr (ev_var rfl) rfl ar_nil)) rfl (C_marks_found ev1) rfl) ev_c rfl rfl (d_isnO (fun _ => rfl))) (rq rfl)
noncomputable def t__law_pot (script_ : List Int) (at_ : Int) : Option (List Int) :=
  cond (decide (at_ < (script_.length : Int)))
 ((ixI script_ at_).bind fun v2 =>
  (powI (10 : Int) (18 : Int)).bind fun v3 =>
  (powI (10 : Int) (37 : Int)).bind fun v4 =>
  (modI v2 (v4 + (43 : Int))).bind fun v5 =>
  (mulI (104729 : Int) at_).bind fun v6 =>
  some ([(mxI (0 : Int) (v2 - v3)), (v5 + v6), (0 : Int)] : List Int))
 ((powI (10 : Int) (18 : Int)).bind fun v7 =>
  (powI (10 : Int) (37 : Int)).bind fun v8 =>
  (modI (0 : Int) (v8 + (43 : Int))).bind fun v9 =>
  (mulI (104729 : Int) at_).bind fun v10 =>
  some ([(mxI (0 : Int) ((0 : Int) - v7)), (v9 + v10), (0 : Int)] : List Int))
theorem C__law_pot {script_ : List Int} {at_ : Int} {r : (List Int)} (h : t__law_pot script_ at_ = some r) : ∃ ρ', F__law_pot [.fz (.scr script_), .fz (.int at_)] = some ((fun (r : (List Int)) => .ow (.l (List.map D.int r))) r, ρ') := by
  refine fn_ok (ρ := [.fz (.scr script_), .fz (.int at_)]) (zf := (fun (r : (List Int)) => .ow (.l (List.map D.int r)))) (x := r) ?_
  unfold t__law_pot at h
  unfold d__law_pot
  show Run _ [.fz (.scr script_), .fz (.int at_), .un] _
  refine run_asg ev_c rfl rfl ?_
  show Run _ [.fz (.scr script_), .fz (.int at_), .fz (.int (0 : Int))] _
  refine run_if (te_tst (ev_op (ev_var rfl) (ev_call (ar_cons (ev_var rfl) ar_nil) rfl rfl) rfl rfl rfl)) (fun c1 => ?_) (fun c1 => ?_)
  · have h := cnd_t h c1
    obtain ⟨v2, ev2, h⟩ := bnd h
    refine run_asg (ev_op (ev_var rfl) (ev_var rfl) rfl rfl (d_ixR ev2)) rfl rfl ?_
    show Run _ [.fz (.scr script_), .fz (.int at_), .fz (.int v2)] _
    refine run_last ?_
    obtain ⟨v3, ev3, h⟩ := bnd h
    obtain ⟨v4, ev4, h⟩ := bnd h
    obtain ⟨v5, ev5, h⟩ := bnd h
    obtain ⟨v6, ev6, h⟩ := bnd h
    exact run_ret h (ev_as (z := .ow (.l (List.map D.int ([(mxI (0 : Int) (v2 - v3)), (v5 + v6), (0 : Int)] : List Int)))) (ev_lst (ar_fr (ev_call (ar_cons ev_c (ar_cons (ev_op (ev_var rfl) (ev_op ev_c ev_c rfl rfl (d_pow ev3)) rfl rfl rfl) ar_nil)) rfl rfl) rfl (ar_fr (ev_op (ev_op (ev_var rfl) (ev_op (ev_op ev_c ev_c rfl rfl (d_pow ev4)) ev_c rfl rfl rfl) rfl rfl (d_mod ev5)) (ev_op ev_c (ev_var rfl) rfl rfl (d_mul ev6)) rfl rfl rfl) rfl (ar_fr ev_c rfl ar_nil))) rfl rfl) rfl) (rq rfl)
  · have h := cnd_f h c1
    refine run_next ?_
    refine run_last ?_
    obtain ⟨v7, ev7, h⟩ := bnd h
    obtain ⟨v8, ev8, h⟩ := bnd h
    obtain ⟨v9, ev9, h⟩ := bnd h
    obtain ⟨v10, ev10, h⟩ := bnd h
    exact run_ret h (ev_as (z := .ow (.l (List.map D.int ([(mxI (0 : Int) ((0 : Int) - v7)), (v9 + v10), (0 : Int)] : List Int)))) (ev_lst (ar_fr (ev_call (ar_cons ev_c (ar_cons (ev_op (ev_var rfl) (ev_op ev_c ev_c rfl rfl (d_pow ev7)) rfl rfl rfl) ar_nil)) rfl rfl) rfl (ar_fr (ev_op (ev_op (ev_var rfl) (ev_op (ev_op ev_c ev_c rfl rfl (d_pow ev8)) ev_c rfl rfl rfl) rfl rfl (d_mod ev9)) (ev_op ev_c (ev_var rfl) rfl rfl (d_mul ev10)) rfl rfl rfl) rfl (ar_fr ev_c rfl ar_nil))) rfl rfl) rfl) (rq rfl)
noncomputable def t__law_dip (pot_ : (List Int)) (many_ : Int) : Option (Int × (List Int)) :=
  (ixI pot_ (0 : Int)).bind fun v1 =>
  cond (decide ((0 : Int) < v1))
 ((ixI pot_ (0 : Int)).bind fun v3 =>
  (modI v3 many_).bind fun v4 =>
  (ixI pot_ (0 : Int)).bind fun v5 =>
  (divI v5 many_).bind fun v6 =>
  (setL pot_ (0 : Int) v6).bind fun pot_7 =>
  some (v4, pot_7))
 ((ixI pot_ (2 : Int)).bind fun v8 =>
  (setL pot_ (2 : Int) (v8 + (1 : Int))).bind fun pot_9 =>
  (ixI pot_9 (1 : Int)).bind fun v10 =>
  (ixI pot_9 (2 : Int)).bind fun v11 =>
  (mulI (9999991 : Int) v11).bind fun v12 =>
  (powI (v10 + v12) (3 : Int)).bind fun v13 =>
  (powI (10 : Int) (36 : Int)).bind fun v14 =>
  (modI v13 (v14 + (67 : Int))).bind fun v15 =>
  (ixI pot_9 (2 : Int)).bind fun v16 =>
  (mulI (7919 : Int) v16).bind fun v17 =>
  (powI (v15 + v17) (3 : Int)).bind fun v18 =>
  (powI (10 : Int) (33 : Int)).bind fun v19 =>
  (modI v18 (v19 + (61 : Int))).bind fun v20 =>
  (divI v20 (4096 : Int)).bind fun v21 =>
  (modI v21 many_).bind fun v22 =>
  some (v22, pot_9))
theorem C__law_dip {pot_ : (List Int)} {many_ : Int} {r : (Int × (List Int))} (h : t__law_dip pot_ many_ = some r) : ∃ ρ', F__law_dip [.rf (.l (List.map D.int pot_)), .fz (.int many_)] = some ((fun (r : (Int × (List Int))) => .fz (.int r.1)) r, .rf ((fun (r : (Int × (List Int))) => .l (List.map D.int r.2)) r) :: ρ') := by
  refine fn_rf (ρ := [.fz (.int many_)]) (zf := (fun (r : (Int × (List Int))) => .fz (.int r.1))) (mf := (fun (r : (Int × (List Int))) => .l (List.map D.int r.2))) (x := r) ?_
  unfold t__law_dip at h
  unfold d__law_dip
  show Run _ [.rf (.l (List.map D.int pot_)), .fz (.int many_), .un, .un] _
  obtain ⟨v1, ev1, h⟩ := bnd h
  refine run_if (te_tst (ev_op (ev_op (ev_lent rfl) ev_c rfl rfl (d_ixL ev1)) ev_c rfl rfl rfl)) (fun c2 => ?_) (fun c2 => ?_)
  · have h := cnd_t h c2
    refine run_assoc ?_
    obtain ⟨v3, ev3, h⟩ := bnd h
    obtain ⟨v4, ev4, h⟩ := bnd h
    refine run_asg (ev_op (ev_op (ev_lent rfl) ev_c rfl rfl (d_ixL ev3)) (ev_var rfl) rfl rfl (d_mod ev4)) rfl rfl ?_
    show Run _ [.rf (.l (List.map D.int pot_)), .fz (.int many_), .fz (.int v4), .un] _
    refine run_assoc ?_
    obtain ⟨v5, ev5, h⟩ := bnd h
    obtain ⟨v6, ev6, h⟩ := bnd h
    obtain ⟨pot_7, epot_7, h⟩ := bnd h
    refine run_setIx (ea := D.int) (x := v6) (ev_op (ev_op (ev_lent rfl) ev_c rfl rfl (d_ixL ev5)) (ev_var rfl) rfl rfl (d_div ev6)) rfl rfl ev_c rfl epot_7 ?_
    show Run _ [.rf (.l (List.map D.int pot_7)), .fz (.int many_), .fz (.int v4), .un] _
    exact run_ret h (ev_var rfl) (rql rfl rfl)
  · have h := cnd_f h c2
    refine run_next ?_
    obtain ⟨v8, ev8, h⟩ := bnd h
    obtain ⟨pot_9, epot_9, h⟩ := bnd h
    refine run_setIx (ea := D.int) (x := (v8 + (1 : Int))) (ev_op (ev_op (ev_lent rfl) ev_c rfl rfl (d_ixL ev8)) ev_c rfl rfl rfl) rfl rfl ev_c rfl epot_9 ?_
    show Run _ [.rf (.l (List.map D.int pot_9)), .fz (.int many_), .un, .un] _
    obtain ⟨v10, ev10, h⟩ := bnd h
    obtain ⟨v11, ev11, h⟩ := bnd h
    obtain ⟨v12, ev12, h⟩ := bnd h
    obtain ⟨v13, ev13, h⟩ := bnd h
    obtain ⟨v14, ev14, h⟩ := bnd h
    obtain ⟨v15, ev15, h⟩ := bnd h
    refine run_asg (ev_op (ev_op (ev_op (ev_op (ev_lent rfl) ev_c rfl rfl (d_ixL ev10)) (ev_op ev_c (ev_op (ev_lent rfl) ev_c rfl rfl (d_ixL ev11)) rfl rfl (d_mul ev12)) rfl rfl rfl) ev_c rfl rfl (d_pow ev13)) (ev_op (ev_op ev_c ev_c rfl rfl (d_pow ev14)) ev_c rfl rfl rfl) rfl rfl (d_mod ev15)) rfl rfl ?_
    show Run _ [.rf (.l (List.map D.int pot_9)), .fz (.int many_), .un, .fz (.int v15)] _
    obtain ⟨v16, ev16, h⟩ := bnd h
    obtain ⟨v17, ev17, h⟩ := bnd h
    obtain ⟨v18, ev18, h⟩ := bnd h
    obtain ⟨v19, ev19, h⟩ := bnd h
    obtain ⟨v20, ev20, h⟩ := bnd h
    refine run_asg (ev_op (ev_op (ev_op (ev_var rfl) (ev_op ev_c (ev_op (ev_lent rfl) ev_c rfl rfl (d_ixL ev16)) rfl rfl (d_mul ev17)) rfl rfl rfl) ev_c rfl rfl (d_pow ev18)) (ev_op (ev_op ev_c ev_c rfl rfl (d_pow ev19)) ev_c rfl rfl rfl) rfl rfl (d_mod ev20)) rfl rfl ?_
    show Run _ [.rf (.l (List.map D.int pot_9)), .fz (.int many_), .un, .fz (.int v20)] _
    refine run_last ?_
    obtain ⟨v21, ev21, h⟩ := bnd h
    obtain ⟨v22, ev22, h⟩ := bnd h
    exact run_ret h (ev_op (ev_op (ev_var rfl) ev_c rfl rfl (d_div ev21)) (ev_var rfl) rfl rfl (d_mod ev22)) (rql rfl rfl)
noncomputable def t__law_board (pot_ : (List Int)) (most_ : Int) : Option (Board × (List Int)) :=
  (t__law_dip pot_ (4 : Int)).bind fun v1 =>
  cond (decide (v1.1 < (2 : Int)))
 ((t__law_dip v1.2 (most_ - (2 : Int))).bind fun v3 =>
  some ((Board.row ((3 : Int) + v3.1)), v3.2))
 (cond (decide (v1.1 = (2 : Int)))
 ((t__law_dip v1.2 (most_ - (4 : Int))).bind fun v5 =>
  some ((Board.ring ((5 : Int) + v5.1)), v5.2))
 ((t__law_dip v1.2 (6 : Int)).bind fun v6 =>
  (mulI (3 : Int) ((1 : Int) + v6.1)).bind fun v7 =>
  cond (decide (most_ < v7))
 ((divI most_ (3 : Int)).bind fun v9 =>
  (divI most_ v9).bind fun v10 =>
  (t__law_dip v6.2 (v10 - (2 : Int))).bind fun v11 =>
  (t__law_dip v11.2 (2 : Int)).bind fun v12 =>
  (ixI ([(Board.floor v9 ((3 : Int) + v11.1)), (Board.floor ((3 : Int) + v11.1) v9)] : List Board) v12.1).bind fun v13 =>
  some (v13, v12.2))
 ((divI most_ ((1 : Int) + v6.1)).bind fun v14 =>
  (t__law_dip v6.2 (v14 - (2 : Int))).bind fun v15 =>
  (t__law_dip v15.2 (2 : Int)).bind fun v16 =>
  (ixI ([(Board.floor ((1 : Int) + v6.1) ((3 : Int) + v15.1)), (Board.floor ((3 : Int) + v15.1) ((1 : Int) + v6.1))] : List Board) v16.1).bind fun v17 =>
  some (v17, v16.2))))
theorem C__law_board {pot_ : (List Int)} {most_ : Int} {r : (Board × (List Int))} (h : t__law_board pot_ most_ = some r) : ∃ ρ', F__law_board [.rf (.l (List.map D.int pot_)), .fz (.int most_)] = some ((fun (r : (Board × (List Int))) => .fz (Board.d r.1)) r, .rf ((fun (r : (Board × (List Int))) => .l (List.map D.int r.2)) r) :: ρ') := by
  refine fn_rf (ρ := [.fz (.int most_)]) (zf := (fun (r : (Board × (List Int))) => .fz (Board.d r.1))) (mf := (fun (r : (Board × (List Int))) => .l (List.map D.int r.2))) (x := r) ?_
  unfold t__law_board at h
  unfold d__law_board
  show Run _ [.rf (.l (List.map D.int pot_)), .fz (.int most_), .un, .un, .un] _
  obtain ⟨v1, ev1, h⟩ := bnd h
  refine run_asg (ev_fcR (ar_cons (ev_lent rfl) (ar_fr ev_c rfl ar_nil)) rfl rfl (C__law_dip ev1) rfl) rfl rfl ?_
  show Run _ [.rf (.l (List.map D.int v1.2)), .fz (.int most_), .fz (.int v1.1), .un, .un] _
  refine run_if (te_tst (ev_op (ev_var rfl) ev_c rfl rfl rfl)) (fun c2 => ?_) (fun c2 => ?_)
  · have h := cnd_t h c2
    obtain ⟨v3, ev3, h⟩ := bnd h
    exact run_ret h (ev_as (z := .fz (Board.d (Board.row ((3 : Int) + v3.1)))) (ev_tup (ar_fr ev_c rfl (ar_fr (ev_op ev_c (ev_fcR (ar_cons (ev_lent rfl) (ar_fr (ev_op (ev_var rfl) ev_c rfl rfl rfl) rfl ar_nil)) rfl rfl (C__law_dip ev3) rfl) rfl rfl rfl) rfl ar_nil)) rfl rfl) rfl) (rql rfl rfl)
  · have h := cnd_f h c2
    refine run_next ?_
    refine run_if (te_tst (ev_op (ev_var rfl) ev_c rfl rfl rfl)) (fun c4 => ?_) (fun c4 => ?_)
    · have h := cnd_t h c4
      obtain ⟨v5, ev5, h⟩ := bnd h
      exact run_ret h (ev_as (z := .fz (Board.d (Board.ring ((5 : Int) + v5.1)))) (ev_tup (ar_fr ev_c rfl (ar_fr (ev_op ev_c (ev_fcR (ar_cons (ev_lent rfl) (ar_fr (ev_op (ev_var rfl) ev_c rfl rfl rfl) rfl ar_nil)) rfl rfl (C__law_dip ev5) rfl) rfl rfl rfl) rfl ar_nil)) rfl rfl) rfl) (rql rfl rfl)
    · have h := cnd_f h c4
      refine run_next ?_
      obtain ⟨v6, ev6, h⟩ := bnd h
      refine run_asg (ev_op ev_c (ev_fcR (ar_cons (ev_lent rfl) (ar_fr ev_c rfl ar_nil)) rfl rfl (C__law_dip ev6) rfl) rfl rfl rfl) rfl rfl ?_
      show Run _ [.rf (.l (List.map D.int v6.2)), .fz (.int most_), .fz (.int v1.1), .fz (.int ((1 : Int) + v6.1)), .un] _
      obtain ⟨v7, ev7, h⟩ := bnd h
      refine run_if (te_tst (ev_op (ev_op ev_c (ev_var rfl) rfl rfl (d_mul ev7)) (ev_var rfl) rfl rfl rfl)) (fun c8 => ?_) (fun c8 => ?_)
      · have h := cnd_t h c8
        obtain ⟨v9, ev9, h⟩ := bnd h
        refine run_asg (ev_op (ev_var rfl) ev_c rfl rfl (d_div ev9)) rfl rfl ?_
        show Run _ [.rf (.l (List.map D.int v6.2)), .fz (.int most_), .fz (.int v1.1), .fz (.int v9), .un] _
        obtain ⟨v10, ev10, h⟩ := bnd h
        obtain ⟨v11, ev11, h⟩ := bnd h
        refine run_asg (ev_op ev_c (ev_fcR (ar_cons (ev_lent rfl) (ar_fr (ev_op (ev_op (ev_var rfl) (ev_var rfl) rfl rfl (d_div ev10)) ev_c rfl rfl rfl) rfl ar_nil)) rfl rfl (C__law_dip ev11) rfl) rfl rfl rfl) rfl rfl ?_
        show Run _ [.rf (.l (List.map D.int v11.2)), .fz (.int most_), .fz (.int v1.1), .fz (.int v9), .fz (.int ((3 : Int) + v11.1))] _
        refine run_last ?_
        obtain ⟨v12, ev12, h⟩ := bnd h
        obtain ⟨v13, ev13, h⟩ := bnd h
        exact run_ret h (ev_op (ev_as (z := .ow (.l (List.map Board.d ([(Board.floor v9 ((3 : Int) + v11.1)), (Board.floor ((3 : Int) + v11.1) v9)] : List Board)))) (ev_lst (ar_fr (ev_as (z := .fz (Board.d (Board.floor v9 ((3 : Int) + v11.1)))) (ev_tup (ar_fr ev_c rfl (ar_fr (ev_var rfl) rfl (ar_fr (ev_var rfl) rfl ar_nil))) rfl rfl) rfl) rfl (ar_fr (ev_as (z := .fz (Board.d (Board.floor ((3 : Int) + v11.1) v9))) (ev_tup (ar_fr ev_c rfl (ar_fr (ev_var rfl) rfl (ar_fr (ev_var rfl) rfl ar_nil))) rfl rfl) rfl) rfl ar_nil)) rfl rfl) rfl) (ev_fcR (ar_cons (ev_lent rfl) (ar_fr ev_c rfl ar_nil)) rfl rfl (C__law_dip ev12) rfl) rfl rfl (d_ixL ev13)) (rql rfl rfl)
      · have h := cnd_f h c8
        refine run_next ?_
        obtain ⟨v14, ev14, h⟩ := bnd h
        obtain ⟨v15, ev15, h⟩ := bnd h
        refine run_asg (ev_op ev_c (ev_fcR (ar_cons (ev_lent rfl) (ar_fr (ev_op (ev_op (ev_var rfl) (ev_var rfl) rfl rfl (d_div ev14)) ev_c rfl rfl rfl) rfl ar_nil)) rfl rfl (C__law_dip ev15) rfl) rfl rfl rfl) rfl rfl ?_
        show Run _ [.rf (.l (List.map D.int v15.2)), .fz (.int most_), .fz (.int v1.1), .fz (.int ((1 : Int) + v6.1)), .fz (.int ((3 : Int) + v15.1))] _
        refine run_last ?_
        obtain ⟨v16, ev16, h⟩ := bnd h
        obtain ⟨v17, ev17, h⟩ := bnd h
        exact run_ret h (ev_op (ev_as (z := .ow (.l (List.map Board.d ([(Board.floor ((1 : Int) + v6.1) ((3 : Int) + v15.1)), (Board.floor ((3 : Int) + v15.1) ((1 : Int) + v6.1))] : List Board)))) (ev_lst (ar_fr (ev_as (z := .fz (Board.d (Board.floor ((1 : Int) + v6.1) ((3 : Int) + v15.1)))) (ev_tup (ar_fr ev_c rfl (ar_fr (ev_var rfl) rfl (ar_fr (ev_var rfl) rfl ar_nil))) rfl rfl) rfl) rfl (ar_fr (ev_as (z := .fz (Board.d (Board.floor ((3 : Int) + v15.1) ((1 : Int) + v6.1)))) (ev_tup (ar_fr ev_c rfl (ar_fr (ev_var rfl) rfl (ar_fr (ev_var rfl) rfl ar_nil))) rfl rfl) rfl) rfl ar_nil)) rfl rfl) rfl) (ev_fcR (ar_cons (ev_lent rfl) (ar_fr ev_c rfl ar_nil)) rfl rfl (C__law_dip ev16) rfl) rfl rfl (d_ixL ev17)) (rql rfl rfl)
noncomputable def t__law_rules (board_ : Board) : Option (List Rule) :=
  cond (!board_.isFloor)
 ((ixI ([(3 : Int), (5 : Int)] : List Int) (b2i (board_.isRing))).bind fun v2 =>
  (divI board_.n1 v2).bind fun v3 =>
  (rngO (1 : Int) (v3 + (1 : Int))).bind fun v4 =>
  (forN (fun (s5 : (List Rule)) (x6 : Int) =>
  (catL s5 ([(Rule.swap x6 (0 : Int)), (Rule.swap x6 (1 : Int))] : List Rule)).bind fun v8 =>
  some v8) v4 ([] : List Rule)).bind fun s9 =>
  some s9)
 ((board_.shw).bind fun v12 =>
  (rngO (1 : Int) (v12.2.1 + (1 : Int))).bind fun v13 =>
  (forN (fun (s14 : (List Rule)) (x15 : Int) =>
  (rngO (1 : Int) (v12.2.2 + (1 : Int))).bind fun v18 =>
  (forN (fun (s19 : (List Rule)) (x20 : Int) =>
  (mulI (3 : Int) x20).bind fun v22 =>
  (andO (decide (v22 ≤ v12.2.2)) ((mulI (2 : Int) x15).bind fun v23 =>
  some (decide ((v23 - (1 : Int)) ≤ v12.2.1)))).bind fun v24 =>
  cond v24
 ((catL s19 ([(Rule.over x15 x20 (0 : Int)), (Rule.over x15 x20 (1 : Int))] : List Rule)).bind fun v26 =>
  (mulI (3 : Int) x15).bind fun v27 =>
  (andO (decide (v27 ≤ v12.2.1)) ((mulI (2 : Int) x20).bind fun v28 =>
  some (decide ((v28 - (1 : Int)) ≤ v12.2.2)))).bind fun v29 =>
  cond v29
 ((catL v26 ([(Rule.under x15 x20 (0 : Int)), (Rule.under x15 x20 (1 : Int))] : List Rule)).bind fun v31 =>
  some v31)
 (some v26))
 ((mulI (3 : Int) x15).bind fun v32 =>
  (andO (decide (v32 ≤ v12.2.1)) ((mulI (2 : Int) x20).bind fun v33 =>
  some (decide ((v33 - (1 : Int)) ≤ v12.2.2)))).bind fun v34 =>
  cond v34
 ((catL s19 ([(Rule.under x15 x20 (0 : Int)), (Rule.under x15 x20 (1 : Int))] : List Rule)).bind fun v36 =>
  some v36)
 (some s19))) v18 s14).bind fun s37 =>
  some s37) v13 ([] : List Rule)).bind fun s40 =>
  some s40)
theorem C__law_rules {board_ : Board} {r : (List Rule)} (h : t__law_rules board_ = some r) : ∃ ρ', F__law_rules [.fz (Board.d board_)] = some ((fun (r : (List Rule)) => .ow (.l (List.map Rule.d r))) r, ρ') := by
  refine fn_ok (ρ := [.fz (Board.d board_)]) (zf := (fun (r : (List Rule)) => .ow (.l (List.map Rule.d r)))) (x := r) ?_
  unfold t__law_rules at h
  unfold d__law_rules
  show Run _ [.fz (Board.d board_), .un, .un, .un, .un, .un, .un, .un] _
  refine run_asg (ev_as (z := .ow (.l (List.map Rule.d ([] : List Rule)))) (ev_lst ar_nil rfl rfl) rfl) rfl rfl ?_
  show Run _ [.fz (Board.d board_), .ow (.l (List.map Rule.d ([] : List Rule))), .un, .un, .un, .un, .un, .un] _
  refine run_if (te_tst (ev_op (ev_op (ev_var rfl) ev_c rfl rfl (b_ix0 _)) ev_c rfl rfl (b_neF _))) (fun c1 => ?_) (fun c1 => ?_)
  · have h := cnd_t h c1
    refine run_assoc ?_
    obtain ⟨v2, ev2, h⟩ := bnd h
    obtain ⟨v3, ev3, h⟩ := bnd h
    obtain ⟨v4, ev4, h⟩ := bnd h
    obtain ⟨s9, es9, h⟩ := bnd h
    refine run_for es9 (fun (s5 : (List Rule)) ρ => ∃ j7 : Sl, ρ = [.fz (Board.d board_), .ow (.l (List.map Rule.d s5)), j7, .un, .un, .un, .un, .un] ∧ kNR (some j7) = true) (it_r2 (ar_fr ev_c rfl (ar_fr (ev_op (ev_op (ev_op (ev_var rfl) ev_c rfl rfl (b_ix1 _)) (ev_op (ev_as (z := .ow (.l (List.map D.int ([(3 : Int), (5 : Int)] : List Int)))) (ev_lst (ar_fr ev_c rfl (ar_fr ev_c rfl ar_nil)) rfl rfl) rfl) (ev_call (ar_cons (ev_op (ev_op (ev_var rfl) ev_c rfl rfl (b_ix0 _)) ev_c rfl rfl (b_eqG _)) ar_nil) rfl rfl) rfl rfl (d_ixL ev2)) rfl rfl (d_div ev3)) ev_c rfl rfl rfl) rfl ar_nil)) ev4) ⟨_, rfl, rfl⟩ ?_ ?_
    · rintro s5 x6 s11 ρ ⟨j7, rfl, nj7⟩ h
      refine ⟨_, (tg_nm nj7), ?_⟩
      show Run _ [.fz (Board.d board_), .ow (.l (List.map Rule.d s5)), .fz (.int x6), .un, .un, .un, .un, .un] _
      refine run_last ?_
      obtain ⟨v8, ev8, h⟩ := bnd h
      refine run_asg (ev_op (ev_own rfl) (ev_as (z := .ow (.l (List.map Rule.d ([(Rule.swap x6 (0 : Int)), (Rule.swap x6 (1 : Int))] : List Rule)))) (ev_lst (ar_fr (ev_as (z := .fz (Rule.d (Rule.swap x6 (0 : Int)))) (ev_tup (ar_fr ev_c rfl (ar_fr (ev_var rfl) rfl (ar_fr ev_c rfl ar_nil))) rfl rfl) rfl) rfl (ar_fr (ev_as (z := .fz (Rule.d (Rule.swap x6 (1 : Int)))) (ev_tup (ar_fr ev_c rfl (ar_fr (ev_var rfl) rfl (ar_fr ev_c rfl ar_nil))) rfl rfl) rfl) rfl ar_nil)) rfl rfl) rfl) rfl rfl (d_catL ev8)) rfl rfl ?_
      show Run _ [.fz (Board.d board_), .ow (.l (List.map Rule.d v8)), .fz (.int x6), .un, .un, .un, .un, .un] _
      exact run_done h (lp_q ⟨.inl rfl, ⟨_, rfl, rfl⟩⟩)
    · rintro ρ ⟨j10, rfl, nj10⟩
      exact run_ret h (ev_own rfl) (rq rfl)
  · have h := cnd_f h c1
    refine run_next ?_
    obtain ⟨v12, ev12, h⟩ := bnd h
    refine run_unp (ev_var rfl) rfl (b_shw ev12) (tg_tp rfl (tg_cs (tg_nm rfl) (tg_cs (tg_nm rfl) (tg_cs (tg_nm rfl) tg_nl)))) ?_
    show Run _ [.fz (Board.d board_), .ow (.l (List.map Rule.d ([] : List Rule))), .un, .fz (.str v12.1), .fz (.int v12.2.1), .fz (.int v12.2.2), .un, .un] _
    obtain ⟨v13, ev13, h⟩ := bnd h
    obtain ⟨s40, es40, h⟩ := bnd h
    refine run_for es40 (fun (s14 : (List Rule)) ρ => ∃ j16 j17 : Sl, ρ = [.fz (Board.d board_), .ow (.l (List.map Rule.d s14)), .un, .fz (.str v12.1), .fz (.int v12.2.1), .fz (.int v12.2.2), j16, j17] ∧ kNR (some j16) = true ∧ kNR (some j17) = true) (it_r2 (ar_fr ev_c rfl (ar_fr (ev_op (ev_var rfl) ev_c rfl rfl rfl) rfl ar_nil)) ev13) ⟨_, _, rfl, rfl, rfl⟩ ?_ ?_
    · rintro s14 x15 s43 ρ ⟨j16, j17, rfl, nj16, nj17⟩ h
      refine ⟨_, (tg_nm nj16), ?_⟩
      show Run _ [.fz (Board.d board_), .ow (.l (List.map Rule.d s14)), .un, .fz (.str v12.1), .fz (.int v12.2.1), .fz (.int v12.2.2), .fz (.int x15), j17] _
      refine run_last ?_
      obtain ⟨v18, ev18, h⟩ := bnd h
      obtain ⟨s37, es37, h⟩ := bnd h
      refine run_for es37 (fun (s19 : (List Rule)) ρ => ∃ j21 : Sl, ρ = [.fz (Board.d board_), .ow (.l (List.map Rule.d s19)), .un, .fz (.str v12.1), .fz (.int v12.2.1), .fz (.int v12.2.2), .fz (.int x15), j21] ∧ kNR (some j21) = true) (it_r2 (ar_fr ev_c rfl (ar_fr (ev_op (ev_var rfl) ev_c rfl rfl rfl) rfl ar_nil)) ev18) ⟨_, rfl, nj17⟩ ?_ ?_
      · rintro s19 x20 s39 ρ ⟨j21, rfl, nj21⟩ h
        refine ⟨_, (tg_nm nj21), ?_⟩
        show Run _ [.fz (Board.d board_), .ow (.l (List.map Rule.d s19)), .un, .fz (.str v12.1), .fz (.int v12.2.1), .fz (.int v12.2.2), .fz (.int x15), .fz (.int x20)] _
        obtain ⟨v22, ev22, h⟩ := bnd h
        obtain ⟨v24, ev24, h⟩ := bnd h
        refine run_if (te_andO (te_tst (ev_op (ev_op ev_c (ev_var rfl) rfl rfl (d_mul ev22)) (ev_var rfl) rfl rfl rfl)) ev24 (by intro c h; obtain ⟨v23, ev23, h⟩ := bnd h; exact te_let h (te_tst (ev_op (ev_op (ev_op ev_c (ev_var rfl) rfl rfl (d_mul ev23)) ev_c rfl rfl rfl) (ev_var rfl) rfl rfl rfl)))) (fun c25 => ?_) (fun c25 => ?_)
        · have h := cnd_t h c25
          obtain ⟨v26, ev26, h⟩ := bnd h
          refine run_asg (ev_op (ev_own rfl) (ev_as (z := .ow (.l (List.map Rule.d ([(Rule.over x15 x20 (0 : Int)), (Rule.over x15 x20 (1 : Int))] : List Rule)))) (ev_lst (ar_fr (ev_as (z := .fz (Rule.d (Rule.over x15 x20 (0 : Int)))) (ev_tup (ar_fr ev_c rfl (ar_fr (ev_var rfl) rfl (ar_fr (ev_var rfl) rfl (ar_fr ev_c rfl ar_nil)))) rfl rfl) rfl) rfl (ar_fr (ev_as (z := .fz (Rule.d (Rule.over x15 x20 (1 : Int)))) (ev_tup (ar_fr ev_c rfl (ar_fr (ev_var rfl) rfl (ar_fr (ev_var rfl) rfl (ar_fr ev_c rfl ar_nil)))) rfl rfl) rfl) rfl ar_nil)) rfl rfl) rfl) rfl rfl (d_catL ev26)) rfl rfl ?_
          show Run _ [.fz (Board.d board_), .ow (.l (List.map Rule.d v26)), .un, .fz (.str v12.1), .fz (.int v12.2.1), .fz (.int v12.2.2), .fz (.int x15), .fz (.int x20)] _
          refine run_last ?_
          obtain ⟨v27, ev27, h⟩ := bnd h
          obtain ⟨v29, ev29, h⟩ := bnd h
          refine run_if (te_andO (te_tst (ev_op (ev_op ev_c (ev_var rfl) rfl rfl (d_mul ev27)) (ev_var rfl) rfl rfl rfl)) ev29 (by intro c h; obtain ⟨v28, ev28, h⟩ := bnd h; exact te_let h (te_tst (ev_op (ev_op (ev_op ev_c (ev_var rfl) rfl rfl (d_mul ev28)) ev_c rfl rfl rfl) (ev_var rfl) rfl rfl rfl)))) (fun c30 => ?_) (fun c30 => ?_)
          · have h := cnd_t h c30
            obtain ⟨v31, ev31, h⟩ := bnd h
            refine run_asg (ev_op (ev_own rfl) (ev_as (z := .ow (.l (List.map Rule.d ([(Rule.under x15 x20 (0 : Int)), (Rule.under x15 x20 (1 : Int))] : List Rule)))) (ev_lst (ar_fr (ev_as (z := .fz (Rule.d (Rule.under x15 x20 (0 : Int)))) (ev_tup (ar_fr ev_c rfl (ar_fr (ev_var rfl) rfl (ar_fr (ev_var rfl) rfl (ar_fr ev_c rfl ar_nil)))) rfl rfl) rfl) rfl (ar_fr (ev_as (z := .fz (Rule.d (Rule.under x15 x20 (1 : Int)))) (ev_tup (ar_fr ev_c rfl (ar_fr (ev_var rfl) rfl (ar_fr (ev_var rfl) rfl (ar_fr ev_c rfl ar_nil)))) rfl rfl) rfl) rfl ar_nil)) rfl rfl) rfl) rfl rfl (d_catL ev31)) rfl rfl ?_
            show Run _ [.fz (Board.d board_), .ow (.l (List.map Rule.d v31)), .un, .fz (.str v12.1), .fz (.int v12.2.1), .fz (.int v12.2.2), .fz (.int x15), .fz (.int x20)] _
            exact run_done h (lp_q ⟨.inl rfl, ⟨_, rfl, rfl⟩⟩)
          · have h := cnd_f h c30
            refine run_next ?_
            exact run_done h (lp_q ⟨.inl rfl, ⟨_, rfl, rfl⟩⟩)
        · have h := cnd_f h c25
          refine run_next ?_
          refine run_last ?_
          obtain ⟨v32, ev32, h⟩ := bnd h
          obtain ⟨v34, ev34, h⟩ := bnd h
          refine run_if (te_andO (te_tst (ev_op (ev_op ev_c (ev_var rfl) rfl rfl (d_mul ev32)) (ev_var rfl) rfl rfl rfl)) ev34 (by intro c h; obtain ⟨v33, ev33, h⟩ := bnd h; exact te_let h (te_tst (ev_op (ev_op (ev_op ev_c (ev_var rfl) rfl rfl (d_mul ev33)) ev_c rfl rfl rfl) (ev_var rfl) rfl rfl rfl)))) (fun c35 => ?_) (fun c35 => ?_)
          · have h := cnd_t h c35
            obtain ⟨v36, ev36, h⟩ := bnd h
            refine run_asg (ev_op (ev_own rfl) (ev_as (z := .ow (.l (List.map Rule.d ([(Rule.under x15 x20 (0 : Int)), (Rule.under x15 x20 (1 : Int))] : List Rule)))) (ev_lst (ar_fr (ev_as (z := .fz (Rule.d (Rule.under x15 x20 (0 : Int)))) (ev_tup (ar_fr ev_c rfl (ar_fr (ev_var rfl) rfl (ar_fr (ev_var rfl) rfl (ar_fr ev_c rfl ar_nil)))) rfl rfl) rfl) rfl (ar_fr (ev_as (z := .fz (Rule.d (Rule.under x15 x20 (1 : Int)))) (ev_tup (ar_fr ev_c rfl (ar_fr (ev_var rfl) rfl (ar_fr (ev_var rfl) rfl (ar_fr ev_c rfl ar_nil)))) rfl rfl) rfl) rfl ar_nil)) rfl rfl) rfl) rfl rfl (d_catL ev36)) rfl rfl ?_
            show Run _ [.fz (Board.d board_), .ow (.l (List.map Rule.d v36)), .un, .fz (.str v12.1), .fz (.int v12.2.1), .fz (.int v12.2.2), .fz (.int x15), .fz (.int x20)] _
            exact run_done h (lp_q ⟨.inl rfl, ⟨_, rfl, rfl⟩⟩)
          · have h := cnd_f h c35
            refine run_next ?_
            exact run_done h (lp_q ⟨.inl rfl, ⟨_, rfl, rfl⟩⟩)
      · rintro ρ ⟨j38, rfl, nj38⟩
        exact run_done h (lp_q ⟨.inl rfl, ⟨_, _, rfl, rfl, nj38⟩⟩)
    · rintro ρ ⟨j41, j42, rfl, nj41, nj42⟩
      refine run_last ?_
      exact run_ret h (ev_own rfl) (rq rfl)
noncomputable def t__law_book (pot_ : (List Int)) (board_ : Board) : Option ((List Rule) × (List Int)) :=
  (t__law_rules board_).bind fun v1 =>
  (t__law_dip pot_ (4 : Int)).bind fun v2 =>
  (rngO (0 : Int) (mnI (v1.length : Int) ((1 : Int) + v2.1))).bind fun v3 =>
  (forN (fun (s4 : (List Int) × (List Rule) × (List Rule)) (x5 : Int) =>
  (t__law_dip s4.1 (s4.2.1.length : Int)).bind fun v7 =>
  (popAtL s4.2.1 v7.1).bind fun v8 =>
  (appL s4.2.2 v8.1).bind fun v9 =>
  some (v7.2, v8.2, v9)) v3 (v2.2, v1, ([] : List Rule))).bind fun s10 =>
  some (s10.2.2, s10.1)
theorem C__law_book {pot_ : (List Int)} {board_ : Board} {r : ((List Rule) × (List Int))} (h : t__law_book pot_ board_ = some r) : ∃ ρ', F__law_book [.rf (.l (List.map D.int pot_)), .fz (Board.d board_)] = some ((fun (r : ((List Rule) × (List Int))) => .fz (.tup (List.map Rule.d r.1))) r, .rf ((fun (r : ((List Rule) × (List Int))) => .l (List.map D.int r.2)) r) :: ρ') := by
  refine fn_rf (ρ := [.fz (Board.d board_)]) (zf := (fun (r : ((List Rule) × (List Int))) => .fz (.tup (List.map Rule.d r.1)))) (mf := (fun (r : ((List Rule) × (List Int))) => .l (List.map D.int r.2))) (x := r) ?_
  unfold t__law_book at h
  unfold d__law_book
  show Run _ [.rf (.l (List.map D.int pot_)), .fz (Board.d board_), .un, .un, .un] _
  obtain ⟨v1, ev1, h⟩ := bnd h
  refine run_asg (ev_fc (ar_fr (ev_var rfl) rfl ar_nil) rfl (C__law_rules ev1) rfl) rfl rfl ?_
  show Run _ [.rf (.l (List.map D.int pot_)), .fz (Board.d board_), .ow (.l (List.map Rule.d v1)), .un, .un] _
  refine run_asg (ev_as (z := .ow (.l (List.map Rule.d ([] : List Rule)))) (ev_lst ar_nil rfl rfl) rfl) rfl rfl ?_
  show Run _ [.rf (.l (List.map D.int pot_)), .fz (Board.d board_), .ow (.l (List.map Rule.d v1)), .ow (.l (List.map Rule.d ([] : List Rule))), .un] _
  obtain ⟨v2, ev2, h⟩ := bnd h
  obtain ⟨v3, ev3, h⟩ := bnd h
  obtain ⟨s10, es10, h⟩ := bnd h
  refine run_for es10 (fun (s4 : (List Int) × (List Rule) × (List Rule)) ρ => ∃ j6 : Sl, ρ = [.rf (.l (List.map D.int s4.1)), .fz (Board.d board_), .ow (.l (List.map Rule.d s4.2.1)), .ow (.l (List.map Rule.d s4.2.2)), j6] ∧ kNR (some j6) = true) (it_r1 (ar_fr (ev_call (ar_cons (ev_call (ar_cons (ev_own rfl) ar_nil) rfl (d_lenL _)) (ar_cons (ev_op ev_c (ev_fcR (ar_cons (ev_lent rfl) (ar_fr ev_c rfl ar_nil)) rfl rfl (C__law_dip ev2) rfl) rfl rfl rfl) ar_nil)) rfl rfl) rfl ar_nil) ev3) ⟨_, rfl, rfl⟩ ?_ ?_
  · rintro s4 x5 s12 ρ ⟨j6, rfl, nj6⟩ h
    refine ⟨_, (tg_nm nj6), ?_⟩
    show Run _ [.rf (.l (List.map D.int s4.1)), .fz (Board.d board_), .ow (.l (List.map Rule.d s4.2.1)), .ow (.l (List.map Rule.d s4.2.2)), .fz (.int x5)] _
    refine run_last ?_
    obtain ⟨v7, ev7, h⟩ := bnd h
    obtain ⟨v8, ev8, h⟩ := bnd h
    obtain ⟨v9, ev9, h⟩ := bnd h
    refine run_drop (ev_mt rfl (ar_fr (ev_mt rfl (ar_fr (ev_fcR (ar_cons (ev_lent rfl) (ar_fr (ev_call (ar_cons (ev_own rfl) ar_nil) rfl (d_lenL _)) rfl ar_nil)) rfl rfl (C__law_dip ev7) rfl) rfl ar_nil) rfl rfl (d_popAt ev8)) rfl ar_nil) rfl rfl (d_app (ea := Rule.d) (x := v8.1) ev9)) ?_
    show Run _ [.rf (.l (List.map D.int v7.2)), .fz (Board.d board_), .ow (.l (List.map Rule.d v8.2)), .ow (.l (List.map Rule.d v9)), .fz (.int x5)] _
    exact run_done h (lp_q ⟨.inl rfl, ⟨_, rfl, rfl⟩⟩)
  · rintro ρ ⟨j11, rfl, nj11⟩
    refine run_last ?_
    exact run_ret h (ev_call (ar_cons (ev_own rfl) ar_nil) rfl rfl) (rql rfl rfl)
noncomputable def t__law_measure (numbers_ : (List Int)) : Option Int :=
  (forN (fun (s1 : Int) (x2 : Int) =>
  (whileU (fun (s6 : Int × Int) => some (decide ((0 : Int) < s6.2))) (fun (s6 : Int × Int) =>
  (modI s6.1 s6.2).bind fun v8 =>
  some (s6.2, v8)) (s1, x2)).bind fun s9 =>
  some s9.1) numbers_ (0 : Int)).bind fun s11 =>
  some s11
theorem C__law_measure {numbers_ : (List Int)} {r : Int} (h : t__law_measure numbers_ = some r) : ∃ ρ', F__law_measure [.fz (.lst (List.map D.int numbers_))] = some ((fun (r : Int) => .fz (.int r)) r, ρ') := by
  refine fn_ok (ρ := [.fz (.lst (List.map D.int numbers_))]) (zf := (fun (r : Int) => .fz (.int r))) (x := r) ?_
  unfold t__law_measure at h
  unfold d__law_measure
  show Run _ [.fz (.lst (List.map D.int numbers_)), .un, .un, .un, .un] _
  refine run_asg ev_c rfl rfl ?_
  show Run _ [.fz (.lst (List.map D.int numbers_)), .fz (.int (0 : Int)), .un, .un, .un] _
  obtain ⟨s11, es11, h⟩ := bnd h
  refine run_for es11 (fun (s1 : Int) ρ => ∃ j3 j4 j5 : Sl, ρ = [.fz (.lst (List.map D.int numbers_)), .fz (.int s1), j3, j4, j5] ∧ kNR (some j3) = true ∧ kNR (some j4) = true ∧ kNR (some j5) = true) (it_L (ev_var rfl) rfl) ⟨_, _, _, rfl, rfl, rfl, rfl⟩ ?_ ?_
  · rintro s1 x2 s15 ρ ⟨j3, j4, j5, rfl, nj3, nj4, nj5⟩ h
    refine ⟨_, (tg_nm nj3), ?_⟩
    show Run _ [.fz (.lst (List.map D.int numbers_)), .fz (.int s1), .fz (.int x2), j4, j5] _
    refine run_par (ar_fr (ev_var rfl) rfl (ar_fr (ev_var rfl) rfl ar_nil)) nj4 nj5 ?_
    show Run _ [.fz (.lst (List.map D.int numbers_)), .fz (.int s1), .fz (.int x2), .fz (.int s1), .fz (.int x2)] _
    obtain ⟨s9, es9, h⟩ := bnd h
    refine run_while es9 (fun (s6 : Int × Int) ρ => ρ = [.fz (.lst (List.map D.int numbers_)), .fz (.int s1), .fz (.int x2), .fz (.int s6.1), .fz (.int s6.2)]) rfl ?_ ?_ ?_
    · rintro s6 c ρ (rfl) h
      exact te_let h (te_tst (ev_op (ev_var rfl) ev_c rfl rfl rfl))
    · rintro s6 s10 ρ (rfl) _ h
      show Run _ [.fz (.lst (List.map D.int numbers_)), .fz (.int s1), .fz (.int x2), .fz (.int s6.1), .fz (.int s6.2)] _
      refine run_last ?_
      obtain ⟨v8, ev8, h⟩ := bnd h
      refine run_par (ar_fr (ev_var rfl) rfl (ar_fr (ev_op (ev_var rfl) (ev_var rfl) rfl rfl (d_mod ev8)) rfl ar_nil)) rfl rfl ?_
      show Run _ [.fz (.lst (List.map D.int numbers_)), .fz (.int s1), .fz (.int x2), .fz (.int s6.2), .fz (.int v8)] _
      exact run_done h (lp_q ⟨.inl rfl, rfl⟩)
    · rintro ρ rfl
      refine run_last ?_
      refine run_asg (ev_var rfl) rfl rfl ?_
      show Run _ [.fz (.lst (List.map D.int numbers_)), .fz (.int s9.1), .fz (.int x2), .fz (.int s9.1), .fz (.int s9.2)] _
      exact run_done h (lp_q ⟨.inl rfl, ⟨_, _, _, rfl, rfl, rfl, rfl⟩⟩)
  · rintro ρ ⟨j12, j13, j14, rfl, nj12, nj13, nj14⟩
    refine run_last ?_
    exact run_ret h (ev_var rfl) (rq rfl)
noncomputable def t__law_calm (pot_ : (List Int)) (book_ : (List Rule)) : Option ((List Rule) × (List Int)) :=
  (t__law_dip pot_ (4 : Int)).bind fun v1 =>
  cond (decide (v1.1 < (2 : Int)))
 (some (book_, v1.2))
 ((forN (fun (s3 : (List Rule)) (x4 : Rule) =>
  (modI (cond (x4.isOver) x4.n2 x4.n1) (2 : Int)).bind fun v8 =>
  (mulI v8 ((3 : Int) - v1.1)).bind fun v9 =>
  (inO (Rule.d (Rule.withB x4 v9)) (List.map Rule.d s3)).bind fun v10 =>
  cond (!v10)
 ((appL s3 (Rule.withB x4 v9)).bind fun v12 =>
  some v12)
 (some s3)) book_ ([] : List Rule)).bind fun s13 =>
  some (s13, v1.2))
theorem C__law_calm {pot_ : (List Int)} {book_ : (List Rule)} {r : ((List Rule) × (List Int))} (h : t__law_calm pot_ book_ = some r) : ∃ ρ', F__law_calm [.rf (.l (List.map D.int pot_)), .fz (.tup (List.map Rule.d book_))] = some ((fun (r : ((List Rule) × (List Int))) => .fz (.tup (List.map Rule.d r.1))) r, .rf ((fun (r : ((List Rule) × (List Int))) => .l (List.map D.int r.2)) r) :: ρ') := by
  refine fn_rf (ρ := [.fz (.tup (List.map Rule.d book_))]) (zf := (fun (r : ((List Rule) × (List Int))) => .fz (.tup (List.map Rule.d r.1)))) (mf := (fun (r : ((List Rule) × (List Int))) => .l (List.map D.int r.2))) (x := r) ?_
  unfold t__law_calm at h
  unfold d__law_calm
  show Run _ [.rf (.l (List.map D.int pot_)), .fz (.tup (List.map Rule.d book_)), .un, .un, .un, .un, .un] _
  obtain ⟨v1, ev1, h⟩ := bnd h
  refine run_asg (ev_fcR (ar_cons (ev_lent rfl) (ar_fr ev_c rfl ar_nil)) rfl rfl (C__law_dip ev1) rfl) rfl rfl ?_
  show Run _ [.rf (.l (List.map D.int v1.2)), .fz (.tup (List.map Rule.d book_)), .fz (.int v1.1), .un, .un, .un, .un] _
  refine run_if (te_tst (ev_op (ev_var rfl) ev_c rfl rfl rfl)) (fun c2 => ?_) (fun c2 => ?_)
  · have h := cnd_t h c2
    exact run_ret h (ev_var rfl) (rql rfl rfl)
  · have h := cnd_f h c2
    refine run_next ?_
    refine run_asg (ev_as (z := .ow (.l (List.map Rule.d ([] : List Rule)))) (ev_lst ar_nil rfl rfl) rfl) rfl rfl ?_
    show Run _ [.rf (.l (List.map D.int v1.2)), .fz (.tup (List.map Rule.d book_)), .fz (.int v1.1), .ow (.l (List.map Rule.d ([] : List Rule))), .un, .un, .un] _
    obtain ⟨s13, es13, h⟩ := bnd h
    refine run_for es13 (fun (s3 : (List Rule)) ρ => ∃ j5 j6 j7 : Sl, ρ = [.rf (.l (List.map D.int v1.2)), .fz (.tup (List.map Rule.d book_)), .fz (.int v1.1), .ow (.l (List.map Rule.d s3)), j5, j6, j7] ∧ kNR (some j5) = true ∧ kNR (some j6) = true ∧ kNR (some j7) = true) (it_V (ev_var rfl) rfl) ⟨_, _, _, rfl, rfl, rfl, rfl⟩ ?_ ?_
    · rintro s3 x4 s17 ρ ⟨j5, j6, j7, rfl, nj5, nj6, nj7⟩ h
      refine ⟨_, (tg_nm nj5), ?_⟩
      show Run _ [.rf (.l (List.map D.int v1.2)), .fz (.tup (List.map Rule.d book_)), .fz (.int v1.1), .ow (.l (List.map Rule.d s3)), .fz (Rule.d x4), j6, j7] _
      refine run_asg (ev_if (fun (t : Int) => .fz (.int t)) (a := x4.n2) (a' := x4.n1) (te_tst (ev_op (ev_op (ev_var rfl) ev_c rfl rfl (r_ix0 _)) ev_c rfl rfl (r_eqO _))) (ev_op (ev_var rfl) ev_c rfl rfl (r_ix2 _)) (ev_op (ev_var rfl) ev_c rfl rfl (r_ix1 _))) rfl nj6 ?_
      show Run _ [.rf (.l (List.map D.int v1.2)), .fz (.tup (List.map Rule.d book_)), .fz (.int v1.1), .ow (.l (List.map Rule.d s3)), .fz (Rule.d x4), .fz (.int (cond (x4.isOver) x4.n2 x4.n1)), j7] _
      obtain ⟨v8, ev8, h⟩ := bnd h
      obtain ⟨v9, ev9, h⟩ := bnd h
      refine run_asg (ev_op (ev_sl (ev_var rfl) fo_no (fo_some (ev_neg ev_c)) rfl (r_init _)) (ev_tup (ar_fr (ev_op (ev_op (ev_var rfl) ev_c rfl rfl (d_mod ev8)) (ev_op ev_c (ev_var rfl) rfl rfl rfl) rfl rfl (d_mul ev9)) rfl ar_nil) rfl rfl) rfl rfl (r_cat _ _)) rfl nj7 ?_
      show Run _ [.rf (.l (List.map D.int v1.2)), .fz (.tup (List.map Rule.d book_)), .fz (.int v1.1), .ow (.l (List.map Rule.d s3)), .fz (Rule.d x4), .fz (.int (cond (x4.isOver) x4.n2 x4.n1)), .fz (Rule.d (Rule.withB x4 v9))] _
      refine run_last ?_
      obtain ⟨v10, ev10, h⟩ := bnd h
      refine run_if (te_tst (ev_op (ev_var rfl) (ev_own rfl) rfl rfl (d_ninL ev10))) (fun c11 => ?_) (fun c11 => ?_)
      · have h := cnd_t h c11
        obtain ⟨v12, ev12, h⟩ := bnd h
        refine run_drop (ev_mt rfl (ar_fr (ev_var rfl) rfl ar_nil) rfl rfl (d_app (ea := Rule.d) (x := (Rule.withB x4 v9)) ev12)) ?_
        show Run _ [.rf (.l (List.map D.int v1.2)), .fz (.tup (List.map Rule.d book_)), .fz (.int v1.1), .ow (.l (List.map Rule.d v12)), .fz (Rule.d x4), .fz (.int (cond (x4.isOver) x4.n2 x4.n1)), .fz (Rule.d (Rule.withB x4 v9))] _
        exact run_done h (lp_q ⟨.inl rfl, ⟨_, _, _, rfl, rfl, rfl, rfl⟩⟩)
      · have h := cnd_f h c11
        refine run_next ?_
        exact run_done h (lp_q ⟨.inl rfl, ⟨_, _, _, rfl, rfl, rfl, rfl⟩⟩)
    · rintro ρ ⟨j14, j15, j16, rfl, nj14, nj15, nj16⟩
      refine run_last ?_
      exact run_ret h (ev_call (ar_cons (ev_own rfl) ar_nil) rfl rfl) (rql rfl rfl)
noncomputable def t__law_fits (lengths_ : (List Int)) (bents_ : (List Int)) (measure_ : Int) (round_about_ : Int) : Option Bool :=
  cond (decide (bents_.sum = (0 : Int)))
 (some true)
 ((divI round_about_ measure_).bind fun v2 =>
  (modI v2 (2 : Int)).bind fun v3 =>
  cond (decide (v3 = (1 : Int)))
 (some false)
 ((mapO (fun (x5 : Int) =>
  (divI x5 measure_).bind fun v6 =>
  (modI v6 (2 : Int)).bind fun v7 =>
  some v7) lengths_).bind fun v8 =>
  (eqO (.lst (List.map D.int bents_)) (.lst (List.map D.int v8))).bind fun v9 =>
  some v9))
theorem C__law_fits {lengths_ : (List Int)} {bents_ : (List Int)} {measure_ : Int} {round_about_ : Int} {r : Bool} (h : t__law_fits lengths_ bents_ measure_ round_about_ = some r) : ∃ ρ', F__law_fits [.fz (.lst (List.map D.int lengths_)), .fz (.lst (List.map D.int bents_)), .fz (.int measure_), .fz (.int round_about_)] = some ((fun (r : Bool) => .fz (.bl r)) r, ρ') := by
  refine fn_ok (ρ := [.fz (.lst (List.map D.int lengths_)), .fz (.lst (List.map D.int bents_)), .fz (.int measure_), .fz (.int round_about_)]) (zf := (fun (r : Bool) => .fz (.bl r))) (x := r) ?_
  unfold t__law_fits at h
  unfold d__law_fits
  show Run _ [.fz (.lst (List.map D.int lengths_)), .fz (.lst (List.map D.int bents_)), .fz (.int measure_), .fz (.int round_about_), .un] _
  refine run_if (te_tst (ev_op (ev_call (ar_cons (ev_var rfl) ar_nil) rfl (d_sum _)) ev_c rfl rfl rfl)) (fun c1 => ?_) (fun c1 => ?_)
  · have h := cnd_t h c1
    exact run_ret h ev_c (rq rfl)
  · have h := cnd_f h c1
    refine run_next ?_
    obtain ⟨v2, ev2, h⟩ := bnd h
    obtain ⟨v3, ev3, h⟩ := bnd h
    refine run_if (te_tst (ev_op (ev_op (ev_op (ev_var rfl) (ev_var rfl) rfl rfl (d_div ev2)) ev_c rfl rfl (d_mod ev3)) ev_c rfl rfl rfl)) (fun c4 => ?_) (fun c4 => ?_)
    · have h := cnd_t h c4
      exact run_ret h ev_c (rq rfl)
    · have h := cnd_f h c4
      refine run_next ?_
      refine run_last ?_
      obtain ⟨v8, ev8, h⟩ := bnd h
      obtain ⟨v9, ev9, h⟩ := bnd h
      exact run_ret h (ev_op (ev_var rfl) (ev_lcO (eb := D.int) ev8 (it_L (ev_var rfl) rfl) (by intro x5 y E; obtain ⟨v6, ev6, E⟩ := bnd E; obtain ⟨v7, ev7, E⟩ := bnd E; obtain rfl := Option.some.inj E; exact ⟨_, _, (tg_nm rfl), ev_fr (ev_op (ev_op (ev_var rfl) (ev_var rfl) rfl rfl (d_div ev6)) ev_c rfl rfl (d_mod ev7)) rfl, rfl⟩) rfl) rfl rfl (d_eq ev9 rfl)) (rq rfl)
noncomputable def t__law_even (board_ : Board) (book_ : (List Rule)) : Option Bool :=
  cond (!board_.isFloor)
 ((mapB (fun (x2 : Rule) => x2.n1) book_).bind fun v3 =>
  (mulI board_.n1 (b2i (board_.isRing))).bind fun v4 =>
  (mapB (fun (x5 : Rule) => x5.n2) book_).bind fun v6 =>
  (catL v3 ([v4] : List Int)).bind fun v7 =>
  (t__law_measure v7).bind fun v8 =>
  (t__law_fits v3 v6 v8 v4).bind fun v9 =>
  some v9)
 ((forE (R := Bool) (fun (s10 : Unit) (x11 : (Str × Int)) =>
  (filO (fun (x16 : Rule) => some (decide (x16.tag = x11.1))) (fun (x16 : Rule) => (Rule.at x16 x11.2).bind fun v17 =>
  some v17) book_).bind fun v18 =>
  (filO (fun (x19 : Rule) => some (decide (x19.tag = x11.1))) (fun (x19 : Rule) => (Rule.at x19 (3 : Int)).bind fun v20 =>
  some v20) book_).bind fun v21 =>
  (eqO (.lst (List.map D.int v18)) (.lst (List.map D.int ([] : List Int)))).bind fun v22 =>
  (andO (!v22) ((t__law_measure v18).bind fun v23 =>
  (t__law_fits v18 v21 v23 (0 : Int)).bind fun v24 =>
  some (!v24))).bind fun v25 =>
  cond v25
 (some (Lp.rt false))
 (some (Lp.nx ()))) ([(("over" : Str), (2 : Int)), (("under" : Str), (1 : Int))] : List (Str × Int)) ()).bind fun s27e =>
  lpK s27e (fun s27 => some true) (fun r => some r))
theorem C__law_even {board_ : Board} {book_ : (List Rule)} {r : Bool} (h : t__law_even board_ book_ = some r) : ∃ ρ', F__law_even [.fz (Board.d board_), .fz (.tup (List.map Rule.d book_))] = some ((fun (r : Bool) => .fz (.bl r)) r, ρ') := by
  refine fn_ok (ρ := [.fz (Board.d board_), .fz (.tup (List.map Rule.d book_))]) (zf := (fun (r : Bool) => .fz (.bl r))) (x := r) ?_
  unfold t__law_even at h
  unfold d__law_even
  show Run _ [.fz (Board.d board_), .fz (.tup (List.map Rule.d book_)), .un, .un, .un, .un, .un, .un] _
  refine run_if (te_tst (ev_op (ev_op (ev_var rfl) ev_c rfl rfl (b_ix0 _)) ev_c rfl rfl (b_neF _))) (fun c1 => ?_) (fun c1 => ?_)
  · have h := cnd_t h c1
    refine run_assoc ?_
    obtain ⟨v3, ev3, h⟩ := bnd h
    refine run_asg (ev_lcB (eb := D.int) ev3 (it_V (ev_var rfl) rfl) (fun x2 => ⟨_, _, (tg_nm rfl), ev_fr (ev_op (ev_var rfl) ev_c rfl rfl (r_ix1 _)) rfl, rfl⟩) rfl) rfl rfl ?_
    show Run _ [.fz (Board.d board_), .fz (.tup (List.map Rule.d book_)), .ow (.l (List.map D.int v3)), .un, .un, .un, .un, .un] _
    refine run_assoc ?_
    obtain ⟨v4, ev4, h⟩ := bnd h
    refine run_asg (ev_op (ev_op (ev_var rfl) ev_c rfl rfl (b_ix1 _)) (ev_call (ar_cons (ev_op (ev_op (ev_var rfl) ev_c rfl rfl (b_ix0 _)) ev_c rfl rfl (b_eqG _)) ar_nil) rfl rfl) rfl rfl (d_mul ev4)) rfl rfl ?_
    show Run _ [.fz (Board.d board_), .fz (.tup (List.map Rule.d book_)), .ow (.l (List.map D.int v3)), .fz (.int v4), .un, .un, .un, .un] _
    obtain ⟨v6, ev6, h⟩ := bnd h
    obtain ⟨v7, ev7, h⟩ := bnd h
    obtain ⟨v8, ev8, h⟩ := bnd h
    obtain ⟨v9, ev9, h⟩ := bnd h
    exact run_ret h (ev_fc (ar_fr (ev_own rfl) rfl (ar_fr (ev_lcB (eb := D.int) ev6 (it_V (ev_var rfl) rfl) (fun x5 => ⟨_, _, (tg_nm rfl), ev_fr (ev_op (ev_var rfl) ev_c rfl rfl (r_ix2 _)) rfl, rfl⟩) rfl) rfl (ar_fr (ev_fc (ar_fr (ev_op (ev_var rfl) (ev_as (z := .ow (.l (List.map D.int ([v4] : List Int)))) (ev_lst (ar_fr (ev_var rfl) rfl ar_nil) rfl rfl) rfl) rfl rfl (d_catL ev7)) rfl ar_nil) rfl (C__law_measure ev8) rfl) rfl (ar_fr (ev_var rfl) rfl ar_nil)))) rfl (C__law_fits ev9) rfl) (rq rfl)
  · have h := cnd_f h c1
    refine run_next ?_
    obtain ⟨s27e, es27, h⟩ := bnd h
    refine run_forE es27 (fun (s10 : Unit) ρ => ∃ j12 j13 j14 j15 : Sl, ρ = [.fz (Board.d board_), .fz (.tup (List.map Rule.d book_)), j12, .un, j13, j14, j15, .un] ∧ kNR (some j12) = true ∧ kNR (some j13) = true ∧ kNR (some j14) = true ∧ kNR (some j15) = true) (RetQ (fun (r : Bool) => .fz (.bl r))) (it_V (ev_as (z := .fz (.tup (List.map (eP D.str D.int) ([(("over" : Str), (2 : Int)), (("under" : Str), (1 : Int))] : List (Str × Int))))) (ev_tup (ar_fr (ev_tup (ar_fr ev_c rfl (ar_fr ev_c rfl ar_nil)) rfl rfl) rfl (ar_fr (ev_tup (ar_fr ev_c rfl (ar_fr ev_c rfl ar_nil)) rfl rfl) rfl ar_nil)) rfl rfl) rfl) rfl) ⟨_, _, _, _, rfl, rfl, rfl, rfl, rfl⟩ ?_ ?_ ?_
    · rintro s10 x11 s32 ρ ⟨j12, j13, j14, j15, rfl, nj12, nj13, nj14, nj15⟩ h
      refine ⟨_, (tg_tp rfl (tg_cs (tg_nm nj13) (tg_cs (tg_nm nj14) tg_nl))), ?_⟩
      show Run _ [.fz (Board.d board_), .fz (.tup (List.map Rule.d book_)), j12, .un, .fz (.str x11.1), .fz (.int x11.2), j15, .un] _
      obtain ⟨v18, ev18, h⟩ := bnd h
      refine run_asg (ev_lcF (eb := D.int) ev18 (it_V (ev_var rfl) rfl) (by intro x16 c E; obtain rfl := Option.some.inj E; refine ⟨_, (tg_nm rfl), (te_tst (ev_op (ev_op (ev_var rfl) ev_c rfl rfl (r_ix0 _)) (ev_var rfl) rfl rfl rfl)), fun _ => rfl, fun _ y E2 => ?_⟩; obtain ⟨v17, ev17, E2⟩ := bnd E2; obtain rfl := Option.some.inj E2; exact ⟨_, ev_fr (ev_op (ev_var rfl) (ev_var rfl) rfl rfl (r_ixv ev17)) rfl, rfl⟩) rfl) rfl nj12 ?_
      show Run _ [.fz (Board.d board_), .fz (.tup (List.map Rule.d book_)), .ow (.l (List.map D.int v18)), .un, .fz (.str x11.1), .fz (.int x11.2), j15, .un] _
      obtain ⟨v21, ev21, h⟩ := bnd h
      refine run_asg (ev_lcF (eb := D.int) ev21 (it_V (ev_var rfl) rfl) (by intro x19 c E; obtain rfl := Option.some.inj E; refine ⟨_, (tg_nm rfl), (te_tst (ev_op (ev_op (ev_var rfl) ev_c rfl rfl (r_ix0 _)) (ev_var rfl) rfl rfl rfl)), fun _ => rfl, fun _ y E2 => ?_⟩; obtain ⟨v20, ev20, E2⟩ := bnd E2; obtain rfl := Option.some.inj E2; exact ⟨_, ev_fr (ev_op (ev_var rfl) ev_c rfl rfl (r_ixv ev20)) rfl, rfl⟩) rfl) rfl nj15 ?_
      show Run _ [.fz (Board.d board_), .fz (.tup (List.map Rule.d book_)), .ow (.l (List.map D.int v18)), .un, .fz (.str x11.1), .fz (.int x11.2), .ow (.l (List.map D.int v21)), .un] _
      refine run_last ?_
      obtain ⟨v22, ev22, h⟩ := bnd h
      obtain ⟨v25, ev25, hh⟩ := bnd h
      clear h
      have h := hh
      cases v22 with
      | true =>
        have h25 : v25 = false := (Option.some.inj ev25).symm
        subst h25
        refine run_ifE (te_and0 (te_tst (ev_op (ev_own rfl) (ev_as (z := .ow (.l (List.map D.int ([] : List Int)))) (ev_lst ar_nil rfl rfl) rfl) rfl rfl (d_ne ev22 rfl)))) (fun c26 => nomatch c26) (fun c26 => ?_)
        refine run_next ?_
        exact run_done h (st_nx ⟨.inl rfl, ⟨_, _, _, _, rfl, rfl, rfl, rfl, rfl⟩⟩)
      | false =>
        have o := ev25
        obtain ⟨v23, ev23, o⟩ := bnd o
        obtain ⟨v24, ev24, o⟩ := bnd o
        refine run_ifE (te_and1 (te_tst (ev_op (ev_own rfl) (ev_as (z := .ow (.l (List.map D.int ([] : List Int)))) (ev_lst ar_nil rfl rfl) rfl) rfl rfl (d_ne ev22 rfl))) (te_let o (te_not (te_tst (ev_fc (ar_fr (ev_own rfl) rfl (ar_fr (ev_own rfl) rfl (ar_fr (ev_fc (ar_fr (ev_var rfl) rfl ar_nil) rfl (C__law_measure ev23) rfl) rfl (ar_fr ev_c rfl ar_nil)))) rfl (C__law_fits ev24) rfl))))) (fun c26 => ?_) (fun c26 => ?_)
        · have h := cnd_t h c26
          show Run _ [.fz (Board.d board_), .fz (.tup (List.map Rule.d book_)), .fz (.lst (List.map D.int v18)), .un, .fz (.str x11.1), .fz (.int x11.2), .fz (.lst (List.map D.int v21)), .un] _
          exact run_ret h ev_c (st_rt (rq rfl))
        · have h := cnd_f h c26
          show Run _ [.fz (Board.d board_), .fz (.tup (List.map Rule.d book_)), .fz (.lst (List.map D.int v18)), .un, .fz (.str x11.1), .fz (.int x11.2), .fz (.lst (List.map D.int v21)), .un] _
          refine run_next ?_
          exact run_done h (st_nx ⟨.inl rfl, ⟨_, _, _, _, rfl, rfl, rfl, rfl, rfl⟩⟩)
    · rintro s27 ρ rfl ⟨j28, j29, j30, j31, rfl, nj28, nj29, nj30, nj31⟩
      have h := lpK_nx h
      refine run_last ?_
      exact run_ret h ev_c (rq rfl)
    · rintro r fl ρ rfl ho q
      obtain rfl := Option.some.inj h
      exact q
noncomputable def t_law (script_ : List Int) : Option Bool :=
  (rngO (0 : Int) (mxI (1 : Int) (mnI (6 : Int) (script_.length : Int)))).bind fun v1 =>
  (forE (R := Bool) (fun (s2 : Unit) (x3 : Int) =>
  (t__law_pot script_ x3).bind fun v8 =>
  (t__law_board v8 (36 : Int)).bind fun v9 =>
  (t__law_book v9.2 v9.1).bind fun v10 =>
  (t__law_calm v10.2 v10.1).bind fun v11 =>
  (t_is_even v9.1 v11.1).bind fun v12 =>
  (t__law_even v9.1 v11.1).bind fun v13 =>
  cond (!(v12 == v13))
 (some (Lp.rt false))
 (some (Lp.nx ()))) v1 ()).bind fun s15e =>
  lpK s15e (fun s15 => some true) (fun r => some r)
theorem C_law {script_ : List Int} {r : Bool} (h : t_law script_ = some r) : ∃ ρ', F_law [.fz (.scr script_)] = some ((fun (r : Bool) => .fz (.bl r)) r, ρ') := by
  refine fn_ok (ρ := [.fz (.scr script_)]) (zf := (fun (r : Bool) => .fz (.bl r))) (x := r) ?_
  unfold t_law at h
  unfold d_law
  show Run _ [.fz (.scr script_), .un, .un, .un, .un] _
  obtain ⟨v1, ev1, h⟩ := bnd h
  obtain ⟨s15e, es15, h⟩ := bnd h
  refine run_forE es15 (fun (s2 : Unit) ρ => ∃ j4 j5 j6 j7 : Sl, ρ = [.fz (.scr script_), j4, j5, j6, j7] ∧ kNR (some j4) = true ∧ kNR (some j5) = true ∧ kNR (some j6) = true ∧ kNR (some j7) = true) (RetQ (fun (r : Bool) => .fz (.bl r))) (it_r1 (ar_fr (ev_call (ar_cons ev_c (ar_cons (ev_call (ar_cons ev_c (ar_cons (ev_call (ar_cons (ev_var rfl) ar_nil) rfl rfl) ar_nil)) rfl rfl) ar_nil)) rfl rfl) rfl ar_nil) ev1) ⟨_, _, _, _, rfl, rfl, rfl, rfl, rfl⟩ ?_ ?_ ?_
  · rintro s2 x3 s20 ρ ⟨j4, j5, j6, j7, rfl, nj4, nj5, nj6, nj7⟩ h
    refine ⟨_, (tg_nm nj4), ?_⟩
    show Run _ [.fz (.scr script_), .fz (.int x3), j5, j6, j7] _
    obtain ⟨v8, ev8, h⟩ := bnd h
    refine run_asg (ev_fc (ar_fr (ev_var rfl) rfl (ar_fr (ev_var rfl) rfl ar_nil)) rfl (C__law_pot ev8) rfl) rfl nj5 ?_
    show Run _ [.fz (.scr script_), .fz (.int x3), .ow (.l (List.map D.int v8)), j6, j7] _
    obtain ⟨v9, ev9, h⟩ := bnd h
    refine run_asg (ev_fcO (ar_cons (ev_own rfl) (ar_fr ev_c rfl ar_nil)) rfl rfl (C__law_board ev9) rfl) rfl nj6 ?_
    show Run _ [.fz (.scr script_), .fz (.int x3), .ow (.l (List.map D.int v9.2)), .fz (Board.d v9.1), j7] _
    obtain ⟨v10, ev10, h⟩ := bnd h
    obtain ⟨v11, ev11, h⟩ := bnd h
    refine run_asg (ev_fcO (ar_cons (ev_own rfl) (ar_fr (ev_fcO (ar_cons (ev_own rfl) (ar_fr (ev_var rfl) rfl ar_nil)) rfl rfl (C__law_book ev10) rfl) rfl ar_nil)) rfl rfl (C__law_calm ev11) rfl) rfl nj7 ?_
    show Run _ [.fz (.scr script_), .fz (.int x3), .ow (.l (List.map D.int v11.2)), .fz (Board.d v9.1), .fz (.tup (List.map Rule.d v11.1))] _
    refine run_last ?_
    obtain ⟨v12, ev12, h⟩ := bnd h
    obtain ⟨v13, ev13, h⟩ := bnd h
    refine run_if (te_tst (ev_op (ev_fc (ar_fr (ev_var rfl) rfl (ar_fr (ev_var rfl) rfl ar_nil)) rfl (C_is_even ev12) rfl) (ev_fc (ar_fr (ev_var rfl) rfl (ar_fr (ev_var rfl) rfl ar_nil)) rfl (C__law_even ev13) rfl) rfl rfl (d_neB _ _))) (fun c14 => ?_) (fun c14 => ?_)
    · have h := cnd_t h c14
      exact run_ret h ev_c (st_rt (rq rfl))
    · have h := cnd_f h c14
      refine run_next ?_
      exact run_done h (st_nx ⟨.inl rfl, ⟨_, _, _, _, rfl, rfl, rfl, rfl, rfl⟩⟩)
  · rintro s15 ρ rfl ⟨j16, j17, j18, j19, rfl, nj16, nj17, nj18, nj19⟩
    have h := lpK_nx h
    refine run_last ?_
    exact run_ret h ev_c (rq rfl)
  · rintro r fl ρ rfl ho q
    obtain rfl := Option.some.inj h
    exact q
end G
set_option Elab.async false
set_option linter.all false
set_option maxRecDepth 100000
set_option maxHeartbeats 1000000
set_option exponentiation.threshold 10000
namespace G
open PySem PySem.Spec L2 DL
/-! ### the pot: n dips were done at most -/
def PotOk (n : Nat) (xs : List Int) : Prop := ∃ a b c : Int, xs = [a, b, c] ∧ 0 ≤ b ∧ b < 2 ^ 200 ∧ 0 ≤ c ∧ c ≤ n
theorem PotOk.more {n m : Nat} {xs : List Int} (h : PotOk n xs) (l : n ≤ m) : PotOk m xs := by
  obtain ⟨a, b, c, e, h1, h2, h3, h4⟩ := h
  exact ⟨a, b, c, e, h1, h2, h3, by omega⟩
theorem dip_ok {n : Nat} {pot : List Int} {m : Int} (h : PotOk n pot) (hm : 0 < m) (hb : m < 2 ^ 8000) (hn : n ≤ 2 ^ 64) :
    ∃ r pot', t__law_dip pot m = some (r, pot') ∧ 0 ≤ r ∧ r < m ∧ PotOk (n + 1) pot' := by
  obtain ⟨a, b, c, rfl, hb0, hb1, hc0, hc1⟩ := h
  have s0 : ∀ v : Int, setL [a, b, c] 0 v = some [v, b, c] := fun v => rfl
  have s2 : ∀ v : Int, setL [a, b, c] 2 v = some [a, b, v] := fun v => rfl
  by_cases ha : 0 < a
  · refine ⟨a % m, [a / m, b, c], ?_, Int.emod_nonneg _ (by omega), Int.emod_lt_of_pos _ hm, _, _, _, rfl, hb0, hb1, hc0, by omega⟩
    unfold t__law_dip
    simp only [ixI_0, bs, ha, decide_true, ct, modI_ok hm, divI_ok hm (log_s hm hb), s0]
  · have e1 : mulI 9999991 (c + 1) = some (9999991 * (c + 1)) := mulI_ok (a := 64) (b := 70) (by decide) (by omega) (by decide) (by decide) (by decide)
    have e2 : powI (b + 9999991 * (c + 1)) 3 = some ((b + 9999991 * (c + 1)) ^ 3) := powI_ok (n := 210) (by omega) (by omega) (by decide) (by omega)
    have p36 : powI 10 36 = some (10 ^ 36) := pow10_ok 36 (by decide)
    have p33 : powI 10 33 = some (10 ^ 33) := pow10_ok 33 (by decide)
    have m1 : modI ((b + 9999991 * (c + 1)) ^ 3) (10 ^ 36 + 67) = some ((b + 9999991 * (c + 1)) ^ 3 % (10 ^ 36 + 67)) := modI_ok (by decide)
    generalize hx : (b + 9999991 * (c + 1)) ^ 3 % (10 ^ 36 + 67) = x at m1
    have hx0 : 0 ≤ x := by rw [← hx]; exact Int.emod_nonneg _ (by decide)
    have hx1 : x < 10 ^ 36 + 67 := by rw [← hx]; exact Int.emod_lt_of_pos _ (by decide)
    have e3 : mulI 7919 (c + 1) = some (7919 * (c + 1)) := mulI_ok (a := 64) (b := 70) (by decide) (by omega) (by decide) (by decide) (by decide)
    have e4 : powI (x + 7919 * (c + 1)) 3 = some ((x + 7919 * (c + 1)) ^ 3) := powI_ok (n := 210) (by omega) (by omega) (by decide) (by omega)
    have m2 : modI ((x + 7919 * (c + 1)) ^ 3) (10 ^ 33 + 61) = some ((x + 7919 * (c + 1)) ^ 3 % (10 ^ 33 + 61)) := modI_ok (by decide)
    have q1 : ∀ i, divI i 4096 = some (i / 4096) := fun i => divI_ok (by decide) (by decide)
    refine ⟨(x + 7919 * (c + 1)) ^ 3 % (10 ^ 33 + 61) / 4096 % m, [a, b, c + 1], ?_, Int.emod_nonneg _ (by omega), Int.emod_lt_of_pos _ hm, _, _, _, rfl, hb0, hb1, by omega, by omega⟩
    unfold t__law_dip
    simp only [ixI_0, ixI_1, ixI_2, bs, ha, decide_false, cf, s2, e1, e2, p36, p33, m1, e3, e4, m2, q1, modI_ok hm]
theorem pot_ok (ns : List Int) (at_ : Int) (h0 : 0 ≤ at_) (h : at_ ≤ 100) : ∃ pot, t__law_pot ns at_ = some pot ∧ PotOk 0 pot := by
  have p18 : powI 10 18 = some (10 ^ 18) := pow10_ok 18 (by decide)
  have p37 : powI 10 37 = some (10 ^ 37) := pow10_ok 37 (by decide)
  have m1 : ∀ i, modI i (10 ^ 37 + 43) = some (i % (10 ^ 37 + 43)) := fun i => modI_ok (by decide)
  have e1 : mulI 104729 at_ = some (104729 * at_) := mulI_s (by decide) (by omega)
  have key : ∀ cell : Int, PotOk 0 [mxI 0 (cell - 10 ^ 18), cell % (10 ^ 37 + 43) + 104729 * at_, 0] := fun cell => by
    have h1 : 0 ≤ cell % (10 ^ 37 + 43) := Int.emod_nonneg _ (by decide)
    have h2 : cell % (10 ^ 37 + 43) < 10 ^ 37 + 43 := Int.emod_lt_of_pos _ (by decide)
    exact ⟨_, _, _, rfl, by omega, by omega, by omega, by omega⟩
  unfold t__law_pot
  by_cases hc : at_ < (ns.length : Int)
  · obtain ⟨v, hv, _⟩ := ixI_lt h0 hc
    refine ⟨_, ?_, key v⟩
    simp only [hc, decide_true, ct, hv, bs, p18, p37, m1, e1]
  · refine ⟨_, ?_, key 0⟩
    simp only [hc, decide_false, cf, bs, p18, p37, m1, e1]
/-- the cells that a law looks at -/
theorem cells_range (ns : List Int) (hn : ns.length ≤ 63) (k : Int) (hk : k ≤ 10) : rngO 0 (mxI 1 (mnI k (ns.length : Nat))) = some (rangeI 0 (mxI 1 (mnI k (ns.length : Nat)))) ∧ ∀ x ∈ rangeI 0 (mxI 1 (mnI k (ns.length : Nat))), 0 ≤ x ∧ x ≤ 100 := by
  have hb : 1 ≤ mxI 1 (mnI k (ns.length : Nat)) ∧ mxI 1 (mnI k (ns.length : Nat)) ≤ 63 := by
    unfold mxI mnI
    constructor
    · split <;> omega
    · split
      · split <;> omega
      · omega
  refine ⟨rngO_ok (by decide) (by omega), fun x hx => ?_⟩
  have := mem_rangeI.mp hx
  omega
end G
set_option Elab.async false
set_option linter.all false
set_option maxRecDepth 100000
set_option maxHeartbeats 1000000
namespace G
open PySem PySem.Spec L2 DL
theorem board_ok {n : Nat} {pot : List Int} {m : Int} (h : PotOk n pot) (hm0 : 10 ≤ m) (hm : m ≤ 36) (hn : n ≤ 2 ^ 60) :
    ∃ b pot', t__law_board pot m = some (b, pot') ∧ b.ok m ∧ PotOk (n + 4) pot' := by
  obtain ⟨r1, p1, e1, a1, b1, k1⟩ := dip_ok (m := 4) h (by decide) (by decide) (by omega)
  unfold t__law_board
  simp only [e1, bs]
  by_cases c1 : r1 < 2
  · obtain ⟨r2, p2, e2, a2, b2, k2⟩ := dip_ok (m := m - 2) k1 (by omega) (by omega) (by omega)
    simp only [c1, decide_true, ct, e2, bs]
    exact ⟨_, _, rfl, ⟨by omega, by omega⟩, k2.more (by omega)⟩
  · simp only [c1, decide_false, cf]
    by_cases c2 : r1 = 2
    · obtain ⟨r2, p2, e2, a2, b2, k2⟩ := dip_ok (m := m - 4) k1 (by omega) (by omega) (by omega)
      simp only [c2, decide_true, ct, e2, bs]
      exact ⟨_, _, rfl, ⟨by omega, by omega⟩, k2.more (by omega)⟩
    · obtain ⟨r2, p2, e2, a2, b2, k2⟩ := dip_ok (m := 6) k1 (by omega) (by omega) (by omega)
      have q3 : mulI 3 (1 + r2) = some (3 * (1 + r2)) := mulI_s (by decide) (by omega)
      simp only [c2, decide_false, cf, e2, bs, q3]
      have fin : ∀ t : Int, 1 ≤ t → 3 * t ≤ m → ∃ b pot', ((divI m t).bind fun v14 => (t__law_dip p2 (v14 - 2)).bind fun v15 => (t__law_dip v15.2 2).bind fun v16 => (ixI [Board.floor t (3 + v15.1), Board.floor (3 + v15.1) t] v16.1).bind fun v17 => some (v17, v16.2)) = some (b, pot') ∧ b.ok m ∧ PotOk (n + 4) pot' := fun t h1 h2 => by
        have d1 : divI m t = some (m / t) := divI_s (by omega) (by omega)
        have l1 : 3 ≤ m / t := (Int.le_ediv_iff_mul_le (by omega)).mpr (by omega)
        have l2 : m / t ≤ m := Int.ediv_le_self _ (by omega)
        obtain ⟨r3, p3, e3, a3, b3, k3⟩ := dip_ok (m := m / t - 2) k2 (by omega) (by omega) (by omega)
        obtain ⟨r4, p4, e4, a4, b4, k4⟩ := dip_ok (m := 2) k3 (by omega) (by omega) (by omega)
        have l3 : t * (3 + r3) ≤ m := Int.le_trans (Int.mul_le_mul_of_nonneg_left (show 3 + r3 ≤ m / t by omega) (by omega)) (by rw [Int.mul_comm]; exact Int.ediv_mul_le m (by omega))
        have l4 : 3 + r3 ≤ m := by omega
        simp only [d1, bs, e3, e4]
        have ok1 : (Board.floor t (3 + r3)).ok m := ⟨by omega, by omega, by omega, l4, l3, .inr (by omega)⟩
        have ok2 : (Board.floor (3 + r3) t).ok m := ⟨by omega, by omega, l4, by omega, by rw [Int.mul_comm]; exact l3, .inl (by omega)⟩
        by_cases z : r4 = 0
        · subst z
          exact ⟨_, _, by rw [ixI_0]; rfl, ok1, k4.more (by omega)⟩
        · have z1 : r4 = 1 := by omega
          subst z1
          exact ⟨_, _, by rw [ixI_1]; rfl, ok2, k4.more (by omega)⟩
      by_cases c3 : m < 3 * (1 + r2)
      · have d3 : divI m 3 = some (m / 3) := divI_s (by decide) (by decide)
        simp only [c3, decide_true, ct, d3, bs]
        exact fin (m / 3) (by omega) (by omega)
      · simp only [c3, decide_false, cf]
        exact fin (1 + r2) (by omega) (by omega)
/-! cells -/
theorem mul_cells {h w : Int} (hb : (Board.floor h w).ok 36) : mulI h w = some (h * w) := by
  obtain ⟨h1, h2, h3, h4, _⟩ := hb
  exact mulI_s (by omega) (by omega)
theorem cells_many_ok {b : Board} (hb : b.ok 36) : t_cells_many b = some b.cells := by
  unfold t_cells_many
  cases b with
  | row n => rfl
  | ring n => rfl
  | floor h w =>
    have := mul_cells hb
    simp only [Board.isFloor, ct, Board.n2, Board.n1, bs, this, Board.cells]
theorem grid_flat {W R C o : Int} (hW : W.natAbs ≤ 1000) (hR : R ≤ 1000) (hC : C ≤ 1000) (hR0 : -1000 ≤ R) (hC0 : -1000 ≤ C) :
    (rngO 0 R).bind (fun v10 => flatO (fun x11 => (rngO 0 C).bind fun v12 => mapR (fun x13 => (mulI x11 W).bind fun v14 => some (o + v14 + x13)) v12) v10) = some (grid o W R C) := by
  rw [rngO_ok (by decide) (by omega), bs]
  refine flatO_ok (fun i => (rangeI 0 C).map fun j => o + i * W + j) (fun i hi => ?_) ?_
  · have hi := mem_rangeI.mp hi
    have m : mulI i W = some (i * W) := mulI_s (by omega) (by omega)
    rw [rngO_ok (by decide) (by omega), bs]
    refine mapR_ok _ fun j hj => ?_
    rw [m]
    rfl
  · refine Nat.le_trans (grid_len o W R C) ?_
    have : R.toNat * C.toNat ≤ 1000 * 1000 := Nat.mul_le_mul (by omega) (by omega)
    omega
theorem bind_some' {α : Type} (o : Option α) : (o.bind fun v => some v) = o := by cases o <;> rfl
theorem first_cells_ok {b : Board} {r : Rule} (hb : b.ok 36) (h : r.fits b) : t_first_cells b r = some (cellsAt b r) := by
  unfold t_first_cells
  rw [cells_many_ok hb, bs]
  cases b <;> cases r <;> first | exact h.elim | skip
  · rename_i n k c
    obtain ⟨h1, h2⟩ := hb
    obtain ⟨k1, k2, _⟩ := h
    have m : mulI 2 k = some (2 * k) := mulI_s (by decide) (by omega)
    simp only [Board.isRow, ct, Rule.n1, m, bs, Board.cells]
    rw [rngL_ok (by decide) (by omega)]
    rfl
  · rename_i n k c
    obtain ⟨h1, h2⟩ := hb
    simp only [Board.isRow, Board.isRing, ct, cf, Board.cells]
    rw [rngL_ok (by decide) (by omega)]
    rfl
  · rename_i H W h' w c
    obtain ⟨h1, h2, h3, h4, _⟩ := hb
    obtain ⟨k1, k2, k3, k4, _⟩ := h
    have m1 : mulI h' (1 + b2i false) = some h' := by rw [mulI_s (by omega) (by decide)]; show some (h' * 1) = _; rw [Int.mul_one]
    have m2 : mulI w (1 + b2i true) = some (2 * w) := by rw [mulI_s (by omega) (by decide)]; show some (w * 2) = _; rw [Int.mul_comm]
    simp only [Board.isRow, Board.isRing, cf, Board.hw, bs, Rule.n1, Rule.n2, Rule.isUnder, Rule.isOver, m1, m2]
    have g := grid_flat (o := 0) (W := W) (R := H - h' + 1) (C := W - 2 * w + 1) (by omega) (by omega) (by omega) (by omega) (by omega)
    simp only [Int.zero_add] at g
    simp only [bind_some']
    exact g
  · rename_i H W h' w c
    obtain ⟨h1, h2, h3, h4, _⟩ := hb
    obtain ⟨k1, k2, k3, k4, _⟩ := h
    have m1 : mulI h' (1 + b2i true) = some (2 * h') := by rw [mulI_s (by omega) (by decide)]; show some (h' * 2) = _; rw [Int.mul_comm]
    have m2 : mulI w (1 + b2i false) = some w := by rw [mulI_s (by omega) (by decide)]; show some (w * 1) = _; rw [Int.mul_one]
    simp only [Board.isRow, Board.isRing, cf, Board.hw, bs, Rule.n1, Rule.n2, Rule.isUnder, Rule.isOver, m1, m2]
    have g := grid_flat (o := 0) (W := W) (R := H - 2 * h' + 1) (C := W - w + 1) (by omega) (by omega) (by omega) (by omega) (by omega)
    simp only [Int.zero_add] at g
    simp only [bind_some']
    exact g
theorem pairs_at_ok {b : Board} {r : Rule} (hb : b.ok 36) (h : r.fits b) {c : Int} : t_pairs_at b r c = some (pairsAt b r c) := by
  have hp := Board.cells_pos hb
  unfold t_pairs_at
  rw [cells_many_ok hb, bs]
  cases b <;> cases r <;> first | exact h.elim | skip
  · rename_i n k cc
    obtain ⟨h1, h2⟩ := hb
    obtain ⟨k1, k2, _⟩ := h
    simp only [Rule.isSwap, ct, Rule.n1, Board.cells, bind_some']
    rw [rngO_ok (by decide) (by omega), bs]
    exact mapO_ok (fun j => ((c + j) % n, (c + j + k) % n)) (fun j _ => by rw [modI_ok (by omega), modI_ok (by omega)]; rfl) (by rw [rangeI_len]; omega)
  · rename_i n k cc
    obtain ⟨h1, h2⟩ := hb
    obtain ⟨k1, k2, _⟩ := h
    simp only [Rule.isSwap, ct, Rule.n1, Board.cells, bind_some']
    rw [rngO_ok (by decide) (by omega), bs]
    exact mapO_ok (fun j => ((c + j) % n, (c + j + k) % n)) (fun j _ => by rw [modI_ok (by omega), modI_ok (by omega)]; rfl) (by rw [rangeI_len]; omega)
  · rename_i H W h' w cc
    obtain ⟨h1, h2, h3, h4, _⟩ := hb
    obtain ⟨k1, k2, k3, k4, _⟩ := h
    have g := grid_flat (o := c) (W := W) (R := h') (C := w) (by omega) (by omega) (by omega) (by omega) (by omega)
    simp only [Rule.isSwap, cf, Board.n2, bs, Rule.isUnder, Rule.n1, Rule.n2, bind_some', ← Option.bind_assoc, g]
    rw [mapB_ok]
    · rfl
    · exact Nat.le_trans (grid_len _ _ _ _) (Nat.le_trans (Nat.mul_le_mul (show _ ≤ 37 by omega) (show _ ≤ 37 by omega)) (by decide))
  · rename_i H W h' w cc
    obtain ⟨h1, h2, h3, h4, _⟩ := hb
    obtain ⟨k1, k2, k3, k4, _⟩ := h
    have g := grid_flat (o := c) (W := W) (R := h') (C := w) (by omega) (by omega) (by omega) (by omega) (by omega)
    have m : mulI h' W = some (h' * W) := mulI_s (by omega) (by omega)
    simp only [Rule.isSwap, cf, ct, Board.n2, bs, Rule.isUnder, Rule.n1, Rule.n2, bind_some', m, ← Option.bind_assoc, g]
    rw [mapB_ok]
    · rfl
    · exact Nat.le_trans (grid_len _ _ _ _) (Nat.le_trans (Nat.mul_le_mul (show _ ≤ 37 by omega) (show _ ≤ 37 by omega)) (by decide))
end G
set_option Elab.async false
set_option linter.all false
set_option maxRecDepth 100000
set_option maxHeartbeats 1000000
namespace DL
open PySem PySem.Spec L2
def rulesHW (H W h w : Int) : List Rule := (if 3 * w ≤ W ∧ 2 * h - 1 ≤ H then [Rule.over h w 0, Rule.over h w 1] else []) ++ (if 3 * h ≤ H ∧ 2 * w - 1 ≤ W then [Rule.under h w 0, Rule.under h w 1] else [])
def rulesOf : Board → List Rule
  | .row n => (rangeI 1 (n / 3 + 1)).flatMap fun k => [Rule.swap k 0, Rule.swap k 1]
  | .ring n => (rangeI 1 (n / 5 + 1)).flatMap fun k => [Rule.swap k 0, Rule.swap k 1]
  | .floor H W => (rangeI 1 (H + 1)).flatMap fun h => (rangeI 1 (W + 1)).flatMap fun w => rulesHW H W h w
theorem rulesHW_len (H W h w : Int) : (rulesHW H W h w).length ≤ 4 := by
  unfold rulesHW
  rw [List.length_append]
  split <;> split <;> simp
theorem mem_rulesHW {H W h w : Int} {r : Rule} : r ∈ rulesHW H W h w ↔ (3 * w ≤ W ∧ 2 * h - 1 ≤ H ∧ (r = .over h w 0 ∨ r = .over h w 1)) ∨ (3 * h ≤ H ∧ 2 * w - 1 ≤ W ∧ (r = .under h w 0 ∨ r = .under h w 1)) := by
  unfold rulesHW
  rw [List.mem_append]
  constructor
  · rintro (h | h)
    · split at h
      · rename_i c
        exact .inl ⟨c.1, c.2, by simpa using h⟩
      · cases h
    · split at h
      · rename_i c
        exact .inr ⟨c.1, c.2, by simpa using h⟩
      · cases h
  · rintro (⟨a, b, c⟩ | ⟨a, b, c⟩)
    · left
      rw [if_pos ⟨a, b⟩]
      simpa using c
    · right
      rw [if_pos ⟨a, b⟩]
      simpa using c
theorem rulesOf_fit {b : Board} {r : Rule} (h : r ∈ rulesOf b) : r.fits b := by
  cases b with
  | row n =>
    obtain ⟨k, hk, hr⟩ := List.mem_flatMap.mp h
    have := mem_rangeI.mp hk
    rcases (by simpa using hr : r = .swap k 0 ∨ r = .swap k 1) with rfl | rfl
    · exact ⟨by omega, by omega, by decide, by decide⟩
    · exact ⟨by omega, by omega, by decide, by decide⟩
  | ring n =>
    obtain ⟨k, hk, hr⟩ := List.mem_flatMap.mp h
    have := mem_rangeI.mp hk
    rcases (by simpa using hr : r = .swap k 0 ∨ r = .swap k 1) with rfl | rfl
    · exact ⟨by omega, by omega, by decide, by decide⟩
    · exact ⟨by omega, by omega, by decide, by decide⟩
  | floor H W =>
    obtain ⟨a, ha, h⟩ := List.mem_flatMap.mp h
    obtain ⟨w, hw, h⟩ := List.mem_flatMap.mp h
    have := mem_rangeI.mp ha
    have := mem_rangeI.mp hw
    rcases mem_rulesHW.mp h with ⟨c1, c2, rfl | rfl⟩ | ⟨c1, c2, rfl | rfl⟩ <;> exact ⟨by omega, by omega, by omega, by omega, by decide, by decide⟩
theorem nodup_flatMap' {α β : Type} {f : α → List β} : ∀ {l : List α}, l.Nodup → (∀ x ∈ l, (f x).Nodup) → (∀ x ∈ l, ∀ y ∈ l, ∀ z, z ∈ f x → z ∈ f y → x = y) → (l.flatMap f).Nodup
  | [], _, _, _ => List.nodup_nil
  | x :: l, d, h1, h2 => by
    rw [List.flatMap_cons, List.nodup_append]
    rw [List.nodup_cons] at d
    refine ⟨h1 x (by simp), nodup_flatMap' d.2 (fun y hy => h1 y (by simp [hy])) fun y hy z hz => h2 y (by simp [hy]) z (by simp [hz]), fun a ha b hb e => ?_⟩
    subst e
    obtain ⟨y, hy, hb⟩ := List.mem_flatMap.mp hb
    have := h2 x (by simp) y (by simp [hy]) a ha hb
    subst this
    exact d.1 hy
theorem rulesOf_nodup (b : Board) : (rulesOf b).Nodup := by
  have sw : ∀ m : Int, ((rangeI 1 m).flatMap fun k => [Rule.swap k 0, Rule.swap k 1]).Nodup := fun m => by
    refine nodup_flatMap' (rangeI_nodup _ _) (fun x _ => by simp) fun x _ y _ z hz hz' => ?_
    rcases (by simpa using hz : z = .swap x 0 ∨ z = .swap x 1) with rfl | rfl
    · simpa using hz'
    · simpa using hz'
  cases b with
  | row n => exact sw _
  | ring n => exact sw _
  | floor H W =>
    refine nodup_flatMap' (rangeI_nodup _ _) (fun h _ => nodup_flatMap' (rangeI_nodup _ _) (fun w _ => ?_) fun w _ w' _ z hz hz' => ?_) fun h _ h' _ z hz hz' => ?_
    · unfold rulesHW
      split <;> split <;> simp
    · rcases mem_rulesHW.mp hz with ⟨_, _, rfl | rfl⟩ | ⟨_, _, rfl | rfl⟩ <;> rcases mem_rulesHW.mp hz' with ⟨_, _, e | e⟩ | ⟨_, _, e | e⟩ <;> cases e <;> rfl
    · obtain ⟨w, _, hz⟩ := List.mem_flatMap.mp hz
      obtain ⟨w', _, hz'⟩ := List.mem_flatMap.mp hz'
      rcases mem_rulesHW.mp hz with ⟨_, _, rfl | rfl⟩ | ⟨_, _, rfl | rfl⟩ <;> rcases mem_rulesHW.mp hz' with ⟨_, _, e | e⟩ | ⟨_, _, e | e⟩ <;> cases e <;> rfl
theorem rulesOf_len {b : Board} (hb : b.ok 36) : (rulesOf b).length ≤ 6000 ∧ 0 < (rulesOf b).length := by
  have sw : ∀ m : Int, m ≤ 37 → ((rangeI 1 m).flatMap fun k => [Rule.swap k 0, Rule.swap k 1]).length ≤ 6000 := fun m hm => by
    have := flatMap_len (fun k => [Rule.swap k 0, Rule.swap k 1]) 2 (rangeI 1 m) fun x _ => by simp
    rw [rangeI_len] at this
    omega
  cases b with
  | row n =>
    obtain ⟨h1, h2⟩ := hb
    refine ⟨sw _ (by omega), ?_⟩
    show 0 < ((rangeI 1 (n / 3 + 1)).flatMap _).length
    rw [rangeI_cons (by omega), List.flatMap_cons]
    simp
  | ring n =>
    obtain ⟨h1, h2⟩ := hb
    refine ⟨sw _ (by omega), ?_⟩
    show 0 < ((rangeI 1 (n / 5 + 1)).flatMap _).length
    rw [rangeI_cons (by omega), List.flatMap_cons]
    simp
  | floor H W =>
    obtain ⟨h1, h2, h3, h4, h5, h6⟩ := hb
    refine ⟨?_, ?_⟩
    · have := flatMap_len (fun h => (rangeI 1 (W + 1)).flatMap fun w => rulesHW H W h w) (36 * 4) (rangeI 1 (H + 1)) fun x _ => by
        have := flatMap_len (fun w => rulesHW H W x w) 4 (rangeI 1 (W + 1)) fun y _ => rulesHW_len _ _ _ _
        rw [rangeI_len] at this
        have : (W + 1 - 1).toNat * 4 ≤ 36 * 4 := Nat.mul_le_mul_right _ (by omega)
        omega
      rw [rangeI_len] at this
      have : (H + 1 - 1).toNat * (36 * 4) ≤ 36 * (36 * 4) := Nat.mul_le_mul_right _ (by omega)
      show ((rangeI 1 (H + 1)).flatMap _).length ≤ _
      omega
    · have : ∃ r, r ∈ rulesOf (.floor H W) := by
        rcases h6 with h6 | h6
        · exact ⟨.under 1 1 0, List.mem_flatMap.mpr ⟨1, mem_rangeI.mpr ⟨by decide, by omega⟩, List.mem_flatMap.mpr ⟨1, mem_rangeI.mpr ⟨by decide, by omega⟩, mem_rulesHW.mpr (.inr ⟨by omega, by omega, .inl rfl⟩)⟩⟩⟩
        · exact ⟨.over 1 1 0, List.mem_flatMap.mpr ⟨1, mem_rangeI.mpr ⟨by decide, by omega⟩, List.mem_flatMap.mpr ⟨1, mem_rangeI.mpr ⟨by decide, by omega⟩, mem_rulesHW.mpr (.inl ⟨by omega, by omega, .inl rfl⟩)⟩⟩⟩
      obtain ⟨r, hr⟩ := this
      exact List.length_pos_of_mem hr
end DL
namespace G
open PySem PySem.Spec L2 DL
theorem law_rules_ok {b : Board} (hb : b.ok 36) : t__law_rules b = some (rulesOf b) := by
  have hl := (rulesOf_len hb).1
  have sw : ∀ m : Int, m ≤ 37 → 0 ≤ m → ((rngO 1 m).bind fun v4 => (forN (fun (s5 : (List Rule)) (x6 : Int) => (catL s5 ([(Rule.swap x6 (0 : Int)), (Rule.swap x6 (1 : Int))] : List Rule)).bind fun v8 => some v8) v4 ([] : List Rule)).bind fun s9 => some s9) = some ((rangeI 1 m).flatMap fun k => [Rule.swap k 0, Rule.swap k 1]) := fun m h1 h2 => by
    rw [rngO_ok (by decide) (by omega), bs, bind_some']
    refine forN_addB (fun k => [Rule.swap k 0, Rule.swap k 1]) 1000000 (fun s x _ hs => ?_) ?_
    · rw [bind_some']
      exact catL_ok hs
    · have := flatMap_len (fun k => [Rule.swap k 0, Rule.swap k 1]) 2 (rangeI 1 m) fun x _ => by simp
      rw [rangeI_len] at this
      show 0 + _ ≤ _
      omega
  unfold t__law_rules
  cases b with
  | row n =>
    obtain ⟨h1, h2⟩ := hb
    have d : divI n 3 = some (n / 3) := divI_s (by decide) (by decide)
    simp only [Board.isFloor, Bool.not_false, ct, Board.isRing, show b2i false = 0 from rfl, ixI_0, bs, Board.n1, d]
    exact sw _ (by omega) (by omega)
  | ring n =>
    obtain ⟨h1, h2⟩ := hb
    have d : divI n 5 = some (n / 5) := divI_s (by decide) (by decide)
    simp only [Board.isFloor, Bool.not_false, ct, Board.isRing, show b2i true = 1 from rfl, ixI_1, bs, Board.n1, d]
    exact sw _ (by omega) (by omega)
  | floor H W =>
    obtain ⟨h1, h2, h3, h4, h5, h6⟩ := hb
    simp only [Board.isFloor, Bool.not_true, cf, Board.shw, bs]
    rw [rngO_ok (by decide) (by omega), bs, bind_some']
    refine forN_addB (fun h => (rangeI 1 (W + 1)).flatMap fun w => rulesHW H W h w) 1000000 (fun s h hh hs => ?_) (by show 0 + (rulesOf (.floor H W)).length ≤ _; omega)
    have hh := mem_rangeI.mp hh
    rw [rngO_ok (by decide) (by omega), bs, bind_some']
    refine forN_addB (fun w => rulesHW H W h w) 1000000 (fun s w hw hs => ?_) hs
    have hw := mem_rangeI.mp hw
    have m1 : mulI 3 w = some (3 * w) := mulI_s (by decide) (by omega)
    have m2 : mulI 2 h = some (2 * h) := mulI_s (by decide) (by omega)
    have m3 : mulI 3 h = some (3 * h) := mulI_s (by decide) (by omega)
    have m4 : mulI 2 w = some (2 * w) := mulI_s (by decide) (by omega)
    have a1 : andO (decide (3 * w ≤ W)) (some (decide (2 * h - 1 ≤ H))) = some (decide (3 * w ≤ W ∧ 2 * h - 1 ≤ H)) := by
      unfold andO
      by_cases c : 3 * w ≤ W
      · simp [c]
      · simp [c]
    have a2 : andO (decide (3 * h ≤ H)) (some (decide (2 * w - 1 ≤ W))) = some (decide (3 * h ≤ H ∧ 2 * w - 1 ≤ W)) := by
      unfold andO
      by_cases c : 3 * h ≤ H
      · simp [c]
      · simp [c]
    have hb' : s.length + 4 ≤ 1000000 + 4 := by omega
    simp only [m1, m2, m3, m4, bs, a1, a2]
    unfold rulesHW at hs ⊢
    by_cases c1 : 3 * w ≤ W ∧ 2 * h - 1 ≤ H
    · rw [if_pos c1] at hs ⊢
      rw [decide_eq_true c1, ct]
      by_cases c2 : 3 * h ≤ H ∧ 2 * w - 1 ≤ W
      · rw [if_pos c2] at hs ⊢
        rw [List.length_append] at hs
        simp only [List.length_cons, List.length_nil] at hs
        rw [catL_ok (by simp only [List.length_cons, List.length_nil]; omega), bs, decide_eq_true c2, ct, catL_ok (by rw [List.length_append]; simp only [List.length_cons, List.length_nil]; omega), bs, List.append_assoc]
      · rw [if_neg c2] at hs ⊢
        rw [List.append_nil] at hs ⊢
        rw [catL_ok hs, bs, decide_eq_false c2, cf]
    · rw [if_neg c1] at hs ⊢
      rw [decide_eq_false c1, cf]
      by_cases c2 : 3 * h ≤ H ∧ 2 * w - 1 ≤ W
      · rw [if_pos c2] at hs ⊢
        rw [List.nil_append] at hs ⊢
        rw [decide_eq_true c2, ct, catL_ok hs, bs]
      · rw [if_neg c2] at hs ⊢
        rw [decide_eq_false c2, cf]
        simp
theorem book_ok {n : Nat} {pot : List Int} {b : Board} (h : PotOk n pot) (hb : b.ok 36) (hn : n ≤ 2 ^ 50) :
    ∃ bk pot', t__law_book pot b = some (bk, pot') ∧ BkOk b bk ∧ PotOk (n + 5) pot' := by
  obtain ⟨r1, p1, e1, a1, b1, k1⟩ := dip_ok (m := 4) h (by decide) (by decide) (by omega)
  obtain ⟨l1, l2⟩ := rulesOf_len hb
  unfold t__law_book
  simp only [law_rules_ok hb, e1, bs]
  have hk : 1 ≤ mnI ((rulesOf b).length : Nat) (1 + r1) ∧ mnI ((rulesOf b).length : Nat) (1 + r1) ≤ 4 ∧ mnI ((rulesOf b).length : Nat) (1 + r1) ≤ ((rulesOf b).length : Nat) := by
    unfold mnI
    split <;> omega
  generalize mnI ((rulesOf b).length : Nat) (1 + r1) = k at hk
  rw [rngO_ok (by decide) (by omega), bs]
  obtain ⟨s', e2, e3⟩ := forN_inv (b := fun (s4 : List Int × List Rule × List Rule) (x5 : Int) => (t__law_dip s4.1 (s4.2.1.length : Int)).bind fun v7 => (popAtL s4.2.1 v7.1).bind fun v8 => (appL s4.2.2 v8.1).bind fun v9 => some (v7.2, v8.2, v9))
    (fun i s => PotOk (n + 1 + i) s.1 ∧ s.2.2.length = i ∧ (s.2.2 ++ s.2.1).Perm (rulesOf b)) (xs := rangeI 0 k) (n := 0) (s := (p1, rulesOf b, [])) (fun i x s hx ⟨q1, q2, q3⟩ => by
      obtain ⟨pot, left, found⟩ := s
      rw [Nat.zero_add] at q1 q2
      have hi := (rangeI_get hx).2
      have hpl := q3.length_eq
      rw [List.length_append] at hpl
      simp only at q1 q2 q3 hpl
      obtain ⟨r, p, e, a, c, k⟩ := dip_ok (m := (left.length : Int)) q1 (by omega) (by omega) (by omega)
      obtain ⟨v, e4, e5⟩ := popAtL_of (xs := left) a c (by omega)
      refine ⟨(p, left.eraseIdx r.toNat, found ++ [v]), ?_, by rw [Nat.zero_add]; exact k, ?_, ?_⟩
      · simp only [e, e4, bs, appL_ok (show found.length ≤ 1000000 by omega)]
      · rw [Nat.zero_add, List.length_append, q2]
        rfl
      · have pp := perm_pick e5
        rw [List.append_assoc]
        exact (List.Perm.append_left found pp).trans q3) ⟨k1, rfl, List.Perm.refl _⟩
  obtain ⟨pot, left, found⟩ := s'
  rw [rangeI_len, Nat.zero_add] at e3
  obtain ⟨q1, q2, q3⟩ := e3
  simp only at q1 q2 q3
  rw [e2, bs]
  have nd : (found ++ left).Nodup := q3.nodup_iff.mpr (rulesOf_nodup b)
  rw [List.nodup_append] at nd
  exact ⟨found, pot, rfl, ⟨by omega, by omega, nd.1, fun r hr => rulesOf_fit (q3.mem_iff.mp (List.mem_append_left _ hr))⟩, q1.more (by omega)⟩
end G
set_option Elab.async false
set_option linter.all false
set_option maxRecDepth 100000
set_option maxHeartbeats 1000000
namespace DL
open PySem PySem.Spec L2
theorem rangeI_app {a b c : Int} (h1 : a ≤ b) (h2 : b ≤ c) : rangeI a c = rangeI a b ++ rangeI b c := by
  obtain ⟨n, hn⟩ : ∃ n : Nat, c = b + (n : Nat) := ⟨(c - b).toNat, by omega⟩
  subst hn
  clear h2
  induction n with
  | zero =>
    rw [rangeI_nil (a := b) (by omega), List.append_nil]
    congr 1
    omega
  | succ n ih =>
    rw [show b + ((n + 1 : Nat) : Int) = b + (n : Nat) + 1 by omega, rangeI_snoc (by omega), ih, rangeI_snoc (a := b) (by omega), List.append_assoc]
theorem flatMap_lt {β : Type} {m n : Int} (h0 : 0 ≤ m) (h : m ≤ n) (f : Int → List β) (p : Int → Prop) [DecidablePred p] (hp : ∀ c, 0 ≤ c → (p c ↔ c < m)) : ((rangeI 0 n).flatMap fun c => if p c then f c else []) = (rangeI 0 m).flatMap f := by
  rw [rangeI_app h0 h, List.flatMap_append]
  have e1 : ((rangeI 0 m).flatMap fun c => if p c then f c else []) = (rangeI 0 m).flatMap f := by
    rw [List.flatMap_def, List.flatMap_def]
    congr 1
    refine List.map_congr_left fun c hc => ?_
    have := mem_rangeI.mp hc
    rw [if_pos ((hp c this.1).mpr this.2)]
  have e2 : ((rangeI m n).flatMap fun c => if p c then f c else []) = [] := by
    rw [List.flatMap_eq_nil_iff]
    intro c hc
    have := mem_rangeI.mp hc
    rw [if_neg fun z => by have := (hp c (by omega)).mp z; omega]
  rw [e1, e2, List.append_nil]
theorem grid_flatMap (o W R C : Int) : grid o W R C = (rangeI 0 R).flatMap fun i => (rangeI 0 C).flatMap fun j => [o + i * W + j] := by
  unfold grid
  rw [List.flatMap_def, List.flatMap_def]
  congr 1
  refine List.map_congr_left fun i _ => ?_
  rw [List.flatMap_def, List.map_eq_flatMap, List.flatMap_def]
end DL
namespace G
open PySem PySem.Spec L2 DL
theorem deedsAt_some {b : Board} {bk : List Rule} {n : Int} {r : Rule} (h : bk[n.toNat]? = some r) : deedsAt b bk n = (cellsAt b r).map fun c => (n, c) := by unfold deedsAt; rw [h]
end G
set_option Elab.async false
set_option linter.all false
set_option maxRecDepth 100000
set_option maxHeartbeats 1000000
namespace DL
open PySem
/-! webs in plain words: what hangs together -/
theorem while_then {S : Type} {c : S → Option Bool} {b : S → Option S} (I : S → Prop) (m : S → Nat) (hs : ∀ s, I s → (c s = some true ∧ ∃ s', b s = some s' ∧ I s' ∧ m s' < m s) ∨ c s = some false) :
    ∀ {s0 : S}, I s0 → ∃ s', whileU c b s0 = some s' ∧ I s' ∧ c s' = some false := by
  have go : ∀ (k : Nat) (s0 : S), I s0 → m s0 < k → ∃ s', (∃ n, whileF c b n s0 = some s') ∧ I s' ∧ c s' = some false := by
    intro k
    induction k with
    | zero => intro s0 _ h; omega
    | succ k ih =>
      intro s0 h0 hm
      rcases hs s0 h0 with ⟨e1, s', e2, h1, h2⟩ | e1
      · obtain ⟨s2, ⟨n, e3⟩, h3, h4⟩ := ih s' h1 (by omega)
        refine ⟨s2, ⟨n + 1, ?_⟩, h3, h4⟩
        show (c s0).bind _ = _
        rw [e1]
        show (b s0).bind _ = _
        rw [e2]
        exact e3
      · refine ⟨s0, ⟨1, ?_⟩, h0, e1⟩
        show (c s0).bind _ = _
        rw [e1]
        rfl
  intro s0 h0
  obtain ⟨s', ⟨n, e⟩, h1, h2⟩ := go (m s0 + 1) s0 h0 (by omega)
  exact ⟨s', whileU_eq e, h1, h2⟩
inductive Conn (T : Int → Int → Prop) : Int → Int → Prop
  | rfl (x : Int) : Conn T x x
  | fw {x y z : Int} : Conn T x y → T y z → Conn T x z
  | bw {x y z : Int} : Conn T x y → T z y → Conn T x z
section
variable {T T' : Int → Int → Prop} {x y z a b : Int}
theorem Conn.trans (h : Conn T x y) (h' : Conn T y z) : Conn T x z := by
  induction h' with
  | rfl => exact h
  | fw _ t ih => exact ih.fw t
  | bw _ t ih => exact ih.bw t
theorem Conn.symm (h : Conn T x y) : Conn T y x := by
  induction h with
  | rfl => exact .rfl _
  | fw _ t ih => exact ((Conn.rfl _).bw t).trans ih
  | bw _ t ih => exact ((Conn.rfl _).fw t).trans ih
theorem Conn.mono (m : ∀ x y, T x y → T' x y) (h : Conn T x y) : Conn T' x y := by
  induction h with
  | rfl => exact .rfl _
  | fw _ t ih => exact ih.fw (m _ _ t)
  | bw _ t ih => exact ih.bw (m _ _ t)
theorem Conn.within {P : Int → Prop} (hT : ∀ x y, T x y → P x ∧ P y) (h : Conn T x y) (hx : P x) : P y := by
  induction h with
  | rfl => exact hx
  | fw _ t _ => exact (hT _ _ t).2
  | bw _ t _ => exact (hT _ _ t).1
/-- one tie more -/
def plusT (T : Int → Int → Prop) (a b : Int) : Int → Int → Prop := fun x y => T x y ∨ (x = a ∧ y = b)
theorem conn_plus : Conn (plusT T a b) x y ↔ Conn T x y ∨ (Conn T x a ∧ Conn T b y) ∨ (Conn T x b ∧ Conn T a y) := by
  constructor
  · intro h
    induction h with
    | rfl => exact .inl (.rfl _)
    | @fw y z _ t ih =>
      rcases t with t | ⟨rfl, rfl⟩
      · rcases ih with h | ⟨h1, h2⟩ | ⟨h1, h2⟩
        · exact .inl (h.fw t)
        · exact .inr (.inl ⟨h1, h2.fw t⟩)
        · exact .inr (.inr ⟨h1, h2.fw t⟩)
      · rcases ih with h | ⟨h1, h2⟩ | ⟨h1, h2⟩
        · exact .inr (.inl ⟨h, .rfl _⟩)
        · exact .inr (.inl ⟨h1, .rfl _⟩)
        · exact .inl h1
    | @bw y z _ t ih =>
      rcases t with t | ⟨rfl, rfl⟩
      · rcases ih with h | ⟨h1, h2⟩ | ⟨h1, h2⟩
        · exact .inl (h.bw t)
        · exact .inr (.inl ⟨h1, h2.bw t⟩)
        · exact .inr (.inr ⟨h1, h2.bw t⟩)
      · rcases ih with h | ⟨h1, h2⟩ | ⟨h1, h2⟩
        · exact .inr (.inr ⟨h, .rfl _⟩)
        · exact .inl h1
        · exact .inr (.inr ⟨h1, .rfl _⟩)
  · have m : ∀ {x y}, Conn T x y → Conn (plusT T a b) x y := fun h => h.mono fun _ _ t => .inl t
    have e : Conn (plusT T a b) a b := (Conn.rfl a).fw (.inr ⟨rfl, rfl⟩)
    rintro (h | ⟨h1, h2⟩ | ⟨h1, h2⟩)
    · exact m h
    · exact ((m h1).trans e).trans (m h2)
    · exact ((m h1).trans e.symm).trans (m h2)
end
/-- the least cell that hangs together with x -/
def Least (n : Int) (T : Int → Int → Prop) (x y : Int) : Prop := 0 ≤ y ∧ y < n ∧ Conn T x y ∧ ∀ z, 0 ≤ z → z < n → Conn T x z → y ≤ z
section
variable {n : Int} {T : Int → Int → Prop} {x y y' a b : Int}
theorem Least.uniq (h : Least n T x y) (h' : Least n T x y') : y = y' := Int.le_antisymm (h.2.2.2 _ h'.1 h'.2.1 h'.2.2.1) (h'.2.2.2 _ h.1 h.2.1 h.2.2.1)
theorem Least.of_conn {x' : Int} (h : Least n T x y) (c : Conn T x' x) : Least n T x' y := ⟨h.1, h.2.1, c.trans h.2.2.1, fun z h1 h2 h3 => h.2.2.2 z h1 h2 (c.symm.trans h3)⟩
theorem Least.eq_iff {x' : Int} (h : Least n T x y) (h' : Least n T x' y') : y = y' ↔ Conn T x x' :=
  ⟨fun e => h.2.2.1.trans (by rw [e]; exact h'.2.2.1.symm), fun c => (h.uniq (h'.of_conn c))⟩
theorem Least.plus {ya yb : Int} (ha : Least n T a ya) (hb : Least n T b yb) (hx : Least n T x y) : Least n (plusT T a b) x (if y = max ya yb then min ya yb else y) := by
  have m : ∀ {x y}, Conn T x y → Conn (plusT T a b) x y := fun h => h.mono fun _ _ t => .inl t
  have e : Conn (plusT T a b) a b := (Conn.rfl a).fw (.inr ⟨rfl, rfl⟩)
  have key : ∀ z, 0 ≤ z → z < n → Conn (plusT T a b) x z → (y = ya ∨ y = yb) ∧ min ya yb ≤ z ∨ (y ≤ z ∧ (y ≠ ya ∧ y ≠ yb ∨ True)) := by
    intro z h1 h2 h3
    rcases conn_plus.mp h3 with h | ⟨c1, c2⟩ | ⟨c1, c2⟩
    · exact .inr ⟨hx.2.2.2 z h1 h2 h, .inr trivial⟩
    · have := hb.2.2.2 z h1 h2 c2
      exact .inl ⟨.inl ((hx.eq_iff ha).mpr c1), by omega⟩
    · have := ha.2.2.2 z h1 h2 c2
      exact .inl ⟨.inr ((hx.eq_iff hb).mpr c1), by omega⟩
  by_cases c : y = max ya yb
  · rw [if_pos c]
    have cm : Conn (plusT T a b) x (min ya yb) := by
      have ca : Conn (plusT T a b) x a := by
        by_cases d : y = ya
        · exact m ((hx.eq_iff ha).mp d)
        · exact (m ((hx.eq_iff hb).mp (by omega))).trans e.symm
      by_cases d : ya ≤ yb
      · rw [Int.min_eq_left d]
        exact ca.trans (m ha.2.2.1)
      · rw [Int.min_eq_right (by omega)]
        exact (ca.trans e).trans (m hb.2.2.1)
    refine ⟨by have := ha.1; have := hb.1; omega, by have := ha.2.1; have := hb.2.1; omega, cm, fun z h1 h2 h3 => ?_⟩
    rcases key z h1 h2 h3 with ⟨_, h⟩ | ⟨h, _⟩
    · exact h
    · omega
  · rw [if_neg c]
    refine ⟨hx.1, hx.2.1, m hx.2.2.1, fun z h1 h2 h3 => ?_⟩
    rcases key z h1 h2 h3 with ⟨h, h'⟩ | ⟨h, _⟩
    · omega
    · exact h
theorem Least.same {ya yb : Int} (ha : Least n T a ya) (hb : Least n T b yb) (e : ya = yb) (hx : Least n T x y) : Least n (plusT T a b) x y := by
  have ab : Conn T a b := (ha.eq_iff hb).mp e
  have m : ∀ {z}, Conn (plusT T a b) x z ↔ Conn T x z := by
    intro z
    rw [conn_plus]
    constructor
    · rintro (h | ⟨c1, c2⟩ | ⟨c1, c2⟩)
      · exact h
      · exact (c1.trans ab).trans c2
      · exact (c1.trans ab.symm).trans c2
    · exact .inl
  exact ⟨hx.1, hx.2.1, m.mpr hx.2.2.1, fun z h1 h2 h3 => hx.2.2.2 z h1 h2 (m.mp h3)⟩
end
open Classical in
/-- the cells that hang together with f -/
noncomputable def clsOf (n : Int) (T : Int → Int → Prop) (f : Int) : List Int := (rangeI 0 n).filter fun x => decide (Conn T f x)
open Classical in
/-- the least ones below k -/
noncomputable def firsts (k : Int) (T : Int → Int → Prop) : List Int := (rangeI 0 k).filter fun f => decide (∀ y, 0 ≤ y → y < f → ¬ Conn T f y)
noncomputable def clsL (n : Int) (T : Int → Int → Prop) : List (List Int) := (firsts n T).map (clsOf n T)
section
variable {n k : Int} {T T' : Int → Int → Prop} {f x : Int}
open Classical in
theorem mem_clsOf : x ∈ clsOf n T f ↔ (0 ≤ x ∧ x < n) ∧ Conn T f x := by
  unfold clsOf
  rw [List.mem_filter, mem_rangeI, decide_eq_true_iff]
theorem rangeI_lt (a b : Int) : (rangeI a b).Pairwise (· < ·) := by
  unfold rangeI
  rw [List.pairwise_map]
  exact List.pairwise_lt_range.imp fun h => by omega
theorem clsOf_lt : (clsOf n T f).Pairwise (· < ·) := (rangeI_lt 0 n).filter _
open Classical in
theorem mem_firsts : f ∈ firsts k T ↔ (0 ≤ f ∧ f < k) ∧ ∀ y, 0 ≤ y → y < f → ¬ Conn T f y := by
  unfold firsts
  rw [List.mem_filter, mem_rangeI, decide_eq_true_iff]
theorem firsts_lt : (firsts k T).Pairwise (· < ·) := (rangeI_lt 0 k).filter _
open Classical in
theorem firsts_snoc (h : 0 ≤ k) : firsts (k + 1) T = firsts k T ++ (if ∀ y, 0 ≤ y → y < k → ¬ Conn T k y then [k] else []) := by
  unfold firsts
  rw [rangeI_snoc h, List.filter_append]
  congr 1
  rw [List.filter_cons, List.filter_nil]
  split
  · rename_i c
    rw [decide_eq_true_iff] at c
    rw [if_pos c]
  · rename_i c
    rw [decide_eq_true_iff] at c
    rw [if_neg c]
/-- the sorted list of a class's cells -/
theorem sort_cls {l : List Int} (nd : l.Nodup) (h : ∀ x, x ∈ l ↔ (0 ≤ x ∧ x < n) ∧ Conn T f x) : sortI l = clsOf n T f := by
  refine (sortI_uniq (ms := clsOf n T f) ?_ (clsOf_lt.imp fun h => by omega)).symm
  refine (List.perm_ext_iff_of_nodup (clsOf_lt.imp fun h => by omega) nd).mpr fun x => ?_
  rw [mem_clsOf, h]
theorem clsL_congr (h : ∀ x y, T x y ↔ T' x y) : clsL n T = clsL n T' := by
  have : T = T' := by
    funext x y
    exact propext (h x y)
  rw [this]
theorem nodup_len {l : List Int} {m : Int} (nd : l.Nodup) (h : ∀ x ∈ l, 0 ≤ x ∧ x < m) : l.length ≤ m.toNat := by
  have := nd.length_le_of_subset (l₂ := rangeI 0 m) fun x hx => mem_rangeI.mpr (h x hx)
  rw [rangeI_len] at this
  omega
end
/-- cells are tied by some deed's pair -/
def TieB (b : Board) (bk : List Rule) (x y e : Int) : Prop := ∃ d r, d ∈ deedsOf b bk ∧ bk[d.1.toNat]? = some r ∧ (x, y) ∈ pairsAt b r d.2 ∧ e = r.bent
def Tied (b : Board) (bk : List Rule) (x y : Int) : Prop := ∃ e, TieB b bk x y e
theorem TieB.lt {b : Board} {bk : List Rule} (hb : b.ok 36) (h : BkOk b bk) {x y e : Int} (t : TieB b bk x y e) : (0 ≤ x ∧ x < b.cells) ∧ (0 ≤ y ∧ y < b.cells) ∧ 0 ≤ e ∧ e ≤ 1 := by
  obtain ⟨d, r, h1, h2, h3, h4⟩ := t
  obtain ⟨r', z0, z1, z2⟩ := mem_deeds.mp h1
  rw [h2] at z1
  cases z1
  have hr := h.2.2.2 r (List.mem_of_getElem? h2)
  have := pairsAt_lt hb hr z2 h3
  have := Rule.bent01 hr
  omega
theorem Tied.lt {b : Board} {bk : List Rule} (hb : b.ok 36) (h : BkOk b bk) {x y : Int} (t : Tied b bk x y) : (0 ≤ x ∧ x < b.cells) ∧ (0 ≤ y ∧ y < b.cells) := by
  obtain ⟨e, t⟩ := t
  have := t.lt hb h
  exact ⟨this.1, this.2.1⟩
end DL
set_option Elab.async false
set_option linter.all false
set_option maxRecDepth 100000
set_option maxHeartbeats 1000000
namespace DL
open PySem PySem.Spec L2
theorem forN_congr {S α : Type} {b b' : S → α → Option S} : ∀ {xs : List α} {s : S}, (∀ s x, x ∈ xs → b s x = b' s x) → forN b xs s = forN b' xs s
  | [], _, _ => rfl
  | x :: xs, s, h => by
    show (b s x).bind _ = (b' s x).bind _
    rw [h s x List.mem_cons_self]
    cases b' s x with
    | none => rfl
    | some s' => exact forN_congr (xs := xs) (s := s') fun s y hy => h s y (List.mem_cons_of_mem _ hy)
section
variable {κ α β : Type} [DecidableEq κ]
def insT (k : κ) (s : List κ) : List κ := if k ∈ s then s else s ++ [k]
theorem tieT_ok {k : κ} {s : List κ} (h : s.length ≤ lim) : tieT k s = some (insT k s) := by
  unfold tieT insT
  rw [if_pos h]
  have e : (s.any fun d => decide (d = k)) = decide (k ∈ s) := by
    rw [Bool.eq_iff_iff, List.any_eq_true, decide_eq_true_iff]
    constructor
    · rintro ⟨d, h1, h2⟩
      rw [of_decide_eq_true h2] at h1
      exact h1
    · exact fun h => ⟨k, h, decide_eq_true rfl⟩
  rw [e]
  by_cases c : k ∈ s
  · simp [c]
  · simp [c]
theorem insT_mem {k j : κ} {s : List κ} : j ∈ insT k s ↔ j ∈ s ∨ j = k := by
  unfold insT
  split
  · rename_i c
    constructor
    · exact .inl
    · rintro (h | rfl)
      · exact h
      · exact c
  · rw [List.mem_append, List.mem_singleton]
theorem insT_nodup {k : κ} {s : List κ} (h : s.Nodup) : (insT k s).Nodup := by
  unfold insT
  split
  · exact h
  · rename_i c
    refine List.nodup_append.mpr ⟨h, by simp, fun a ha b hb => ?_⟩
    rw [List.mem_singleton] at hb
    subst hb
    exact fun e => c (e ▸ ha)
theorem ties_in {B : κ → Prop} (hB : ∀ s : List κ, s.Nodup → (∀ k ∈ s, B k) → s.length ≤ lim) {kf : α → κ} : ∀ {ps : List α} {s : List κ}, (∀ p ∈ ps, B (kf p)) → s.Nodup → (∀ k ∈ s, B k) →
    ∃ r, forN (fun s p => tieT (kf p) s) ps s = some r ∧ r.Nodup ∧ (∀ k ∈ r, B k) ∧ ∀ k, k ∈ r ↔ k ∈ s ∨ ∃ p ∈ ps, k = kf p
  | [], s, _, h1, h2 => ⟨s, rfl, h1, h2, fun k => ⟨.inl, fun h => h.elim id fun ⟨p, hp, _⟩ => nomatch hp⟩⟩
  | p :: ps, s, h, h1, h2 => by
    obtain ⟨r, e, n, b, m⟩ := ties_in hB (kf := kf) (ps := ps) (s := insT (kf p) s) (fun q hq => h q (List.mem_cons_of_mem _ hq)) (insT_nodup h1) (fun k hk => by
      rcases insT_mem.mp hk with z | z
      · exact h2 k z
      · rw [z]; exact h p List.mem_cons_self)
    refine ⟨r, ?_, n, b, fun k => ?_⟩
    · show (tieT (kf p) s).bind _ = _
      rw [tieT_ok (hB s h1 h2)]
      exact e
    · rw [m, insT_mem]
      simp only [List.mem_cons, exists_eq_or_imp]
      constructor
      · rintro ((h | h) | h)
        · exact .inl h
        · exact .inr (.inl h)
        · exact .inr (.inr h)
      · rintro (h | h | h)
        · exact .inl (.inl h)
        · exact .inl (.inr h)
        · exact .inr h
theorem ties_out {B : κ → Prop} (hB : ∀ s : List κ, s.Nodup → (∀ k ∈ s, B k) → s.length ≤ lim) {body : List κ → β → Option (List κ)} {ps : β → List α} {kf : β → α → κ} : ∀ {ds : List β} {s : List κ},
    (∀ d ∈ ds, ∀ s, body s d = forN (fun s p => tieT (kf d p) s) (ps d) s) → (∀ d ∈ ds, ∀ p ∈ ps d, B (kf d p)) → s.Nodup → (∀ k ∈ s, B k) →
    ∃ r, forN body ds s = some r ∧ r.Nodup ∧ (∀ k ∈ r, B k) ∧ ∀ k, k ∈ r ↔ k ∈ s ∨ ∃ d ∈ ds, ∃ p ∈ ps d, k = kf d p
  | [], s, _, _, h1, h2 => ⟨s, rfl, h1, h2, fun k => ⟨.inl, fun h => h.elim id fun ⟨p, hp, _⟩ => nomatch hp⟩⟩
  | d :: ds, s, hb, h, h1, h2 => by
    obtain ⟨r1, e1, n1, b1, m1⟩ := ties_in hB (kf := kf d) (ps := ps d) (s := s) (h d List.mem_cons_self) h1 h2
    obtain ⟨r, e, n, b, m⟩ := ties_out hB (body := body) (ps := ps) (kf := kf) (ds := ds) (s := r1) (fun q hq => hb q (List.mem_cons_of_mem _ hq)) (fun q hq => h q (List.mem_cons_of_mem _ hq)) n1 b1
    refine ⟨r, ?_, n, b, fun k => ?_⟩
    · show (body s d).bind _ = _
      rw [hb d List.mem_cons_self, e1]
      exact e
    · rw [m, m1]
      simp only [List.mem_cons, exists_eq_or_imp]
      constructor
      · rintro ((h | h) | h)
        · exact .inl h
        · exact .inr (.inl h)
        · exact .inr (.inr h)
      · rintro (h | h | h)
        · exact .inl (.inl h)
        · exact .inl (.inr h)
        · exact .inr h
end
/-- triples of small numbers: not many -/
theorem tri_len {α : Type} {L : List (Int × Int × α)} (f : α → Int) (hf : ∀ k ∈ L, ∀ j ∈ L, f k.2.2 = f j.2.2 → k.2.2 = j.2.2) (nd : L.Nodup) (h : ∀ k ∈ L, (0 ≤ k.1 ∧ k.1 < 36) ∧ (0 ≤ k.2.1 ∧ k.2.1 < 36) ∧ 0 ≤ f k.2.2 ∧ f k.2.2 ≤ 1) : L.length ≤ 2592 := by
  have := nodup_len (l := L.map fun k => k.1 * 72 + k.2.1 * 2 + f k.2.2) (m := 2592) (nodup_map (fun x hx y hy e => ?_) nd) (fun x hx => ?_)
  · rw [List.length_map] at this
    exact this
  · have hx' := h x hx
    have hy' := h y hy
    obtain ⟨x1, x2, x3⟩ := x
    obtain ⟨y1, y2, y3⟩ := y
    simp only at hx' hy' e
    have e1 : x1 = y1 := by omega
    have e2 : x2 = y2 := by omega
    have e3 : x3 = y3 := hf _ hx _ hy (by simp only; omega)
    rw [e1, e2, e3]
  · obtain ⟨k, hk, rfl⟩ := List.mem_map.mp hx
    have := h k hk
    omega
/-! ### near -/
section
variable {α : Type}
theorem nearI_ok {acc : List (List α)} {i : Int} {d : α} {ys : List α} (h0 : 0 ≤ i) (h : acc[i.toNat]? = some ys) (hl : ys.length ≤ 1000000) : nearI acc i d = some (acc.set i.toNat (ys ++ [d])) := by
  have hi : i.toNat < acc.length := (List.getElem?_eq_some_iff.mp h).1
  have e : ixN acc.length i = some i.toNat := by
    have := ixI_of (xs := List.range acc.length) h0 (v := i.toNat) (by rw [List.getElem?_range hi])
    unfold ixI atI at this
    rw [List.length_range] at this
    cases q : ixN acc.length i with
    | none => rw [q] at this; cases this
    | some j =>
      rw [q] at this
      replace this : (List.range acc.length)[j]? = some i.toNat := this
      have hj : j < acc.length := by
        have := (List.getElem?_eq_some_iff.mp this).1
        rw [List.length_range] at this
        exact this
      rw [List.getElem?_range hj] at this
      exact this
  unfold nearI
  rw [e, bs, h, bs, if_pos (show ys.length ≤ lim from hl)]
/-- what near tells -/
def NearOk (n : Int) (R : Int → Int → α → Prop) (m : Nat) (acc : List (List (Int × α))) : Prop :=
  acc.length = n.toNat ∧ ∀ x, 0 ≤ x → x < n → ∃ l, acc[x.toNat]? = some l ∧ (∀ y e, (y, e) ∈ l ↔ R x y e) ∧ l.length ≤ m
theorem NearOk.grow {n : Int} {R : Int → Int → α → Prop} {m : Nat} {acc : List (List (Int × α))} (h : NearOk n R m acc) {x y : Int} {e : α} (h0 : 0 ≤ x) (h1 : x < n) (hm : m ≤ 1000000) :
    ∃ acc', nearI acc x (y, e) = some acc' ∧ NearOk n (fun a b c => R a b c ∨ (a = x ∧ b = y ∧ c = e)) (m + 1) acc' := by
  obtain ⟨l, e1, e2, e3⟩ := h.2 x h0 h1
  refine ⟨_, nearI_ok h0 e1 (by omega), by rw [List.length_set]; exact h.1, fun z z0 z1 => ?_⟩
  by_cases c : z = x
  · subst c
    refine ⟨l ++ [(y, e)], List.getElem?_set_self (List.getElem?_eq_some_iff.mp e1).1, fun a b => ?_, by rw [List.length_append, List.length_singleton]; omega⟩
    rw [List.mem_append, e2, List.mem_singleton, Prod.mk.injEq]
    simp
  · obtain ⟨l', f1, f2, f3⟩ := h.2 z z0 z1
    refine ⟨l', by rw [List.getElem?_set_ne (by omega)]; exact f1, fun a b => ?_, by omega⟩
    rw [f2]
    simp [c]
theorem near_ok {n : Int} (hn : 0 ≤ n) {L : List (Int × Int × α)} (hL : L.length ≤ 3000) (hb : ∀ k ∈ L, (0 ≤ k.1 ∧ k.1 < n) ∧ (0 ≤ k.2.1 ∧ k.2.1 < n)) :
    ∃ acc, forN (fun (s : List (List (Int × α))) (k : Int × Int × α) => (nearI s k.1 (k.2.1, k.2.2)).bind fun s1 => (nearI s1 k.2.1 (k.1, k.2.2)).bind fun s2 => some s2) L (List.replicate n.toNat []) = some acc ∧
      NearOk n (fun x y e => (x, y, e) ∈ L ∨ (y, x, e) ∈ L) 6000 acc := by
  have go : ∀ (L : List (Int × Int × α)) (R : Int → Int → α → Prop) (m : Nat) (s : List (List (Int × α))), m + 2 * L.length ≤ 1000000 → (∀ k ∈ L, (0 ≤ k.1 ∧ k.1 < n) ∧ (0 ≤ k.2.1 ∧ k.2.1 < n)) → NearOk n R m s →
      ∃ acc, forN (fun (s : List (List (Int × α))) (k : Int × Int × α) => (nearI s k.1 (k.2.1, k.2.2)).bind fun s1 => (nearI s1 k.2.1 (k.1, k.2.2)).bind fun s2 => some s2) L s = some acc ∧
        NearOk n (fun x y e => R x y e ∨ (x, y, e) ∈ L ∨ (y, x, e) ∈ L) (m + 2 * L.length) acc := by
    intro L
    induction L with
    | nil =>
      intro R m s _ _ h
      refine ⟨s, rfl, h.1, fun x h0 h1 => ?_⟩
      obtain ⟨l, e1, e2, e3⟩ := h.2 x h0 h1
      exact ⟨l, e1, fun y e => by rw [e2]; simp, by simp; omega⟩
    | cons k L ih =>
      intro R m s hm hb h
      rw [List.length_cons] at hm
      obtain ⟨b1, b2⟩ := hb k List.mem_cons_self
      obtain ⟨s1, e1, g1⟩ := h.grow (x := k.1) (y := k.2.1) (e := k.2.2) b1.1 b1.2 (by omega)
      obtain ⟨s2, e2, g2⟩ := g1.grow (x := k.2.1) (y := k.1) (e := k.2.2) b2.1 b2.2 (by omega)
      obtain ⟨acc, e3, g3⟩ := ih _ _ s2 (by omega) (fun j hj => hb j (List.mem_cons_of_mem _ hj)) g2
      refine ⟨acc, ?_, g3.1, fun x h0 h1 => ?_⟩
      · have e4 : ((nearI s k.1 (k.2.1, k.2.2)).bind fun s1 => (nearI s1 k.2.1 (k.1, k.2.2)).bind fun s2 => some s2) = some s2 := by rw [e1, bs, e2, bs]
        show Option.bind ((nearI s k.1 (k.2.1, k.2.2)).bind fun s1 => (nearI s1 k.2.1 (k.1, k.2.2)).bind fun s2 => some s2) _ = _
        rw [e4]
        exact e3
      · obtain ⟨l, f1, f2, f3⟩ := g3.2 x h0 h1
        refine ⟨l, f1, fun y e => ?_, by rw [List.length_cons]; omega⟩
        rw [f2]
        obtain ⟨k1, k2, k3⟩ := k
        simp only [List.mem_cons, Prod.mk.injEq]
        constructor
        · rintro (((h | ⟨rfl, rfl, rfl⟩) | ⟨rfl, rfl, rfl⟩) | h | h)
          · exact .inl h
          · exact .inr (.inl (.inl ⟨rfl, rfl, rfl⟩))
          · exact .inr (.inr (.inl ⟨rfl, rfl, rfl⟩))
          · exact .inr (.inl (.inr h))
          · exact .inr (.inr (.inr h))
        · rintro (h | (⟨rfl, rfl, rfl⟩ | h) | (⟨rfl, rfl, rfl⟩ | h))
          · exact .inl (.inl (.inl h))
          · exact .inl (.inl (.inr ⟨rfl, rfl, rfl⟩))
          · exact .inr (.inl h)
          · exact .inl (.inr ⟨rfl, rfl, rfl⟩)
          · exact .inr (.inr h)
  obtain ⟨acc, e, g⟩ := go L (fun _ _ _ => False) 0 (List.replicate n.toNat []) (by omega) hb ⟨List.length_replicate, fun x h0 h1 => ⟨[], by rw [List.getElem?_replicate, if_pos (by omega)], fun y e => by simp, Nat.zero_le _⟩⟩
  refine ⟨acc, e, g.1, fun x h0 h1 => ?_⟩
  obtain ⟨l, f1, f2, f3⟩ := g.2 x h0 h1
  exact ⟨l, f1, fun y e => by rw [f2]; simp, by omega⟩
end
end DL
set_option Elab.async false
set_option linter.all false
set_option maxRecDepth 100000
set_option maxHeartbeats 1000000
namespace G
open PySem PySem.Spec L2 DL
/-! ties and near, as told -/
theorem enumI_get' {α : Type} (xs : List α) (i : Nat) : (enumI xs)[i]? = (xs[i]?).map fun x => (((i : Nat) : Int), x) := by
  unfold enumI
  rw [List.getElem?_map, List.getElem?_zipIdx]
  cases xs[i]? with
  | none => rfl
  | some x => simp
theorem enumI_mem' {α : Type} {xs : List α} {p : Int × α} (h : p ∈ enumI xs) : 0 ≤ p.1 ∧ xs[p.1.toNat]? = some p.2 := by
  obtain ⟨i, e⟩ := List.mem_iff_getElem?.mp h
  rw [enumI_get'] at e
  obtain ⟨x, e1, e2⟩ := Option.map_eq_some_iff.mp e
  subst e2
  exact ⟨Int.natCast_nonneg _, by simpa using e1⟩
theorem enumI_flat {α β : Type} (f : Int × α → List β) (g : Int → List β) (xs : List α) (h : ∀ (i : Nat) x, xs[i]? = some x → f ((i : Nat), x) = g (i : Nat)) : (enumI xs).flatMap f = (rangeI 0 (xs.length : Nat)).flatMap g := by
  rw [List.flatMap_def, List.flatMap_def]
  congr 1
  apply List.ext_getElem?
  intro i
  rw [List.getElem?_map, List.getElem?_map, enumI_get', rangeI_nat, List.getElem?_map]
  cases e : xs[i]? with
  | none =>
    rw [List.getElem?_eq_none (by rw [List.length_range]; exact List.getElem?_eq_none_iff.mp e)]
    rfl
  | some x =>
    rw [List.getElem?_range (List.getElem?_eq_some_iff.mp e).1]
    exact congrArg some (h i x e)
section
variable {b : Board} {bk : List Rule} (hb : b.ok 36) (h : BkOk b bk)
include hb h
theorem all_deeds_ok : t_all_deeds b bk = some (deedsOf b bk) := by
  have hl := deedsOf_len hb h
  have ef : ((enumI bk).flatMap fun x => (cellsAt b x.2).map fun c => (x.1, c)) = deedsOf b bk := by
    unfold deedsOf
    refine enumI_flat _ _ bk fun i x e => ?_
    rw [deedsAt_some (r := x) (by simpa using e)]
  unfold t_all_deeds
  rw [bind_some', flatO_ok (fun x => (cellsAt b x.2).map fun c => (x.1, c)) (fun x hx => ?_) (by rw [ef]; omega), ef]
  obtain ⟨h1, h2⟩ := enumI_mem' hx
  rw [first_cells_ok hb (h.2.2.2 _ (List.mem_of_getElem? h2)), bs]
  exact mapR_ok (fun c => (x.1, c)) fun _ _ => rfl
/-- a deed's rule -/
theorem deed_rule {d : Int × Int} (hd : d ∈ deedsOf b bk) : ∃ r, 0 ≤ d.1 ∧ bk[d.1.toNat]? = some r ∧ r.fits b ∧ d.2 ∈ cellsAt b r ∧ ixI bk d.1 = some r := by
  obtain ⟨r, z0, z1, z2⟩ := mem_deeds.mp hd
  exact ⟨r, z0, z1, h.2.2.2 r (List.mem_of_getElem? z1), z2, ixI_of z0 z1⟩
def ruleOf (bk : List Rule) (d : Int × Int) : Rule := bk.getD d.1.toNat (.swap 0 0)
omit hb h in
theorem ruleOf_eq {d : Int × Int} {r : Rule} (e : bk[d.1.toNat]? = some r) : ruleOf bk d = r := by
  unfold ruleOf
  rw [List.getD_eq_getElem?_getD, e]
  rfl
theorem tieB_iff {x y e : Int} : TieB b bk x y e ↔ ∃ d ∈ deedsOf b bk, ∃ p ∈ pairsAt b (ruleOf bk d) d.2, (x, y, e) = (p.1, p.2, (ruleOf bk d).bent) := by
  constructor
  · rintro ⟨d, r, h1, h2, h3, h4⟩
    exact ⟨d, h1, (x, y), by rw [ruleOf_eq h2]; exact h3, by rw [ruleOf_eq h2, h4]⟩
  · rintro ⟨d, h1, p, h2, h3⟩
    obtain ⟨r, z0, z1, z2, z3, z4⟩ := deed_rule hb h h1
    rw [ruleOf_eq z1] at h2 h3
    cases h3
    exact ⟨d, r, h1, z1, h2, rfl⟩
theorem ties_of_ok : ∃ L, t_ties_of b bk = some L ∧ L.Nodup ∧ L.length ≤ 2592 ∧ ∀ x y e, (x, y, e) ∈ L ↔ TieB b bk x y (b2i e) := by
  have key := ties_out (κ := Int × Int × Bool) (B := fun k => (0 ≤ k.1 ∧ k.1 < 36) ∧ (0 ≤ k.2.1 ∧ k.2.1 < 36)) (fun s nd hs => Nat.le_trans (tri_len b2i (fun k _ j _ e => by cases h1 : k.2.2 <;> cases h2 : j.2.2 <;> simp_all [b2i]) nd fun k hk => ⟨(hs k hk).1, (hs k hk).2, by cases k.2.2 <;> decide⟩) (by decide))
    (body := fun (s9 : List (Int × Int × Bool)) (x7 : Int × Int) => (ixI bk x7.1).bind fun v11 => (t_pairs_at b v11 x7.2).bind fun v12 => forN (fun (s10 : List (Int × Int × Bool)) (y8 : Int × Int) => (t_is_bent v11).bind fun v15 => tieT (y8.1, y8.2, v15) s10) v12 s9)
    (ps := fun d => pairsAt b (ruleOf bk d) d.2) (kf := fun d p => (p.1, p.2, decide ((ruleOf bk d).bent = 1))) (ds := deedsOf b bk) (s := []) (fun d hd s => ?_) (fun d hd p hp => ?_) List.nodup_nil (fun _ h => nomatch h)
  · obtain ⟨L, e, nd, bd, mem⟩ := key
    refine ⟨L, ?_, nd, tri_len b2i (fun k _ j _ e => by cases h1 : k.2.2 <;> cases h2 : j.2.2 <;> simp_all [b2i]) nd fun k hk => ⟨(bd k hk).1, (bd k hk).2, by cases k.2.2 <;> decide⟩, fun x y c => ?_⟩
    · unfold t_ties_of
      rw [all_deeds_ok hb h, bs]
      exact e
    · rw [mem, tieB_iff hb h]
      simp only [List.not_mem_nil, false_or]
      refine exists_congr fun d => and_congr_right fun hd => exists_congr fun p => and_congr_right fun hp => ?_
      obtain ⟨r, z0, z1, z2, z3, z4⟩ := deed_rule hb h hd
      rw [ruleOf_eq z1]
      have := Rule.bent01 z2
      simp only [Prod.mk.injEq]
      refine and_congr_right fun _ => and_congr_right fun _ => ?_
      constructor
      · rintro rfl
        by_cases c : r.bent = 1
        · simp [c, b2i]
        · simp [c, b2i]; omega
      · intro e
        cases c
        · have e' : (0 : Int) = r.bent := e
          rw [← e']; rfl
        · have e' : (1 : Int) = r.bent := e
          rw [← e']; rfl
  · obtain ⟨r, z0, z1, z2, z3, z4⟩ := deed_rule hb h hd
    show (ixI bk d.1).bind _ = _
    rw [z4, bs, pairs_at_ok hb z2, bs, ruleOf_eq z1]
    rfl
  · obtain ⟨r, z0, z1, z2, z3, z4⟩ := deed_rule hb h hd
    rw [ruleOf_eq z1] at hp
    have := pairsAt_lt hb z2 z3 hp
    have := (Board.cells_pos hb).2
    show (0 ≤ p.1 ∧ p.1 < 36) ∧ (0 ≤ p.2 ∧ p.2 < 36)
    omega
theorem near_cells_ok : ∃ acc, t_near_cells b bk = some acc ∧ NearOk b.cells (fun x y (e : Bool) => TieB b bk x y (b2i e) ∨ TieB b bk y x (b2i e)) 6000 acc := by
  have hp := Board.cells_pos hb
  obtain ⟨L, e1, nd, hl, mem⟩ := ties_of_ok hb h
  obtain ⟨acc, e2, g⟩ := near_ok (n := b.cells) (by omega) (L := L) (by omega) fun k hk => by
    obtain ⟨k1, k2, k3⟩ := k
    have := ((mem k1 k2 k3).mp hk).lt hb h
    exact ⟨this.1, this.2.1⟩
  refine ⟨acc, ?_, g.1, fun x h0 h1 => ?_⟩
  · unfold t_near_cells
    rw [cells_many_ok hb, bs, rngO_ok (by decide) (by omega), bs, mapB_ok (by rw [rangeI_len]; omega), bs, e1, bs, bind_some', List.length_map, rangeI_len, Int.sub_zero]
    exact e2
  · obtain ⟨l, f1, f2, f3⟩ := g.2 x h0 h1
    exact ⟨l, f1, fun y e => (f2 y e).trans (or_congr (mem ..) (mem ..)), f3⟩
end
end G
set_option Elab.async false
set_option linter.all false
set_option maxRecDepth 100000
set_option maxHeartbeats 1000000
namespace DL
open PySem PySem.Spec L2
/-! a walk through what hangs together -/
def bfsIn (s : List (Int × Bool) × List Int) (x : Int × Bool) : Option (List (Int × Bool) × List Int) :=
  cond (!(hasK s.1 x.1)) ((putO s.1 x.1 true).bind fun a => (appL s.2 x.1).bind fun c => some (a, c)) (some (s.1, s.2))
def bfsB (near : List (List (Int × Bool))) (s : List (Int × Bool) × List Int × Int) : Option (List (Int × Bool) × List Int × Int) :=
  (ixI s.2.1 s.2.2).bind fun c => (ixI near c).bind fun l => (forN bfsIn l (s.1, s.2.1)).bind fun r => some (r.1, r.2, s.2.2 + (1 : Int))
/-- what is so while a class is walked through: n cells, f the first one, S what was seen ahead, m entries -/
structure Bfs (n : Int) (T : Int → Int → Prop) (f : Int) (S : Int → Prop) (m : Nat) (seen : List (Int × Bool)) (some_ : List Int) : Prop where
  nd : some_.Nodup
  con : ∀ x ∈ some_, (0 ≤ x ∧ x < n) ∧ Conn T f x
  key : ∀ x, hasK seen x = true ↔ S x ∨ x ∈ some_
  len : seen.length ≤ m + some_.length
section
variable {n : Int} {T : Int → Int → Prop} {f : Int} {S : Int → Prop} {m : Nat}
theorem Bfs.small {seen : List (Int × Bool)} {some_ : List Int} (h : Bfs n T f S m seen some_) : some_.length ≤ n.toNat := nodup_len h.nd fun x hx => (h.con x hx).1
theorem bfs_in (hm : m + n.toNat ≤ 900000) : ∀ (l : List (Int × Bool)) {seen : List (Int × Bool)} {some_ : List Int}, Bfs n T f S m seen some_ → (∀ p ∈ l, (0 ≤ p.1 ∧ p.1 < n) ∧ Conn T f p.1) →
    ∃ seen' ext, forN bfsIn l (seen, some_) = some (seen', some_ ++ ext) ∧ Bfs n T f S m seen' (some_ ++ ext) ∧ ∀ p ∈ l, hasK seen' p.1 = true
  | [], seen, some_, h, _ => ⟨seen, [], by rw [List.append_nil]; rfl, by rw [List.append_nil]; exact h, fun _ h => nomatch h⟩
  | p :: l, seen, some_, h, hl => by
    have hp := hl p List.mem_cons_self
    have hs := h.small
    have hlen := h.len
    by_cases c : hasK seen p.1 = true
    · obtain ⟨seen', ext, e, b, k⟩ := bfs_in hm l h fun q hq => hl q (List.mem_cons_of_mem _ hq)
      refine ⟨seen', ext, ?_, b, fun q hq => ?_⟩
      · have e1 : bfsIn (seen, some_) p = some (seen, some_) := by
          unfold bfsIn
          rw [c]
          rfl
        show (bfsIn (seen, some_) p).bind _ = _
        rw [e1]
        exact e
      · rcases List.mem_cons.mp hq with rfl | hq
        · rw [b.key]
          rcases (h.key _).mp c with z | z
          · exact .inl z
          · exact .inr (List.mem_append_left _ z)
        · exact k q hq
    · have nin : p.1 ∉ some_ := fun z => c ((h.key _).mpr (.inr z))
      have h' : Bfs n T f S m (putK' seen p.1 true) (some_ ++ [p.1]) := by
        refine ⟨List.nodup_append.mpr ⟨h.nd, by simp, fun a ha b hb => ?_⟩, fun x hx => ?_, fun x => ?_, ?_⟩
        · rw [List.mem_singleton] at hb
          subst hb
          exact fun e => nin (e ▸ ha)
        · rcases List.mem_append.mp hx with z | z
          · exact h.con x z
          · rw [List.mem_singleton] at z
            subst z
            exact hp
        · rw [hasK_put, Bool.or_eq_true, decide_eq_true_iff, h.key, List.mem_append, List.mem_singleton]
          constructor
          · rintro (z | z | z)
            · exact .inr (.inr z.symm)
            · exact .inl z
            · exact .inr (.inl z)
          · rintro (z | z | z)
            · exact .inr (.inl z)
            · exact .inr (.inr z)
            · exact .inl z.symm
        · have := putK_len seen p.1 true
          rw [List.length_append, List.length_singleton]
          omega
      obtain ⟨seen', ext, e, b, k⟩ := bfs_in hm l h' fun q hq => hl q (List.mem_cons_of_mem _ hq)
      refine ⟨seen', p.1 :: ext, ?_, by simpa using b, fun q hq => ?_⟩
      · have e1 : bfsIn (seen, some_) p = some (putK' seen p.1 true, some_ ++ [p.1]) := by
          unfold bfsIn
          rw [Bool.eq_false_iff.mpr c]
          show (putO seen p.1 true).bind _ = _
          rw [putO_ok (by omega), bs, appL_ok (by show some_.length ≤ _; omega), bs]
        show (bfsIn (seen, some_) p).bind _ = _
        rw [e1]
        simpa using e
      · rcases List.mem_cons.mp hq with rfl | hq
        · rw [b.key]
          exact .inr (by simp)
        · exact k q hq
/-- what near tells, for a walk -/
structure Nears (n : Int) (T : Int → Int → Prop) (near : List (List (Int × Bool))) : Prop where
  len : near.length = n.toNat
  at_ : ∀ x, 0 ≤ x → x < n → ∃ l, ixI near x = some l ∧ (∀ y, (∃ e, (y, e) ∈ l) ↔ T x y ∨ T y x)
  lt : ∀ x y, T x y → (0 ≤ x ∧ x < n) ∧ (0 ≤ y ∧ y < n)
theorem Nears.step {near : List (List (Int × Bool))} (N : Nears n T near) {x : Int} (h0 : 0 ≤ x) (h1 : x < n) (c : Conn T f x) : ∃ l, ixI near x = some l ∧ (∀ p ∈ l, (0 ≤ p.1 ∧ p.1 < n) ∧ Conn T f p.1) ∧ ∀ y, T x y ∨ T y x → ∃ p ∈ l, p.1 = y := by
  obtain ⟨l, e, hl⟩ := N.at_ x h0 h1
  refine ⟨l, e, fun p hp => ?_, fun y t => ?_⟩
  · rcases (hl p.1).mp ⟨p.2, hp⟩ with t | t
    · exact ⟨(N.lt _ _ t).2, c.fw t⟩
    · exact ⟨(N.lt _ _ t).1, c.bw t⟩
  · obtain ⟨e', h⟩ := (hl y).mpr t
    exact ⟨_, h, rfl⟩
/-- a class is walked through -/
theorem bfs_class {near : List (List (Int × Bool))} (N : Nears n T near) (hm : m + n.toNat ≤ 900000) (hf0 : 0 ≤ f) (hf1 : f < n) {seen : List (Int × Bool)} (hk : ∀ x, hasK seen x = true ↔ S x) (hS : ∀ x, S x → ∃ y, y < f ∧ 0 ≤ y ∧ Conn T y x) (hfs : ∀ y, 0 ≤ y → y < f → ¬ Conn T f y) (hl : seen.length ≤ m) :
    ∃ seen' some_, whileU (fun s : List (Int × Bool) × List Int × Int => some (decide (s.2.2 < (s.2.1.length : Int)))) (bfsB near) (putK' seen f true, [f], 0) = some (seen', some_, some_.length) ∧ some_.Nodup ∧ (∀ x, x ∈ some_ ↔ (0 ≤ x ∧ x < n) ∧ Conn T f x) ∧
      (∀ x, hasK seen' x = true ↔ S x ∨ x ∈ some_) ∧ seen'.length ≤ m + n.toNat := by
  let I : List (Int × Bool) × List Int × Int → Prop := fun s => Bfs n T f S m s.1 s.2.1 ∧ f ∈ s.2.1 ∧ 0 ≤ s.2.2 ∧ s.2.2 ≤ (s.2.1.length : Int) ∧ ∀ (j : Nat) x, (j : Int) < s.2.2 → s.2.1[j]? = some x → ∀ y, T x y ∨ T y x → hasK s.1 y = true
  have start : I (putK' seen f true, [f], 0) := by
    refine ⟨⟨by simp, fun x hx => ?_, fun x => ?_, ?_⟩, by simp, Int.le_refl _, by simp, fun j x hj => by have hj' : (j : Int) < 0 := hj; omega⟩
    · rw [List.mem_singleton] at hx
      subst hx
      exact ⟨⟨hf0, hf1⟩, .rfl _⟩
    · rw [hasK_put, Bool.or_eq_true, decide_eq_true_iff, hk, List.mem_singleton]
      constructor
      · rintro (z | z)
        · exact .inr z.symm
        · exact .inl z
      · rintro (z | z)
        · exact .inr z
        · exact .inl z.symm
    · have := putK_len seen f true
      simp only [List.length_singleton]
      omega
  have key := while_then (c := fun s : List (Int × Bool) × List Int × Int => some (decide (s.2.2 < (s.2.1.length : Int)))) (b := bfsB near) I (fun s => (n - s.2.2).toNat) (fun s ⟨hb, hfm, h0, h1, hn⟩ => ?_) start
  · obtain ⟨s', e, hi, hc⟩ := key
    obtain ⟨seen', some_, at_⟩ := s'
    obtain ⟨hb, hfm, h0, h1, hn⟩ := hi
    have hat : at_ = (some_.length : Int) := by
      have := of_decide_eq_false (Option.some.inj hc)
      simp only at this h1
      omega
    subst hat
    have mem : ∀ x, x ∈ some_ ↔ (0 ≤ x ∧ x < n) ∧ Conn T f x := fun x => ⟨hb.con x, fun ⟨_, c⟩ => ?_⟩
    · exact ⟨seen', some_, e, hb.nd, mem, hb.key, by have := hb.len; have := hb.small; simp only at *; omega⟩
    · have cl : ∀ {a y}, a ∈ some_ → T a y ∨ T y a → y ∈ some_ := fun {a y} ha t => by
        obtain ⟨j, hj⟩ := List.mem_iff_getElem?.mp ha
        have hk' := hn j a (by have := (List.getElem?_eq_some_iff.mp hj).1; simp only; omega) hj y t
        rcases (hb.key y).mp hk' with z | z
        · obtain ⟨y', z1, z2, z3⟩ := hS y z
          have ca := (hb.con a ha).2
          have cy : Conn T f y := t.elim (fun t => ca.fw t) (fun t => ca.bw t)
          exact absurd (cy.trans z3.symm) (hfs y' z2 z1)
        · exact z
      induction c with
      | rfl => exact hfm
      | fw c t ih => exact cl (ih ⟨(N.lt _ _ t).1, c⟩ (N.lt _ _ t).1) (.inl t)
      | bw c t ih => exact cl (ih ⟨(N.lt _ _ t).2, c⟩ (N.lt _ _ t).2) (.inr t)
  · by_cases c : s.2.2 < (s.2.1.length : Int)
    · refine .inl ⟨by rw [decide_eq_true c], ?_⟩
      obtain ⟨x, e1, e2, e3⟩ := ixI_lt h0 c
      obtain ⟨⟨x0, x1⟩, cx⟩ := hb.con x e2
      obtain ⟨l, e4, e5, e6⟩ := N.step x0 x1 cx
      obtain ⟨seen', ext, e7, e8, e9⟩ := bfs_in hm l hb e5
      have sm := hb.small
      refine ⟨(seen', s.2.1 ++ ext, s.2.2 + 1), ?_, ⟨e8, List.mem_append_left _ hfm, by simp only; omega, by simp only [List.length_append]; omega, fun j z hj hz y t => ?_⟩, by simp only; omega⟩
      · unfold bfsB
        rw [e1, bs, e4, bs]
        show Option.bind (forN bfsIn l (s.1, s.2.1)) _ = _
        rw [e7, bs]
      · simp only at hj hz ⊢
        have hj' : j < s.2.1.length := by omega
        rw [List.getElem?_append_left hj'] at hz
        by_cases d : (j : Int) < s.2.2
        · have := hn j z d hz y t
          rw [hb.key] at this
          rw [e8.key]
          exact this.imp id fun h => List.mem_append_left _ h
        · have ej : j = s.2.2.toNat := by omega
          rw [ej, e3] at hz
          cases hz
          obtain ⟨p, hp, rfl⟩ := e6 y t
          exact e9 p hp
    · exact .inr (by rw [decide_eq_false c])
end
end DL
set_option Elab.async false
set_option linter.all false
set_option maxRecDepth 100000
set_option maxHeartbeats 1000000
namespace DL
open PySem PySem.Spec L2
/-! marks in plain words: rests at 2 along ties -/
inductive CP (TB : Int → Int → Int → Prop) : Int → Int → Int → Prop
  | rfl (x : Int) : CP TB x x 0
  | fw {x y z p e : Int} : CP TB x y p → TB y z e → CP TB x z ((p + e) % 2)
  | bw {x y z p e : Int} : CP TB x y p → TB z y e → CP TB x z ((p + e) % 2)
def tT (TB : Int → Int → Int → Prop) : Int → Int → Prop := fun x y => ∃ e, TB x y e
/-- marks fit each tie -/
def Fits (TB : Int → Int → Int → Prop) (m : Int → Int) : Prop := ∀ x y e, TB x y e → (m x + m y + e) % 2 = 0
def Even (TB : Int → Int → Int → Prop) : Prop := ∃ m, Fits TB m
section
variable {TB : Int → Int → Int → Prop} {x y z p q f g n : Int} {m : Int → Int}
theorem CP.conn (h : CP TB x y p) : Conn (tT TB) x y := by
  induction h with
  | rfl => exact .rfl _
  | fw _ t ih => exact ih.fw ⟨_, t⟩
  | bw _ t ih => exact ih.bw ⟨_, t⟩
theorem CP.of_conn (h : Conn (tT TB) x y) : ∃ p, CP TB x y p := by
  induction h with
  | rfl => exact ⟨0, .rfl _⟩
  | fw _ t ih =>
    obtain ⟨p, ih⟩ := ih
    obtain ⟨e, t⟩ := t
    exact ⟨_, ih.fw t⟩
  | bw _ t ih =>
    obtain ⟨p, ih⟩ := ih
    obtain ⟨e, t⟩ := t
    exact ⟨_, ih.bw t⟩
theorem CP.fits (h : CP TB x y p) (hm : Fits TB m) : (m x + m y + p) % 2 = 0 := by
  induction h with
  | rfl => omega
  | fw _ t ih =>
    have := hm _ _ _ t
    omega
  | bw _ t ih =>
    have := hm _ _ _ t
    omega
theorem CP.rest (h : CP TB x y p) : 0 ≤ p ∧ p ≤ 1 := by
  cases h <;> omega
theorem not_even (h : CP TB x y p) (h' : CP TB x y q) (ne : p ≠ q) : ¬ Even TB := fun ⟨m, hm⟩ => by
  have h1 := h.fits hm
  have h2 := h'.fits hm
  have h3 := h.rest
  have h4 := h'.rest
  omega
/-- the least cell of its class -/
def First (n : Int) (TB : Int → Int → Int → Prop) (f : Int) : Prop := (0 ≤ f ∧ f < n) ∧ ∀ y, 0 ≤ y → y < f → ¬ Conn (tT TB) f y
theorem First.uniq (hf : First n TB f) (hg : First n TB g) (c : Conn (tT TB) f g) : f = g := by
  by_cases h1 : f < g
  · exact absurd c.symm (hg.2 f hf.1.1 h1)
  · by_cases h2 : g < f
    · exact absurd c (hf.2 g hg.1.1 h2)
    · omega
theorem First.of (h0 : 0 ≤ x) (h1 : x < n) : ∃ f, First n TB f ∧ Conn (tT TB) f x := by
  have go : ∀ (k : Nat) (x : Int), x = (k : Int) → x < n → ∃ f, First n TB f ∧ Conn (tT TB) f x := by
    intro k
    induction k using Nat.strongRecOn with
    | ind k ih =>
      intro x hx hn
      by_cases c : ∃ y, 0 ≤ y ∧ y < x ∧ Conn (tT TB) x y
      · obtain ⟨y, y0, y1, yc⟩ := c
        obtain ⟨f, hf, cf⟩ := ih y.toNat (by omega) y (by omega) (by omega)
        exact ⟨f, hf, cf.trans yc.symm⟩
      · exact ⟨x, ⟨⟨by omega, hn⟩, fun y y0 y1 yc => c ⟨y, y0, y1, yc⟩⟩, .rfl _⟩
  exact go x.toNat x (by omega) h1
/-- the marks that are told -/
structure MarkOk (n : Int) (TB : Int → Int → Int → Prop) (m : Int → Int) : Prop where
  fits : Fits TB m
  rest : ∀ x, 0 ≤ x → x < n → 0 ≤ m x ∧ m x ≤ 1
  first : ∀ f, First n TB f → m f = 0
theorem MarkOk.uniq {m' : Int → Int} (h : MarkOk n TB m) (h' : MarkOk n TB m') (h0 : 0 ≤ x) (h1 : x < n) : m x = m' x := by
  obtain ⟨f, hf, c⟩ := First.of (TB := TB) h0 h1
  obtain ⟨p, cp⟩ := CP.of_conn c
  have e1 := cp.fits h.fits
  have e2 := cp.fits h'.fits
  rw [h.first f hf] at e1
  rw [h'.first f hf] at e2
  have := h.rest x h0 h1
  have := h'.rest x h0 h1
  omega
/-- what a search for marks tells -/
def MarkRes (n : Int) (TB : Int → Int → Int → Prop) (r : Option (List Int)) : Prop := (∃ m, r = some ((rangeI 0 n).map m) ∧ MarkOk n TB m) ∨ (r = none ∧ ¬ Even TB)
theorem MarkRes.uniq {r r' : Option (List Int)} (h : MarkRes n TB r) (h' : MarkRes n TB r') : r = r' := by
  rcases h with ⟨m, rfl, h⟩ | ⟨rfl, h⟩ <;> rcases h' with ⟨m', rfl, h'⟩ | ⟨rfl, h'⟩
  · refine congrArg some (List.map_congr_left fun x hx => ?_)
    obtain ⟨h0, h1⟩ := mem_rangeI.mp hx
    exact h.uniq h' h0 h1
  · exact absurd ⟨m, h.fits⟩ h'
  · exact absurd ⟨m', h'.fits⟩ h
  · rfl
end
/-! dicts whose keys are cells -/
section
variable {n : Int} {TB : Int → Int → Int → Prop} {f : Int}
theorem keys_put {kvs : List (Int × Int)} {k v : Int} : (putK' kvs k v).map (·.1) = if hasK kvs k = true then kvs.map (·.1) else kvs.map (·.1) ++ [k] := by
  unfold putK'
  split
  · rw [List.map_map]
    refine List.map_congr_left fun p _ => ?_
    show (if p.1 = k then (p.1, v) else p).1 = p.1
    split <;> rfl
  · rw [List.map_append]
    rfl
theorem hasK_keys {kvs : List (Int × Int)} {k : Int} : hasK kvs k = true ↔ k ∈ kvs.map (·.1) := by
  unfold hasK
  rw [List.any_eq_true, List.mem_map]
  constructor
  · rintro ⟨p, hp, e⟩
    exact ⟨p, hp, of_decide_eq_true e⟩
  · rintro ⟨p, hp, e⟩
    exact ⟨p, hp, decide_eq_true e⟩
/-- marks put so far -/
structure MI (n : Int) (TB : Int → Int → Int → Prop) (ms : List (Int × Int)) : Prop where
  nd : (ms.map (·.1)).Nodup
  key : ∀ x v, getK ms x = some v → (0 ≤ x ∧ x < n) ∧ ∃ g, First n TB g ∧ CP TB g x v
theorem MI.lt {ms : List (Int × Int)} (h : MI n TB ms) {x : Int} (k : hasK ms x = true) : 0 ≤ x ∧ x < n := by
  obtain ⟨v, e⟩ := hasK_iff.mp k
  exact (h.key x v e).1
theorem MI.len {ms : List (Int × Int)} (h : MI n TB ms) : ms.length ≤ n.toNat := by
  have := nodup_len (l := ms.map (·.1)) (m := n) h.nd fun x hx => h.lt (hasK_keys.mpr hx)
  rw [List.length_map] at this
  exact this
theorem MI.put {ms : List (Int × Int)} (h : MI n TB ms) {x v : Int} (nk : ¬ hasK ms x = true) (hx : 0 ≤ x ∧ x < n) {g : Int} (hg : First n TB g) (c : CP TB g x v) : MI n TB (putK' ms x v) ∧ (putK' ms x v).length = ms.length + 1 := by
  refine ⟨⟨?_, fun y w e => ?_⟩, ?_⟩
  · rw [keys_put, if_neg nk]
    refine List.nodup_append.mpr ⟨h.nd, by simp, fun a ha b hb => ?_⟩
    rw [List.mem_singleton] at hb
    subst hb
    exact fun e => nk (hasK_keys.mpr (e ▸ ha))
  · rw [getK_put] at e
    split at e
    · rename_i q
      cases e
      subst q
      exact ⟨hx, g, hg, c⟩
    · exact h.key y w e
  · have := congrArg List.length (keys_put (kvs := ms) (k := x) (v := v))
    rw [if_neg nk, List.length_map, List.length_append, List.length_map, List.length_singleton] at this
    exact this
/-- two marks of one cell: the same, or the ties are not even -/
theorem MI.same {ms : List (Int × Int)} (h : MI n TB ms) {c y mc v e : Int} (hc : getK ms c = some mc) (hy : getK ms y = some v) (t : TB c y e ∨ TB y c e) (ne : v ≠ (mc + e) % 2) : ¬ Even TB := by
  obtain ⟨_, g, hg, cg⟩ := h.key c mc hc
  obtain ⟨_, g', hg', cg'⟩ := h.key y v hy
  have c2 : CP TB g y ((mc + e) % 2) := t.elim (fun t => cg.fw t) (fun t => cg.bw t)
  have eg : g' = g := hg'.uniq hg (cg'.conn.trans c2.conn.symm)
  subst eg
  exact not_even cg' c2 ne
end
end DL
set_option Elab.async false
set_option linter.all false
set_option maxRecDepth 100000
set_option maxHeartbeats 1000000
namespace DL
open PySem PySem.Spec L2
/-! the searches for marks -/
theorem whileE_then {S R : Type} {c : S → Option Bool} {b : S → Option (Lp S R)} (I : S → Prop) (m : S → Nat) (R' : R → Prop) (hs : ∀ s, I s → (c s = some true ∧ ((∃ s', b s = some (.nx s') ∧ I s' ∧ m s' < m s) ∨ ∃ r, b s = some (.rt r) ∧ R' r)) ∨ c s = some false) :
    ∀ {s0 : S}, I s0 → (∃ s', whileE c b s0 = some (.nx s') ∧ I s' ∧ c s' = some false) ∨ ∃ r, whileE c b s0 = some (.rt r) ∧ R' r := by
  have go : ∀ (k : Nat) (s0 : S), I s0 → m s0 < k → (∃ s', (∃ n, whileEF c b n s0 = some (.nx s')) ∧ I s' ∧ c s' = some false) ∨ ∃ r, (∃ n, whileEF c b n s0 = some (.rt r)) ∧ R' r := by
    intro k
    induction k with
    | zero => intro s0 _ h; omega
    | succ k ih =>
      intro s0 h0 hm
      rcases hs s0 h0 with ⟨e1, ⟨s', e2, h1, h2⟩ | ⟨r, e2, h1⟩⟩ | e1
      · rcases ih s' h1 (by omega) with ⟨s2, ⟨n, e3⟩, h3, h4⟩ | ⟨r, ⟨n, e3⟩, h3⟩
        · refine .inl ⟨s2, ⟨n + 1, ?_⟩, h3, h4⟩
          unfold whileEF
          rw [e1]
          show (b s0).bind _ = _
          rw [e2]
          exact e3
        · refine .inr ⟨r, ⟨n + 1, ?_⟩, h3⟩
          unfold whileEF
          rw [e1]
          show (b s0).bind _ = _
          rw [e2]
          exact e3
      · refine .inr ⟨r, ⟨1, ?_⟩, h1⟩
        unfold whileEF
        rw [e1]
        show (b s0).bind _ = _
        rw [e2]
        rfl
      · refine .inl ⟨s0, ⟨1, ?_⟩, h0, e1⟩
        unfold whileEF
        rw [e1]
        rfl
  intro s0 h0
  rcases go (m s0 + 1) s0 h0 (by omega) with ⟨s', ⟨n, e⟩, h1, h2⟩ | ⟨r, ⟨n, e⟩, h1⟩
  · exact .inl ⟨s', whileE_eq e, h1, h2⟩
  · exact .inr ⟨r, whileE_eq e, h1⟩
theorem forE_or {S R α : Type} {b : S → α → Option (Lp S R)} (I : Nat → S → Prop) (R' : R → Prop) : ∀ {xs : List α} {n : Nat} {s : S}, (∀ i x s, xs[i]? = some x → I (n + i) s → (∃ s', b s x = some (.nx s') ∧ I (n + i + 1) s') ∨ ∃ r, b s x = some (.rt r) ∧ R' r) → I n s →
    (∃ s', forE b xs s = some (.nx s') ∧ I (n + xs.length) s') ∨ ∃ r, forE b xs s = some (.rt r) ∧ R' r
  | [], n, s, _, h => .inl ⟨s, rfl, h⟩
  | x :: xs, n, s, hs, h => by
    rcases hs 0 x s rfl h with ⟨s', e, h'⟩ | ⟨r, e, h'⟩
    · have := forE_or I R' (xs := xs) (n := n + 1) (s := s') (fun i y t hy ht => by
        have := hs (i + 1) y t hy (by rw [show n + (i + 1) = n + 1 + i by omega]; exact ht)
        rw [show n + (i + 1) + 1 = n + 1 + i + 1 by omega] at this
        exact this) h'
      rcases this with ⟨t, e2, h2⟩ | ⟨r, e2, h2⟩
      · refine .inl ⟨t, ?_, by rw [List.length_cons, show n + (xs.length + 1) = n + 1 + xs.length by omega]; exact h2⟩
        unfold forE
        rw [e]
        exact e2
      · refine .inr ⟨r, ?_, h2⟩
        unfold forE
        rw [e]
        exact e2
    · refine .inr ⟨r, ?_, h'⟩
      unfold forE
      rw [e]
      rfl
/-- a dict that keeps what it had -/
def Keeps (ms ms' : List (Int × Int)) : Prop := ∀ x v, getK ms x = some v → getK ms' x = some v
theorem Keeps.refl (ms : List (Int × Int)) : Keeps ms ms := fun _ _ h => h
theorem Keeps.trans {a b c : List (Int × Int)} (h : Keeps a b) (h' : Keeps b c) : Keeps a c := fun x v e => h' x v (h x v e)
theorem Keeps.put {ms : List (Int × Int)} {x v : Int} (nk : ¬ hasK ms x = true) : Keeps ms (putK' ms x v) := fun y w e => by
  rw [getK_put]
  split
  · rename_i q
    subst q
    exact absurd (hasK_iff.mpr ⟨w, e⟩) nk
  · exact e
theorem Keeps.has {ms ms' : List (Int × Int)} (h : Keeps ms ms') {x : Int} (k : hasK ms x = true) : hasK ms' x = true := by
  obtain ⟨v, e⟩ := hasK_iff.mp k
  exact hasK_iff.mpr ⟨v, h x v e⟩
def mkIn (c : Int) (s : List (Int × Int) × List Int) (x : Int × Bool) : Option (Lp (List (Int × Int) × List Int) (Option (List Int))) :=
  (getK s.1 c).bind fun v27 => (modI (v27 + (b2i x.2)) (2 : Int)).bind fun v28 =>
  cond (!(hasK s.1 x.1)) ((putO s.1 x.1 v28).bind fun m => (appL s.2 x.1).bind fun d => some (Lp.nx (m, d)))
    ((getK s.1 x.1).bind fun v32 => cond (!decide (v32 = v28)) (some (Lp.rt none)) (some (Lp.nx (s.1, s.2))))
def lkIn (c : Int) (s : List (Int × Int) × List Int) (x : Int × Int) : Option (List (Int × Int) × List Int) :=
  cond (!(hasK s.1 x.1)) ((getK s.1 c).bind fun v40 => (modI (v40 + x.2) (2 : Int)).bind fun v41 => (putO s.1 x.1 v41).bind fun m => (appL s.2 x.1).bind fun d => some (m, d)) (some (s.1, s.2))
/-- what one cell's neighbours bring -/
structure Brought (n : Int) (TB : Int → Int → Int → Prop) (c : Int) (ms ms' : List (Int × Int)) (ext : List Int) : Prop where
  mi : MI n TB ms'
  kp : Keeps ms ms'
  key : ∀ x, hasK ms' x = true ↔ hasK ms x = true ∨ x ∈ ext
  con : ∀ x ∈ ext, Conn (tT TB) c x
  len : ms'.length = ms.length + ext.length
section
variable {n : Int} {TB : Int → Int → Int → Prop} {c mc : Int}
theorem Brought.none {ms : List (Int × Int)} (h : MI n TB ms) : Brought n TB c ms ms [] := ⟨h, Keeps.refl _, fun x => by simp, (fun _ h => nomatch h), rfl⟩
theorem Brought.more {ms ms1 ms' : List (Int × Int)} {y v : Int} {ext : List Int} (nk : ¬ hasK ms y = true) (e1 : ms1 = putK' ms y v) (l1 : ms1.length = ms.length + 1) (cy : Conn (tT TB) c y) (h : Brought n TB c ms1 ms' ext) : Brought n TB c ms ms' (y :: ext) := by
  subst e1
  refine ⟨h.mi, (Keeps.put nk).trans h.kp, fun x => ?_, fun x hx => ?_, by rw [h.len, l1, List.length_cons]; omega⟩
  · rw [h.key, hasK_put, Bool.or_eq_true, decide_eq_true_iff, List.mem_cons]
    constructor
    · rintro ((z | z) | z)
      · exact .inr (.inl z.symm)
      · exact .inl z
      · exact .inr (.inr z)
    · rintro (z | z | z)
      · exact .inl (.inr z)
      · exact .inl (.inl z.symm)
      · exact .inr z
  · rcases List.mem_cons.mp hx with rfl | hx
    · exact cy
    · exact h.con x hx
theorem mk_in (hn : n ≤ 36) : ∀ (l : List (Int × Bool)) {ms : List (Int × Int)} {due : List Int}, MI n TB ms → due.length ≤ ms.length → getK ms c = some mc → (∀ p ∈ l, (TB c p.1 (b2i p.2) ∨ TB p.1 c (b2i p.2)) ∧ (0 ≤ p.1 ∧ p.1 < n)) →
    (forE (mkIn c) l (ms, due) = some (.rt none) ∧ ¬ Even TB) ∨ ∃ ms' ext, forE (mkIn c) l (ms, due) = some (.nx (ms', due ++ ext)) ∧ Brought n TB c ms ms' ext ∧ ∀ p ∈ l, getK ms' p.1 = some ((mc + b2i p.2) % 2)
  | [], ms, due, h, _, _, _ => .inr ⟨ms, [], by rw [List.append_nil]; rfl, .none h, fun _ h => nomatch h⟩
  | p :: l, ms, due, h, hd, hc, hl => by
    obtain ⟨tp, rp⟩ := hl p List.mem_cons_self
    have hlen := h.len
    by_cases k : hasK ms p.1 = true
    · obtain ⟨v, ev⟩ := hasK_iff.mp k
      by_cases d : v = (mc + b2i p.2) % 2
      · have e1 : mkIn c (ms, due) p = some (.nx (ms, due)) := by
          unfold mkIn
          simp only [hc, bs, modI_ok (show (0 : Int) < 2 by decide), k, Bool.not_true, cf, ev, decide_eq_true d]
        rcases mk_in hn l h hd hc (fun q hq => hl q (List.mem_cons_of_mem _ hq)) with ⟨e, ne⟩ | ⟨ms', ext, e, b, s⟩
        · refine .inl ⟨?_, ne⟩
          unfold forE
          rw [e1]
          exact e
        · refine .inr ⟨ms', ext, ?_, b, fun q hq => ?_⟩
          · unfold forE
            rw [e1]
            exact e
          · rcases List.mem_cons.mp hq with rfl | hq
            · rw [← d]
              exact b.kp _ _ ev
            · exact s q hq
      · refine .inl ⟨?_, h.same hc ev tp d⟩
        have e1 : mkIn c (ms, due) p = some (.rt none) := by
          unfold mkIn
          simp only [hc, bs, modI_ok (show (0 : Int) < 2 by decide), k, Bool.not_true, cf, ev, decide_eq_false d, Bool.not_false, ct]
        unfold forE
        rw [e1]
        rfl
    · obtain ⟨hcr, g, hg, cg⟩ := h.key c mc hc
      have cy : CP TB g p.1 ((mc + b2i p.2) % 2) := tp.elim (fun t => cg.fw t) (fun t => cg.bw t)
      obtain ⟨h1, l1⟩ := h.put k rp hg cy
      have e1 : mkIn c (ms, due) p = some (.nx (putK' ms p.1 ((mc + b2i p.2) % 2), due ++ [p.1])) := by
        unfold mkIn
        simp only [hc, bs, modI_ok (show (0 : Int) < 2 by decide), Bool.eq_false_iff.mpr k, Bool.not_false, ct]
        rw [putO_ok (by omega), bs, appL_ok (by omega), bs]
      rcases mk_in hn l (due := due ++ [p.1]) h1 (by rw [l1, List.length_append, List.length_singleton]; omega) (Keeps.put k _ _ hc) (fun q hq => hl q (List.mem_cons_of_mem _ hq)) with ⟨e, ne⟩ | ⟨ms', ext, e, b, s⟩
      · refine .inl ⟨?_, ne⟩
        unfold forE
        rw [e1]
        exact e
      · have cc : Conn (tT TB) c p.1 := tp.elim (fun t => (Conn.rfl c).fw ⟨_, t⟩) (fun t => (Conn.rfl c).bw ⟨_, t⟩)
        refine .inr ⟨ms', p.1 :: ext, ?_, b.more k rfl l1 cc, fun q hq => ?_⟩
        · unfold forE
          rw [e1]
          simpa using e
        · rcases List.mem_cons.mp hq with rfl | hq
          · exact b.kp _ _ (by rw [getK_put, if_pos rfl])
          · exact s q hq
theorem lk_in (hn : n ≤ 36) : ∀ (l : List (Int × Int)) {ms : List (Int × Int)} {due : List Int}, MI n TB ms → due.length ≤ ms.length → getK ms c = some mc → (∀ p ∈ l, (TB c p.1 p.2 ∨ TB p.1 c p.2) ∧ (0 ≤ p.1 ∧ p.1 < n)) →
    ∃ ms' ext, forN (lkIn c) l (ms, due) = some (ms', due ++ ext) ∧ Brought n TB c ms ms' ext ∧ ∀ p ∈ l, hasK ms' p.1 = true
  | [], ms, due, h, _, _, _ => ⟨ms, [], by rw [List.append_nil]; rfl, .none h, fun _ h => nomatch h⟩
  | p :: l, ms, due, h, hd, hc, hl => by
    obtain ⟨tp, rp⟩ := hl p List.mem_cons_self
    have hlen := h.len
    by_cases k : hasK ms p.1 = true
    · have e1 : lkIn c (ms, due) p = some (ms, due) := by
        unfold lkIn
        simp only [k, Bool.not_true, cf]
      obtain ⟨ms', ext, e, b, s⟩ := lk_in hn l h hd hc (fun q hq => hl q (List.mem_cons_of_mem _ hq))
      refine ⟨ms', ext, ?_, b, fun q hq => ?_⟩
      · unfold forN
        rw [e1]
        exact e
      · rcases List.mem_cons.mp hq with rfl | hq
        · exact b.kp.has k
        · exact s q hq
    · obtain ⟨hcr, g, hg, cg⟩ := h.key c mc hc
      have cy : CP TB g p.1 ((mc + p.2) % 2) := tp.elim (fun t => cg.fw t) (fun t => cg.bw t)
      obtain ⟨h1, l1⟩ := h.put k rp hg cy
      have e1 : lkIn c (ms, due) p = some (putK' ms p.1 ((mc + p.2) % 2), due ++ [p.1]) := by
        unfold lkIn
        simp only [hc, bs, modI_ok (show (0 : Int) < 2 by decide), Bool.eq_false_iff.mpr k, Bool.not_false, ct]
        rw [putO_ok (by omega), bs, appL_ok (by omega), bs]
      obtain ⟨ms', ext, e, b, s⟩ := lk_in hn l (due := due ++ [p.1]) h1 (by rw [l1, List.length_append, List.length_singleton]; omega) (Keeps.put k _ _ hc) (fun q hq => hl q (List.mem_cons_of_mem _ hq))
      have cc : Conn (tT TB) c p.1 := tp.elim (fun t => (Conn.rfl c).fw ⟨_, t⟩) (fun t => (Conn.rfl c).bw ⟨_, t⟩)
      refine ⟨ms', p.1 :: ext, ?_, b.more k rfl l1 cc, fun q hq => ?_⟩
      · unfold forN
        rw [e1]
        simpa using e
      · rcases List.mem_cons.mp hq with rfl | hq
        · exact b.kp.has (hasK_iff.mpr ⟨_, by rw [getK_put, if_pos rfl]⟩)
        · exact s q hq
end
end DL
set_option Elab.async false
set_option linter.all false
set_option maxRecDepth 100000
set_option maxHeartbeats 1000000
namespace DL
open PySem PySem.Spec L2
theorem eqO_nil (xs : List Int) : eqO (.lst (List.map D.int xs)) (.lst (List.map D.int ([] : List Int))) = some (decide (xs = [])) := by
  cases xs with
  | nil => exact eqO_self (ok_ints [])
  | cons x xs =>
    unfold eqO
    rw [if_pos ⟨ok_ints (x :: xs), ok_ints []⟩]
    rfl
theorem popL_snoc {α : Type} (xs : List α) (x : α) : popL (xs ++ [x]) = some (x, xs) := by
  unfold popL
  rw [List.length_append, List.length_singleton, Nat.add_sub_cancel, List.getElem?_append_right (Nat.le_refl _), Nat.sub_self]
  simp
/-- what near tells of ties with rests -/
def NearT {α : Type} (val : α → Int) (n : Int) (TB : Int → Int → Int → Prop) (near : List (List (Int × α))) : Prop :=
  (∀ x, 0 ≤ x → x < n → ∃ l, ixI near x = some l ∧ (∀ p ∈ l, (TB x p.1 (val p.2) ∨ TB p.1 x (val p.2)) ∧ (0 ≤ p.1 ∧ p.1 < n)) ∧ ∀ y e, TB x y e ∨ TB y x e → ∃ p ∈ l, p.1 = y ∧ val p.2 = e)
def condL {β : Type} (s : β × List Int) : Option Bool := (eqO (.lst (List.map D.int s.2)) (.lst (List.map D.int ([] : List Int)))).bind fun v => some (!v)
theorem condL_eq {β : Type} (s : β × List Int) : condL s = some (!decide (s.2 = [])) := by
  unfold condL
  rw [eqO_nil, bs]
def mkB (near : List (List (Int × Bool))) (s : List (Int × Int) × List Int) : Option (Lp (List (Int × Int) × List Int) (Option (List Int))) :=
  (popL s.2).bind fun v => (ixI near v.1).bind fun l => (forE (mkIn v.1) l (s.1, v.2)).bind fun e => lpK e (fun t => some (Lp.nx (t.1, t.2))) (fun r => some (Lp.rt r))
def lkB (near : List (List (Int × Int))) (s : List (Int × Int) × List Int) : Option (List (Int × Int) × List Int) :=
  (popL s.2).bind fun v => (ixI near v.1).bind fun l => (forN (lkIn v.1) l (s.1, v.2)).bind fun t => some (t.1, t.2)
section
variable {n : Int} {TB : Int → Int → Int → Prop} {f : Int}
/-- all that hangs together with what stands below k is marked -/
def Upto (n : Int) (TB : Int → Int → Int → Prop) (k : Int) (ms : List (Int × Int)) : Prop := ∀ x, hasK ms x = true ↔ (0 ≤ x ∧ x < n) ∧ ∃ f, 0 ≤ f ∧ f < k ∧ Conn (tT TB) f x
def Done (TB : Int → Int → Int → Prop) (ms : List (Int × Int)) : Prop := ∀ x v, getK ms x = some v → ∀ y e, TB x y e ∨ TB y x e → getK ms y = some ((v + e) % 2)
theorem Upto.skip {k : Int} {ms : List (Int × Int)} (h : Upto n TB k ms) (hk : hasK ms k = true) : Upto n TB (k + 1) ms := fun x => by
  rw [h]
  obtain ⟨_, f, f0, f1, fc⟩ := (h k).mp hk
  refine and_congr_right fun _ => ⟨fun ⟨g, z1, z2, z3⟩ => ⟨g, z1, by omega, z3⟩, fun ⟨g, z1, z2, z3⟩ => ?_⟩
  by_cases d : g < k
  · exact ⟨g, z1, d, z3⟩
  · have : g = k := by omega
    subst this
    exact ⟨f, f0, f1, fc.trans z3⟩
theorem Upto.first {k : Int} {ms : List (Int × Int)} (h : Upto n TB k ms) (h0 : 0 ≤ k) (h1 : k < n) (hk : ¬ hasK ms k = true) : First n TB k :=
  ⟨⟨h0, h1⟩, fun y y0 y1 yc => hk ((h k).mpr ⟨⟨h0, h1⟩, y, y0, y1, yc.symm⟩)⟩
theorem Upto.next {k : Int} {ms ms' : List (Int × Int)} (h : Upto n TB k ms) (h0 : 0 ≤ k) (e : ∀ x, hasK ms' x = true ↔ hasK ms x = true ∨ ((0 ≤ x ∧ x < n) ∧ Conn (tT TB) k x)) : Upto n TB (k + 1) ms' := fun x => by
  rw [e, h]
  constructor
  · rintro (⟨z, g, z1, z2, z3⟩ | ⟨z, zc⟩)
    · exact ⟨z, g, z1, by omega, z3⟩
    · exact ⟨z, k, h0, by omega, zc⟩
  · rintro ⟨z, g, z1, z2, z3⟩
    by_cases d : g < k
    · exact .inl ⟨z, g, z1, d, z3⟩
    · have : g = k := by omega
      subst this
      exact .inr ⟨z, z3⟩
/-- one class is marked, or the ties are not even -/
theorem mk_class {near : List (List (Int × Bool))} (hn : n ≤ 36) (N : NearT b2i n TB near) {ms0 : List (Int × Int)} (h0 : MI n TB ms0) (d0 : Done TB ms0) (hf : First n TB f) (nk : ¬ hasK ms0 f = true) :
    (∃ ms', whileE condL (mkB near) (putK' ms0 f 0, [f]) = some (.nx (ms', [])) ∧ MI n TB ms' ∧ Done TB ms' ∧ ∀ x, hasK ms' x = true ↔ hasK ms0 x = true ∨ ((0 ≤ x ∧ x < n) ∧ Conn (tT TB) f x)) ∨ (whileE condL (mkB near) (putK' ms0 f 0, [f]) = some (.rt none) ∧ ¬ Even TB) := by
  obtain ⟨h1, l1⟩ := h0.put nk hf.1 hf (.rfl f)
  let I : List (Int × Int) × List Int → Prop := fun s => MI n TB s.1 ∧ s.2.length ≤ s.1.length ∧ (∀ x ∈ s.2, Conn (tT TB) f x ∧ hasK s.1 x = true) ∧ Keeps ms0 s.1 ∧ (∀ x, hasK s.1 x = true → hasK ms0 x = true ∨ Conn (tT TB) f x) ∧ hasK s.1 f = true ∧
    ∀ x v, getK s.1 x = some v → x ∈ s.2 ∨ ∀ y e, TB x y e ∨ TB y x e → getK s.1 y = some ((v + e) % 2)
  have start : I (putK' ms0 f 0, [f]) := by
    refine ⟨h1, by rw [l1]; simp, fun x hx => ?_, Keeps.put nk, fun x hx => ?_, hasK_iff.mpr ⟨0, by rw [getK_put, if_pos rfl]⟩, fun x v e => ?_⟩
    · rw [List.mem_singleton] at hx
      subst hx
      exact ⟨.rfl _, hasK_iff.mpr ⟨0, by rw [getK_put, if_pos rfl]⟩⟩
    · rw [hasK_put, Bool.or_eq_true, decide_eq_true_iff] at hx
      rcases hx with z | z
      · exact .inr (z ▸ .rfl _)
      · exact .inl z
    · rw [getK_put] at e
      split at e
      · rename_i q
        exact .inl (by simp [q])
      · exact .inr fun y e' t => Keeps.put nk _ _ (d0 x v e y e' t)
  have key := whileE_then (c := condL) (b := mkB near) I (fun s => 2 * (n.toNat - s.1.length) + s.2.length) (fun r => r = none ∧ ¬ Even TB) (fun s hI => ?_) start
  · rcases key with ⟨⟨ms', due⟩, e, ⟨hm, _, _, hk, hold, hff, hd⟩, hc⟩ | ⟨r, e, rfl, ne⟩
    · have du : due = [] := by
        rw [condL_eq] at hc
        by_cases z : due = []
        · exact z
        · simp [z] at hc
      subst du
      have dn : Done TB ms' := fun x v e => (hd x v e).elim (fun z => nomatch z) id
      refine .inl ⟨ms', e, hm, dn, fun x => ⟨fun z => (hold x z).elim .inl fun c => .inr ⟨hm.lt z, c⟩, ?_⟩⟩
      rintro (z | ⟨-, c⟩)
      · exact hk.has z
      · have cl : ∀ {a y : Int}, hasK ms' a = true → (∃ e, TB a y e ∨ TB y a e) → hasK ms' y = true := fun {a y} ha ⟨e, t⟩ => by
          obtain ⟨v, ev⟩ := hasK_iff.mp ha
          exact hasK_iff.mpr ⟨_, dn a v ev y e t⟩
        induction c with
        | rfl => exact hff
        | fw _ t ih => obtain ⟨e, t⟩ := t; exact cl ih ⟨e, .inl t⟩
        | bw _ t ih => obtain ⟨e, t⟩ := t; exact cl ih ⟨e, .inr t⟩
    · exact .inr ⟨e, ne⟩
  · obtain ⟨ms, due⟩ := s
    obtain ⟨hm, hl, hdu, hk, hold, hff, hd⟩ := hI
    rw [condL_eq]
    by_cases z : due = []
    · exact .inr (by simp [z])
    · refine .inl ⟨by simp [z], ?_⟩
      obtain ⟨due', c, rfl⟩ : ∃ l x, due = l ++ [x] := ⟨due.dropLast, due.getLast z, (List.dropLast_concat_getLast z).symm⟩
      obtain ⟨cc, ck⟩ := hdu c (by simp)
      obtain ⟨mc, ec⟩ := hasK_iff.mp ck
      obtain ⟨c0, c1⟩ := hm.lt ck
      obtain ⟨l, en, hl1, hl2⟩ := N c c0 c1
      have lm := hm.len
      rw [List.length_append, List.length_singleton] at hl
      rcases mk_in hn l (due := due') hm (by omega) ec hl1 with ⟨e, ne⟩ | ⟨ms', ext, e, b, st⟩
      · refine .inr ⟨none, ?_, rfl, ne⟩
        unfold mkB
        show (popL (due' ++ [c])).bind _ = _
        rw [popL_snoc, bs, en, bs, e]
        rfl
      · refine .inl ⟨(ms', due' ++ ext), ?_, ⟨b.mi, by rw [List.length_append, b.len]; omega, fun x hx => ?_, hk.trans b.kp, fun x hx => ?_, b.kp.has hff, fun x v ev => ?_⟩, ?_⟩
        · unfold mkB
          show (popL (due' ++ [c])).bind _ = _
          rw [popL_snoc, bs, en, bs, e]
          rfl
        · rcases List.mem_append.mp hx with hx | hx
          · obtain ⟨a1, a2⟩ := hdu x (by simp [hx])
            exact ⟨a1, b.kp.has a2⟩
          · exact ⟨cc.trans (b.con x hx), (b.key x).mpr (.inr hx)⟩
        · rcases (b.key x).mp hx with q | q
          · exact hold x q
          · exact .inr (cc.trans (b.con x q))
        · by_cases q : hasK ms x = true
          · obtain ⟨v', ev'⟩ := hasK_iff.mp q
            have := b.kp x v' ev'
            rw [ev] at this
            cases this
            rcases hd x v ev' with w | w
            · rcases List.mem_append.mp w with w | w
              · exact .inl (by simp [w])
              · rw [List.mem_singleton] at w
                subst w
                rw [ec] at ev'
                cases ev'
                refine .inr fun y e' t => ?_
                obtain ⟨p, hp, rfl, rfl⟩ := hl2 y e' t
                exact st p hp
            · exact .inr fun y e' t => b.kp _ _ (w y e' t)
          · rcases (b.key x).mp (hasK_iff.mpr ⟨v, ev⟩) with w | w
            · exact absurd w q
            · exact .inl (by simp [w])
        · have := b.mi.len
          have := b.len
          simp only [List.length_append, List.length_singleton] at *
          omega
/-- the same, of the law -/
theorem lk_class {near : List (List (Int × Int))} (hn : n ≤ 36) (N : NearT (fun e => e) n TB near) {ms0 ms1 : List (Int × Int)} {due0 : List Int} (h1 : MI n TB ms1) (hl1 : due0.length ≤ ms1.length) (hk0 : ∀ x, hasK ms1 x = true ↔ hasK ms0 x = true ∨ x = f) (hf0 : 0 ≤ f ∧ f < n)
    (cl0 : ∀ x, hasK ms0 x = true → ∀ y e, TB x y e ∨ TB y x e → hasK ms0 y = true) (hdu : due0 = [f] ∨ (due0 = [] ∧ hasK ms0 f = true)) :
    ∃ ms', whileU condL (lkB near) (ms1, due0) = some (ms', []) ∧ MI n TB ms' ∧ ∀ x, hasK ms' x = true ↔ hasK ms0 x = true ∨ ((0 ≤ x ∧ x < n) ∧ Conn (tT TB) f x) := by
  let I : List (Int × Int) × List Int → Prop := fun s => MI n TB s.1 ∧ s.2.length ≤ s.1.length ∧ (∀ x ∈ s.2, Conn (tT TB) f x ∧ hasK s.1 x = true) ∧ (∀ x, hasK ms1 x = true → hasK s.1 x = true) ∧ (∀ x, hasK s.1 x = true → hasK ms0 x = true ∨ Conn (tT TB) f x) ∧
    ∀ x, hasK s.1 x = true → x ∈ s.2 ∨ ∀ y e, TB x y e ∨ TB y x e → hasK s.1 y = true
  have start : I (ms1, due0) := by
    refine ⟨h1, hl1, fun x hx => ?_, fun _ h => h, fun x hx => ?_, fun x hx => ?_⟩
    · rcases hdu with rfl | ⟨rfl, _⟩
      · rw [List.mem_singleton] at hx
        subst hx
        exact ⟨.rfl _, (hk0 _).mpr (.inr rfl)⟩
      · cases hx
    · rcases (hk0 x).mp hx with z | z
      · exact .inl z
      · exact .inr (z ▸ .rfl _)
    · rcases (hk0 x).mp hx with z | z
      · exact .inr fun y e t => (hk0 y).mpr (.inl (cl0 x z y e t))
      · subst z
        rcases hdu with rfl | ⟨rfl, q⟩
        · exact .inl (by simp)
        · exact .inr fun y e t => (hk0 y).mpr (.inl (cl0 _ q y e t))
  have key := while_then (c := condL) (b := lkB near) I (fun s => 2 * (n.toNat - s.1.length) + s.2.length) (fun s hI => ?_) start
  · obtain ⟨⟨ms', due⟩, e, ⟨hm, _, _, hk, hold, hd⟩, hc⟩ := key
    have du : due = [] := by
      rw [condL_eq] at hc
      by_cases z : due = []
      · exact z
      · simp [z] at hc
    subst du
    refine ⟨ms', e, hm, fun x => ⟨fun z => (hold x z).elim .inl fun c => .inr ⟨hm.lt z, c⟩, ?_⟩⟩
    rintro (z | ⟨-, c⟩)
    · exact hk x ((hk0 x).mpr (.inl z))
    · have cl : ∀ {a y : Int}, hasK ms' a = true → (∃ e, TB a y e ∨ TB y a e) → hasK ms' y = true := fun {a y} ha ⟨e, t⟩ => (hd a ha).elim (fun z => nomatch z) fun h => h y e t
      induction c with
      | rfl => exact hk f ((hk0 f).mpr (.inr rfl))
      | fw _ t ih => obtain ⟨e, t⟩ := t; exact cl ih ⟨e, .inl t⟩
      | bw _ t ih => obtain ⟨e, t⟩ := t; exact cl ih ⟨e, .inr t⟩
  · obtain ⟨ms, due⟩ := s
    obtain ⟨hm, hl, hdu, hk, hold, hd⟩ := hI
    rw [condL_eq]
    by_cases z : due = []
    · exact .inr (by simp [z])
    · refine .inl ⟨by simp [z], ?_⟩
      obtain ⟨due', c, rfl⟩ : ∃ l x, due = l ++ [x] := ⟨due.dropLast, due.getLast z, (List.dropLast_concat_getLast z).symm⟩
      obtain ⟨cc, ck⟩ := hdu c (by simp)
      obtain ⟨mc, ec⟩ := hasK_iff.mp ck
      obtain ⟨c0, c1⟩ := hm.lt ck
      obtain ⟨l, en, hl1, hl2⟩ := N c c0 c1
      have lm := hm.len
      rw [List.length_append, List.length_singleton] at hl
      obtain ⟨ms', ext, e, b, st⟩ := lk_in hn l (due := due') hm (by omega) ec hl1
      refine ⟨(ms', due' ++ ext), ?_, ⟨b.mi, by rw [List.length_append, b.len]; omega, fun x hx => ?_, fun x hx => b.kp.has (hk x hx), fun x hx => ?_, fun x hx => ?_⟩, ?_⟩
      · unfold lkB
        show (popL (due' ++ [c])).bind _ = _
        rw [popL_snoc, bs, en, bs, e]
        rfl
      · rcases List.mem_append.mp hx with hx | hx
        · obtain ⟨a1, a2⟩ := hdu x (by simp [hx])
          exact ⟨a1, b.kp.has a2⟩
        · exact ⟨cc.trans (b.con x hx), (b.key x).mpr (.inr hx)⟩
      · rcases (b.key x).mp hx with q | q
        · exact hold x q
        · exact .inr (cc.trans (b.con x q))
      · rcases (b.key x).mp hx with q | q
        · rcases hd x q with w | w
          · rcases List.mem_append.mp w with w | w
            · exact .inl (by simp [w])
            · rw [List.mem_singleton] at w
              subst w
              refine .inr fun y e' t => ?_
              obtain ⟨p, hp, rfl, rfl⟩ := hl2 y e' t
              exact st p hp
          · exact .inr fun y e' t => b.kp.has (w y e' t)
        · exact .inl (by simp [q])
      · have := b.mi.len
        have := b.len
        simp only [List.length_append, List.length_singleton] at *
        omega
/-- the marks are told, or the ties are not even -/
theorem marks_res {ms : List (Int × Int)} (h : MI n TB ms) (all : ∀ x, 0 ≤ x → x < n → hasK ms x = true) (hT : ∀ x y e, TB x y e → (0 ≤ x ∧ x < n) ∧ (0 ≤ y ∧ y < n)) (ok : ∀ x y e mx my, TB x y e → getK ms x = some mx → getK ms y = some my → (mx + my + e) % 2 = 0) : MarkOk n TB fun x => (getK ms x).getD 0 := by
  have ft : Fits TB fun x => (getK ms x).getD 0 := fun x y e t => by
    obtain ⟨hx, hy⟩ := hT x y e t
    obtain ⟨mx, ex⟩ := hasK_iff.mp (all x hx.1 hx.2)
    obtain ⟨my, ey⟩ := hasK_iff.mp (all y hy.1 hy.2)
    show ((getK ms x).getD 0 + (getK ms y).getD 0 + e) % 2 = 0
    rw [ex, ey]
    exact ok x y e mx my t ex ey
  refine ⟨ft, fun x x0 x1 => ?_, fun f hf => ?_⟩
  · obtain ⟨v, e⟩ := hasK_iff.mp (all x x0 x1)
    obtain ⟨_, g, _, cg⟩ := h.key x v e
    show 0 ≤ (getK ms x).getD 0 ∧ (getK ms x).getD 0 ≤ 1
    rw [e]
    exact cg.rest
  · obtain ⟨v, e⟩ := hasK_iff.mp (all f hf.1.1 hf.1.2)
    obtain ⟨_, g, hg, cg⟩ := h.key f v e
    have eg : g = f := hg.uniq hf cg.conn
    subst eg
    have := cg.fits ft
    have r := cg.rest
    show (getK ms g).getD 0 = 0
    rw [e]
    simp only [Option.getD_some]
    omega
end
end DL
set_option Elab.async false
set_option linter.all false
set_option maxRecDepth 100000
set_option maxHeartbeats 1000000
namespace G
open PySem PySem.Spec L2 DL
/-! the marks, as told -/
section
variable {b : Board} {bk : List Rule} (hb : b.ok 36) (h : BkOk b bk)
include hb h
theorem nearT_prog {acc : List (List (Int × Bool))} (g : NearOk b.cells (fun x y (e : Bool) => TieB b bk x y (b2i e) ∨ TieB b bk y x (b2i e)) 6000 acc) : NearT b2i b.cells (TieB b bk) acc := fun x h0 h1 => by
  obtain ⟨l, e1, e2, e3⟩ := g.2 x h0 h1
  refine ⟨l, ixI_of h0 e1, fun p hp => ?_, fun y e t => ?_⟩
  · have := (e2 p.1 p.2).mp hp
    refine ⟨this, ?_⟩
    rcases this with t | t
    · exact (t.lt hb h).2.1
    · exact (t.lt hb h).1
  · have he : 0 ≤ e ∧ e ≤ 1 := t.elim (fun t => (t.lt hb h).2.2) (fun t => (t.lt hb h).2.2)
    obtain ⟨c, rfl⟩ : ∃ c : Bool, b2i c = e := by
      by_cases q : e = 0
      · exact ⟨false, q.symm⟩
      · exact ⟨true, by show (1 : Int) = e; omega⟩
    exact ⟨(y, c), (e2 y c).mpr t, rfl, rfl⟩
theorem marks_found_ok : ∃ r, t_marks_found b bk = some r ∧ MarkRes b.cells (TieB b bk) r := by
  have hp := Board.cells_pos hb
  obtain ⟨near, e1, g⟩ := near_cells_ok hb h
  have N := nearT_prog hb h g
  have nl := g.1
  have hT : ∀ x y e, TieB b bk x y e → (0 ≤ x ∧ x < b.cells) ∧ (0 ≤ y ∧ y < b.cells) := fun x y e t => ⟨(t.lt hb h).1, (t.lt hb h).2.1⟩
  unfold t_marks_found
  rw [e1, bs, nl, rngO_ok (by decide) (by omega), bs, show (((b.cells.toNat : Nat) : Int)) = b.cells by omega]
  have key := forE_or (R := Option (List Int)) (b := fun (s3 : (List (Int × Int))) (x4 : Int) => cond (hasK s3 x4) (some (Lp.nx s3)) ((putO s3 x4 (0 : Int)).bind fun marks_12 => (whileE (R := (Option (List Int))) condL (mkB near) (marks_12, ([x4] : List Int))).bind fun s39e => lpK s39e (fun s39 => some (Lp.nx s39.1)) (fun r => some (Lp.rt r))))
    (fun i ms => MI b.cells (TieB b bk) ms ∧ Done (TieB b bk) ms ∧ Upto b.cells (TieB b bk) (i : Int) ms) (fun r => r = none ∧ ¬ Even (TieB b bk)) (xs := rangeI 0 b.cells) (n := 0) (s := []) (fun i x s hx hI => ?_) ⟨⟨List.nodup_nil, fun _ _ e => by cases e⟩, fun _ _ e => by (cases e), fun x => ⟨fun z => (by cases z), fun ⟨_, f, z1, z2, _⟩ => by (have z2' : f < (0 : Int) := z2; omega)⟩⟩
  · unfold condL mkB mkIn at key
    rcases key with ⟨ms, e, hm, hd, hu⟩ | ⟨r, e, rfl, ne⟩
    · rw [e, bs]
      rw [rangeI_len, Nat.zero_add, show (((b.cells - 0).toNat : Nat) : Int) = b.cells by omega] at hu
      have all : ∀ x, 0 ≤ x → x < b.cells → hasK ms x = true := fun x x0 x1 => (hu x).mpr ⟨⟨x0, x1⟩, x, x0, x1, .rfl _⟩
      refine ⟨some ((rangeI 0 b.cells).map fun x => (getK ms x).getD 0), ?_, .inl ⟨_, rfl, marks_res hm all hT fun x y e mx my t ex ey => ?_⟩⟩
      · dsimp only [lpK]
        rw [bs, mapO_ok (fun x => (getK ms x).getD 0) (fun x hx => ?_) (by rw [rangeI_len]; omega), bs]
        obtain ⟨x0, x1⟩ := mem_rangeI.mp hx
        obtain ⟨v, ev⟩ := hasK_iff.mp (all x x0 x1)
        rw [ev, bs]
        rfl
      · have := hd x mx ex y e (.inl t)
        rw [ey] at this
        have := Option.some.inj this
        omega
    · rw [e, bs]
      exact ⟨none, rfl, .inr ⟨rfl, ne⟩⟩
  · obtain ⟨hm, hd, hu⟩ := hI
    rw [Nat.zero_add] at hu
    obtain ⟨rfl, hi⟩ := rangeI_get hx
    rw [Int.zero_add] at *
    have hi' : (i : Int) < b.cells := by omega
    have lm := hm.len
    by_cases c : hasK s (i : Int) = true
    · refine .inl ⟨s, by rw [c]; rfl, hm, hd, ?_⟩
      have := hu.skip c
      rw [Nat.zero_add]
      exact_mod_cast this
    · have hf := hu.first (Int.natCast_nonneg i) hi' c
      rw [Bool.eq_false_iff.mpr c, cf, putO_ok (by omega), bs]
      rcases mk_class hp.2 N hm hd hf c with ⟨ms', e, hm', hd', hk'⟩ | ⟨e, ne⟩
      · rw [e, bs]
        refine .inl ⟨ms', rfl, hm', hd', ?_⟩
        have := hu.next (Int.natCast_nonneg i) hk'
        rw [Nat.zero_add]
        exact_mod_cast this
      · rw [e, bs]
        exact .inr ⟨none, rfl, rfl, ne⟩
end
end G
set_option Elab.async false
set_option linter.all false
set_option maxRecDepth 100000
set_option maxHeartbeats 1000000
namespace DL
open PySem PySem.Spec L2
/-! steps of several lengths along a line, and their greatest common measure -/
def msr (ds : List Int) : Int := ds.foldl (fun f d => ((Int.gcd f d : Nat) : Int)) 0
theorem msr_snoc (ds : List Int) (d : Int) : msr (ds ++ [d]) = ((Int.gcd (msr ds) d : Nat) : Int) := by
  unfold msr
  rw [List.foldl_append]
  rfl
theorem gcd_keep {P : Nat → Prop} (h0 : P 0) (hm : ∀ p q, 0 < p → P p → P q → P (q % p)) (m n : Nat) : P m → P n → P (Nat.gcd m n) := by
  induction m, n using Nat.gcd.induction with
  | H0 n => intro _ hn; rw [Nat.gcd_zero_left]; exact hn
  | H1 m n hpos ih =>
    intro hm' hn
    rw [Nat.gcd_rec]
    exact ih (hm m n hpos hm' hn) hm'
theorem foldl_keep {P : Nat → Prop} (h0 : P 0) (hm : ∀ p q, 0 < p → P p → P q → P (q % p)) : ∀ {ds : List Int} {f : Int}, 0 ≤ f → P f.toNat → (∀ d ∈ ds, 0 ≤ d ∧ P d.toNat) → 0 ≤ ds.foldl (fun f d => ((Int.gcd f d : Nat) : Int)) f ∧ P (ds.foldl (fun f d => ((Int.gcd f d : Nat) : Int)) f).toNat
  | [], f, z, hf, _ => ⟨z, hf⟩
  | d :: ds, f, z, hf, hd => by
    have hd1 := hd d (List.mem_cons_self ..)
    refine foldl_keep h0 hm (ds := ds) (f := ((Int.gcd f d : Nat) : Int)) (by omega) ?_ fun e he => hd e (List.mem_cons_of_mem _ he)
    rw [Int.toNat_natCast]
    have e : Int.gcd f d = Nat.gcd f.toNat d.toNat := by
      unfold Int.gcd
      rw [show f.natAbs = f.toNat by omega, show d.natAbs = d.toNat by omega]
    rw [e]
    exact gcd_keep h0 hm _ _ hf hd1.2
theorem msr_keep {P : Nat → Prop} (h0 : P 0) (hm : ∀ p q, 0 < p → P p → P q → P (q % p)) {ds : List Int} (hd : ∀ d ∈ ds, 0 ≤ d ∧ P d.toNat) : 0 ≤ msr ds ∧ P (msr ds).toNat := foldl_keep h0 hm (Int.le_refl 0) h0 hd
theorem foldl_dvd : ∀ {ds : List Int} {f : Int}, (ds.foldl (fun f d => ((Int.gcd f d : Nat) : Int)) f ∣ f) ∧ ∀ d ∈ ds, ds.foldl (fun f d => ((Int.gcd f d : Nat) : Int)) f ∣ d
  | [], f => ⟨Int.dvd_refl f, fun d h => nomatch h⟩
  | e :: ds, f => by
    obtain ⟨h1, h2⟩ := foldl_dvd (ds := ds) (f := ((Int.gcd f e : Nat) : Int))
    refine ⟨Int.dvd_trans h1 (Int.gcd_dvd_left ..), fun d hd => ?_⟩
    rcases List.mem_cons.mp hd with rfl | hd
    · exact Int.dvd_trans h1 (Int.gcd_dvd_right ..)
    · exact h2 d hd
theorem msr_dvd {ds : List Int} {d : Int} (h : d ∈ ds) : msr ds ∣ d := (foldl_dvd (ds := ds) (f := 0)).2 d h
theorem msr_pos {ds : List Int} (h : ∀ d ∈ ds, 0 < d) (ne : ds ≠ []) : 0 < msr ds := by
  cases ds with
  | nil => exact absurd rfl ne
  | cons d ds =>
    have h1 := (msr_keep (P := fun _ => True) trivial (fun _ _ _ _ _ => trivial) (ds := d :: ds) fun e he => ⟨by have := h e he; omega, trivial⟩).1
    have h2 := msr_dvd (List.mem_cons_self (a := d) (l := ds))
    have h3 := h d (List.mem_cons_self ..)
    rcases Int.lt_or_eq_of_le h1 with q | q
    · exact q
    · rw [← q] at h2
      have := Int.zero_dvd.mp h2
      omega
section
variable {C : Int → Int → Prop} (rf : ∀ x, C x x) (sy : ∀ x y, C x y → C y x) (tr : ∀ x y z, C x y → C y z → C x z) {m : Int}
/-- steps of d lead on, all along the line -/
def Steps (C : Int → Int → Prop) (m : Int) (d : Nat) : Prop := 2 * (d : Int) ≤ m ∧ ∀ x, 0 ≤ x → x + (d : Int) < m → C x (x + (d : Int))
include sy tr in
theorem steps_sub {p q : Nat} (hp : Steps C m p) (hq : Steps C m q) (le : p ≤ q) : Steps C m (q - p) := by
  refine ⟨by have := hq.1; omega, fun x h0 h1 => ?_⟩
  have e : ((q - p : Nat) : Int) = (q : Int) - (p : Int) := by omega
  rw [e] at h1 ⊢
  have a := hp.1
  have b := hq.1
  by_cases c : x + (q : Int) < m
  · have s1 := hq.2 x h0 c
    have s2 := hp.2 (x + ((q : Int) - p)) (by omega) (by omega)
    rw [show x + ((q : Int) - p) + p = x + q by omega] at s2
    exact tr _ _ _ s1 (sy _ _ s2)
  · have s1 := hp.2 (x - p) (by omega) (by omega)
    have s2 := hq.2 (x - p) (by omega) (by omega)
    rw [show x - (p : Int) + p = x by omega] at s1
    rw [show x - (p : Int) + q = x + ((q : Int) - p) by omega] at s2
    exact tr _ _ _ (sy _ _ s1) s2
include sy tr in
theorem steps_mod {p : Nat} (hp : Steps C m p) (h0 : 0 < p) : ∀ {q : Nat}, Steps C m q → Steps C m (q % p) := by
  intro q
  induction q using Nat.strongRecOn with
  | _ q ih =>
    intro hq
    by_cases le : p ≤ q
    · rw [Nat.mod_eq_sub_mod le]
      exact ih (q - p) (by omega) (steps_sub sy tr hp hq le)
    · rw [Nat.mod_eq_of_lt (by omega)]
      exact hq
include rf sy tr in
theorem steps_msr (hm : 0 ≤ m) {ds : List Int} (hd : ∀ d ∈ ds, 0 ≤ d ∧ Steps C m d.toNat) : 0 ≤ msr ds ∧ Steps C m (msr ds).toNat :=
  msr_keep (P := Steps C m) ⟨by omega, fun x _ _ => by show C x (x + 0); rw [Int.add_zero]; exact rf x⟩ (fun p q h0 hp hq => steps_mod sy tr hp h0 hq) hd
include rf tr in
theorem steps_many {d : Nat} (h : Steps C m d) : ∀ (k : Nat) (x : Int), 0 ≤ x → x + (k : Int) * d < m → C x (x + (k : Int) * d)
  | 0, x, _, _ => by
    rw [show x + ((0 : Nat) : Int) * d = x by omega]
    exact rf x
  | k + 1, x, h0, h1 => by
    have e : (((k + 1 : Nat)) : Int) * d = (k : Int) * d + d := by
      rw [show ((k + 1 : Nat) : Int) = (k : Int) + 1 by omega, Int.add_mul, Int.one_mul]
    rw [e] at h1 ⊢
    have kd : 0 ≤ (k : Int) * d := Int.mul_nonneg (by omega) (by omega)
    have s1 := steps_many h k x h0 (by omega)
    have s2 := h.2 (x + (k : Int) * d) (by omega) (by omega)
    rw [Int.add_assoc] at s2
    exact tr _ _ _ s1 s2
include rf sy tr in
/-- two of one rest are led to each other -/
theorem line_conn (hm : 0 ≤ m) {ds : List Int} (hd : ∀ d ∈ ds, 0 ≤ d ∧ Steps C m d.toNat) {x y : Int} (hx : 0 ≤ x ∧ x < m) (hy : 0 ≤ y ∧ y < m) (e : x % msr ds = y % msr ds) : C x y := by
  obtain ⟨g0, gs⟩ := steps_msr rf sy tr hm hd
  have key : ∀ x y : Int, (0 ≤ x ∧ x < m) → (0 ≤ y ∧ y < m) → x ≤ y → x % msr ds = y % msr ds → C x y := by
    intro x y hx hy le e
    have dv : msr ds ∣ y - x := Int.dvd_of_emod_eq_zero ((Int.emod_eq_emod_iff_emod_sub_eq_zero).mp e.symm)
    obtain ⟨k, hk⟩ := dv
    by_cases z : msr ds = 0
    · rw [z, Int.zero_mul] at hk
      rw [show y = x by omega]
      exact rf x
    · have gp : 0 < msr ds := by omega
      have k0 : 0 ≤ k := by
        rcases Int.lt_or_le k 0 with q | q
        · have : msr ds * k < 0 := Int.mul_neg_of_pos_of_neg gp q
          omega
        · exact q
      have s := steps_many rf tr gs k.toNat x hx.1 (by
        rw [show ((k.toNat : Nat) : Int) = k by omega, show (((msr ds).toNat : Nat) : Int) = msr ds by omega, Int.mul_comm, ← hk]
        omega)
      rw [show ((k.toNat : Nat) : Int) = k by omega, show (((msr ds).toNat : Nat) : Int) = msr ds by omega, Int.mul_comm, ← hk, show x + (y - x) = y by omega] at s
      exact s
  rcases Int.le_total x y with q | q
  · exact key x y hx hy q e
  · exact sy _ _ (key y x hy hx q e.symm)
end
end DL
set_option Elab.async false
set_option linter.all false
set_option maxRecDepth 100000
set_option maxHeartbeats 1000000
namespace G
open PySem PySem.Spec L2 DL
theorem measure_ok {ds : List Int} (hd : ∀ d ∈ ds, 0 ≤ d) : t__law_measure ds = some (msr ds) := by
  unfold t__law_measure
  have nn : ∀ i, 0 ≤ msr (ds.take i) := fun i => (msr_keep (P := fun _ => True) trivial (fun _ _ _ _ _ => trivial) fun d hm => ⟨hd d (List.mem_of_mem_take hm), trivial⟩).1
  refine forN_then (fun i s => s = msr (ds.take i)) (by rw [List.take_zero]; rfl) (fun i x s hx e => ?_) fun s e => ?_
  · subst e
    have hx0 := hd x (List.mem_of_getElem? hx)
    have h0 := nn i
    generalize hm : msr (ds.take i) = f at h0
    obtain ⟨s', e1, ⟨i1, i2, i3⟩, e2⟩ := while_then (c := fun (s6 : Int × Int) => some (decide ((0 : Int) < s6.2))) (b := fun (s6 : Int × Int) => (modI s6.1 s6.2).bind fun v8 => some (s6.2, v8)) (fun s => 0 ≤ s.1 ∧ 0 ≤ s.2 ∧ Int.gcd s.1 s.2 = Int.gcd f x) (fun s => s.2.toNat) (fun s hs => by
      obtain ⟨a, b, g⟩ := hs
      by_cases q : 0 < s.2
      · refine .inl ⟨by rw [decide_eq_true q], (s.2, s.1 % s.2), by rw [modI_ok q, bs], ⟨b, Int.emod_nonneg _ (by omega), ?_⟩, ?_⟩
        · rw [← g]
          show Int.gcd s.2 (s.1 % s.2) = Int.gcd s.1 s.2
          obtain ⟨a', ea⟩ := Int.eq_ofNat_of_zero_le a
          obtain ⟨b', eb⟩ := Int.eq_ofNat_of_zero_le b
          rw [ea, eb, ← Int.natCast_emod]
          show Nat.gcd b' (a' % b') = Nat.gcd a' b'
          rw [Nat.gcd_comm a' b', Nat.gcd_rec b' a', Nat.gcd_comm]
        · show (s.1 % s.2).toNat < s.2.toNat
          have := Int.emod_lt_of_pos s.1 q
          omega
      · exact .inr (by rw [decide_eq_false q])) (s0 := (f, x)) ⟨h0, hx0, rfl⟩
    refine ⟨msr (ds.take (i + 1)), ?_, rfl⟩
    rw [e1, bs, List.take_succ, hx]
    have z : s'.2 = 0 := by
      have := Option.some.inj e2
      have := of_decide_eq_false this
      omega
    rw [z, Int.gcd_zero_right] at i3
    show some s'.1 = some (msr (ds.take i ++ [x]))
    rw [msr_snoc, hm, ← i3]
    congr 1
    omega
  · rw [e, List.take_length]
end G
set_option Elab.async false
set_option linter.all false
set_option maxRecDepth 100000
set_option maxHeartbeats 1000000
namespace DL
open PySem PySem.Spec L2
/-! cells hang together just where their rests by the measures are alike -/
def ones (bk : List Rule) : List Int := bk.map fun r => r.n1
def unders (bk : List Rule) : List Int := (bk.filter fun r => r.isUnder).map fun r => r.n1
def overs (bk : List Rule) : List Int := (bk.filter fun r => r.isOver).map fun r => r.n2
def keyOf (b : Board) (bk : List Rule) (x : Int) : Int × Int := match b with
  | .row _ => (x % msr (ones bk), 0)
  | .ring n => (x % msr (ones bk ++ [n]), 0)
  | .floor _ W => (x / W % msr (unders bk), x % W % msr (overs bk))
theorem tie_of {b : Board} {bk : List Rule} {r : Rule} {c x y : Int} (hr : r ∈ bk) (hc : c ∈ cellsAt b r) (hp : (x, y) ∈ pairsAt b r c) : Tied b bk x y := by
  obtain ⟨i, e⟩ := List.mem_iff_getElem?.mp hr
  exact ⟨r.bent, ((i : Int), c), r, mem_deeds.mpr ⟨r, Int.natCast_nonneg _, by rw [Int.toNat_natCast]; exact e, hc⟩, by rw [Int.toNat_natCast]; exact e, hp, rfl⟩
theorem add_rest {x k g : Int} (h : g ∣ k) : (x + k) % g = x % g := by
  refine (Int.emod_eq_emod_iff_emod_sub_eq_zero).mpr ?_
  rw [show x + k - x = k by omega]
  exact Int.emod_eq_zero_of_dvd h
theorem div_of {R C W : Int} (h0 : 0 ≤ C) (h1 : C < W) : (R * W + C) / W = R ∧ (R * W + C) % W = C := by
  have hW : W ≠ 0 := by omega
  constructor
  · rw [Int.add_comm, Int.add_mul_ediv_right _ _ hW, Int.ediv_eq_zero_of_lt h0 h1, Int.zero_add]
  · rw [Int.add_comm, Int.add_mul_emod_self_right]
    exact Int.emod_eq_of_lt h0 h1
section
variable {b : Board} {bk : List Rule} (hb : b.ok 36) (h : BkOk b bk)
include hb h
theorem tied_key {x y : Int} (t : Tied b bk x y) : keyOf b bk x = keyOf b bk y := by
  obtain ⟨e, d, r, hd, hr, hp, he⟩ := t
  obtain ⟨r', z0, z1, hc⟩ := mem_deeds.mp hd
  rw [hr] at z1
  cases z1
  have mr := List.mem_of_getElem? hr
  have hf := h.2.2.2 r mr
  cases b <;> cases r <;> first | exact hf.elim | skip
  · rename_i n k c'
    obtain ⟨j, hj, ep⟩ := List.mem_map.mp hp
    have mj := mem_rangeI.mp hj
    have mc := mem_rangeI.mp hc
    obtain ⟨f1, f2, _⟩ := hf
    cases ep
    have m1 : (d.2 + j) % n = d.2 + j := Int.emod_eq_of_lt (by omega) (by omega)
    have m2 : (d.2 + j + k) % n = d.2 + j + k := Int.emod_eq_of_lt (by omega) (by omega)
    have dv : msr (ones bk) ∣ k := msr_dvd (List.mem_map.mpr ⟨_, mr, rfl⟩)
    show ((d.2 + j) % n % _, (0 : Int)) = ((d.2 + j + k) % n % _, 0)
    rw [m1, m2, add_rest dv]
  · rename_i n k c'
    obtain ⟨j, hj, ep⟩ := List.mem_map.mp hp
    cases ep
    have dv : msr (ones bk ++ [n]) ∣ k := msr_dvd (List.mem_append_left _ (List.mem_map.mpr ⟨_, mr, rfl⟩))
    have dn : msr (ones bk ++ [n]) ∣ n := msr_dvd (List.mem_append_right _ (List.mem_singleton.mpr rfl))
    show ((d.2 + j) % n % _, (0 : Int)) = ((d.2 + j + k) % n % _, 0)
    rw [Int.emod_emod_of_dvd _ dn, Int.emod_emod_of_dvd _ dn, add_rest dv]
  · rename_i H W hh w c'
    obtain ⟨f1, f2, f3, f4, _⟩ := hf
    obtain ⟨z, hz, ep⟩ := List.mem_map.mp hp
    cases ep
    obtain ⟨i, j, i0, i1, j0, j1, rfl⟩ := mem_grid.mp hz
    obtain ⟨r0, c0, a0, a1, b0, b1, e0⟩ := mem_grid.mp hc
    rw [e0]
    have q1 := div_of (R := r0 + i) (C := c0 + j) (W := W) (by omega) (by omega)
    have q2 := div_of (R := r0 + i) (C := c0 + j + w) (W := W) (by omega) (by omega)
    have s1 : 0 + r0 * W + c0 + i * W + j = (r0 + i) * W + (c0 + j) := by rw [Int.add_mul]; omega
    have s2 : 0 + r0 * W + c0 + i * W + j + w = (r0 + i) * W + (c0 + j + w) := by rw [Int.add_mul]; omega
    have dv : msr (overs bk) ∣ w := msr_dvd (List.mem_map.mpr ⟨_, List.mem_filter.mpr ⟨mr, rfl⟩, rfl⟩)
    show ((0 + r0 * W + c0 + i * W + j) / W % _, (0 + r0 * W + c0 + i * W + j) % W % _) = ((0 + r0 * W + c0 + i * W + j + w) / W % _, (0 + r0 * W + c0 + i * W + j + w) % W % _)
    rw [s2, s1, q1.1, q1.2, q2.1, q2.2, add_rest dv]
  · rename_i H W hh w c'
    obtain ⟨f1, f2, f3, f4, _⟩ := hf
    obtain ⟨z, hz, ep⟩ := List.mem_map.mp hp
    cases ep
    obtain ⟨i, j, i0, i1, j0, j1, rfl⟩ := mem_grid.mp hz
    obtain ⟨r0, c0, a0, a1, b0, b1, e0⟩ := mem_grid.mp hc
    rw [e0]
    have q1 := div_of (R := r0 + i) (C := c0 + j) (W := W) (by omega) (by omega)
    have q2 := div_of (R := r0 + i + hh) (C := c0 + j) (W := W) (by omega) (by omega)
    have s1 : 0 + r0 * W + c0 + i * W + j = (r0 + i) * W + (c0 + j) := by rw [Int.add_mul]; omega
    have s2 : 0 + r0 * W + c0 + i * W + j + hh * W = (r0 + i + hh) * W + (c0 + j) := by rw [Int.add_mul, Int.add_mul]; omega
    have dv : msr (unders bk) ∣ hh := msr_dvd (List.mem_map.mpr ⟨_, List.mem_filter.mpr ⟨mr, rfl⟩, rfl⟩)
    show ((0 + r0 * W + c0 + i * W + j) / W % _, (0 + r0 * W + c0 + i * W + j) % W % _) = ((0 + r0 * W + c0 + i * W + j + hh * W) / W % _, (0 + r0 * W + c0 + i * W + j + hh * W) % W % _)
    rw [s2, s1, q1.1, q1.2, q2.1, q2.2, add_rest dv]
theorem conn_key {x y : Int} (c : Conn (Tied b bk) x y) : keyOf b bk x = keyOf b bk y := by
  induction c with
  | rfl => exact Eq.refl _
  | fw _ t ih => exact ih.trans (tied_key hb h t)
  | bw _ t ih => exact ih.trans (tied_key hb h t).symm
theorem key_conn {x y : Int} (hx : 0 ≤ x ∧ x < b.cells) (hy : 0 ≤ y ∧ y < b.cells) (e : keyOf b bk x = keyOf b bk y) : Conn (Tied b bk) x y := by
  have rf : ∀ x, Conn (Tied b bk) x x := fun x => .rfl x
  have sy : ∀ x y, Conn (Tied b bk) x y → Conn (Tied b bk) y x := fun _ _ c => c.symm
  have tr : ∀ x y z, Conn (Tied b bk) x y → Conn (Tied b bk) y z → Conn (Tied b bk) x z := fun _ _ _ c c' => c.trans c'
  cases b with
  | row n =>
    have e' : x % msr (ones bk) = y % msr (ones bk) := congrArg Prod.fst e
    have hn : 0 ≤ n := by
      have h1 : x < n := hx.2
      have h2 := hx.1
      omega
    refine line_conn rf sy tr (m := n) hn (ds := ones bk) (fun d hd => ?_) hx hy e'
    obtain ⟨r, hr, rfl⟩ := List.mem_map.mp hd
    have hf := h.2.2.2 r hr
    cases r <;> first | exact hf.elim | skip
    rename_i k c'
    obtain ⟨f1, f2, _⟩ := hf
    show 0 ≤ k ∧ Steps _ n k.toNat
    refine ⟨by omega, by omega, fun z z0 z1 => ?_⟩
    have ek : ((k.toNat : Nat) : Int) = k := by omega
    rw [ek] at z1 ⊢
    have tie : ∀ c : Int, 0 ≤ c → c < n - 2 * k + 1 → c ≤ z → z < c + k → Tied (.row n) bk z (z + k) := fun c c0 c1 c2 c3 => by
      refine tie_of (c := c) hr (mem_rangeI.mpr ⟨c0, c1⟩) (List.mem_map.mpr ⟨z - c, mem_rangeI.mpr ⟨by omega, by omega⟩, ?_⟩)
      rw [show c + (z - c) = z by omega, Int.emod_eq_of_lt (by omega) (by omega), Int.emod_eq_of_lt (by omega) (by omega)]
    by_cases q : z ≤ n - 2 * k
    · exact (Conn.rfl z).fw (tie z z0 (by omega) (by omega) (by omega))
    · exact (Conn.rfl z).fw (tie (n - 2 * k) (by omega) (by omega) (by omega) (by omega))
  | ring n =>
    have e' : x % msr (ones bk ++ [n]) = y % msr (ones bk ++ [n]) := congrArg Prod.fst e
    have hn : 0 < n := by have := hx.1; have := hx.2; show 0 < n; simp only [Board.cells] at *; omega
    have hx2 : x < n := hx.2
    have hy2 : y < n := hy.2
    have key := line_conn (C := fun x y => Conn (Tied (.ring n) bk) (x % n) (y % n)) (fun x => rf _) (fun _ _ c => sy _ _ c) (fun _ _ _ c c' => tr _ _ _ c c') (m := 2 * n) (by omega) (ds := ones bk ++ [n]) (fun d hd => by
      rcases List.mem_append.mp hd with hd | hd
      · obtain ⟨r, hr, rfl⟩ := List.mem_map.mp hd
        have hf := h.2.2.2 r hr
        cases r <;> first | exact hf.elim | skip
        rename_i k c' _
        obtain ⟨f1, f2, _⟩ := hf
        show 0 ≤ k ∧ Steps _ (2 * n) k.toNat
        have ek : ((k.toNat : Nat) : Int) = k := by omega
        refine ⟨by omega, by omega, fun z z0 z1 => ?_⟩
        rw [ek] at z1 ⊢
        refine (Conn.rfl (z % n)).fw ?_
        have zn := Int.emod_nonneg z (show n ≠ 0 by omega)
        have zl := Int.emod_lt_of_pos z hn
        refine tie_of (c := z % n) hr (mem_rangeI.mpr ⟨zn, zl⟩) (List.mem_map.mpr ⟨0, mem_rangeI.mpr ⟨by omega, by omega⟩, ?_⟩)
        rw [Int.add_zero, Int.emod_emod_of_dvd _ (Int.dvd_refl n), Int.emod_add_emod]
      · rw [List.mem_singleton] at hd
        rw [hd]
        have ek : ((n.toNat : Nat) : Int) = n := by omega
        refine ⟨by omega, by omega, fun z z0 z1 => ?_⟩
        rw [ek]
        show Conn _ (z % n) ((z + n) % n)
        rw [add_rest (Int.dvd_refl n)]
        exact rf _) (x := x) (y := y) ⟨hx.1, by omega⟩ ⟨hy.1, by omega⟩ e'
    have key' : Conn (Tied (.ring n) bk) (x % n) (y % n) := key
    rw [Int.emod_eq_of_lt hx.1 hx2, Int.emod_eq_of_lt hy.1 hy2] at key'
    exact key'
  | floor H W =>
    have e1 : x / W % msr (unders bk) = y / W % msr (unders bk) := congrArg Prod.fst e
    have e2 : x % W % msr (overs bk) = y % W % msr (overs bk) := congrArg Prod.snd e
    have hW : 0 < W := by
      obtain ⟨o1, o2, _⟩ := hb
      omega
    have xW := Int.emod_nonneg x (show W ≠ 0 by omega)
    have xL := Int.emod_lt_of_pos x hW
    have yW := Int.emod_nonneg y (show W ≠ 0 by omega)
    have yL := Int.emod_lt_of_pos y hW
    have xs : x = x / W * W + x % W := by have := Int.mul_ediv_add_emod x W; rw [Int.mul_comm] at this; omega
    have ys : y = y / W * W + y % W := by have := Int.mul_ediv_add_emod y W; rw [Int.mul_comm] at this; omega
    have x0 : 0 ≤ x / W := Int.ediv_nonneg hx.1 (by omega)
    have y0 : 0 ≤ y / W := Int.ediv_nonneg hy.1 (by omega)
    have hx2 : x < H * W := hx.2
    have hy2 : y < H * W := hy.2
    have xH : x / W < H := Int.ediv_lt_of_lt_mul hW hx2
    have yH : y / W < H := Int.ediv_lt_of_lt_mul hW hy2
    generalize x / W = R at *
    generalize x % W = C at *
    generalize y / W = R' at *
    generalize y % W = C' at *
    have c1 := line_conn (C := fun a a' => Conn (Tied (.floor H W) bk) (R * W + a) (R * W + a')) (fun _ => rf _) (fun _ _ c => sy _ _ c) (fun _ _ _ c c' => tr _ _ _ c c') (m := W) (by omega) (ds := overs bk) (fun d hd => by
      obtain ⟨r, hr, rfl⟩ := List.mem_map.mp hd
      obtain ⟨hr, ho⟩ := List.mem_filter.mp hr
      have hf := h.2.2.2 r hr
      cases r with
      | swap k c' => exact hf.elim
      | under hh w c' => cases ho
      | over hh w c' =>
        obtain ⟨f1, f2, f3, f4, _⟩ := hf
        show 0 ≤ w ∧ Steps _ W w.toNat
        have ek : ((w.toNat : Nat) : Int) = w := by omega
        refine ⟨by omega, by omega, fun z z0 z1 => ?_⟩
        rw [ek] at z1 ⊢
        refine (Conn.rfl (R * W + z)).fw ?_
        have tie : ∀ r0 c0 : Int, 0 ≤ r0 → r0 < H - hh + 1 → r0 ≤ R → R < r0 + hh → 0 ≤ c0 → c0 < W - 2 * w + 1 → c0 ≤ z → z < c0 + w → Tied (.floor H W) bk (R * W + z) (R * W + (z + w)) := fun r0 c0 a1 a2 a3 a4 b1 b2 b3 b4 => by
          refine tie_of (c := 0 + r0 * W + c0) hr (mem_grid.mpr ⟨r0, c0, a1, a2, b1, b2, rfl⟩) (List.mem_map.mpr ⟨R * W + z, mem_grid.mpr ⟨R - r0, z - c0, by omega, by omega, by omega, by omega, ?_⟩, ?_⟩)
          · rw [Int.sub_mul]; omega
          · rw [Int.add_assoc]
        have pick : ∃ r0, 0 ≤ r0 ∧ r0 < H - hh + 1 ∧ r0 ≤ R ∧ R < r0 + hh := by
          by_cases q : R ≤ H - hh
          · exact ⟨R, x0, by omega, by omega, by omega⟩
          · exact ⟨H - hh, by omega, by omega, by omega, by omega⟩
        have pick2 : ∃ c0, 0 ≤ c0 ∧ c0 < W - 2 * w + 1 ∧ c0 ≤ z ∧ z < c0 + w := by
          by_cases q : z ≤ W - 2 * w
          · exact ⟨z, z0, by omega, by omega, by omega⟩
          · exact ⟨W - 2 * w, by omega, by omega, by omega, by omega⟩
        obtain ⟨r0, a1, a2, a3, a4⟩ := pick
        obtain ⟨c0, b1, b2, b3, b4⟩ := pick2
        exact tie r0 c0 a1 a2 a3 a4 b1 b2 b3 b4) (x := C) (y := C') ⟨xW, xL⟩ ⟨yW, yL⟩ e2
    have c2 := line_conn (C := fun a a' => Conn (Tied (.floor H W) bk) (a * W + C') (a' * W + C')) (fun _ => rf _) (fun _ _ c => sy _ _ c) (fun _ _ _ c c' => tr _ _ _ c c') (m := H) (by omega) (ds := unders bk) (fun d hd => by
      obtain ⟨r, hr, rfl⟩ := List.mem_map.mp hd
      obtain ⟨hr, ho⟩ := List.mem_filter.mp hr
      have hf := h.2.2.2 r hr
      cases r with
      | swap k c' => exact hf.elim
      | over hh w c' => cases ho
      | under hh w c' =>
        obtain ⟨f1, f2, f3, f4, _⟩ := hf
        show 0 ≤ hh ∧ Steps _ H hh.toNat
        have ek : ((hh.toNat : Nat) : Int) = hh := by omega
        refine ⟨by omega, by omega, fun z z0 z1 => ?_⟩
        rw [ek] at z1 ⊢
        refine (Conn.rfl (z * W + C')).fw ?_
        have tie : ∀ r0 c0 : Int, 0 ≤ r0 → r0 < H - 2 * hh + 1 → r0 ≤ z → z < r0 + hh → 0 ≤ c0 → c0 < W - w + 1 → c0 ≤ C' → C' < c0 + w → Tied (.floor H W) bk (z * W + C') ((z + hh) * W + C') := fun r0 c0 a1 a2 a3 a4 b1 b2 b3 b4 => by
          refine tie_of (c := 0 + r0 * W + c0) hr (mem_grid.mpr ⟨r0, c0, a1, a2, b1, b2, rfl⟩) (List.mem_map.mpr ⟨z * W + C', mem_grid.mpr ⟨z - r0, C' - c0, by omega, by omega, by omega, by omega, ?_⟩, ?_⟩)
          · rw [Int.sub_mul]; omega
          · rw [Int.add_mul]
            congr 1
            omega
        have pick : ∃ r0, 0 ≤ r0 ∧ r0 < H - 2 * hh + 1 ∧ r0 ≤ z ∧ z < r0 + hh := by
          by_cases q : z ≤ H - 2 * hh
          · exact ⟨z, z0, by omega, by omega, by omega⟩
          · exact ⟨H - 2 * hh, by omega, by omega, by omega, by omega⟩
        have pick2 : ∃ c0, 0 ≤ c0 ∧ c0 < W - w + 1 ∧ c0 ≤ C' ∧ C' < c0 + w := by
          by_cases q : C' ≤ W - w
          · exact ⟨C', yW, by omega, by omega, by omega⟩
          · exact ⟨W - w, by omega, by omega, by omega, by omega⟩
        obtain ⟨r0, a1, a2, a3, a4⟩ := pick
        obtain ⟨c0, b1, b2, b3, b4⟩ := pick2
        exact tie r0 c0 a1 a2 a3 a4 b1 b2 b3 b4) (x := R) (y := R') ⟨x0, xH⟩ ⟨y0, yH⟩ e1
    rw [xs, ys]
    exact Conn.trans c1 c2
end
end DL
set_option Elab.async false
set_option linter.all false
set_option maxRecDepth 100000
set_option maxHeartbeats 1000000
namespace DL
open PySem PySem.Spec L2
/-! whether marks fit, by the lengths alone -/
section
variable {M : Int → Int} {m : Int}
/-- a step of d changes the mark by s at 2, all along the line -/
def Chg (M : Int → Int) (m : Int) (d : Nat) (s : Int) : Prop := ∀ x, 0 ≤ x → x + (d : Int) < m → (M x + M (x + (d : Int)) + s) % 2 = 0
def Chgs (M : Int → Int) (m : Int) (d : Nat) : Prop := 2 * (d : Int) ≤ m ∧ ∃ s, Chg M m d s
theorem chgs_sub {p q : Nat} (hp : Chgs M m p) (hq : Chgs M m q) (le : p ≤ q) : Chgs M m (q - p) := by
  obtain ⟨a, sp, cp⟩ := hp
  obtain ⟨b, sq, cq⟩ := hq
  refine ⟨by omega, sp + sq, fun x h0 h1 => ?_⟩
  have e : ((q - p : Nat) : Int) = (q : Int) - (p : Int) := by omega
  rw [e] at h1 ⊢
  by_cases c : x + (q : Int) < m
  · have s1 := cq x h0 c
    have s2 := cp (x + ((q : Int) - p)) (by omega) (by omega)
    rw [show x + ((q : Int) - p) + p = x + q by omega] at s2
    omega
  · have s1 := cp (x - p) (by omega) (by omega)
    have s2 := cq (x - p) (by omega) (by omega)
    rw [show x - (p : Int) + p = x by omega] at s1
    rw [show x - (p : Int) + q = x + ((q : Int) - p) by omega] at s2
    omega
theorem chgs_mod {p : Nat} (hp : Chgs M m p) (h0 : 0 < p) : ∀ {q : Nat}, Chgs M m q → Chgs M m (q % p) := by
  intro q
  induction q using Nat.strongRecOn with
  | _ q ih =>
    intro hq
    by_cases le : p ≤ q
    · rw [Nat.mod_eq_sub_mod le]
      exact ih (q - p) (by omega) (chgs_sub hp hq le)
    · rw [Nat.mod_eq_of_lt (by omega)]
      exact hq
theorem chg_many {d : Nat} {s : Int} (h : Chg M m d s) : ∀ (k : Nat), (k : Int) * d < m → (M 0 + M ((k : Int) * d) + (k : Int) * s) % 2 = 0
  | 0, _ => by
    rw [show ((0 : Nat) : Int) * d = 0 by omega, show ((0 : Nat) : Int) * s = 0 by omega]
    omega
  | k + 1, h1 => by
    have e : ∀ t : Int, ((k + 1 : Nat) : Int) * t = (k : Int) * t + t := fun t => by rw [show ((k + 1 : Nat) : Int) = (k : Int) + 1 by omega, Int.add_mul, Int.one_mul]
    rw [e, e] at *
    have kd : 0 ≤ (k : Int) * d := Int.mul_nonneg (by omega) (by omega)
    have s1 := chg_many h k (by omega)
    have s2 := h ((k : Int) * d) kd h1
    omega
theorem line_even (hm : 0 < m) {L : List (Int × Int)} (hL : ∀ p ∈ L, 0 ≤ p.1 ∧ 2 * p.1 ≤ m ∧ ∀ x, 0 ≤ x → x + p.1 < m → (M x + M (x + p.1) + p.2) % 2 = 0) (g0 : 0 < msr (L.map (·.1))) :
    ∃ s, (s = 0 ∨ s = 1) ∧ ∀ p ∈ L, p.2 % 2 = (p.1 / msr (L.map (·.1)) * s) % 2 := by
  obtain ⟨_, _, sg, hg⟩ := msr_keep (P := Chgs M m) ⟨by omega, 0, fun x _ _ => by
    show (M x + M (x + 0) + 0) % 2 = 0
    simp only [Int.add_zero]
    omega⟩ (fun p q h0 hp hq => chgs_mod hp h0 hq) (ds := L.map (·.1)) fun d hd => by
      obtain ⟨p, hp, rfl⟩ := List.mem_map.mp hd
      obtain ⟨a, b, c⟩ := hL p hp
      have e : ((p.1.toNat : Nat) : Int) = p.1 := by omega
      exact ⟨a, by rw [e]; exact b, p.2, fun x h0 h1 => by rw [e] at h1 ⊢; exact c x h0 h1⟩
  refine ⟨sg % 2, by omega, fun p hp => ?_⟩
  obtain ⟨a, b, c⟩ := hL p hp
  obtain ⟨k, hk⟩ := msr_dvd (List.mem_map.mpr ⟨p, hp, rfl⟩ : p.1 ∈ L.map (·.1))
  generalize msr (L.map (·.1)) = g at *
  have ek : p.1 / g = k := by rw [hk, Int.mul_ediv_cancel_left _ (by omega)]
  have k0 : 0 ≤ k := by rw [← ek]; exact Int.ediv_nonneg a (by omega)
  have s1 := chg_many hg k.toNat (by
    rw [show ((k.toNat : Nat) : Int) = k by omega, show ((g.toNat : Nat) : Int) = g by omega, Int.mul_comm, ← hk]
    omega)
  rw [show ((k.toNat : Nat) : Int) = k by omega, show ((g.toNat : Nat) : Int) = g by omega, Int.mul_comm k g, ← hk] at s1
  have s2 := c 0 (Int.le_refl _) (by omega)
  rw [Int.zero_add] at s2
  have e2 : (k * (sg % 2)) % 2 = (k * sg) % 2 := by rw [Int.mul_emod, Int.emod_emod_of_dvd _ (Int.dvd_refl 2), ← Int.mul_emod]
  rw [ek, e2]
  omega
end
/-- what the law asks of the lengths and the bents of one sort -/
def FitP (ls bs : List Int) (g a : Int) : Prop := bs.sum = 0 ∨ ((a / g) % 2 ≠ 1 ∧ bs = ls.map fun l => l / g % 2)
theorem bits_zero {bs : List Int} (h : ∀ v ∈ bs, v = 0 ∨ v = 1) : bs.sum = 0 ↔ ∀ v ∈ bs, v = 0 := by
  have key : ∀ {l : List Int}, (∀ v ∈ l, v = 0 ∨ v = 1) → 0 ≤ l.sum ∧ (l.sum = 0 ↔ ∀ v ∈ l, v = 0) := by
    intro l
    induction l with
    | nil => exact fun _ => ⟨Int.le_refl _, fun _ v hv => (nomatch hv), fun _ => rfl⟩
    | cons v l ih =>
      intro h
      obtain ⟨i1, i2⟩ := ih fun w hw => h w (List.mem_cons_of_mem _ hw)
      have hv := h v (List.mem_cons_self ..)
      rw [List.sum_cons]
      refine ⟨by omega, fun e w hw => ?_, fun z => ?_⟩
      · rcases List.mem_cons.mp hw with rfl | hw
        · omega
        · exact i2.mp (by omega) w hw
      · have := z v (List.mem_cons_self ..)
        have := i2.mpr fun w hw => z w (List.mem_cons_of_mem _ hw)
        omega
  exact (key h).2
/-- from the marks to the lengths -/
theorem fit_of {M : Int → Int} {m a : Int} (hm : 0 < m) {rs : List (Int × Int)} (hb : ∀ p ∈ rs, p.2 = 0 ∨ p.2 = 1) (hL : ∀ p ∈ rs ++ [(a, 0)], 0 ≤ p.1 ∧ 2 * p.1 ≤ m ∧ ∀ x, 0 ≤ x → x + p.1 < m → (M x + M (x + p.1) + p.2) % 2 = 0) (g0 : 0 < msr (rs.map (·.1) ++ [a])) :
    FitP (rs.map (·.1)) (rs.map (·.2)) (msr (rs.map (·.1) ++ [a])) a := by
  have e : (rs ++ [(a, (0 : Int))]).map (·.1) = rs.map (·.1) ++ [a] := by rw [List.map_append]; rfl
  obtain ⟨s, hs, h⟩ := line_even hm hL (by rw [e]; exact g0)
  rw [e] at h
  generalize msr (rs.map (·.1) ++ [a]) = g at *
  have bb : ∀ v ∈ rs.map (·.2), v = 0 ∨ v = 1 := fun v hv => by
    obtain ⟨p, hp, rfl⟩ := List.mem_map.mp hv
    exact hb p hp
  rcases hs with rfl | rfl
  · refine .inl ((bits_zero bb).mpr fun v hv => ?_)
    obtain ⟨p, hp, rfl⟩ := List.mem_map.mp hv
    have := h p (List.mem_append_left _ hp)
    rw [Int.mul_zero] at this
    have := hb p hp
    omega
  · refine .inr ⟨?_, ?_⟩
    · have := h (a, 0) (List.mem_append_right _ (List.mem_singleton.mpr rfl))
      rw [Int.mul_one] at this
      have e0 : (0 : Int) % 2 = a / g % 2 := this
      omega
    · rw [List.map_map]
      refine List.map_congr_left fun p hp => ?_
      have := h p (List.mem_append_left _ hp)
      rw [Int.mul_one] at this
      have := hb p hp
      show p.2 = p.1 / g % 2
      omega
/-- from the lengths to marks on a line -/
theorem marks_of_fit {rs : List (Int × Int)} {g a : Int} (g0 : 0 < g) (hb : ∀ p ∈ rs, p.2 = 0 ∨ p.2 = 1) (hd : ∀ p ∈ rs, g ∣ p.1) (f : FitP (rs.map (·.1)) (rs.map (·.2)) g a) :
    ∃ M : Int → Int, (∀ p ∈ rs, ∀ x, (M x + M (x + p.1) + p.2) % 2 = 0) ∧ (g ∣ a → ∀ x q, (M (x + q * a) + M x) % 2 = 0) := by
  have bb : ∀ v ∈ rs.map (·.2), v = 0 ∨ v = 1 := fun v hv => by
    obtain ⟨p, hp, rfl⟩ := List.mem_map.mp hv
    exact hb p hp
  rcases f with f | ⟨f1, f2⟩
  · refine ⟨fun _ => 0, fun p hp x => ?_, fun _ x q => rfl⟩
    have := (bits_zero bb).mp f p.2 (List.mem_map.mpr ⟨p, hp, rfl⟩)
    rw [this]
    rfl
  · refine ⟨fun x => x / g, fun p hp x => ?_, fun da x q => ?_⟩
    · rw [List.map_map] at f2
      obtain ⟨i, hi⟩ := List.mem_iff_getElem?.mp hp
      have e2 := congrArg (fun l => l[i]?) f2
      simp only [List.getElem?_map, hi, Option.map_some] at e2
      have e3 : p.2 = p.1 / g % 2 := Option.some.inj e2
      show (x / g + (x + p.1) / g + p.2) % 2 = 0
      rw [Int.add_ediv_of_dvd_right (hd p hp), e3]
      omega
    · show ((x + q * a) / g + x / g) % 2 = 0
      rw [Int.add_ediv_of_dvd_right (Int.dvd_trans da (Int.dvd_mul_left ..)), Int.mul_ediv_assoc _ da]
      have : (q * (a / g)) % 2 = 0 := by rw [Int.mul_emod, show a / g % 2 = 0 by omega, Int.mul_zero]; rfl
      omega
end DL
set_option Elab.async false
set_option linter.all false
set_option maxRecDepth 100000
set_option maxHeartbeats 1000000
namespace DL
open PySem PySem.Spec L2
theorem bit_of {c : Int} (h0 : 0 ≤ c) (h1 : c ≤ 1) : c = 0 ∨ c = 1 := by omega
def swaps (bk : List Rule) : List (Int × Int) := bk.map fun r => (r.n1, r.n2)
def ovs (bk : List Rule) : List (Int × Int) := (bk.filter fun r => r.isOver).map fun r => (r.n2, r.bent)
def uns (bk : List Rule) : List (Int × Int) := (bk.filter fun r => r.isUnder).map fun r => (r.n1, r.bent)
def SortP (rs : List (Int × Int)) : Prop := rs = [] ∨ FitP (rs.map (·.1)) (rs.map (·.2)) (msr (rs.map (·.1))) 0
def EvenP (b : Board) (bk : List Rule) : Prop := match b with
  | .row _ => FitP ((swaps bk).map (·.1)) ((swaps bk).map (·.2)) (msr ((swaps bk).map (·.1) ++ [0])) 0
  | .ring n => FitP ((swaps bk).map (·.1)) ((swaps bk).map (·.2)) (msr ((swaps bk).map (·.1) ++ [n])) n
  | .floor _ _ => SortP (ovs bk) ∧ SortP (uns bk)
theorem msr_zero {ds : List Int} (h : ∀ d ∈ ds, 0 ≤ d) : msr (ds ++ [0]) = msr ds := by
  have := (msr_keep (P := fun _ => True) trivial (fun _ _ _ _ _ => trivial) (ds := ds) fun d hd => ⟨h d hd, trivial⟩).1
  rw [msr_snoc, Int.gcd_zero_right]
  omega
theorem tieB_of {b : Board} {bk : List Rule} {r : Rule} {c x y : Int} (hr : r ∈ bk) (hc : c ∈ cellsAt b r) (hp : (x, y) ∈ pairsAt b r c) : TieB b bk x y r.bent := by
  obtain ⟨i, e⟩ := List.mem_iff_getElem?.mp hr
  exact ⟨((i : Int), c), r, mem_deeds.mpr ⟨r, Int.natCast_nonneg _, by rw [Int.toNat_natCast]; exact e, hc⟩, by rw [Int.toNat_natCast]; exact e, hp, rfl⟩
section
variable {bk : List Rule}
theorem row_tie {n k e z : Int} (h : BkOk (.row n) bk) (hr : Rule.swap k e ∈ bk) (z0 : 0 ≤ z) (z1 : z + k < n) : TieB (.row n) bk z (z + k) e := by
  obtain ⟨f1, f2, _⟩ := h.2.2.2 _ hr
  have tie : ∀ c : Int, 0 ≤ c → c < n - 2 * k + 1 → c ≤ z → z < c + k → TieB (.row n) bk z (z + k) e := fun c c0 c1 c2 c3 => by
    refine tieB_of (r := .swap k e) (c := c) hr (mem_rangeI.mpr ⟨c0, c1⟩) (List.mem_map.mpr ⟨z - c, mem_rangeI.mpr ⟨by omega, by omega⟩, ?_⟩)
    rw [show c + (z - c) = z by omega, Int.emod_eq_of_lt (by omega) (by omega), Int.emod_eq_of_lt (by omega) (by omega)]
  by_cases q : z ≤ n - 2 * k
  · exact tie z z0 (by omega) (by omega) (by omega)
  · exact tie (n - 2 * k) (by omega) (by omega) (by omega) (by omega)
theorem ring_tie {n k e z : Int} (hn : 0 < n) (h : BkOk (.ring n) bk) (hr : Rule.swap k e ∈ bk) : TieB (.ring n) bk (z % n) ((z + k) % n) e := by
  obtain ⟨f1, f2, _⟩ := h.2.2.2 _ hr
  have zn := Int.emod_nonneg z (show n ≠ 0 by omega)
  have zl := Int.emod_lt_of_pos z hn
  refine tieB_of (r := .swap k e) (c := z % n) hr (mem_rangeI.mpr ⟨zn, zl⟩) (List.mem_map.mpr ⟨0, mem_rangeI.mpr ⟨by omega, by omega⟩, ?_⟩)
  rw [Int.add_zero, Int.emod_emod_of_dvd _ (Int.dvd_refl n), Int.emod_add_emod]
theorem over_tie {H W hh w e R z : Int} (h : BkOk (.floor H W) bk) (hr : Rule.over hh w e ∈ bk) (x0 : 0 ≤ R) (x1 : R < H) (z0 : 0 ≤ z) (z1 : z + w < W) : TieB (.floor H W) bk (R * W + z) (R * W + (z + w)) e := by
  obtain ⟨f1, f2, f3, f4, _⟩ := h.2.2.2 _ hr
  have pick : ∃ r0, 0 ≤ r0 ∧ r0 < H - hh + 1 ∧ r0 ≤ R ∧ R < r0 + hh := by
    by_cases q : R ≤ H - hh
    · exact ⟨R, x0, by omega, by omega, by omega⟩
    · exact ⟨H - hh, by omega, by omega, by omega, by omega⟩
  have pick2 : ∃ c0, 0 ≤ c0 ∧ c0 < W - 2 * w + 1 ∧ c0 ≤ z ∧ z < c0 + w := by
    by_cases q : z ≤ W - 2 * w
    · exact ⟨z, z0, by omega, by omega, by omega⟩
    · exact ⟨W - 2 * w, by omega, by omega, by omega, by omega⟩
  obtain ⟨r0, a1, a2, a3, a4⟩ := pick
  obtain ⟨c0, b1, b2, b3, b4⟩ := pick2
  refine tieB_of (r := .over hh w e) (c := 0 + r0 * W + c0) hr (mem_grid.mpr ⟨r0, c0, a1, a2, b1, b2, rfl⟩) (List.mem_map.mpr ⟨R * W + z, mem_grid.mpr ⟨R - r0, z - c0, by omega, by omega, by omega, by omega, ?_⟩, ?_⟩)
  · rw [Int.sub_mul]; omega
  · rw [Int.add_assoc]
theorem under_tie {H W hh w e C z : Int} (h : BkOk (.floor H W) bk) (hr : Rule.under hh w e ∈ bk) (x0 : 0 ≤ C) (x1 : C < W) (z0 : 0 ≤ z) (z1 : z + hh < H) : TieB (.floor H W) bk (z * W + C) ((z + hh) * W + C) e := by
  obtain ⟨f1, f2, f3, f4, _⟩ := h.2.2.2 _ hr
  have pick : ∃ r0, 0 ≤ r0 ∧ r0 < H - 2 * hh + 1 ∧ r0 ≤ z ∧ z < r0 + hh := by
    by_cases q : z ≤ H - 2 * hh
    · exact ⟨z, z0, by omega, by omega, by omega⟩
    · exact ⟨H - 2 * hh, by omega, by omega, by omega, by omega⟩
  have pick2 : ∃ c0, 0 ≤ c0 ∧ c0 < W - w + 1 ∧ c0 ≤ C ∧ C < c0 + w := by
    by_cases q : C ≤ W - w
    · exact ⟨C, x0, by omega, by omega, by omega⟩
    · exact ⟨W - w, by omega, by omega, by omega, by omega⟩
  obtain ⟨r0, a1, a2, a3, a4⟩ := pick
  obtain ⟨c0, b1, b2, b3, b4⟩ := pick2
  refine tieB_of (r := .under hh w e) (c := 0 + r0 * W + c0) hr (mem_grid.mpr ⟨r0, c0, a1, a2, b1, b2, rfl⟩) (List.mem_map.mpr ⟨z * W + C, mem_grid.mpr ⟨z - r0, C - c0, by omega, by omega, by omega, by omega, ?_⟩, ?_⟩)
  · rw [Int.sub_mul]; omega
  · rw [Int.add_mul]
    congr 1
    omega
/-- what is so of each tie -/
theorem tie_parts {b : Board} (h : BkOk b bk) {x y e : Int} (t : TieB b bk x y e) : match b with
    | .row _ => ∃ k, Rule.swap k e ∈ bk ∧ y = x + k
    | .ring n => ∃ k, Rule.swap k e ∈ bk ∧ ∃ z, x = z % n ∧ y = (z + k) % n
    | .floor _ W => (∃ hh w, Rule.over hh w e ∈ bk ∧ y / W = x / W ∧ y % W = x % W + w) ∨ ∃ hh w, Rule.under hh w e ∈ bk ∧ y / W = x / W + hh ∧ y % W = x % W := by
  obtain ⟨d, r, hd, hr, hp, he⟩ := t
  obtain ⟨r', z0, z1, hc⟩ := mem_deeds.mp hd
  rw [hr] at z1
  cases z1
  have mr := List.mem_of_getElem? hr
  have hf := h.2.2.2 r mr
  cases b <;> cases r <;> first | exact hf.elim | skip
  · rename_i n k c'
    obtain ⟨j, hj, ep⟩ := List.mem_map.mp hp
    have mj := mem_rangeI.mp hj
    have mc := mem_rangeI.mp hc
    obtain ⟨f1, f2, _⟩ := hf
    cases ep
    have he' : e = c' := he
    subst he'
    have m1 : (d.2 + j) % n = d.2 + j := Int.emod_eq_of_lt (by omega) (by omega)
    have m2 : (d.2 + j + k) % n = d.2 + j + k := Int.emod_eq_of_lt (by omega) (by omega)
    exact ⟨k, mr, by rw [m1, m2]⟩
  · rename_i n k c'
    obtain ⟨j, hj, ep⟩ := List.mem_map.mp hp
    cases ep
    have he' : e = c' := he
    subst he'
    exact ⟨k, mr, d.2 + j, rfl, rfl⟩
  · rename_i H W hh w c'
    obtain ⟨f1, f2, f3, f4, _⟩ := hf
    obtain ⟨z, hz, ep⟩ := List.mem_map.mp hp
    cases ep
    have he' : e = c' := he
    subst he'
    obtain ⟨i, j, i0, i1, j0, j1, rfl⟩ := mem_grid.mp hz
    obtain ⟨r0, c0, a0, a1, b0, b1, e0⟩ := mem_grid.mp hc
    refine .inl ⟨hh, w, mr, ?_⟩
    rw [e0]
    have q1 := div_of (R := r0 + i) (C := c0 + j) (W := W) (by omega) (by omega)
    have q2 := div_of (R := r0 + i) (C := c0 + j + w) (W := W) (by omega) (by omega)
    have s1 : 0 + r0 * W + c0 + i * W + j = (r0 + i) * W + (c0 + j) := by rw [Int.add_mul]; omega
    have s2 : 0 + r0 * W + c0 + i * W + j + w = (r0 + i) * W + (c0 + j + w) := by rw [Int.add_mul]; omega
    rw [s2, s1, q1.1, q1.2, q2.1, q2.2]
    exact ⟨rfl, rfl⟩
  · rename_i H W hh w c'
    obtain ⟨f1, f2, f3, f4, _⟩ := hf
    obtain ⟨z, hz, ep⟩ := List.mem_map.mp hp
    cases ep
    have he' : e = c' := he
    subst he'
    obtain ⟨i, j, i0, i1, j0, j1, rfl⟩ := mem_grid.mp hz
    obtain ⟨r0, c0, a0, a1, b0, b1, e0⟩ := mem_grid.mp hc
    refine .inr ⟨hh, w, mr, ?_⟩
    rw [e0]
    have q1 := div_of (R := r0 + i) (C := c0 + j) (W := W) (by omega) (by omega)
    have q2 := div_of (R := r0 + i + hh) (C := c0 + j) (W := W) (by omega) (by omega)
    have s1 : 0 + r0 * W + c0 + i * W + j = (r0 + i) * W + (c0 + j) := by rw [Int.add_mul]; omega
    have s2 : 0 + r0 * W + c0 + i * W + j + hh * W = (r0 + i + hh) * W + (c0 + j) := by rw [Int.add_mul, Int.add_mul]; omega
    rw [s2, s1, q1.1, q1.2, q2.1, q2.2]
    exact ⟨rfl, rfl⟩
end
/-- a line of its own: one sort of rules on a floor -/
theorem sort_fit {M : Int → Int} {m : Int} (hm : 0 < m) {rs : List (Int × Int)} (hb : ∀ p ∈ rs, p.2 = 0 ∨ p.2 = 1) (hL : ∀ p ∈ rs, 0 < p.1 ∧ 2 * p.1 ≤ m ∧ ∀ x, 0 ≤ x → x + p.1 < m → (M x + M (x + p.1) + p.2) % 2 = 0) : SortP rs := by
  by_cases ne : rs = []
  · exact .inl ne
  · right
    have po : ∀ d ∈ rs.map (·.1), 0 < d := fun d hd => by
      obtain ⟨p, hp, rfl⟩ := List.mem_map.mp hd
      exact (hL p hp).1
    have z := msr_zero (ds := rs.map (·.1)) fun d hd => by have := po d hd; omega
    have := fit_of (M := M) (m := m) (a := 0) hm (rs := rs) hb (fun p hp => by
      rcases List.mem_append.mp hp with hp | hp
      · obtain ⟨a, b, c⟩ := hL p hp
        exact ⟨by omega, b, c⟩
      · rw [List.mem_singleton] at hp
        subst hp
        refine ⟨Int.le_refl _, by show 2 * (0 : Int) ≤ m; omega, fun x _ _ => ?_⟩
        show (M x + M (x + 0) + 0) % 2 = 0
        simp only [Int.add_zero]
        omega) (by rw [z]; exact msr_pos po fun e => ne (List.map_eq_nil_iff.mp e))
    rw [z] at this
    exact this
theorem sort_marks {rs : List (Int × Int)} (po : ∀ p ∈ rs, 0 < p.1) (hb : ∀ p ∈ rs, p.2 = 0 ∨ p.2 = 1) (f : SortP rs) : ∃ M : Int → Int, ∀ p ∈ rs, ∀ x, (M x + M (x + p.1) + p.2) % 2 = 0 := by
  by_cases ne : rs = []
  · exact ⟨fun _ => 0, fun p hp => (by rw [ne] at hp; cases hp)⟩
  · rcases f with f | f
    · exact absurd f ne
    · obtain ⟨M, h, _⟩ := marks_of_fit (rs := rs) (g := msr (rs.map (·.1))) (a := 0) (msr_pos (fun d hd => (by obtain ⟨p, hp, rfl⟩ := List.mem_map.mp hd; exact po p hp)) fun e => ne (List.map_eq_nil_iff.mp e)) hb (fun p hp => msr_dvd (List.mem_map.mpr ⟨p, hp, rfl⟩)) f
      exact ⟨M, h⟩
section
variable {b : Board} {bk : List Rule} (hb : b.ok 36) (h : BkOk b bk)
include hb h
theorem even_fit (ev : Even (TieB b bk)) : EvenP b bk := by
  obtain ⟨m, hm⟩ := ev
  have ne : bk ≠ [] := fun e => by have := h.1; rw [e] at this; exact absurd this (by decide)
  cases b with
  | row n =>
    have n3 : 3 ≤ n := hb.1
    have sw : ∀ p ∈ swaps bk, Rule.swap p.1 p.2 ∈ bk ∧ 1 ≤ p.1 ∧ 3 * p.1 ≤ n ∧ (p.2 = 0 ∨ p.2 = 1) := fun p hp => by
      obtain ⟨r, hr, rfl⟩ := List.mem_map.mp hp
      have hf := h.2.2.2 r hr
      cases r <;> first | exact hf.elim | skip
      obtain ⟨f1, f2, f3, f4⟩ := hf
      exact ⟨hr, f1, f2, bit_of f3 f4⟩
    have po : ∀ d ∈ (swaps bk).map (·.1), 0 < d := fun d hd => by
      obtain ⟨p, hp, rfl⟩ := List.mem_map.mp hd
      have := (sw p hp).2.1
      omega
    refine fit_of (M := m) (m := n) (by omega) (fun p hp => (sw p hp).2.2.2) (fun p hp => ?_) ?_
    · rcases List.mem_append.mp hp with hp | hp
      · obtain ⟨a, b, c, d⟩ := sw p hp
        exact ⟨by omega, by omega, fun x x0 x1 => hm _ _ _ (row_tie h a x0 x1)⟩
      · rw [List.mem_singleton] at hp
        subst hp
        refine ⟨Int.le_refl _, by show 2 * (0 : Int) ≤ n; omega, fun x _ _ => ?_⟩
        show (m x + m (x + 0) + 0) % 2 = 0
        simp only [Int.add_zero]
        omega
    · rw [msr_zero fun d hd => by have := po d hd; omega]
      exact msr_pos po fun e => ne (List.map_eq_nil_iff.mp (List.map_eq_nil_iff.mp e))
  | ring n =>
    have n5 : 5 ≤ n := hb.1
    have sw : ∀ p ∈ swaps bk, Rule.swap p.1 p.2 ∈ bk ∧ 1 ≤ p.1 ∧ 5 * p.1 ≤ n ∧ (p.2 = 0 ∨ p.2 = 1) := fun p hp => by
      obtain ⟨r, hr, rfl⟩ := List.mem_map.mp hp
      have hf := h.2.2.2 r hr
      cases r <;> first | exact hf.elim | skip
      obtain ⟨f1, f2, f3, f4⟩ := hf
      exact ⟨hr, f1, f2, bit_of f3 f4⟩
    refine fit_of (M := fun z => m (z % n)) (m := 2 * n) (by omega) (fun p hp => (sw p hp).2.2.2) (fun p hp => ?_) (msr_pos (fun d hd => ?_) (by simp))
    · rcases List.mem_append.mp hp with hp | hp
      · obtain ⟨a, b, c, d⟩ := sw p hp
        exact ⟨by omega, by omega, fun x x0 x1 => hm _ _ _ (ring_tie (by omega) h a)⟩
      · rw [List.mem_singleton] at hp
        subst hp
        refine ⟨by show 0 ≤ n; omega, by show 2 * n ≤ 2 * n; omega, fun x _ _ => ?_⟩
        show (m (x % n) + m ((x + n) % n) + 0) % 2 = 0
        rw [add_rest (Int.dvd_refl n)]
        omega
    · rcases List.mem_append.mp hd with hd | hd
      · obtain ⟨p, hp, rfl⟩ := List.mem_map.mp hd
        have := (sw p hp).2.1
        omega
      · rw [List.mem_singleton] at hd
        omega
  | floor H W =>
    obtain ⟨o1, o2, _⟩ := hb
    refine ⟨sort_fit (M := fun z => m (0 * W + z)) (m := W) (by omega) (fun p hp => ?_) (fun p hp => ?_), sort_fit (M := fun z => m (z * W + 0)) (m := H) (by omega) (fun p hp => ?_) (fun p hp => ?_)⟩
    · obtain ⟨r, hr, rfl⟩ := List.mem_map.mp hp
      have := Rule.bent01 (h.2.2.2 r (List.mem_filter.mp hr).1)
      show r.bent = 0 ∨ r.bent = 1
      omega
    · obtain ⟨r, hr, rfl⟩ := List.mem_map.mp hp
      obtain ⟨hr, ho⟩ := List.mem_filter.mp hr
      have hf := h.2.2.2 r hr
      cases r with
      | swap k e => exact hf.elim
      | under hh w e => cases ho
      | over hh w e =>
        obtain ⟨f1, f2, f3, f4, _⟩ := hf
        refine ⟨by show 0 < w; omega, by show 2 * w ≤ W; omega, fun x x0 x1 => hm _ _ _ (over_tie h hr (Int.le_refl 0) (by omega) x0 x1)⟩
    · obtain ⟨r, hr, rfl⟩ := List.mem_map.mp hp
      have := Rule.bent01 (h.2.2.2 r (List.mem_filter.mp hr).1)
      show r.bent = 0 ∨ r.bent = 1
      omega
    · obtain ⟨r, hr, rfl⟩ := List.mem_map.mp hp
      obtain ⟨hr, ho⟩ := List.mem_filter.mp hr
      have hf := h.2.2.2 r hr
      cases r with
      | swap k e => exact hf.elim
      | over hh w e => cases ho
      | under hh w e =>
        obtain ⟨f1, f2, f3, f4, _⟩ := hf
        refine ⟨by show 0 < hh; omega, by show 2 * hh ≤ H; omega, fun x x0 x1 => hm _ _ _ (under_tie h hr (Int.le_refl 0) (by omega) x0 x1)⟩
theorem fit_even (f : EvenP b bk) : Even (TieB b bk) := by
  cases b with
  | row n =>
    have ne : bk ≠ [] := fun e => by have := h.1; rw [e] at this; exact absurd this (by decide)
    have sw : ∀ p ∈ swaps bk, 1 ≤ p.1 ∧ (p.2 = 0 ∨ p.2 = 1) := fun p hp => by
      obtain ⟨r, hr, rfl⟩ := List.mem_map.mp hp
      have hf := h.2.2.2 r hr
      cases r <;> first | exact hf.elim | skip
      obtain ⟨f1, f2, f3, f4⟩ := hf
      exact ⟨f1, bit_of f3 f4⟩
    have po : ∀ d ∈ (swaps bk).map (·.1), 0 < d := fun d hd => by
      obtain ⟨p, hp, rfl⟩ := List.mem_map.mp hd
      have := (sw p hp).1
      omega
    have z := msr_zero (ds := (swaps bk).map (·.1)) fun d hd => by have := po d hd; omega
    obtain ⟨M, hM, _⟩ := marks_of_fit (rs := swaps bk) (g := msr ((swaps bk).map (·.1) ++ [0])) (a := 0) (by rw [z]; exact msr_pos po fun e => ne (List.map_eq_nil_iff.mp (List.map_eq_nil_iff.mp e))) (fun p hp => (sw p hp).2) (fun p hp => msr_dvd (List.mem_append_left _ (List.mem_map.mpr ⟨p, hp, rfl⟩))) f
    refine ⟨M, fun x y e t => ?_⟩
    obtain ⟨k, hk, rfl⟩ := tie_parts h t
    exact hM (k, e) (List.mem_map.mpr ⟨_, hk, rfl⟩) x
  | ring n =>
    have n5 : 5 ≤ n := hb.1
    have sw : ∀ p ∈ swaps bk, 1 ≤ p.1 ∧ (p.2 = 0 ∨ p.2 = 1) := fun p hp => by
      obtain ⟨r, hr, rfl⟩ := List.mem_map.mp hp
      have hf := h.2.2.2 r hr
      cases r <;> first | exact hf.elim | skip
      obtain ⟨f1, f2, f3, f4⟩ := hf
      exact ⟨f1, bit_of f3 f4⟩
    obtain ⟨M, hM, hN⟩ := marks_of_fit (rs := swaps bk) (g := msr ((swaps bk).map (·.1) ++ [n])) (a := n) (msr_pos (fun d hd => by
      rcases List.mem_append.mp hd with hd | hd
      · obtain ⟨p, hp, rfl⟩ := List.mem_map.mp hd
        have := (sw p hp).1
        omega
      · rw [List.mem_singleton] at hd
        omega) (by simp)) (fun p hp => (sw p hp).2) (fun p hp => msr_dvd (List.mem_append_left _ (List.mem_map.mpr ⟨p, hp, rfl⟩))) f
    have hN' := hN (msr_dvd (List.mem_append_right _ (List.mem_singleton.mpr rfl)))
    have back : ∀ z, (M z + M (z % n)) % 2 = 0 := fun z => by
      have := hN' (z % n) (z / n)
      rw [show z % n + z / n * n = z by have := Int.mul_ediv_add_emod z n; rw [Int.mul_comm] at this; omega] at this
      exact this
    refine ⟨M, fun x y e t => ?_⟩
    obtain ⟨k, hk, z, rfl, rfl⟩ := tie_parts h t
    have a := hM (k, e) (List.mem_map.mpr ⟨_, hk, rfl⟩) z
    have a' : (M z + M (z + k) + e) % 2 = 0 := a
    have b1 := back z
    have b2 := back (z + k)
    omega
  | floor H W =>
    obtain ⟨f1, f2⟩ := f
    obtain ⟨Mo, ho⟩ := sort_marks (rs := ovs bk) (fun p hp => by
      obtain ⟨r, hr, rfl⟩ := List.mem_map.mp hp
      obtain ⟨hr, ho⟩ := List.mem_filter.mp hr
      have hf := h.2.2.2 r hr
      cases r <;> first | exact hf.elim | (cases ho; done) | skip
      have := hf.2.1
      exact this) (fun p hp => by
      obtain ⟨r, hr, rfl⟩ := List.mem_map.mp hp
      have := Rule.bent01 (h.2.2.2 r (List.mem_filter.mp hr).1)
      show r.bent = 0 ∨ r.bent = 1
      omega) f1
    obtain ⟨Mu, hu⟩ := sort_marks (rs := uns bk) (fun p hp => by
      obtain ⟨r, hr, rfl⟩ := List.mem_map.mp hp
      obtain ⟨hr, ho⟩ := List.mem_filter.mp hr
      have hf := h.2.2.2 r hr
      cases r <;> first | exact hf.elim | (cases ho; done) | skip
      have := hf.1
      exact this) (fun p hp => by
      obtain ⟨r, hr, rfl⟩ := List.mem_map.mp hp
      have := Rule.bent01 (h.2.2.2 r (List.mem_filter.mp hr).1)
      show r.bent = 0 ∨ r.bent = 1
      omega) f2
    refine ⟨fun x => Mo (x % W) + Mu (x / W), fun x y e t => ?_⟩
    show (Mo (x % W) + Mu (x / W) + (Mo (y % W) + Mu (y / W)) + e) % 2 = 0
    rcases tie_parts h t with ⟨hh, w, hr, e1, e2⟩ | ⟨hh, w, hr, e1, e2⟩
    · have a : (Mo (x % W) + Mo (x % W + w) + e) % 2 = 0 := ho (w, e) (List.mem_map.mpr ⟨_, List.mem_filter.mpr ⟨hr, rfl⟩, rfl⟩) (x % W)
      rw [e1, e2]
      omega
    · have a : (Mu (x / W) + Mu (x / W + hh) + e) % 2 = 0 := hu (hh, e) (List.mem_map.mpr ⟨_, List.mem_filter.mpr ⟨hr, rfl⟩, rfl⟩) (x / W)
      rw [e1, e2]
      omega
end
end DL
set_option Elab.async false
set_option linter.all false
set_option maxRecDepth 100000
set_option maxHeartbeats 1000000
namespace DL
open PySem PySem.Spec L2
theorem optKn {α β : Type} {a : Option β} {k : α → Option β} : optK (none : Option α) a k = a := id rfl
theorem optKs {α β : Type} {x : α} {a : Option β} {k : α → Option β} : optK (some x) a k = k x := id rfl
theorem rule_fit (r : Rule) : Fit 1 r.d := by
  obtain ⟨_, _, _, s1, s2, s3, _⟩ := good_lit
  cases r <;> refine .tup fun d hd => ?_ <;> simp only [List.mem_cons, List.not_mem_nil, or_false] at hd <;> rcases hd with rfl | rfl | rfl | rfl <;> first | exact .int _ _ | exact .str _ s1 | exact .str _ s2 | exact .str _ s3
theorem rule_eqv (a b : Rule) : a.d.eqv b.d = decide (a = b) := by
  have n1 : decide (("swap" : Str) = "over") = false := by decide
  have n2 : decide (("swap" : Str) = "under") = false := by decide
  have n3 : decide (("over" : Str) = "swap") = false := by decide
  have n4 : decide (("over" : Str) = "under") = false := by decide
  have n5 : decide (("under" : Str) = "swap") = false := by decide
  have n6 : decide (("under" : Str) = "over") = false := by decide
  cases a <;> cases b <;> simp only [Rule.d, eqv_tup, eqvs_cc, eqvs_nil, eqvs_nil_cons, eqvs_cons_nil, eqv_str, eqv_int, n1, n2, n3, n4, n5, n6, decide_true, Bool.true_and, Bool.false_and, Bool.and_true, Bool.and_false] <;> first | (rw [← Bool.decide_and, ← Bool.decide_and]; exact decide_eq_decide.mpr (by simp)) | (rw [← Bool.decide_and]; exact decide_eq_decide.mpr (by simp)) | (exact (decide_eq_false (by simp)).symm)
theorem inO_rule (x : Rule) (ys : List Rule) : inO x.d (ys.map Rule.d) = some (decide (x ∈ ys)) := by
  unfold inO
  have o1 : x.d.ok = true := (rule_fit x).ok (by decide)
  have o2 : (D.lst (ys.map Rule.d)).ok = true := (Fit.lst (n := 1) fun d hd => by
    obtain ⟨r, _, rfl⟩ := List.mem_map.mp hd
    exact rule_fit r).ok (by decide)
  rw [if_pos ⟨o1, o2⟩, List.any_map]
  congr 1
  induction ys with
  | nil => rfl
  | cons y ys ih =>
    rw [List.any_cons, ih (Fit.ok (n := 2) (.lst fun d hd => by
      obtain ⟨r, _, rfl⟩ := List.mem_map.mp hd
      exact rule_fit r) (by decide))]
    show (y.d.eqv x.d || _) = _
    rw [rule_eqv]
    by_cases e : y = x
    · simp [e]
    · have : ¬ x = y := fun z => e z.symm
      simp [e, this]
theorem Rule.withB_fits {b : Board} {r : Rule} {c : Int} (h : r.fits b) (h0 : 0 ≤ c) (h1 : c ≤ 1) : (r.withB c).fits b := by
  have hc : c = 0 ∨ c = 1 := by omega
  cases b <;> cases r <;> first | exact h.elim | (simp only [Rule.withB, Rule.fits] at h ⊢; omega)
end DL
namespace G
open PySem PySem.Spec L2 DL
theorem calm_ok {n : Nat} {pot : List Int} {b : Board} {bk : List Rule} (h : PotOk n pot) (hb : b.ok 36) (hbk : BkOk b bk) (hn : n ≤ 2 ^ 60) :
    ∃ bk' pot', t__law_calm pot bk = some (bk', pot') ∧ BkOk b bk' ∧ PotOk (n + 1) pot' := by
  obtain ⟨r1, p1, e1, a1, b1, k1⟩ := dip_ok (m := 4) h (by decide) (by decide) (by omega)
  unfold t__law_calm
  rw [e1, bs]
  dsimp only
  by_cases c : r1 < 2
  · rw [decide_eq_true c, ct]
    exact ⟨bk, p1, rfl, hbk, k1⟩
  · rw [decide_eq_false c, cf]
    obtain ⟨h1, h2, h3, h4⟩ := hbk
    obtain ⟨s', e, g1, g2, g3, g4⟩ := forN_inv (b := fun (s3 : (List Rule)) (x4 : Rule) => (modI (cond (x4.isOver) x4.n2 x4.n1) (2 : Int)).bind fun v8 => (mulI v8 ((3 : Int) - r1)).bind fun v9 => (inO (Rule.d (Rule.withB x4 v9)) (List.map Rule.d s3)).bind fun v10 => cond (!v10) ((appL s3 (Rule.withB x4 v9)).bind fun v12 => some v12) (some s3))
      (fun i s => s.length ≤ i ∧ s.Nodup ∧ (∀ r ∈ s, r.fits b) ∧ (0 < i → 0 < s.length)) (xs := bk) (n := 0) (s := ([] : List Rule)) (fun i x s hx ⟨q1, q2, q3, q4⟩ => by
        have hi : i < bk.length := (List.getElem?_eq_some_iff.mp hx).1
        have m0 : 0 ≤ (cond x.isOver x.n2 x.n1) % 2 := Int.emod_nonneg _ (by decide)
        have m1 : (cond x.isOver x.n2 x.n1) % 2 < 2 := Int.emod_lt_of_pos _ (by decide)
        have fx := h4 x (List.mem_of_getElem? hx)
        have e3 : r1 = 2 ∨ r1 = 3 := by omega
        have bd : 0 ≤ (cond x.isOver x.n2 x.n1) % 2 * (3 - r1) ∧ (cond x.isOver x.n2 x.n1) % 2 * (3 - r1) ≤ 1 := by
          rcases e3 with rfl | rfl <;> omega
        rw [modI_ok (by decide), bs, mulI_s (by omega) (by omega), bs, inO_rule, bs]
        by_cases d : x.withB ((cond x.isOver x.n2 x.n1) % 2 * (3 - r1)) ∈ s
        · rw [decide_eq_true d, Bool.not_true, cf]
          exact ⟨s, rfl, by omega, q2, q3, fun _ => List.length_pos_of_mem d⟩
        · rw [decide_eq_false d, Bool.not_false, ct, appL_ok (by omega), bs]
          refine ⟨_, rfl, by rw [List.length_append, List.length_singleton]; omega, List.nodup_append.mpr ⟨q2, by simp, fun a ha b' hb' => ?_⟩, fun r hr => ?_, fun _ => by rw [List.length_append, List.length_singleton]; omega⟩
          · rw [List.mem_singleton] at hb'
            subst hb'
            exact fun z => d (z ▸ ha)
          · rcases List.mem_append.mp hr with z | z
            · exact q3 r z
            · rw [List.mem_singleton] at z
              subst z
              exact Rule.withB_fits fx bd.1 bd.2) ⟨Nat.zero_le _, List.nodup_nil, (fun _ h => nomatch h), fun h => absurd h (by decide)⟩
    rw [e, bs]
    exact ⟨s', p1, rfl, ⟨g4 (by omega), by omega, g2, g3⟩, k1⟩
end G
set_option Elab.async false
set_option linter.all false
set_option maxRecDepth 100000
set_option maxHeartbeats 1000000
namespace DL
open PySem PySem.Spec L2
theorem eqvs_is : ∀ (xs ys : List Int), eqvs (xs.map D.int) (ys.map D.int) = decide (xs = ys)
  | [], [] => by rw [List.map_nil, eqvs_nil]; rfl
  | [], y :: ys => by rw [List.map_nil, List.map_cons, eqvs_nil_cons]; rfl
  | x :: xs, [] => by rw [List.map_nil, List.map_cons, eqvs_cons_nil]; rfl
  | x :: xs, y :: ys => by
    rw [List.map_cons, List.map_cons, eqvs_cc, eqv_int, eqvs_is xs ys]
    by_cases h1 : x = y <;> by_cases h2 : xs = ys <;> simp [h1, h2]
theorem eqO_is (xs ys : List Int) : eqO (.lst (xs.map D.int)) (.lst (ys.map D.int)) = some (decide (xs = ys)) := by
  have fit : ∀ zs : List Int, Fit 1 (.lst (zs.map D.int)) := fun zs => .lst (n := 0) fun d hd => by
    obtain ⟨i, _, rfl⟩ := List.mem_map.mp hd
    exact .int 0 i
  rw [eqO_fit (fit xs) (fit ys) (by decide), eqv_lst, eqvs_is]
theorem tagO (r : Rule) : decide (r.tag = ("over" : Str)) = r.isOver := by
  cases r
  · show decide (("swap" : Str) = "over") = false
    decide +kernel
  · show decide (("over" : Str) = "over") = true
    decide +kernel
  · show decide (("under" : Str) = "over") = false
    decide +kernel
theorem tagU (r : Rule) : decide (r.tag = ("under" : Str)) = r.isUnder := by
  cases r
  · show decide (("swap" : Str) = "under") = false
    decide +kernel
  · show decide (("over" : Str) = "under") = false
    decide +kernel
  · show decide (("under" : Str) = "under") = true
    decide +kernel
end DL
namespace G
open PySem PySem.Spec L2 DL
open Classical in
theorem fits_ok {ls bs_ : List Int} {g a : Int} (g0 : 0 < g) (g1 : g < 2 ^ 64) (hl : ls.length ≤ 1000) : t__law_fits ls bs_ g a = some (decide (FitP ls bs_ g a)) := by
  unfold t__law_fits
  by_cases z : bs_.sum = 0
  · rw [decide_eq_true z, ct, decide_eq_true (show FitP ls bs_ g a from .inl z)]
  · rw [decide_eq_false z, cf, divI_s g0 g1, bs, modI_ok (by decide), bs]
    by_cases q : a / g % 2 = 1
    · rw [decide_eq_true q, ct, decide_eq_false (show ¬ FitP ls bs_ g a from fun f => f.elim z fun f => f.1 q)]
    · rw [decide_eq_false q, cf, mapO_ok (fun l => l / g % 2) (fun l _ => by rw [divI_s g0 g1, bs, modI_ok (by decide), bs]) (by omega), bs, eqO_is, bs]
      refine congrArg some (decide_eq_decide.mpr ⟨fun e => .inr ⟨q, e⟩, fun f => f.elim (fun f => absurd f z) fun f => f.2⟩)
section
variable {b : Board} {bk : List Rule} (hb : b.ok 36) (h : BkOk b bk)
include hb h
theorem cells_n : ∀ r ∈ bk, 0 < r.n1 ∧ r.n1 ≤ 36 ∧ (r.isOver = true → 0 < r.n2 ∧ r.n2 ≤ 36) := fun r hr => by
  have hf := h.2.2.2 r hr
  cases b <;> cases r <;> first | exact hf.elim | skip
  · obtain ⟨o1, o2⟩ := hb
    obtain ⟨f1, f2, _⟩ := hf
    exact ⟨by show 0 < _; exact f1, by show _ ≤ (36 : Int); simp only [Rule.n1]; omega, fun e => nomatch e⟩
  · obtain ⟨o1, o2⟩ := hb
    obtain ⟨f1, f2, _⟩ := hf
    exact ⟨by show 0 < _; exact f1, by show _ ≤ (36 : Int); simp only [Rule.n1]; omega, fun e => nomatch e⟩
  · obtain ⟨o1, o2, o3, o4, _⟩ := hb
    obtain ⟨f1, f2, f3, f4, _⟩ := hf
    exact ⟨by show 0 < _; exact f1, by simp only [Rule.n1]; omega, fun _ => ⟨by show 0 < _; exact f2, by simp only [Rule.n2]; omega⟩⟩
  · obtain ⟨o1, o2, o3, o4, _⟩ := hb
    obtain ⟨f1, f2, f3, f4, _⟩ := hf
    exact ⟨by show 0 < _; exact f1, by simp only [Rule.n1]; omega, fun e => nomatch e⟩
omit hb h in
theorem msr_small {ds : List Int} (hd : ∀ d ∈ ds, 0 < d ∧ d ≤ 36) (ne : ds ≠ []) : 0 < msr ds ∧ msr ds < 2 ^ 64 := by
  have p := msr_pos (fun d hm => (hd d hm).1) ne
  refine ⟨p, ?_⟩
  cases ds with
  | nil => exact absurd rfl ne
  | cons d ds =>
    have := Int.le_of_dvd (hd d (List.mem_cons_self ..)).1 (msr_dvd (List.mem_cons_self (a := d) (l := ds)))
    have := (hd d (List.mem_cons_self ..)).2
    omega
open Classical in
theorem even_ok : t__law_even b bk = some (decide (EvenP b bk)) := by
  have lb := h.2.1
  have ne : bk ≠ [] := fun e => by have := h.1; rw [e] at this; exact absurd this (by decide)
  have cn := cells_n hb h
  unfold t__law_even
  have line : ∀ (n k a : Int), mulI n k = some a → (∀ d ∈ (swaps bk).map (·.1) ++ [a], 0 ≤ d) → 0 < msr ((swaps bk).map (·.1) ++ [a]) → msr ((swaps bk).map (·.1) ++ [a]) < 2 ^ 64 →
      ((mapB (fun (x2 : Rule) => x2.n1) bk).bind fun v3 => (mulI n k).bind fun v4 => (mapB (fun (x5 : Rule) => x5.n2) bk).bind fun v6 => (catL v3 ([v4] : List Int)).bind fun v7 => (t__law_measure v7).bind fun v8 => (t__law_fits v3 v6 v8 v4).bind fun v9 => some v9) = some (decide (FitP ((swaps bk).map (·.1)) ((swaps bk).map (·.2)) (msr ((swaps bk).map (·.1) ++ [a])) a)) := by
    intro n k a ha h0 g0 g1
    have e1 : bk.map (fun x2 : Rule => x2.n1) = (swaps bk).map (·.1) := by unfold swaps; rw [List.map_map]; rfl
    have e2 : bk.map (fun x2 : Rule => x2.n2) = (swaps bk).map (·.2) := by unfold swaps; rw [List.map_map]; rfl
    have l1 : ((swaps bk).map (·.1)).length ≤ 4 := by unfold swaps; rw [List.length_map, List.length_map]; exact lb
    rw [mapB_ok (by omega), bs, ha, bs, mapB_ok (by omega), bs, e1, e2, catL_ok (by rw [List.length_cons, List.length_nil]; omega), bs, measure_ok h0, bs, fits_ok g0 g1 (by omega), bs]
  have po : ∀ d ∈ (swaps bk).map (·.1), 0 < d ∧ d ≤ 36 := fun d hd => by
    obtain ⟨p, hp, rfl⟩ := List.mem_map.mp hd
    obtain ⟨r, hr, rfl⟩ := List.mem_map.mp hp
    exact ⟨(cn r hr).1, (cn r hr).2.1⟩
  have sne : (swaps bk).map (·.1) ≠ [] := fun e => ne (List.map_eq_nil_iff.mp (List.map_eq_nil_iff.mp e))
  cases b with
  | row n =>
    obtain ⟨o1, o2⟩ := hb
    rw [show (!(Board.row n).isFloor) = true from rfl, ct]
    have z := msr_zero (ds := (swaps bk).map (·.1)) fun d hd => by have := po d hd; omega
    have s := msr_small po sne
    refine line n 0 0 ?_ (fun d hd => ?_) (by rw [z]; exact s.1) (by rw [z]; exact s.2)
    · rw [mulI_s (by omega) (by decide), Int.mul_zero]
    · rcases List.mem_append.mp hd with hd | hd
      · have := po d hd; omega
      · rw [List.mem_singleton] at hd; omega
  | ring n =>
    obtain ⟨o1, o2⟩ := hb
    rw [show (!(Board.ring n).isFloor) = true from rfl, ct]
    have po' : ∀ d ∈ (swaps bk).map (·.1) ++ [n], 0 < d ∧ d ≤ 36 := fun d hd => by
      rcases List.mem_append.mp hd with hd | hd
      · exact po d hd
      · rw [List.mem_singleton] at hd; omega
    have s := msr_small po' (by simp)
    refine line n 1 n ?_ (fun d hd => ?_) s.1 s.2
    · rw [mulI_s (by omega) (by decide), Int.mul_one]
    · have := po' d hd; omega
  | floor H W =>
    rw [show (!(Board.floor H W).isFloor) = false from rfl, cf]
    have sort : ∀ rs : List (Int × Int), rs.length ≤ 4 → (∀ p ∈ rs, 0 < p.1 ∧ p.1 ≤ 36) → (andO (!decide (rs.map (·.1) = [])) ((t__law_measure (rs.map (·.1))).bind fun v23 => (t__law_fits (rs.map (·.1)) (rs.map (·.2)) v23 (0 : Int)).bind fun v24 => some (!v24))) = some (!decide (SortP rs)) := by
      intro rs hl hp
      have pd : ∀ d ∈ rs.map (·.1), 0 < d ∧ d ≤ 36 := fun d hd => by
        obtain ⟨p, hm, rfl⟩ := List.mem_map.mp hd
        exact hp p hm
      by_cases z : rs = []
      · subst z
        rw [decide_eq_true (show SortP [] from .inl rfl)]
        rfl
      · have nz : ¬ rs.map (·.1) = [] := fun e => z (List.map_eq_nil_iff.mp e)
        have s := msr_small pd nz
        rw [decide_eq_false nz, measure_ok (fun d hd => by have := pd d hd; omega), bs, fits_ok s.1 s.2 (by rw [List.length_map]; omega), bs]
        show some (!decide _) = _
        congr 2
        exact decide_eq_decide.mpr ⟨fun f => .inr f, fun f => f.elim (fun e => absurd e z) id⟩
    have fo : (filO (fun (x16 : Rule) => some (decide (x16.tag = ("over" : Str)))) (fun (x16 : Rule) => (Rule.at x16 (2 : Int)).bind fun v17 => some v17) bk) = some ((ovs bk).map (·.1)) := by
      refine (filO_ok (fun r : Rule => r.isOver) (fun r => r.n2) (fun r _ => congrArg some (tagO r)) (fun r _ _ => rfl) (by omega)).trans ?_
      unfold ovs
      rw [List.map_map]
      rfl
    have fo2 : (filO (fun (x16 : Rule) => some (decide (x16.tag = ("over" : Str)))) (fun (x16 : Rule) => (Rule.at x16 (3 : Int)).bind fun v17 => some v17) bk) = some ((ovs bk).map (·.2)) := by
      refine (filO_ok (fun r : Rule => r.isOver) (fun r => r.bent) (fun r _ => congrArg some (tagO r)) (fun r _ e => by cases r <;> first | rfl | cases e) (by omega)).trans ?_
      unfold ovs
      rw [List.map_map]
      rfl
    have fu : (filO (fun (x16 : Rule) => some (decide (x16.tag = ("under" : Str)))) (fun (x16 : Rule) => (Rule.at x16 (1 : Int)).bind fun v17 => some v17) bk) = some ((uns bk).map (·.1)) := by
      refine (filO_ok (fun r : Rule => r.isUnder) (fun r => r.n1) (fun r _ => congrArg some (tagU r)) (fun r _ _ => rfl) (by omega)).trans ?_
      unfold uns
      rw [List.map_map]
      rfl
    have fu2 : (filO (fun (x16 : Rule) => some (decide (x16.tag = ("under" : Str)))) (fun (x16 : Rule) => (Rule.at x16 (3 : Int)).bind fun v17 => some v17) bk) = some ((uns bk).map (·.2)) := by
      refine (filO_ok (fun r : Rule => r.isUnder) (fun r => r.bent) (fun r _ => congrArg some (tagU r)) (fun r _ e => by cases r <;> first | rfl | cases e) (by omega)).trans ?_
      unfold uns
      rw [List.map_map]
      rfl
    have so := sort (ovs bk) (by unfold ovs; rw [List.length_map]; exact Nat.le_trans (List.length_filter_le ..) lb) fun p hp => by
      obtain ⟨r, hr, rfl⟩ := List.mem_map.mp hp
      obtain ⟨hr, ho⟩ := List.mem_filter.mp hr
      exact (cn r hr).2.2 ho
    have su := sort (uns bk) (by unfold uns; rw [List.length_map]; exact Nat.le_trans (List.length_filter_le ..) lb) fun p hp => by
      obtain ⟨r, hr, rfl⟩ := List.mem_map.mp hp
      obtain ⟨hr, ho⟩ := List.mem_filter.mp hr
      exact ⟨(cn r hr).1, (cn r hr).2.1⟩
    have nil : ∀ xs : List Int, eqO (.lst (List.map D.int xs)) (.lst (List.map D.int ([] : List Int))) = some (decide (xs = [])) := fun xs => eqO_is xs []
    unfold forE
    dsimp only
    rw [fo, bs, fo2, bs, nil, bs, so, bs]
    by_cases p1 : SortP (ovs bk)
    · rw [decide_eq_true p1, Bool.not_true, cf, bs]
      show ((forE _ _ ()).bind _) = _
      unfold forE
      dsimp only
      rw [fu, bs, fu2, bs, nil, bs, su, bs]
      by_cases p2 : SortP (uns bk)
      · rw [decide_eq_true p2, Bool.not_true, cf, bs, decide_eq_true (show EvenP (.floor H W) bk from ⟨p1, p2⟩)]
        rfl
      · rw [decide_eq_false p2, Bool.not_false, ct, bs, decide_eq_false (show ¬ EvenP (.floor H W) bk from fun e => p2 e.2)]
        rfl
    · rw [decide_eq_false p1, Bool.not_false, ct, bs, decide_eq_false (show ¬ EvenP (.floor H W) bk from fun e => p1 e.1)]
      rfl
end
open Classical in
theorem law_t (ns : List Int) (hn : ns.length ≤ 63) : t_law ns = some true := by
  obtain ⟨rg, bd⟩ := cells_range ns hn 6 (by decide)
  unfold t_law
  rw [rg, bs]
  refine forE_then' (fun x hx => ?_) rfl
  obtain ⟨x0, x1⟩ := bd x hx
  obtain ⟨p1, e1, k1⟩ := pot_ok ns x x0 x1
  obtain ⟨b, p2, e2, hb, k2⟩ := board_ok (m := 36) k1 (by decide) (by decide) (by decide)
  obtain ⟨bk, p3, e3, hbk, k3⟩ := book_ok k2 hb (by decide)
  obtain ⟨bc, p4, e4, hbc, k4⟩ := calm_ok k3 hb hbk (by decide)
  obtain ⟨r, er, hr⟩ := marks_found_ok hb hbc
  rw [e1, bs, e2, bs, e3, bs]
  dsimp only
  rw [e4, bs]
  dsimp only
  have ev : t_is_even b bc = some r.isSome := by
    unfold t_is_even
    rw [er, bs]
  rw [ev, bs, even_ok hb hbc, bs]
  rcases hr with ⟨m, rfl, mk⟩ | ⟨rfl, nev⟩
  · rw [decide_eq_true (even_fit hb hbc ⟨m, mk.fits⟩)]
    rfl
  · rw [decide_eq_false (fun f => nev (fit_even hb hbc f))]
    rfl
theorem law_pure (ns : List Int) (hn : ns.length ≤ 63) : ∃ ρ', F_law [.fz (.scr ns)] = some (.fz (.bl true), ρ') := C_law (law_t ns hn)
end G
namespace G
open PySem PySem.Spec L2 DL
theorem facts {P : Program} {w : World} {K : PySem.W.Frag} {h : Heap} {mg : Str → Option Value} {f : Addr} (X : K.In h) (Gh : h.Ns mainGlobals mg) (hfa : mg ("law" : Str) = some (.ref f)) (c : He.SaysD fa fn K)
    (pure_ : ∀ (ns : List Int), ns.length ≤ 63 → ∃ ρ', F_law [.fz (.scr ns)] = some (.fz (.bl true), ρ')) :
    ∃ fd : FuncData, (∀ (s : Shared) (v : Value), BindsTo s fd ⟨[v], []⟩ [("script", v)]) ∧ ∀ base : Heap, K.In base → base.Ns mainGlobals mg → FnG P w K mg base 8 f fd ["script"] (DL.spLaw K) := by
  have T := txMk X Gh c
  obtain ⟨fd, F⟩ := c.def_ 18 (d := df_law) rfl
  have e := hfa.symm.trans (T.gl 27 (x := "law") rfl)
  cases e
  have b := FunD.bindsA (ps := ["script"]) F fun _ _ _ _ _ _ us hl => match us, hl with | [_], _ => rfl
  refine ⟨fd, fun s v => b s [v] rfl, fun base _ _ => ?_⟩
  have D_cells_many := ok_cells_many (P := P) (w := w) (base := base) T 
  have D_first_cells := ok_first_cells (P := P) (w := w) (base := base) T D_cells_many
  have D_all_deeds := ok_all_deeds (P := P) (w := w) (base := base) T D_first_cells
  have D_pairs_at := ok_pairs_at (P := P) (w := w) (base := base) T D_cells_many
  have D_is_bent := ok_is_bent (P := P) (w := w) (base := base) T 
  have D_ties_of := ok_ties_of (P := P) (w := w) (base := base) T D_all_deeds D_pairs_at D_is_bent
  have D_near_cells := ok_near_cells (P := P) (w := w) (base := base) T D_cells_many D_ties_of
  have D_marks_found := ok_marks_found (P := P) (w := w) (base := base) T D_near_cells
  have D_is_even := ok_is_even (P := P) (w := w) (base := base) T D_marks_found
  have D__law_pot := ok__law_pot (P := P) (w := w) (base := base) T 
  have D__law_dip := ok__law_dip (P := P) (w := w) (base := base) T 
  have D__law_board := ok__law_board (P := P) (w := w) (base := base) T D__law_dip
  have D__law_rules := ok__law_rules (P := P) (w := w) (base := base) T 
  have D__law_book := ok__law_book (P := P) (w := w) (base := base) T D__law_rules D__law_dip
  have D__law_measure := ok__law_measure (P := P) (w := w) (base := base) T 
  have D__law_calm := ok__law_calm (P := P) (w := w) (base := base) T D__law_dip
  have D__law_fits := ok__law_fits (P := P) (w := w) (base := base) T 
  have D__law_even := ok__law_even (P := P) (w := w) (base := base) T D__law_fits D__law_measure
  exact lawG_of (okL_law (P := P) (w := w) (base := base) T F D__law_pot D__law_board D__law_calm D__law_book D_is_even D__law_even) pure_
abbrev R : PySem.W.OpenRow := PySem.W.OpenLaw.row PySem.Challenge.rw_stridelots_k14_whole_even_by_lengths
abbrev hk : PySem.W.Hook := He.hookD 5 fa fn
def ob (s : PySem.W.SharedT) : He.AlD := He.obsDG 5 fa fn (HandSHeadRun.getT s)
theorem ob_eq (s : PySem.W.SharedT) : ob s = hk.obs s.abs := He.obsDG_eq (HandSHeadRun.getT_eq s)
def loose : List PySem.Str := (["cells_many", "first_cells", "all_deeds", "pairs_at", "is_bent", "ties_of", "near_cells", "marks_found", "is_even", "_law_pot", "_law_dip", "_law_board"] : List PySem.Str) ++ (["_law_rules", "_law_book", "_law_measure", "_law_calm", "_law_fits", "_law_even"] : List PySem.Str)
theorem run (w : World) : HandSHeadRun.RunEq R (PySem.W.view R.prog [23]) hk ob 4000 loose w := by
  intro os
  kernel_rfl
end G
open PySem PySem.W PySem.Calls PyProof.Rows
set_option maxHeartbeats 0 in
theorem PySem.Challenge.cw_stridelots_k14_whole_even_by_lengths_holds : PySem.Challenge.rw_stridelots_k14_whole_even_by_lengths.Holds := by
  w_on; o_law
  refine HandSHeadRun.head_any (r := OpenLaw.row PySem.Challenge.rw_stridelots_k14_whole_even_by_lengths) (q := view (OpenLaw.row PySem.Challenge.rw_stridelots_k14_whole_even_by_lengths).prog [23]) (H := G.hk) (ob := G.ob) (M := 4000) (loose := G.loose) (d := HandSHeadRun.topDef (OpenLaw.row PySem.Challenge.rw_stridelots_k14_whole_even_by_lengths).prog 23) (kwd := []) G.ob_eq
    (by kernel_rfl) (fun s => by kernel_rfl) G.run (by kernel_rfl) (by kernel_rfl) (by kernel_rfl) (by rfl) (by first | assumption | decide +kernel) (by decide +kernel) ⟨rfl, rfl, rfl, rfl, rfl, by decide +kernel⟩ ?hw ?hc
  case hw => w_witness2
  case hc =>
    refine DL.walk_go (l := PySem.Challenge.rw_stridelots_k14_whole_even_by_lengths) (n := 63) (k := 8) (x := "script") rfl (by decide) (by kernel_rfl) ⟨rfl, by decide, by decide⟩ ?F
    intro w mg fa h Y Gns hmg0
    obtain ⟨K, KX, c⟩ := Y
    have hmg : mg ("law" : PySem.Str) = some (.ref fa) := by
      have e : (HandSHeadRun.topDef (OpenLaw.row PySem.Challenge.rw_stridelots_k14_whole_even_by_lengths).prog 23).name = ("law" : PySem.Str) := by kernel_rfl
      rw [← e]
      exact hmg0
    obtain ⟨fd, hb, hF⟩ := G.facts (P := (PySem.Challenge.rw_stridelots_k14_whole_even_by_lengths).prog) (w := w) KX Gns hmg c G.law_pure
    exact ⟨K, fd, DL.spLaw K, KX, hb, fun H a ns hl _ hS => ⟨a, ns, rfl, hS, hl, fun _ => rfl⟩, hF⟩
