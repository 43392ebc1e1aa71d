import PyProof.Rows.All
import Wide.All
import OpenK.AllK
import Wide.FinOn
import HandS.ForMost
import HandS.Walk
import HandS.Wide
import HandS.IsInst
import HandS.TupAny
import HandS.TupMul
import HandS.Deep
import HandS.Zip
import KE.GoesMore
import HandS.Head0
import HandS.Head1
import HandS.Head2
import HandS.HeadEnd
import HandS.HeadHook1
import HandS.HeadHook2
import HandS.ClsMeth
import HandS.Conv
import HandS.Ends
import HandS.Exc
import HandS.ExcField
import HandS.ExcInit
import HandS.ExcIs
import HandS.ExcOwn
import HandS.FStr
import HandS.More
import HandS.RaiseMore
import HandS.SetFor
import HandS.SortInts
import HandS.SortKw
import HandS.Strs
import HandS.Style
import KE.GoesZip
import KE.KDictCopyH
import KE.KEqDict
import KE.KFmtOwn
import KE.SortData
import PyProof.DictMoreH
import PyProof.InstEq
import PyProof.ReprRoads
import PyProof.Rows.StrMeet
import PySem.Challenge.RW_stridelots_k59_yards_of_many_names
set_option Elab.async false
set_option linter.all false
set_option maxRecDepth 100000
set_option maxHeartbeats 2000000
namespace DL
open PySem PySem.Spec L2
def xho (a : Addr) (cls : Value) (d : Option Addr) : HO := .ext fun h => ∃ (oe : Obj) (vs : Array Value), h.get? a = some oe ∧ Zc cls d oe ∧ oe.data = .fields vs
inductive D where
  | non | bl (b : Bool) | int (i : Int) | str (s : Str)
  | tup (xs : List D) | lst (xs : List D) | ins (C : Addr) (ns : List Str) (xs : List D) | scr (ns : List Int) | exn (C : Addr) (ns : List Str) (xs : List D)
  | dk (ks : List Key) (xs : List D) | dt (ks : List (List Key)) (xs : List D)
  | row (ns : List Int)
  | ptr (a : Addr)
mutual
inductive Rp (K : PySem.W.Frag) (H : Hp) : V → D → Prop
  | non : Rp K H .non .non
  | bl (b : Bool) : Rp K H (.bl b) (.bl b)
  | int (i : Int) : Rp K H (.int i) (.int i)
  | str (x : Str) : Rp K H (.str x) (.str x)
  | lst {a : Addr} {xs : List V} {ds : List D} : H a = some (.lst xs) → Rps K H xs ds → Rp K H (.ref a) (.lst ds)
  | tup {a : Addr} {xs : List V} {ds : List D} : H a = some (.tup xs) → Rps K H xs ds → Rp K H (.ref a) (.tup ds)
  | scr {a : Addr} {ns : List Int} : SqL K H a (ns.map V.int) → Rp K H (.ref a) (.scr ns)
  | ins {a C dx : Addr} {ns : List Str} {xs : List V} {ds : List D} : H a = some (.ins C dx (ns.zip xs)) → Rps K H xs ds → ns.length = xs.length → Rp K H (.ref a) (.ins C ns ds)
  | exn {a C : Addr} {o : Option Addr} {ns : List Str} {xs : List V} {ds : List D} : H a = some (xho a (.ref C) o) → ((∃ d, o = some d ∧ H d = some (.xd (ns.zip xs))) ∨ (o = none ∧ ns = [])) → Rps K H xs ds → ns.length = xs.length → Rp K H (.ref a) (.exn C ns ds)
  | dk {a : Addr} {od : Obj} {ks : List Key} {xs : List V} {ds : List D} : H a = some (.frz od (.dK (ks.zip xs))) → Rps K H xs ds → ks.length = xs.length → Rp K H (.ref a) (.dk ks ds)
  | dt {a : Addr} {od : Obj} {ks : List (List Key)} {xs : List V} {ds : List D} : H a = some (.frz od (.dT (ks.zip xs))) → Rps K H xs ds → ks.length = xs.length → Rp K H (.ref a) (.dt ks ds)
  | row {a : Addr} {o : Obj} {ns : List Int} : H a = some (.frz o (.tup (ns.map V.int))) → o.cls = .type "tuple" → o.dict = none → Rp K H (.ref a) (.row ns)
  | ptr (a : Addr) : Rp K H (.ref a) (.ptr a)
inductive Rps (K : PySem.W.Frag) (H : Hp) : List V → List D → Prop
  | nil : Rps K H [] []
  | cons {v : V} {vs : List V} {d : D} {ds : List D} : Rp K H v d → Rps K H vs ds → Rps K H (v :: vs) (d :: ds)
end
abbrev Ex (H H' : Hp) : Prop := Same H H'
theorem ex_new {H : Hp} {p : Addr} {o : HO} (h : H p = none) : Ex H (upd H p o) := fun a u e => by
  rw [upd_ne (ne_of_none e h)]
  exact e
section
variable {K : PySem.W.Frag} {H H' : Hp}
mutual
theorem Rp.mono (e : Ex H H') : ∀ (d : D) (v : V), Rp K H v d → Rp K H' v d
  | .non, _, h => by cases h; exact .non
  | .bl b, _, h => by cases h; exact .bl b
  | .int i, _, h => by cases h; exact .int i
  | .str x, _, h => by cases h; exact .str x
  | .lst ds, _, h => by
    cases h with
    | lst h1 h2 => exact .lst (e _ _ h1) (Rps.mono e ds _ h2)
  | .tup ds, _, h => by
    cases h with
    | tup h1 h2 => exact .tup (e _ _ h1) (Rps.mono e ds _ h2)
  | .ins C ns ds, _, h => by
    cases h with
    | ins h1 h2 h3 => exact .ins (e _ _ h1) (Rps.mono e ds _ h2) h3
  | .scr ns, _, h => by
    cases h with
    | scr h1 => exact .scr (e.seq h1)
  | .exn C ns ds, _, h => by
    cases h with
    | exn h1 h2 h3 h4 => exact .exn (e _ _ h1) (h2.imp (fun ⟨d, z1, z2⟩ => ⟨d, z1, e _ _ z2⟩) id) (Rps.mono e ds _ h3) h4
  | .dk ks ds, _, h => by
    cases h with
    | dk h1 h2 h3 => exact .dk (e _ _ h1) (Rps.mono e ds _ h2) h3
  | .dt ks ds, _, h => by
    cases h with
    | dt h1 h2 h3 => exact .dt (e _ _ h1) (Rps.mono e ds _ h2) h3
  | .row ns, _, h => by
    cases h with
    | row h1 h2 h3 => exact .row (e _ _ h1) h2 h3
  | .ptr a, _, h => by cases h; exact .ptr a
theorem Rps.mono (e : Ex H H') : ∀ (ds : List D) (vs : List V), Rps K H vs ds → Rps K H' vs ds
  | [], _, h => by cases h; exact .nil
  | d :: ds, _, h => by
    cases h with
    | cons h1 h2 => exact .cons (Rp.mono e d _ h1) (Rps.mono e ds _ h2)
end
theorem Rp.up {v : V} {d : D} (h : Rp K H v d) (e : Ex H H') : Rp K H' v d := Rp.mono e d v h
theorem Rps.up {vs : List V} {ds : List D} (h : Rps K H vs ds) (e : Ex H H') : Rps K H' vs ds := Rps.mono e ds vs h
theorem Rps.len : ∀ {vs : List V} {ds : List D}, Rps K H vs ds → vs.length = ds.length
  | _, _, .nil => rfl
  | _, _, .cons _ t => by simp [Rps.len t]
theorem Rps.app : ∀ {vs ws : List V} {ds es : List D}, Rps K H vs ds → Rps K H ws es → Rps K H (vs ++ ws) (ds ++ es)
  | _, _, _, _, .nil, h => h
  | _, _, _, _, .cons a b, h => .cons a (Rps.app b h)
theorem Rps.one {v : V} {d : D} (h : Rp K H v d) : Rps K H [v] [d] := .cons h .nil
theorem Rps.get : ∀ {vs : List V} {ds : List D} {i : Nat} {d : D}, Rps K H vs ds → ds[i]? = some d → ∃ v, vs[i]? = some v ∧ Rp K H v d
  | _, _, _, _, .nil, e => by simp at e
  | _, _, 0, _, .cons r _, e => by simp at e; subst e; exact ⟨_, rfl, r⟩
  | _, _, i + 1, d, .cons _ t, e => by
    obtain ⟨v, h1, h2⟩ := Rps.get (i := i) (d := d) t (by simpa using e)
    exact ⟨v, by simpa using h1, h2⟩
theorem Rps.getV : ∀ {vs : List V} {ds : List D} {i : Nat} {v : V}, Rps K H vs ds → vs[i]? = some v → ∃ d, ds[i]? = some d ∧ Rp K H v d
  | _, _, _, _, .nil, e => by simp at e
  | _, _, 0, _, .cons r _, e => by simp at e; subst e; exact ⟨_, rfl, r⟩
  | _, _, i + 1, v, .cons _ t, e => by
    obtain ⟨d, h1, h2⟩ := Rps.getV (i := i) (v := v) t (by simpa using e)
    exact ⟨d, by simpa using h1, h2⟩
theorem Rps.set {v : V} {d : D} (r : Rp K H v d) : ∀ {vs : List V} {ds : List D} (i : Nat), Rps K H vs ds → Rps K H (vs.set i v) (ds.set i d)
  | _, _, _, .nil => .nil
  | _, _, 0, .cons _ t => .cons r t
  | _, _, i + 1, .cons q t => .cons q (Rps.set r i t)
theorem Rps.erase : ∀ {vs : List V} {ds : List D} (i : Nat), Rps K H vs ds → Rps K H (vs.eraseIdx i) (ds.eraseIdx i)
  | _, _, _, .nil => .nil
  | _, _, 0, .cons _ t => t
  | _, _, i + 1, .cons q t => .cons q (Rps.erase i t)
theorem Rps.take : ∀ {vs : List V} {ds : List D} (i : Nat), Rps K H vs ds → Rps K H (vs.take i) (ds.take i)
  | _, _, 0, _ => .nil
  | _, _, _ + 1, .nil => .nil
  | _, _, i + 1, .cons q t => .cons q (Rps.take i t)
theorem Rps.drop : ∀ {vs : List V} {ds : List D} (i : Nat), Rps K H vs ds → Rps K H (vs.drop i) (ds.drop i)
  | _, _, 0, h => h
  | _, _, _ + 1, .nil => .nil
  | _, _, i + 1, .cons q t => Rps.drop i t
theorem Rps.rev : ∀ {vs : List V} {ds : List D}, Rps K H vs ds → Rps K H vs.reverse ds.reverse
  | _, _, .nil => .nil
  | _, _, .cons q t => by
    rw [List.reverse_cons, List.reverse_cons]
    exact (Rps.rev t).app (.one q)
theorem Rp.of_int {v : V} {i : Int} (h : Rp K H v (.int i)) : v = .int i := by cases h; rfl
theorem Rp.of_bl {v : V} {b : Bool} (h : Rp K H v (.bl b)) : v = .bl b := by cases h; rfl
theorem Rp.of_str {v : V} {s : Str} (h : Rp K H v (.str s)) : v = .str s := by cases h; rfl
theorem Rp.of_non {v : V} (h : Rp K H v .non) : v = .non := by cases h; rfl
end
def ent (x : List Int × Addr × Value) : DictEntry := ⟨reduceHash (Builtin.Tuple.tupleHashOf (x.1.map hashInt)), .ref x.2.1, x.2.2⟩
abbrev RK := List (List Int × Addr × V)
abbrev RKV : RK → List (List Int × Addr × Value) → Prop := Paired fun p q => p.1 = q.1 ∧ p.2.1 = q.2.1 ∧ RelV p.2.2 q.2.2
def rowDO (a : Addr) (ks : RK) : HO := .ext fun h => (ks.length ≤ sizeLine ∧ (a == sysModules) = false) ∧ ∃ (o : Obj) (es : Array DictEntry) (ep : Nat) (ys : List (List Int × Addr × Value)), h.get? a = some o ∧ o.ExactDict ∧ o.data = .dict es ep ∧ es.toList = ys.map ent ∧ RKV ks ys ∧ (ys.map (·.1)).Nodup
def KeysAt (H : Hp) (ks : RK) : Prop := ∀ x ∈ ks, ∃ o : Obj, H x.2.1 = some (.frz o (.tup (x.1.map V.int))) ∧ o.cls = .type "tuple" ∧ o.dict = none
theorem KeysAt.up {G G' : Hp} {ks : RK} (h : KeysAt G ks) (e : Ex G G') : KeysAt G' ks := fun x hx => by
  obtain ⟨o, z1, z2, z3⟩ := h x hx
  exact ⟨o, e _ _ z1, z2, z3⟩
inductive Mu where
  | l (xs : List D)
  | k (kvs : List (Key × D))
  | t (kvs : List (List Key × D))
  | w (kvs : List (List Int × D))
  | ob (C : Addr) (ns : List Str) (ds : List D)
  | «at» (q : Addr) (kvs : List (Key × D))
inductive RpKV {κ : Type} (K : PySem.W.Frag) (G : Hp) : List (κ × V) → List (κ × D) → Prop
  | nil : RpKV K G [] []
  | cons {k : κ} {v : V} {d : D} {vs : List (κ × V)} {ds : List (κ × D)} : Rp K G v d → RpKV K G vs ds → RpKV K G ((k, v) :: vs) ((k, d) :: ds)
inductive MuOk (K : PySem.W.Frag) (G : Hp) : Addr → HO → Mu → Prop
  | l {p : Addr} {vs : List V} {xs : List D} : Rps K G vs xs → MuOk K G p (.lst vs) (.l xs)
  | k {p : Addr} {vs : List (Key × V)} {xs : List (Key × D)} : RpKV K G vs xs → MuOk K G p (.dK vs) (.k xs)
  | t {p : Addr} {vs : List (List Key × V)} {xs : List (List Key × D)} : RpKV K G vs xs → MuOk K G p (.dT vs) (.t xs)
  | w {p a : Addr} {ks : RK} {xs : List (List Int × D)} : KeysAt G ks → Paired (fun (p : List Int × Addr × V) (q : List Int × D) => p.1 = q.1 ∧ Rp K G p.2.2 q.2) ks xs → MuOk K G p (rowDO a ks) (.w xs)
  | w0 {p : Addr} : MuOk K G p (.dT []) (.w [])
  | ob {p C dx : Addr} {ns : List Str} {xs : List V} {ds : List D} : Rps K G xs ds → ns.length = xs.length → MuOk K G p (.ins C dx (ns.zip xs)) (.ob C ns ds)
  | «at» {q : Addr} {vs : List (Key × V)} {xs : List (Key × D)} : RpKV K G vs xs → MuOk K G q (.dK vs) (.at q xs)
theorem RpKV.up {κ : Type} {K : PySem.W.Frag} {G G' : Hp} (e : Ex G G') : ∀ {vs : List (κ × V)} {ds : List (κ × D)}, RpKV K G vs ds → RpKV K G' vs ds
  | _, _, .nil => .nil
  | _, _, .cons h t => .cons (h.up e) (RpKV.up e t)
theorem MuOk.up {K : PySem.W.Frag} {G G' : Hp} {p : Addr} {o : HO} {m : Mu} (h : MuOk K G p o m) (e : Ex G G') : MuOk K G' p o m := by
  cases h with
  | l h => exact .l (h.up e)
  | k h => exact .k (h.up e)
  | t h => exact .t (h.up e)
  | w0 => exact .w0
  | ob h1 h2 => exact .ob (h1.up e) h2
  | «at» h1 => exact .at (h1.up e)
  | w h1 h2 => exact .w (h1.up e) (L2.Paired.mapP h2 fun _ _ z => ⟨z.1, z.2.up e⟩)
inductive Sl where
  | un | fz (d : D) | ow (m : Mu) | rf (m : Mu) | bw (i : Nat)
abbrev En := List Sl
def SlOk (K : PySem.W.Frag) (G H : Hp) (s : Option V) : Sl → Prop
  | .un => True
  | .fz d => ∃ v, s = some v ∧ Rp K G v d
  | .ow m => ∃ p o, s = some (.ref p) ∧ G p = none ∧ H p = some o ∧ MuOk K G p o m
  | .rf m => ∃ p o, s = some (.ref p) ∧ G p = none ∧ H p = some o ∧ MuOk K G p o m
  | .bw _ => False
def Own (σ : L2.St) (ρ : En) (i : Nat) (p : Addr) : Prop := σ[i]? = some (some (.ref p)) ∧ ((∃ m, ρ[i]? = some (.ow m)) ∨ ∃ m, ρ[i]? = some (.rf m))
def OwnA (σ : L2.St) (ρ : En) (p : Addr) : Prop := ∃ i, Own σ ρ i p
structure Good (K : PySem.W.Frag) (G H : Hp) (σ : L2.St) (ρ : En) : Prop where
  ex : Ex G H
  len : σ.length = ρ.length
  sl : ∀ (i : Nat) (s : Option V) (r : Sl), σ[i]? = some s → ρ[i]? = some r → SlOk K G H s r
  nd : ∀ i j p, Own σ ρ i p → Own σ ρ j p → i = j
def NT : HO → Prop
  | .tup _ => False
  | _ => True
theorem MuOk.nt {K : PySem.W.Frag} {G : Hp} {p : Addr} {o : HO} {m : Mu} (h : MuOk K G p o m) : NT o := by
  cases h <;> trivial
structure Aft (K : PySem.W.Frag) (G H : Hp) (σ : L2.St) (ρ : En) (G' H' : Hp) (σ' : L2.St) (ρ' : En) : Prop where
  good : Good K G' H' σ' ρ'
  ex : Ex G G'
  keep : ∀ a o, H a = some o → ¬ OwnA σ ρ a → H' a = some o ∧ (G a = none → NT o → G' a = none)
  dom : ∀ a o, H a = some o → ∃ o', H' a = some o'
  own : ∀ i p, Own σ' ρ' i p → OwnA σ ρ p ∨ H p = none
  rf : ∀ (i : Nat) (m : Mu), ρ[i]? = some (.rf m) → σ'[i]? = σ[i]? ∧ ∃ m', ρ'[i]? = some (.rf m')
  len : ρ'.length = ρ.length
section
variable {K : PySem.W.Frag} {G H G1 H1 G2 H2 G' H' : Hp} {σ σ1 σ2 : L2.St} {ρ ρ1 ρ2 : En}
theorem Aft.refl (g : Good K G H σ ρ) : Aft K G H σ ρ G H σ ρ :=
  ⟨g, Same.refl G, fun _ _ e _ => ⟨e, fun h _ => h⟩, fun _ o e => ⟨o, e⟩, fun i p h => .inl ⟨i, h⟩, fun i m h => ⟨rfl, m, h⟩, rfl⟩
theorem none_back (a : ∀ a o, H a = some o → ∃ o', H1 a = some o') {p : Addr} (h : H1 p = none) : H p = none := by
  cases e : H p with
  | none => rfl
  | some o =>
    obtain ⟨o', e'⟩ := a p o e
    rw [h] at e'
    cases e'
theorem Aft.back (a : Aft K G H σ ρ G1 H1 σ1 ρ1) {p : Addr} (h : H1 p = none) : H p = none := none_back a.dom h
theorem Aft.nown (a : Aft K G H σ ρ G1 H1 σ1 ρ1) {p : Addr} {o : HO} (h : H p = some o) (n : ¬ OwnA σ ρ p) : ¬ OwnA σ1 ρ1 p := fun ⟨i, q⟩ => by
  rcases a.own i p q with z | z
  · exact n z
  · rw [h] at z
    cases z
theorem Aft.trans (a : Aft K G H σ ρ G1 H1 σ1 ρ1) (b : Aft K G1 H1 σ1 ρ1 G2 H2 σ2 ρ2) : Aft K G H σ ρ G2 H2 σ2 ρ2 where
  good := b.good
  ex := a.ex.trans b.ex
  keep := fun x o e n => by
    obtain ⟨e1, k1⟩ := a.keep x o e n
    obtain ⟨e2, k2⟩ := b.keep x o e1 (a.nown e n)
    exact ⟨e2, fun z y => k2 (k1 z y) y⟩
  dom := fun x o e => by
    obtain ⟨o', e'⟩ := a.dom x o e
    exact b.dom x o' e'
  own := fun i p q => by
    rcases b.own i p q with ⟨j, z⟩ | z
    · exact a.own j p z
    · exact .inr (a.back z)
  rf := fun i m e => by
    obtain ⟨q1, m1, e1⟩ := a.rf i m e
    obtain ⟨q2, m2, e2⟩ := b.rf i m1 e1
    exact ⟨q2.trans q1, m2, e2⟩
  len := b.len.trans a.len
theorem Good.laid {p : Addr} {o : HO} (g : Good K G H σ ρ) (h : H p = none) : Good K (upd G p o) (upd H p o) σ ρ := by
  have gp : G p = none := g.ex.free h
  refine ⟨fun a u e => ?_, g.len, fun i s r e1 e2 => ?_, g.nd⟩
  · by_cases q : a = p
    · subst q
      rw [upd_same] at e ⊢
      exact e
    · rw [upd_ne q] at e ⊢
      exact g.ex a u e
  · have k := g.sl i s r e1 e2
    cases r with
    | un => trivial
    | fz d =>
      obtain ⟨v, h1, h2⟩ := k
      exact ⟨v, h1, h2.up (ex_new gp)⟩
    | ow m =>
      obtain ⟨q, u, h1, h2, h3, h4⟩ := k
      have ne : q ≠ p := ne_of_none h3 h
      exact ⟨q, u, h1, by rw [upd_ne ne]; exact h2, by rw [upd_ne ne]; exact h3, h4.up (ex_new gp)⟩
    | rf m =>
      obtain ⟨q, u, h1, h2, h3, h4⟩ := k
      have ne : q ≠ p := ne_of_none h3 h
      exact ⟨q, u, h1, by rw [upd_ne ne]; exact h2, by rw [upd_ne ne]; exact h3, h4.up (ex_new gp)⟩
    | bw i => exact k
theorem Aft.laid {p : Addr} {o : HO} (g : Good K G H σ ρ) (h : H p = none) : Aft K G H σ ρ (upd G p o) (upd H p o) σ ρ :=
  ⟨g.laid h, ex_new (g.ex.free h), fun a u e _ => ⟨by rw [upd_ne (ne_of_none e h)]; exact e, fun z _ => by rw [upd_ne (ne_of_none e h)]; exact z⟩,
    fun a u e => ⟨u, by rw [upd_ne (ne_of_none e h)]; exact e⟩, fun i q z => .inl ⟨i, z⟩, fun i m e => ⟨rfl, m, e⟩, rfl⟩
theorem Good.mut {p : Addr} {o : HO} (g : Good K G H σ ρ) (h : G p = none) (n : ¬ OwnA σ ρ p) : Good K G (upd H p o) σ ρ := by
  refine ⟨fun a u e => ?_, g.len, fun i s r e1 e2 => ?_, g.nd⟩
  · rw [upd_ne (ne_of_none e h)]
    exact g.ex a u e
  · have k := g.sl i s r e1 e2
    cases r with
    | un => trivial
    | fz d => exact k
    | ow m =>
      obtain ⟨q, u, h1, h2, h3, h4⟩ := k
      have ne : q ≠ p := fun z => n ⟨i, by rw [e1, h1, z], .inl ⟨m, e2⟩⟩
      exact ⟨q, u, h1, h2, by rw [upd_ne ne]; exact h3, h4⟩
    | rf m =>
      obtain ⟨q, u, h1, h2, h3, h4⟩ := k
      have ne : q ≠ p := fun z => n ⟨i, by rw [e1, h1, z], .inr ⟨m, e2⟩⟩
      exact ⟨q, u, h1, h2, by rw [upd_ne ne]; exact h3, h4⟩
    | bw i => exact k
theorem Own.there (g : Good K G H σ ρ) {i : Nat} {p : Addr} (q : Own σ ρ i p) : G p = none ∧ ∃ o, H p = some o := by
  obtain ⟨e, ⟨m, k⟩ | ⟨m, k⟩⟩ := q
  · obtain ⟨q, u, h1, h2, h3, h4⟩ := g.sl i _ _ e k
    cases h1
    exact ⟨h2, u, h3⟩
  · obtain ⟨q, u, h1, h2, h3, h4⟩ := g.sl i _ _ e k
    cases h1
    exact ⟨h2, u, h3⟩
theorem Good.notOwn (g : Good K G H σ ρ) {p : Addr} (h : H p = none) : ¬ OwnA σ ρ p := fun ⟨i, q⟩ => by
  obtain ⟨_, o, e⟩ := Own.there g q
  rw [h] at e
  cases e
theorem Aft.mutO {p : Addr} {o : HO} (a : Aft K G H σ ρ G1 H1 σ1 ρ1) (h0 : H p = none ∨ OwnA σ ρ p) (h : G1 p = none) (n : ¬ OwnA σ1 ρ1 p) : Aft K G H σ ρ G1 (upd H1 p o) σ1 ρ1 :=
  ⟨a.good.mut h n, a.ex, fun b u e z => by
    obtain ⟨k1, k2⟩ := a.keep b u e z
    have ne : b ≠ p := fun y => by
      subst y
      rcases h0 with h0 | h0
      · rw [h0] at e
        cases e
      · exact z h0
    exact ⟨by rw [upd_ne ne]; exact k1, k2⟩, fun b u e => by
    obtain ⟨u', k⟩ := a.dom b u e
    by_cases y : b = p
    · subst y
      exact ⟨o, upd_same⟩
    · exact ⟨u', by rw [upd_ne y]; exact k⟩, a.own, a.rf, a.len⟩
theorem Aft.mut {p : Addr} {o : HO} (a : Aft K G H σ ρ G1 H1 σ1 ρ1) (h0 : H p = none) (h : G1 p = none) (n : ¬ OwnA σ1 ρ1 p) : Aft K G H σ ρ G1 (upd H1 p o) σ1 ρ1 := a.mutO (.inl h0) h n
theorem Good.stay {p : Addr} {o : HO} (g : Good K G H σ ρ) (h : G p = none) (e : H p = some o) (n : ¬ OwnA σ ρ p) : Good K (upd G p o) H σ ρ := by
  refine ⟨fun a u q => ?_, g.len, fun i s r e1 e2 => ?_, g.nd⟩
  · by_cases z : a = p
    · subst z
      rw [upd_same] at q
      cases q
      exact e
    · rw [upd_ne z] at q
      exact g.ex a u q
  · have k := g.sl i s r e1 e2
    cases r with
    | un => trivial
    | fz d =>
      obtain ⟨v, h1, h2⟩ := k
      exact ⟨v, h1, h2.up (ex_new h)⟩
    | ow m =>
      obtain ⟨q, u, h1, h2, h3, h4⟩ := k
      have ne : q ≠ p := fun z => n ⟨i, by rw [e1, h1, z], .inl ⟨m, e2⟩⟩
      exact ⟨q, u, h1, by rw [upd_ne ne]; exact h2, h3, h4.up (ex_new h)⟩
    | rf m =>
      obtain ⟨q, u, h1, h2, h3, h4⟩ := k
      have ne : q ≠ p := fun z => n ⟨i, by rw [e1, h1, z], .inr ⟨m, e2⟩⟩
      exact ⟨q, u, h1, by rw [upd_ne ne]; exact h2, h3, h4.up (ex_new h)⟩
    | bw i => exact k
theorem Aft.stayO {p : Addr} {o : HO} (a : Aft K G H σ ρ G1 H1 σ1 ρ1) (h0 : H p = none ∨ OwnA σ ρ p ∨ ¬ NT o) (h : G1 p = none) (e : H1 p = some o) (n : ¬ OwnA σ1 ρ1 p) : Aft K G H σ ρ (upd G1 p o) H1 σ1 ρ1 :=
  ⟨a.good.stay h e n, a.ex.trans (ex_new h), fun b u q z => by
    obtain ⟨k1, k2⟩ := a.keep b u q z
    refine ⟨k1, fun y nt => ?_⟩
    have ne : b ≠ p := fun w => by
      subst w
      rcases h0 with h0 | h0 | h0
      · rw [h0] at q
        cases q
      · exact z h0
      · rw [k1] at e
        cases e
        exact h0 nt
    rw [upd_ne ne]
    exact k2 y nt, a.dom, a.own, a.rf, a.len⟩
theorem Aft.stay {p : Addr} {o : HO} (a : Aft K G H σ ρ G1 H1 σ1 ρ1) (h0 : H p = none) (h : G1 p = none) (e : H1 p = some o) (n : ¬ OwnA σ1 ρ1 p) : Aft K G H σ ρ (upd G1 p o) H1 σ1 ρ1 := a.stayO (.inl h0) h e n
theorem Aft.stayT {p : Addr} {xs : List V} (a : Aft K G H σ ρ G1 H1 σ1 ρ1) (h : G1 p = none) (e : H1 p = some (.tup xs)) : Aft K G H σ ρ (upd G1 p (.tup xs)) H1 σ1 ρ1 := by
  refine a.stayO (.inr (.inr fun z => z)) h e fun ⟨i, o1, o2⟩ => ?_
  have go : ∀ r, ρ1[i]? = some r → (∃ m, r = .ow m) ∨ (∃ m, r = .rf m) → False := fun r q z => by
    have s := a.good.sl i _ _ o1 q
    rcases z with ⟨m, rfl⟩ | ⟨m, rfl⟩
    · obtain ⟨p', o', h1, _, h3, h4⟩ := s
      cases h1
      rw [e] at h3
      cases h3
      exact h4.nt
    · obtain ⟨p', o', h1, _, h3, h4⟩ := s
      cases h1
      rw [e] at h3
      cases h3
      exact h4.nt
  rcases o2 with ⟨m, o2⟩ | ⟨m, o2⟩
  · exact go _ o2 (.inl ⟨m, rfl⟩)
  · exact go _ o2 (.inr ⟨m, rfl⟩)
theorem getElem?_set_cases {α : Type} {l : List α} {i j : Nat} {x y : α} (h : (l.set i x)[j]? = some y) : (j = i ∧ y = x) ∨ (j ≠ i ∧ l[j]? = some y) := by
  by_cases e : i = j
  · subst e
    by_cases hi : i < l.length
    · rw [List.getElem?_set_self hi] at h
      exact .inl ⟨rfl, (Option.some.inj h).symm⟩
    · rw [List.getElem?_eq_none (by simpa using hi)] at h
      cases h
  · rw [List.getElem?_set_ne e] at h
    exact .inr ⟨fun z => e z.symm, h⟩
theorem Good.freeze {i : Nat} {p : Addr} {o : HO} {m : Mu} {d : D} (g : Good K G H σ ρ) (e1 : σ[i]? = some (some (.ref p))) (e2 : ρ[i]? = some (.ow m)) (e : H p = some o) (r : Rp K (upd G p o) (.ref p) d) : Good K (upd G p o) H σ (ρ.set i (.fz d)) := by
  obtain ⟨q, u, h1, h2, h3, h4⟩ := g.sl i _ _ e1 e2
  cases h1
  have ownOld : ∀ j a, Own σ (ρ.set i (.fz d)) j a → Own σ ρ j a ∧ j ≠ i := fun j a ⟨z1, z2⟩ => by
    have ne : j ≠ i := fun y => by
      subst y
      rcases z2 with ⟨m', z2⟩ | ⟨m', z2⟩
      · rcases getElem?_set_cases z2 with ⟨_, y⟩ | ⟨y, _⟩
        · cases y
        · exact y rfl
      · rcases getElem?_set_cases z2 with ⟨_, y⟩ | ⟨y, _⟩
        · cases y
        · exact y rfl
    rw [List.getElem?_set_ne (Ne.symm ne)] at z2
    exact ⟨⟨z1, z2⟩, ne⟩
  refine ⟨fun a u q => ?_, by simpa using g.len, fun j s r' e3 e4 => ?_, fun j k a z1 z2 => g.nd j k a (ownOld j a z1).1 (ownOld k a z2).1⟩
  · by_cases z : a = p
    · subst z
      rw [upd_same] at q
      cases q
      exact e
    · rw [upd_ne z] at q
      exact g.ex a u q
  · rcases getElem?_set_cases e4 with ⟨y1, y2⟩ | ⟨y1, y2⟩
    · subst y1
      subst y2
      rw [e1] at e3
      cases e3
      exact ⟨_, rfl, r⟩
    · have k := g.sl j s r' e3 y2
      cases r' with
      | un => trivial
      | fz d' =>
        obtain ⟨v, h1, h2'⟩ := k
        exact ⟨v, h1, h2'.up (ex_new h2)⟩
      | ow m' =>
        obtain ⟨q, u', k1, k2, k3, k4⟩ := k
        have ne : q ≠ p := fun z => y1 (g.nd j i p ⟨by rw [e3, k1, z], .inl ⟨m', y2⟩⟩ ⟨e1, .inl ⟨m, e2⟩⟩)
        exact ⟨q, u', k1, by rw [upd_ne ne]; exact k2, k3, k4.up (ex_new h2)⟩
      | rf m' =>
        obtain ⟨q, u', k1, k2, k3, k4⟩ := k
        have ne : q ≠ p := fun z => y1 (g.nd j i p ⟨by rw [e3, k1, z], .inr ⟨m', y2⟩⟩ ⟨e1, .inl ⟨m, e2⟩⟩)
        exact ⟨q, u', k1, by rw [upd_ne ne]; exact k2, k3, k4.up (ex_new h2)⟩
      | bw _ => exact k
theorem Aft.freeze {i : Nat} {p : Addr} {o : HO} {m : Mu} {d : D} (g : Good K G H σ ρ) (e1 : σ[i]? = some (some (.ref p))) (e2 : ρ[i]? = some (.ow m)) (e : H p = some o) (r : Rp K (upd G p o) (.ref p) d) :
    Aft K G H σ ρ (upd G p o) H σ (ρ.set i (.fz d)) := by
  have gp : G p = none := (Own.there g ⟨e1, .inl ⟨m, e2⟩⟩).1
  refine ⟨g.freeze e1 e2 e r, ex_new gp, fun a u q z => ⟨q, fun y _ => ?_⟩, fun a u q => ⟨u, q⟩, fun j a ⟨z1, z2⟩ => .inl ⟨j, z1, ?_⟩, fun j m' q => ⟨rfl, m', ?_⟩, by simp⟩
  · rw [upd_ne fun w => z ⟨i, by rw [e1, w], .inl ⟨m, e2⟩⟩]
    exact y
  · rcases z2 with ⟨m', z2⟩ | ⟨m', z2⟩
    · rcases getElem?_set_cases z2 with ⟨_, y⟩ | ⟨_, y⟩
      · cases y
      · exact .inl ⟨m', y⟩
    · rcases getElem?_set_cases z2 with ⟨_, y⟩ | ⟨_, y⟩
      · cases y
      · exact .inr ⟨m', y⟩
  · rw [List.getElem?_set_ne fun z => ?_]
    · exact q
    · subst z
      rw [e2] at q
      cases q
inductive Held : Sl → Mu → Prop
  | ow (m : Mu) : Held (.ow m) m
  | rf (m : Mu) : Held (.rf m) m
def Sl.put (m : Mu) : Sl → Sl
  | .rf _ => .rf m
  | _ => .ow m
theorem Good.change {i : Nat} {p : Addr} {o : HO} {r : Sl} {m m' : Mu} (g : Good K G H σ ρ) (e1 : σ[i]? = some (some (.ref p))) (e2 : ρ[i]? = some r) (hr : Held r m) (ok : MuOk K G p o m') : Good K G (upd H p o) σ (ρ.set i (r.put m')) := by
  have ow : Own σ ρ i p := ⟨e1, by cases hr with | ow m => exact .inl ⟨m, e2⟩ | rf m => exact .inr ⟨m, e2⟩⟩
  have gp := (Own.there g ow).1
  have ownOld : ∀ j a, Own σ (ρ.set i (r.put m')) j a → Own σ ρ j a := fun j a ⟨z1, z2⟩ => by
    by_cases ne : j = i
    · subst ne
      rw [e1] at z1
      cases z1
      exact ow
    · rw [List.getElem?_set_ne (Ne.symm ne)] at z2
      exact ⟨z1, z2⟩
  refine ⟨fun a u q => ?_, by simpa using g.len, fun j s r' e3 e4 => ?_, fun j k a z1 z2 => g.nd j k a (ownOld j a z1) (ownOld k a z2)⟩
  · rw [upd_ne (ne_of_none q gp)]
    exact g.ex a u q
  · rcases getElem?_set_cases e4 with ⟨y1, y2⟩ | ⟨y1, y2⟩
    · subst y1
      subst y2
      rw [e1] at e3
      cases e3
      cases hr with
      | ow m => exact ⟨p, o, rfl, gp, upd_same, ok⟩
      | rf m => exact ⟨p, o, rfl, gp, upd_same, ok⟩
    · have k := g.sl j s r' e3 y2
      cases r' with
      | un => trivial
      | fz d' => exact k
      | ow m' =>
        obtain ⟨q, u', k1, k2, k3, k4⟩ := k
        have ne : q ≠ p := fun z => y1 (g.nd j i p ⟨by rw [e3, k1, z], .inl ⟨m', y2⟩⟩ ow)
        exact ⟨q, u', k1, k2, by rw [upd_ne ne]; exact k3, k4⟩
      | rf m' =>
        obtain ⟨q, u', k1, k2, k3, k4⟩ := k
        have ne : q ≠ p := fun z => y1 (g.nd j i p ⟨by rw [e3, k1, z], .inr ⟨m', y2⟩⟩ ow)
        exact ⟨q, u', k1, k2, by rw [upd_ne ne]; exact k3, k4⟩
      | bw _ => exact k
theorem Aft.change {i : Nat} {p : Addr} {o : HO} {r : Sl} {m m' : Mu} (g : Good K G H σ ρ) (e1 : σ[i]? = some (some (.ref p))) (e2 : ρ[i]? = some r) (hr : Held r m) (ok : MuOk K G p o m') : Aft K G H σ ρ G (upd H p o) σ (ρ.set i (r.put m')) := by
  have ow : Own σ ρ i p := ⟨e1, by cases hr with | ow m => exact .inl ⟨m, e2⟩ | rf m => exact .inr ⟨m, e2⟩⟩
  refine ⟨g.change e1 e2 hr ok, Same.refl G, fun a u q z => ⟨?_, fun y _ => y⟩, fun a u q => ?_, fun j a ⟨z1, z2⟩ => .inl ?_, fun j m1 q => ⟨rfl, ?_⟩, by simp⟩
  · rw [upd_ne fun (w : a = p) => z ⟨i, by rw [w]; exact ow⟩]
    exact q
  · by_cases y : a = p
    · subst y
      exact ⟨o, upd_same⟩
    · exact ⟨u, by rw [upd_ne y]; exact q⟩
  · by_cases ne : j = i
    · subst ne
      rw [e1] at z1
      cases z1
      exact ⟨j, ow⟩
    · rw [List.getElem?_set_ne (Ne.symm ne)] at z2
      exact ⟨j, z1, z2⟩
  · by_cases ne : i = j
    · subst ne
      rw [e2] at q
      cases q
      have hi : i < ρ.length := (List.getElem?_eq_some_iff.mp e2).1
      exact ⟨m', by rw [List.getElem?_set_self hi]; rfl⟩
    · exact ⟨m1, by rw [List.getElem?_set_ne ne]; exact q⟩
theorem Good.store {i : Nat} {s : Option V} {r : Sl} (g : Good K G H σ ρ) (ok : SlOk K G H s r) (n : ∀ p, s = some (.ref p) → ((∃ m, r = .ow m) ∨ ∃ m, r = .rf m) → ¬ OwnA σ ρ p) : Good K G H (σ.set i s) (ρ.set i r) := by
  have cases_ : ∀ j p, Own (σ.set i s) (ρ.set i r) j p → (j = i ∧ s = some (.ref p) ∧ ((∃ m, r = .ow m) ∨ ∃ m, r = .rf m)) ∨ (j ≠ i ∧ Own σ ρ j p) := fun j p ⟨z1, z2⟩ => by
    by_cases ne : j = i
    · subst ne
      rcases getElem?_set_cases z1 with ⟨_, y⟩ | ⟨y, _⟩
      · refine .inl ⟨rfl, y.symm, ?_⟩
        rcases z2 with ⟨m, z2⟩ | ⟨m, z2⟩
        · rcases getElem?_set_cases z2 with ⟨_, y⟩ | ⟨y, _⟩
          · exact .inl ⟨m, y.symm⟩
          · exact absurd rfl y
        · rcases getElem?_set_cases z2 with ⟨_, y⟩ | ⟨y, _⟩
          · exact .inr ⟨m, y.symm⟩
          · exact absurd rfl y
      · exact absurd rfl y
    · rw [List.getElem?_set_ne (Ne.symm ne)] at z1 z2
      exact .inr ⟨ne, z1, z2⟩
  refine ⟨g.ex, by simpa using g.len, fun j s' r' e3 e4 => ?_, fun j k p z1 z2 => ?_⟩
  · by_cases ne : j = i
    · subst ne
      rcases getElem?_set_cases e3 with ⟨_, y⟩ | ⟨y, _⟩
      · rcases getElem?_set_cases e4 with ⟨_, y'⟩ | ⟨y', _⟩
        · subst y
          subst y'
          exact ok
        · exact absurd rfl y'
      · exact absurd rfl y
    · rw [List.getElem?_set_ne (Ne.symm ne)] at e3 e4
      exact g.sl j s' r' e3 e4
  · rcases cases_ j p z1 with ⟨y1, y2, y3⟩ | ⟨y1, y2⟩
    · rcases cases_ k p z2 with ⟨x1, _, _⟩ | ⟨_, x2⟩
      · rw [y1, x1]
      · exact absurd ⟨k, x2⟩ (n p y2 y3)
    · rcases cases_ k p z2 with ⟨x1, x2, x3⟩ | ⟨_, x2⟩
      · exact absurd ⟨j, y2⟩ (n p x2 x3)
      · exact g.nd j k p y2 x2
def notRf (ρ : En) (i : Nat) : Bool := match ρ[i]? with
  | some (.rf _) => false
  | some _ => true
  | none => false
theorem Aft.store {i : Nat} {s : Option V} {r : Sl} (a : Aft K G H σ ρ G1 H1 σ1 ρ1) (ok : SlOk K G1 H1 s r) (n : ∀ p, s = some (.ref p) → ((∃ m, r = .ow m) ∨ ∃ m, r = .rf m) → ¬ OwnA σ1 ρ1 p ∧ H p = none) (hr : notRf ρ1 i = true) :
    Aft K G H σ ρ G1 H1 (σ1.set i s) (ρ1.set i r) := by
  refine ⟨a.good.store ok fun p h1 h2 => (n p h1 h2).1, a.ex, a.keep, a.dom, fun j p ⟨z1, z2⟩ => ?_, fun j m e => ?_, by simpa using a.len⟩
  · by_cases ne : j = i
    · subst ne
      rcases getElem?_set_cases z1 with ⟨_, y⟩ | ⟨y, _⟩
      · refine .inr (n p y.symm ?_).2
        rcases z2 with ⟨m, z2⟩ | ⟨m, z2⟩
        · rcases getElem?_set_cases z2 with ⟨_, y⟩ | ⟨y, _⟩
          · exact .inl ⟨m, y.symm⟩
          · exact absurd rfl y
        · rcases getElem?_set_cases z2 with ⟨_, y⟩ | ⟨y, _⟩
          · exact .inr ⟨m, y.symm⟩
          · exact absurd rfl y
      · exact absurd rfl y
    · rw [List.getElem?_set_ne (Ne.symm ne)] at z1 z2
      exact a.own j p ⟨z1, z2⟩
  · obtain ⟨q1, m1, e1⟩ := a.rf j m e
    have ne : i ≠ j := fun z => by
      subst z
      unfold notRf at hr
      rw [e1] at hr
      cases hr
    exact ⟨by rw [List.getElem?_set_ne ne]; exact q1, m1, by rw [List.getElem?_set_ne ne]; exact e1⟩
end
end DL
namespace DL
open PySem PySem.Spec L2
def ROk (K : PySem.W.Frag) (H0 G H : Hp) (σ : L2.St) (ρ : En) (v : V) : Sl → Prop
  | .fz d => Rp K G v d
  | .ow m => ∃ p o, v = .ref p ∧ H0 p = none ∧ G p = none ∧ H p = some o ∧ MuOk K G p o m ∧ ¬ OwnA σ ρ p
  | .bw i => σ[i]? = some (some v)
  | _ => False
inductive RsOk (K : PySem.W.Frag) (H0 G H : Hp) (σ : L2.St) (ρ : En) : List V → List Sl → Prop
  | nil : RsOk K H0 G H σ ρ [] []
  | cons {v : V} {vs : List V} {r : Sl} {rs : List Sl} : ROk K H0 G H σ ρ v r → RsOk K H0 G H σ ρ vs rs → RsOk K H0 G H σ ρ (v :: vs) (r :: rs)
abbrev Fe := En → Option (Sl × En)
abbrev Ft := En → Option (Bool × En)
abbrev Fa := En → Option (List Sl × En)
abbrev Fd := En → Option (List D × En)
def teOf (K : PySem.W.Frag) (f : Fe) : TE := fun σ H Q => ∃ G ρ r ρ', Good K G H σ ρ ∧ f ρ = some (r, ρ') ∧ ∀ v G' H', Aft K G H σ ρ G' H' σ ρ' → ROk K H G' H' σ ρ' v r → Q v H'
def ttOf (K : PySem.W.Frag) (f : Ft) : TT := fun σ H Q => ∃ G ρ b ρ', Good K G H σ ρ ∧ f ρ = some (b, ρ') ∧ ∀ G' H', Aft K G H σ ρ G' H' σ ρ' → Q b H'
def taOf (K : PySem.W.Frag) (f : Fa) : TA := fun σ H Q => ∃ G ρ rs ρ', Good K G H σ ρ ∧ f ρ = some (rs, ρ') ∧ ∀ vs G' H', Aft K G H σ ρ G' H' σ ρ' → RsOk K H G' H' σ ρ' vs rs → Q vs H'
abbrev DE (X : Cx) (e : Expr) (f : Fe) : Prop := PE X e (teOf X.K f)
abbrev DT (X : Cx) (e : Expr) (f : Ft) : Prop := PT X e (ttOf X.K f)
abbrev DW (X : Cx) (e : Expr) (f : Ft) : Prop := PW X e (ttOf X.K f)
abbrev DA (X : Cx) (es : List Expr) (f : Fa) : Prop := PA X es (taOf X.K f)
theorem PE.weak {X : Cx} {e : Expr} {t t' : TE} (h : PE X e t) (w : ∀ σ H Q, t' σ H Q → t σ H Q) : PE X e t' := ⟨fun pins s σ H Q I q => h.run pins s σ H Q I (w σ H Q q)⟩
theorem PT.weak {X : Cx} {e : Expr} {t t' : TT} (h : PT X e t) (w : ∀ σ H Q, t' σ H Q → t σ H Q) : PT X e t' := ⟨fun pins s σ H Q I q => h.run pins s σ H Q I (w σ H Q q)⟩
theorem PW.weak {X : Cx} {e : Expr} {t t' : TT} (h : PW X e t) (w : ∀ σ H Q, t' σ H Q → t σ H Q) : PW X e t' := ⟨fun wh pins s σ H Q I q => h.run wh pins s σ H Q I (w σ H Q q)⟩
theorem PA.weak {X : Cx} {e : List Expr} {t t' : TA} (h : PA X e t) (w : ∀ σ H Q, t' σ H Q → t σ H Q) : PA X e t' := ⟨fun pos pins s σ H Q I q => h.run pos pins s σ H Q I (w σ H Q q)⟩
section
variable {K : PySem.W.Frag} {H0 G H G1 H1 G2 H2 G' H' : Hp} {σ : L2.St} {ρ ρ1 ρ2 ρ' : En} {v : V} {r : Sl} {d : D}
theorem ROk.aft (k : ROk K H0 G1 H1 σ ρ1 v r) (a : Aft K G1 H1 σ ρ1 G2 H2 σ ρ2) : ROk K H0 G2 H2 σ ρ2 v r := by
  cases r with
  | un => exact k
  | fz d => exact Rp.up k a.ex
  | rf m => exact k
  | bw i => exact k
  | ow m =>
    obtain ⟨p, o, rfl, h0, h1, h2, h3, h4⟩ := k
    obtain ⟨k1, k2⟩ := a.keep p o h2 h4
    exact ⟨p, o, rfl, h0, k2 h1 h3.nt, k1, h3.up a.ex, a.nown h2 h4⟩
theorem ROk.start (k : ROk K H1 G2 H2 σ ρ2 v r) (dom : ∀ a o, H0 a = some o → ∃ o', H1 a = some o') : ROk K H0 G2 H2 σ ρ2 v r := by
  cases r with
  | un => exact k
  | fz d => exact k
  | rf m => exact k
  | bw i => exact k
  | ow m =>
    obtain ⟨p, o, rfl, h0, h⟩ := k
    exact ⟨p, o, rfl, none_back dom h0, h⟩
theorem RsOk.aft {vs : List V} {rs : List Sl} (a : Aft K G1 H1 σ ρ1 G2 H2 σ ρ2) : ∀ {vs : List V} {rs : List Sl}, RsOk K H0 G1 H1 σ ρ1 vs rs → RsOk K H0 G2 H2 σ ρ2 vs rs
  | _, _, .nil => .nil
  | _, _, .cons h t => .cons (h.aft a) (RsOk.aft (vs := vs) (rs := rs) a t)
theorem RsOk.start (dom : ∀ a o, H0 a = some o → ∃ o', H1 a = some o') : ∀ {vs : List V} {rs : List Sl}, RsOk K H1 G2 H2 σ ρ2 vs rs → RsOk K H0 G2 H2 σ ρ2 vs rs
  | _, _, .nil => .nil
  | _, _, .cons h t => .cons (h.start dom) (RsOk.start dom t)
def rd (ρ : En) : Sl → Option D
  | .fz d => some d
  | .ow (.l xs) => some (.lst xs)
  | .bw i => match ρ[i]? with
    | some (.fz d) => some d
    | some (.ow (.l xs)) => some (.lst xs)
    | some (.rf (.l xs)) => some (.lst xs)
    | _ => none
  | _ => none
def Vw (K : PySem.W.Frag) (G H : Hp) (v : V) (d : D) : Prop := (∃ xs p vs, d = .lst xs ∧ v = .ref p ∧ H p = some (.lst vs) ∧ Rps K G vs xs) ∨ Rp K G v d
theorem rd_ok (g : Good K G H σ ρ) (k : ROk K H0 G H σ ρ v r) (e : rd ρ r = some d) : Vw K G H v d := by
  cases r with
  | un => cases e
  | rf m => cases e
  | fz d' => cases e; exact .inr k
  | ow m =>
    cases m with
    | k _ => cases e
    | t _ => cases e
    | w _ => cases e
    | ob _ _ _ => cases e
    | «at» _ _ => cases e
    | l xs =>
      cases e
      obtain ⟨p, o, rfl, h0, h1, h2, h3, h4⟩ := k
      cases h3 with
      | l h3 => exact .inl ⟨xs, p, _, rfl, rfl, h2, h3⟩
  | bw i =>
    have e' : (match ρ[i]? with | some (.fz d) => some d | some (.ow (.l xs)) => some (.lst xs) | some (.rf (.l xs)) => some (.lst xs) | _ => none) = some d := e
    have k' : σ[i]? = some (some v) := k
    cases q : ρ[i]? with
    | none => rw [q] at e'; cases e'
    | some x =>
      rw [q] at e'
      have s := g.sl i _ _ k' q
      cases x with
      | un => cases e'
      | bw _ => cases e'
      | fz d' =>
        cases e'
        obtain ⟨v', h1, h2⟩ := s
        cases h1
        exact .inr h2
      | ow m =>
        cases m with
        | k _ => cases e'
        | t _ => cases e'
        | w _ => cases e'
        | ob _ _ _ => cases e'
        | «at» _ _ => cases e'
        | l xs =>
          cases e'
          obtain ⟨p, o, h1, h2, h3, h4⟩ := s
          cases h1
          cases h4 with
          | l h4 => exact .inl ⟨xs, p, _, rfl, rfl, h3, h4⟩
      | rf m =>
        cases m with
        | k _ => cases e'
        | t _ => cases e'
        | w _ => cases e'
        | ob _ _ _ => cases e'
        | «at» _ _ => cases e'
        | l xs =>
          cases e'
          obtain ⟨p, o, h1, h2, h3, h4⟩ := s
          cases h1
          cases h4 with
          | l h4 => exact .inl ⟨xs, p, _, rfl, rfl, h3, h4⟩
theorem Vw.rp (ex : Ex G H) (h : Vw K G H v d) : Rp K H v d := by
  rcases h with ⟨xs, p, vs, rfl, rfl, h1, h2⟩ | h
  · exact .lst h1 (h2.up ex)
  · exact h.up ex
theorem Vw.lst {xs : List D} (ex : Ex G H) (h : Vw K G H v (.lst xs)) : ∃ p vs, v = .ref p ∧ H p = some (.lst vs) ∧ Rps K G vs xs := by
  rcases h with ⟨ys, p, vs, e, rfl, h1, h2⟩ | h
  · cases e; exact ⟨p, vs, rfl, h1, h2⟩
  · cases h with
    | lst h1 h2 => exact ⟨_, _, rfl, ex _ _ h1, h2⟩
theorem Vw.tup {xs : List D} (ex : Ex G H) (h : Vw K G H v (.tup xs)) : ∃ p vs, v = .ref p ∧ G p = some (.tup vs) ∧ H p = some (.tup vs) ∧ Rps K G vs xs := by
  rcases h with ⟨ys, p, vs, e, rfl, h1, h2⟩ | h
  · cases e
  · cases h with
    | tup h1 h2 => exact ⟨_, _, rfl, h1, ex _ _ h1, h2⟩
theorem Vw.int {i : Int} (h : Vw K G H v (.int i)) : v = .int i := by
  rcases h with ⟨ys, p, vs, e, rfl, h1, h2⟩ | h
  · cases e
  · exact h.of_int
theorem Vw.bl {i : Bool} (h : Vw K G H v (.bl i)) : v = .bl i := by
  rcases h with ⟨ys, p, vs, e, rfl, h1, h2⟩ | h
  · cases e
  · exact h.of_bl
theorem Vw.str {i : Str} (h : Vw K G H v (.str i)) : v = .str i := by
  rcases h with ⟨ys, p, vs, e, rfl, h1, h2⟩ | h
  · cases e
  · exact h.of_str
theorem Vw.non (h : Vw K G H v .non) : v = .non := by
  rcases h with ⟨ys, p, vs, e, rfl, h1, h2⟩ | h
  · cases e
  · exact h.of_non
theorem Vw.scr {ns : List Int} (ex : Ex G H) (h : Vw K G H v (.scr ns)) : ∃ p, v = .ref p ∧ SqL K H p (ns.map V.int) := by
  rcases h with ⟨ys, p, vs, e, rfl, h1, h2⟩ | h
  · cases e
  · cases h with
    | scr h1 => exact ⟨_, rfl, ex.seq h1⟩
inductive Vws (K : PySem.W.Frag) (G H : Hp) : List V → List D → Prop
  | nil : Vws K G H [] []
  | cons {v : V} {vs : List V} {d : D} {ds : List D} : Vw K G H v d → Vws K G H vs ds → Vws K G H (v :: vs) (d :: ds)
def rds (ρ : En) : List Sl → Option (List D)
  | [] => some []
  | r :: rs => match rd ρ r with
    | some d => match rds ρ rs with
      | some ds => some (d :: ds)
      | none => none
    | none => none
theorem rds_ok (g : Good K G H σ ρ) : ∀ {vs : List V} {rs : List Sl} {ds : List D}, RsOk K H0 G H σ ρ vs rs → rds ρ rs = some ds → Vws K G H vs ds
  | _, _, _, .nil, e => by cases e; exact .nil
  | _, _, _, .cons (r := r) (rs := rs) h t, e => by
    unfold rds at e
    cases q : rd ρ r with
    | none => rw [q] at e; cases e
    | some d =>
      rw [q] at e
      cases q2 : rds ρ rs with
      | none => rw [q2] at e; cases e
      | some ds =>
        rw [q2] at e
        cases e
        exact .cons (rd_ok g h q) (rds_ok g t q2)
def fr (ρ : En) : Sl → Option (D × En)
  | .fz d => some (d, ρ)
  | .ow (.l xs) => some (.lst xs, ρ)
  | .bw i => match ρ[i]? with
    | some (.fz d) => some (d, ρ)
    | some (.ow (.l xs)) => some (.lst xs, ρ.set i (.fz (.lst xs)))
    | _ => none
  | _ => none
theorem fr_ok {ρ0 : En} {Hs : Hp} {Gs : Hp} (a : Aft K Gs Hs σ ρ0 G H σ ρ) (k : ROk K Hs G H σ ρ v r) (e : fr ρ r = some (d, ρ')) : ∃ G', Aft K Gs Hs σ ρ0 G' H σ ρ' ∧ Rp K G' v d := by
  cases r with
  | un => cases e
  | rf m => cases e
  | fz d' => cases e; exact ⟨G, a, k⟩
  | ow m =>
    cases m with
    | k _ => cases e
    | t _ => cases e
    | w _ => cases e
    | ob _ _ _ => cases e
    | «at» _ _ => cases e
    | l xs =>
      cases e
      obtain ⟨p, o, rfl, h0, h1, h2, h3, h4⟩ := k
      cases h3 with
      | l h3 => exact ⟨_, a.stay h0 h1 h2 h4, .lst upd_same (h3.up (ex_new h1))⟩
  | bw i =>
    have e' : (match ρ[i]? with | some (.fz d) => some (d, ρ) | some (.ow (.l xs)) => some (.lst xs, ρ.set i (.fz (.lst xs))) | _ => none) = some (d, ρ') := e
    have k' : σ[i]? = some (some v) := k
    cases q : ρ[i]? with
    | none => rw [q] at e'; cases e'
    | some x =>
      rw [q] at e'
      have s := a.good.sl i _ _ k' q
      cases x with
      | un => cases e'
      | bw _ => cases e'
      | rf m => cases e'
      | fz d' =>
        cases e'
        obtain ⟨v', h1, h2⟩ := s
        cases h1
        exact ⟨G, a, h2⟩
      | ow m =>
        cases m with
        | k _ => cases e'
        | t _ => cases e'
        | w _ => cases e'
        | ob _ _ _ => cases e'
        | «at» _ _ => cases e'
        | l xs =>
          cases e'
          obtain ⟨p, o, h1, h2, h3, h4⟩ := s
          cases h1
          cases h4 with
          | l h4 =>
            have rr : Rp K (upd G p (.lst _)) (.ref p) (.lst xs) := .lst upd_same (h4.up (ex_new h2))
            exact ⟨_, a.trans (Aft.freeze a.good k' q h3 rr), rr⟩
end
def frK (ρ : En) : Sl → Option (D × En)
  | .ow (.k kvs) => some (.dk (kvs.map (·.1)) (kvs.map (·.2)), ρ)
  | .bw i => match ρ[i]? with
    | some (.ow (.k kvs)) => some (.dk (kvs.map (·.1)) (kvs.map (·.2)), ρ.set i (.fz (.dk (kvs.map (·.1)) (kvs.map (·.2)))))
    | _ => none
  | _ => none
def fr2 (ρ : En) (r : Sl) : Option (D × En) := match fr ρ r with
  | some x => some x
  | none => frK ρ r
theorem RpKV.parts {κ : Type} {K : PySem.W.Frag} {G : Hp} : ∀ {vs : List (κ × V)} {ds : List (κ × D)}, RpKV K G vs ds → vs = (ds.map (·.1)).zip (vs.map (·.2)) ∧ Rps K G (vs.map (·.2)) (ds.map (·.2)) ∧ (ds.map (·.1)).length = (vs.map (·.2)).length
  | _, _, .nil => ⟨rfl, .nil, rfl⟩
  | _, _, .cons h t => by
    obtain ⟨a, b, c⟩ := RpKV.parts t
    refine ⟨?_, .cons h b, by simpa using c⟩
    rw [List.map_cons, List.map_cons, List.zip_cons_cons, ← a]
section
variable {K : PySem.W.Frag} {G H Gs Hs : Hp} {σ : L2.St} {ρ ρ0 ρ' : En} {v : V} {r : Sl} {d : D}
theorem frK_ok (a : Aft K Gs Hs σ ρ0 G H σ ρ) (k : ROk K Hs G H σ ρ v r) (e : frK ρ r = some (d, ρ')) :
    ∃ p vs, v = .ref p ∧ H p = some (.dK vs) ∧ ∀ od, ∃ G', Aft K Gs Hs σ ρ0 G' (upd H p (.frz od (.dK vs))) σ ρ' ∧ Rp K G' v d := by
  cases r with
  | un => cases e
  | rf m => cases e
  | fz d' => cases e
  | ow m =>
    cases m with
    | l _ => cases e
    | t _ => cases e
    | w _ => cases e
    | ob _ _ _ => cases e
    | «at» _ _ => cases e
    | k kvs =>
      cases e
      obtain ⟨p, o, rfl, h0, h1, h2, h3, h4⟩ := k
      cases h3 with
      | @k vs _ h3 =>
        refine ⟨p, vs, rfl, h2, fun od => ?_⟩
        have A1 := a.mut (o := .frz od (.dK vs)) h0 h1 h4
        have A2 := A1.stay h0 h1 upd_same h4
        obtain ⟨e1, e2, e3⟩ := h3.parts
        exact ⟨_, A2, .dk (od := od) (by rw [upd_same, ← e1]) (e2.up (ex_new h1)) e3⟩
  | bw i =>
    have e' : (match ρ[i]? with | some (.ow (.k kvs)) => some (D.dk (kvs.map (·.1)) (kvs.map (·.2)), ρ.set i (.fz (.dk (kvs.map (·.1)) (kvs.map (·.2))))) | _ => none) = some (d, ρ') := e
    have k' : σ[i]? = some (some v) := k
    split at e'
    · rename_i kvs q
      cases e'
      obtain ⟨p, o, h1, h2, h3, h4⟩ := a.good.sl i _ _ k' q
      cases h1
      cases h4 with
      | @k vs _ h4 =>
        refine ⟨p, vs, rfl, h3, fun od => ?_⟩
        have ni : notRf ρ i = true := by
          unfold notRf
          rw [q]
        have es : σ.set i (some (.ref p)) = σ := by
          apply List.ext_getElem?
          intro j
          by_cases z : i = j
          · subst z
            rw [k', List.getElem?_set_self (List.getElem?_eq_some_iff.mp k').1]
          · rw [List.getElem?_set_ne z]
        have A1 := a.store (i := i) (s := some (.ref p)) (r := .un) trivial (fun p _ z => by rcases z with ⟨m, z⟩ | ⟨m, z⟩ <;> cases z) ni
        rw [es] at A1
        have own : OwnA σ ρ p := ⟨i, k', .inl ⟨_, q⟩⟩
        have h0 : Hs p = none ∨ OwnA σ ρ0 p := (a.own i p ⟨k', .inl ⟨_, q⟩⟩).symm
        have no : ¬ OwnA σ (ρ.set i .un) p := fun ⟨j, o1, o2⟩ => by
          by_cases z : j = i
          · subst z
            rcases o2 with ⟨m, o2⟩ | ⟨m, o2⟩
            · rcases getElem?_set_cases o2 with ⟨_, y⟩ | ⟨y, _⟩
              · cases y
              · exact y rfl
            · rcases getElem?_set_cases o2 with ⟨_, y⟩ | ⟨y, _⟩
              · cases y
              · exact y rfl
          · rw [List.getElem?_set_ne (Ne.symm z)] at o2
            exact z (a.good.nd j i p ⟨o1, o2⟩ ⟨k', .inl ⟨_, q⟩⟩)
        have A2 := A1.mutO (o := .frz od (.dK vs)) h0 h2 no
        have A3 := A2.stayO (h0.elim .inl fun z => .inr (.inl z)) h2 upd_same no
        obtain ⟨e1, e2, e3⟩ := h4.parts
        have R : Rp K (upd G p (.frz od (.dK vs))) (.ref p) (.dk (kvs.map (·.1)) (kvs.map (·.2))) := .dk (od := od) (by rw [upd_same, ← e1]) (e2.up (ex_new h2)) e3
        have n2 : notRf (ρ.set i .un) i = true := by
          unfold notRf
          rw [List.getElem?_set_self (List.getElem?_eq_some_iff.mp q).1]
        have A4 := A3.store (i := i) (s := some (.ref p)) (r := .fz _) ⟨_, rfl, R⟩ (fun p _ z => by rcases z with ⟨m, z⟩ | ⟨m, z⟩ <;> cases z) n2
        rw [es, List.set_set] at A4
        exact ⟨_, A4, R⟩
    · cases e'
end
def dFr (f : Fe) : En → Option (D × En) := fun ρ => match f ρ with
  | some (r, ρ1) => fr2 ρ1 r
  | none => none
def tdOf (K : PySem.W.Frag) (f : En → Option (D × En)) : TE := fun σ H Q => ∃ G ρ d ρ', Good K G H σ ρ ∧ f ρ = some (d, ρ') ∧ ∀ v G' H', Aft K G H σ ρ G' H' σ ρ' → Rp K G' v d → Q v H'
section
variable {X : Cx} {e a b c : Expr} {f fa fb fc : Fe} {pos : Pos}
theorem de_fr (h : DE X e f) : PE X e (tdOf X.K (dFr f)) := ⟨fun pins s σ H Q I ⟨G, ρ, d, ρ', g, e, k⟩ => by
  unfold dFr at e
  cases q : f ρ with
  | none => rw [q] at e; cases e
  | some x =>
    obtain ⟨r, ρ1⟩ := x
    rw [q] at e
    replace e : fr2 ρ1 r = some (d, ρ') := e
    unfold fr2 at e
    split at e
    · rename_i y q2
      cases e
      refine h.run pins s σ H Q I ⟨G, ρ, r, ρ1, g, q, fun v G1 H1 A1 R1 => ?_⟩
      obtain ⟨G2, A2, R2⟩ := fr_ok A1 R1 q2
      exact k v G2 H1 A2 R2
    · have h' := h.run pins s σ H (fun v H1 => ∃ p vs, v = .ref p ∧ H1 p = some (.dK vs) ∧ ∀ od, Q v (upd H1 p (.frz od (.dK vs)))) I ⟨G, ρ, r, ρ1, g, q, fun v G1 H1 A1 R1 => by
        obtain ⟨p, vs, h1, h2, h3⟩ := frK_ok A1 R1 e
        refine ⟨p, vs, h1, h2, fun od => ?_⟩
        obtain ⟨G2, A2, R2⟩ := h3 od
        exact k v G2 _ A2 R2⟩
      refine wpAny_mono h' (fun v s1 ⟨x, H1, I1, rx, p, vs, _, hp, hq⟩ => ?_) fun _ _ z => z
      obtain ⟨od, I2⟩ := I1.lock hp trivial
      exact ⟨x, _, I2, rx, hq od⟩⟩
def eVar (i : Nat) : Fe := fun ρ => match ρ[i]? with
  | some (.fz d) => some (.fz d, ρ)
  | some (.ow _) => some (.bw i, ρ)
  | some (.rf _) => some (.bw i, ρ)
  | _ => none
def eC (d : D) : Fe := fun ρ => some (.fz d, ρ)
theorem de_of_var {x : Expr} {i : Nat} (h : PE X x (tVar i)) : DE X x (eVar i) := PE.weak h fun σ H Q ⟨G, ρ, r, ρ', g, e, k⟩ => by
  have e' : (match ρ[i]? with | some (.fz d) => some (Sl.fz d, ρ) | some (.ow _) => some (.bw i, ρ) | some (.rf _) => some (.bw i, ρ) | _ => none) = some (r, ρ') := e
  cases q : ρ[i]? with
  | none => rw [q] at e'; cases e'
  | some z =>
    rw [q] at e'
    have hi : i < σ.length := by
      rw [g.len]
      exact (List.getElem?_eq_some_iff.mp q).1
    have hs : σ[i]? = some σ[i] := List.getElem?_eq_getElem hi
    have s := g.sl i _ _ hs q
    cases z with
    | un => cases e'
    | bw _ => cases e'
    | fz d =>
      cases e'
      obtain ⟨v, h1, h2⟩ := s
      exact ⟨v, by rw [hs, h1], k v G H (Aft.refl g) h2⟩
    | ow m =>
      cases e'
      obtain ⟨p, o, h1, _⟩ := s
      exact ⟨.ref p, by rw [hs, h1], k _ G H (Aft.refl g) (show σ[i]? = some (some (.ref p)) by rw [hs, h1])⟩
    | rf m =>
      cases e'
      obtain ⟨p, o, h1, _⟩ := s
      exact ⟨.ref p, by rw [hs, h1], k _ G H (Aft.refl g) (show σ[i]? = some (some (.ref p)) by rw [hs, h1])⟩
theorem de_of_c {x : Expr} {v : V} {d : D} (h : PE X x (tC v)) (r : ∀ G, Rp X.K G v d) : DE X x (eC d) := PE.weak h fun σ H Q ⟨G, ρ, z, ρ', g, e, k⟩ => by
  cases e
  exact k v G H (Aft.refl g) (r G)
theorem dv (i : Nat) {x : Str} {pos : Pos} (hN : X.N[i]? = some x := by rfl) (hv : Vis X.env.scope x := by first | exact Or.inl rfl | exact Or.inr (Or.inl rfl) | exact Or.inr (Or.inr rfl)) (hd : (x == ("__debug__" : Str)) = false := by decide)
    (hcd : (x == ("__classdict__" : Str)) = false := by decide) : DE X (.Name x pos) (eVar i) := de_of_var (pv i hN hv hd hcd)
theorem de_int {i j pos} : DE X (.Constant (.int i) j pos) (eC (.int i)) := de_of_c pe_int fun _ => .int i
theorem de_str {i j pos} : DE X (.Constant (.str i) j pos) (eC (.str i)) := de_of_c pe_str fun _ => .str i
theorem de_bl {i j pos} : DE X (.Constant (.bool i) j pos) (eC (.bl i)) := de_of_c pe_bl fun _ => .bl i
theorem de_non {j pos} : DE X (.Constant .none j pos) (eC .non) := de_of_c pe_non fun _ => .non
def Op2 (K : PySem.W.Frag) (r : R2) (g : D → D → Option Sl) : Prop := ∀ {G H : Hp} {σ : L2.St} {ρ : En} {x y : V} {d e : D} {z : Sl} {Q : VK}, Good K G H σ ρ → Vw K G H x d → Vw K G H y e → g d e = some z →
  (∀ v G' H', Aft K G H σ ρ G' H' σ ρ → ROk K H G' H' σ ρ v z → Q v H') → r x y H Q
def dOp2 (g : D → D → Option Sl) (fa fb : Fe) : Fe := fun ρ => match fa ρ with
  | some (ra, ρ1) => match fb ρ1 with
    | some (rb, ρ2) => match rd ρ2 ra, rd ρ2 rb with
      | some d, some e => match g d e with
        | some z => some (z, ρ2)
        | none => none
      | _, _ => none
    | none => none
  | none => none
theorem dOp2_inv {g : D → D → Option Sl} {ρ ρ' : En} {z : Sl} (e : dOp2 g fa fb ρ = some (z, ρ')) : ∃ ra ρ1 rb da db, fa ρ = some (ra, ρ1) ∧ fb ρ1 = some (rb, ρ') ∧ rd ρ' ra = some da ∧ rd ρ' rb = some db ∧ g da db = some z := by
  unfold dOp2 at e
  cases q : fa ρ with
  | none => rw [q] at e; cases e
  | some x =>
    obtain ⟨ra, ρ1⟩ := x
    rw [q] at e
    cases q2 : fb ρ1 with
    | none => simp only [q2] at e; cases e
    | some y =>
      obtain ⟨rb, ρ2⟩ := y
      simp only [q2] at e
      cases q3 : rd ρ2 ra with
      | none => simp only [q3] at e; cases e
      | some da =>
        cases q4 : rd ρ2 rb with
        | none => simp only [q3, q4] at e; cases e
        | some db =>
          simp only [q3, q4] at e
          cases q5 : g da db with
          | none => simp only [q5] at e; cases e
          | some w =>
            simp only [q5] at e
            cases e
            exact ⟨ra, ρ1, rb, da, db, rfl, q2, q3, q4, q5⟩
theorem tOp_of {K : PySem.W.Frag} {r : R2} {g : D → D → Option Sl} (hg : Op2 K r g) : ∀ σ H Q, teOf K (dOp2 g fa fb) σ H Q → tOp r (teOf K fa) (teOf K fb) σ H Q := fun σ H Q ⟨G, ρ, z, ρ', gd, e, k⟩ => by
  obtain ⟨ra, ρ1, rb, da, db, q1, q2, q3, q4, q5⟩ := dOp2_inv e
  refine ⟨G, ρ, ra, ρ1, gd, q1, fun va G1 H1 A1 R1 => ⟨G1, ρ1, rb, ρ', A1.good, q2, fun vb G2 H2 A2 R2 => ?_⟩⟩
  refine hg A2.good (rd_ok A2.good (R1.aft A2) q3) (rd_ok A2.good R2 q4) q5 fun v G3 H3 A3 R3 => ?_
  exact k v G3 H3 ((A1.trans A2).trans A3) (R3.start (A1.trans A2).dom)
theorem de_op {op : Operator} {r : R2} {g : D → D → Option Sl} (ho : OpR X (binaryOp op) r) (hg : Op2 X.K r g) (ha : DE X a fa) (hb : DE X b fb) : DE X (.BinOp a op b pos) (dOp2 g fa fb) :=
  PE.weak (pe_op ho ha hb) (tOp_of hg)
theorem de_cmp {op : CmpOp} {r : R2} {g : D → D → Option Sl} (ho : OpR X (compareOp op) r) (hg : Op2 X.K r g) (ha : DE X a fa) (hb : DE X b fb) (hm : behindInMarks op b = false) : DE X (.Compare a [op] [b] pos) (dOp2 g fa fb) :=
  PE.weak (pe_cmpR ho ha hb hm) (tOp_of hg)
def dTst (f : Fe) : Ft := fun ρ => match f ρ with
  | some (.fz (.bl b), ρ1) => some (b, ρ1)
  | _ => none
theorem dTst_inv {ρ ρ' : En} {b : Bool} (e : dTst f ρ = some (b, ρ')) : f ρ = some (.fz (.bl b), ρ') := by
  unfold dTst at e
  split at e
  · cases e
    assumption
  · cases e
theorem tTest_of {K : PySem.W.Frag} : ∀ σ H Q, ttOf K (dTst f) σ H Q → tTest (teOf K f) σ H Q := fun σ H Q ⟨G, ρ, b, ρ', g, e, k⟩ =>
  ⟨G, ρ, _, ρ', g, dTst_inv e, fun v G1 H1 A1 R1 => ⟨b, Rp.of_bl R1, k G1 H1 A1⟩⟩
theorem tTest_mono {t t' : TE} {σ : L2.St} {H : Hp} {Q : Bool → Hp → Prop} (w : ∀ σ H Q, t' σ H Q → t σ H Q) (h : tTest t' σ H Q) : tTest t σ H Q := w σ H _ h
theorem dt_cmp {op : CmpOp} {r : R2} {g : D → D → Option Sl} (ho : OpR X (compareOp op) r) (hg : Op2 X.K r g) (ha : DE X a fa) (hb : DE X b fb) (hm : behindInMarks op b = false) : DT X (.Compare a [op] [b] pos) (dTst (dOp2 g fa fb)) :=
  PT.weak (pt_cmpR ho ha hb hm) fun σ H Q q => tTest_mono (tOp_of hg) (tTest_of σ H Q q)
theorem dt_val (h : DE X e f) (he : ∀ whole, isTrue e X.env whole = (do let v ← whole; standAt e.pos; holding [v] (truthy v)) := by intro _; rfl) : DT X e (dTst f) :=
  PT.weak (pt_val h he) fun σ H Q q => tTest_of σ H Q q
def dAnd (f g : Ft) : Ft := fun ρ => match f ρ with
  | some (true, ρ1) => g ρ1
  | some (false, ρ1) => some (false, ρ1)
  | none => none
def dOr (f g : Ft) : Ft := fun ρ => match f ρ with
  | some (false, ρ1) => g ρ1
  | some (true, ρ1) => some (true, ρ1)
  | none => none
def dNot (f : Ft) : Ft := fun ρ => match f ρ with
  | some (b, ρ1) => some (!b, ρ1)
  | none => none
def dIfE (t : Ft) (f g : Fe) : Fe := fun ρ => match t ρ with
  | some (true, ρ1) => f ρ1
  | some (false, ρ1) => g ρ1
  | none => none
variable {ft fu : Ft} {rest : List Expr}
theorem dw_and1 (ha : DT X a ft) : DW X (.BoolOp .And [a] pos) ft := pw_and1 ha
theorem dw_or1 (ha : DT X a ft) : DW X (.BoolOp .Or [a] pos) ft := pw_or1 ha
theorem dw_and (ha : DT X a ft) (hb : DW X (.BoolOp .And (b :: rest) pos) fu) : DW X (.BoolOp .And (a :: b :: rest) pos) (dAnd ft fu) := PW.weak (pw_and ha hb) fun σ H Q ⟨G, ρ, x, ρ', g, e, k⟩ => by
  unfold dAnd at e
  cases q : ft ρ with
  | none => rw [q] at e; cases e
  | some y =>
    obtain ⟨y, ρ1⟩ := y
    rw [q] at e
    refine ⟨G, ρ, y, ρ1, g, q, fun G1 H1 A1 => ?_⟩
    cases y with
    | true => exact iteT ⟨G1, ρ1, x, ρ', A1.good, e, fun G2 H2 A2 => k G2 H2 (A1.trans A2)⟩
    | false =>
      cases e
      exact iteF (k G1 H1 A1)
theorem dw_or (ha : DT X a ft) (hb : DW X (.BoolOp .Or (b :: rest) pos) fu) : DW X (.BoolOp .Or (a :: b :: rest) pos) (dOr ft fu) := PW.weak (pw_or ha hb) fun σ H Q ⟨G, ρ, x, ρ', g, e, k⟩ => by
  unfold dOr at e
  cases q : ft ρ with
  | none => rw [q] at e; cases e
  | some y =>
    obtain ⟨y, ρ1⟩ := y
    rw [q] at e
    refine ⟨G, ρ, y, ρ1, g, q, fun G1 H1 A1 => ?_⟩
    cases y with
    | false => exact iteF ⟨G1, ρ1, x, ρ', A1.good, e, fun G2 H2 A2 => k G2 H2 (A1.trans A2)⟩
    | true =>
      cases e
      exact iteT (k G1 H1 A1)
theorem dt_bool (h : DW X e ft) : DT X e ft := h.pt
theorem dt_not (ha : DT X a ft) : DT X (.UnaryOp .Not a pos) (dNot ft) := PT.weak (pt_not ha) fun σ H Q ⟨G, ρ, x, ρ', g, e, k⟩ => by
  unfold dNot at e
  cases q : ft ρ with
  | none => rw [q] at e; cases e
  | some y =>
    obtain ⟨y, ρ1⟩ := y
    rw [q] at e
    cases e
    exact ⟨G, ρ, y, _, g, q, k⟩
theorem de_if (hc : DT X c ft) (ha : DE X a fa) (hb : DE X b fb) : DE X (.IfExp c a b pos) (dIfE ft fa fb) := PE.weak (pe_ifExp hc ha hb) fun σ H Q ⟨G, ρ, x, ρ', g, e, k⟩ => by
  unfold dIfE at e
  cases q : ft ρ with
  | none => rw [q] at e; cases e
  | some y =>
    obtain ⟨y, ρ1⟩ := y
    rw [q] at e
    refine ⟨G, ρ, y, ρ1, g, q, fun G1 H1 A1 => ?_⟩
    cases y with
    | true => exact iteT ⟨G1, ρ1, x, ρ', A1.good, e, fun v G2 H2 A2 R2 => k v G2 H2 (A1.trans A2) (R2.start A1.dom)⟩
    | false => exact iteF ⟨G1, ρ1, x, ρ', A1.good, e, fun v G2 H2 A2 R2 => k v G2 H2 (A1.trans A2) (R2.start A1.dom)⟩
def dAndV (f g : Fe) : Fe := fun ρ => match f ρ with
  | some (.fz (.bl true), ρ1) => g ρ1
  | some (.fz (.bl false), ρ1) => some (.fz (.bl false), ρ1)
  | _ => none
theorem de_one {op} (h : DE X a fa) : DE X (.BoolOp op [a] pos) fa := pe_one h
theorem de_and (ha : DE X a fa) (hb : DE X (.BoolOp .And (b :: rest) pos) fb) : DE X (.BoolOp .And (a :: b :: rest) pos) (dAndV fa fb) := PE.weak (pe_and ha hb) fun σ H Q ⟨G, ρ, x, ρ', g, e, k⟩ => by
  unfold dAndV at e
  split at e
  · rename_i ρ1 q
    exact ⟨G, ρ, _, ρ1, g, q, fun v G1 H1 A1 R1 => ⟨true, Rp.of_bl R1, iteT ⟨G1, ρ1, x, ρ', A1.good, e, fun v G2 H2 A2 R2 => k v G2 H2 (A1.trans A2) (R2.start A1.dom)⟩⟩⟩
  · rename_i ρ1 q
    cases e
    exact ⟨G, ρ, _, _, g, q, fun v G1 H1 A1 R1 => ⟨false, Rp.of_bl R1, iteF (k _ G1 H1 A1 (.bl false))⟩⟩
  · cases e
def aNil : Fa := fun ρ => some ([], ρ)
def aCons (f : Fe) (g : Fa) : Fa := fun ρ => match f ρ with
  | some (r, ρ1) => match g ρ1 with
    | some (rs, ρ2) => some (r :: rs, ρ2)
    | none => none
  | none => none
def aFr (f : Fe) (g : Fa) : Fa := fun ρ => match dFr f ρ with
  | some (d, ρ1) => match g ρ1 with
    | some (rs, ρ2) => some (.fz d :: rs, ρ2)
    | none => none
  | none => none
variable {es : List Expr} {ga : Fa}
theorem da_nil : DA X [] aNil := PA.weak pa_nil fun σ H Q ⟨G, ρ, x, ρ', g, e, k⟩ => by
  cases e
  exact k [] G H (Aft.refl g) .nil
theorem da_cons (ha : DE X e f) (hr : DA X es ga) (hs : starEach (e :: es) X.env = (false, eval e X.env) :: starEach es X.env := by rfl) : DA X (e :: es) (aCons f ga) := PA.weak (pa_cons ha hr hs) fun σ H Q ⟨G, ρ, x, ρ', g, q, k⟩ => by
  unfold aCons at q
  cases q1 : f ρ with
  | none => rw [q1] at q; cases q
  | some y =>
    obtain ⟨r, ρ1⟩ := y
    rw [q1] at q
    cases q2 : ga ρ1 with
    | none => simp only [q2] at q; cases q
    | some y =>
      obtain ⟨rs, ρ2⟩ := y
      simp only [q2] at q
      cases q
      exact ⟨G, ρ, r, ρ1, g, q1, fun v G1 H1 A1 R1 => ⟨G1, ρ1, rs, _, A1.good, q2, fun vs G2 H2 A2 R2 => k (v :: vs) G2 H2 (A1.trans A2) (.cons (R1.aft A2) (R2.start A1.dom))⟩⟩
theorem da_fr (ha : DE X e f) (hr : DA X es ga) (hs : starEach (e :: es) X.env = (false, eval e X.env) :: starEach es X.env := by rfl) : DA X (e :: es) (aFr f ga) := PA.weak (pa_cons (de_fr ha) hr hs) fun σ H Q ⟨G, ρ, x, ρ', g, q, k⟩ => by
  unfold aFr at q
  cases q1 : dFr f ρ with
  | none => rw [q1] at q; cases q
  | some y =>
    obtain ⟨r, ρ1⟩ := y
    rw [q1] at q
    cases q2 : ga ρ1 with
    | none => simp only [q2] at q; cases q
    | some y =>
      obtain ⟨rs, ρ2⟩ := y
      simp only [q2] at q
      cases q
      refine ⟨G, ρ, r, ρ1, g, q1, fun v G1 H1 A1 R1 => ⟨G1, ρ1, rs, _, A1.good, q2, fun vs G2 H2 A2 R2 => k (v :: vs) G2 H2 (A1.trans A2) (.cons ?_ (R2.start A1.dom))⟩⟩
      exact Rp.up R1 A2.ex
def Cl (K : PySem.W.Frag) (r : List V → Hp → VK → Prop) (g : List D → Option Sl) : Prop := ∀ {G H : Hp} {σ : L2.St} {ρ : En} {xs : List V} {ds : List D} {z : Sl} {Q : VK}, Good K G H σ ρ → Vws K G H xs ds → g ds = some z →
  (∀ v G' H', Aft K G H σ ρ G' H' σ ρ → ROk K H G' H' σ ρ v z → Q v H') → r xs H Q
def dCall (g : List D → Option Sl) (fa : Fa) : Fe := fun ρ => match fa ρ with
  | some (rs, ρ1) => match rds ρ1 rs with
    | some ds => match g ds with
      | some z => some (z, ρ1)
      | none => none
    | none => none
  | none => none
theorem dCall_inv {g : List D → Option Sl} {ρ ρ' : En} {z : Sl} (e : dCall g ga ρ = some (z, ρ')) : ∃ rs ds, ga ρ = some (rs, ρ') ∧ rds ρ' rs = some ds ∧ g ds = some z := by
  unfold dCall at e
  cases q : ga ρ with
  | none => rw [q] at e; cases e
  | some x =>
    obtain ⟨rs, ρ1⟩ := x
    rw [q] at e
    cases q2 : rds ρ1 rs with
    | none => simp only [q2] at e; cases e
    | some ds =>
      simp only [q2] at e
      cases q3 : g ds with
      | none => simp only [q3] at e; cases e
      | some w =>
        simp only [q3] at e
        cases e
        exact ⟨rs, ds, rfl, q2, q3⟩
theorem tCB_of {K : PySem.W.Frag} {r : List V → Hp → VK → Prop} {g : List D → Option Sl} (hg : Cl K r g) : ∀ σ H Q, teOf K (dCall g ga) σ H Q → tCB r (taOf K ga) σ H Q := fun σ H Q ⟨G, ρ, z, ρ', gd, e, k⟩ => by
  obtain ⟨rs, ds, q1, q2, q3⟩ := dCall_inv e
  refine ⟨G, ρ, rs, ρ', gd, q1, fun vs G1 H1 A1 R1 => ?_⟩
  exact hg A1.good (rds_ok A1.good R1 q2) q3 fun v G3 H3 A3 R3 => k v G3 H3 (A1.trans A3) (R3.start A1.dom)
variable {x : Str} {p : Pos} {id T : String} {r : List V → Hp → VK → Prop} {g : List D → Option Sl}
theorem de_callB (hc : CallR X (.builtin id) r) (hg : Cl X.K r g) (hx : Gl X x) (hm : X.mg x = none) (hv : bootBuiltins x = some (.builtin id)) (ha : DA X (e :: es) ga) (hn : x ≠ "__name__" := by decide) (hdb : (x == ("__debug__" : Str)) = false := by decide)
    (he : starEach (e :: es) X.env = (false, eval e X.env) :: starEach es X.env := by rfl) (hpl : (backTo pos (starEach es X.env)).any (·.1) = false := by rfl) : DE X (.Call (.Name x p) (e :: es) [] pos) (dCall g ga) :=
  PE.weak (pe_callB hc hx hm hv ha hn hdb he hpl) (tCB_of hg)
theorem de_callTy (hc : CallR X (.type T) r) (hg : Cl X.K r g) (hx : Gl X x) (hm : X.mg x = none) (hv : bootBuiltins x = some (.type T)) (ha : DA X (e :: es) ga) (hn : x ≠ "__name__" := by decide) (hdb : (x == ("__debug__" : Str)) = false := by decide)
    (he : starEach (e :: es) X.env = (false, eval e X.env) :: starEach es X.env := by rfl) (hpl : (backTo pos (starEach es X.env)).any (·.1) = false := by rfl) : DE X (.Call (.Name x p) (e :: es) [] pos) (dCall g ga) :=
  PE.weak (pe_callTy hc hx hm hv ha hn hdb he hpl) (tCB_of hg)
end
end DL
namespace DL
open PySem PySem.Spec L2
inductive Fl where
  | nx | bk | ct | rt (r : Sl) | ex (C : Addr) (ns : List Str) (ds : List D)
abbrev Fs := En → Option (Fl × En)
def XdN (H0 G' H' : Hp) (ns : List Str) (vs : List V) (o : Option Addr) : Prop := (∃ d, o = some d ∧ H0 d = none ∧ G' d = none ∧ H' d = some (.xd (ns.zip vs))) ∨ (o = none ∧ ns = [])
def EndsOk (K : PySem.W.Frag) (E : XK) (D : Ends) (H0 G' H' : Hp) (σ' : L2.St) (ρ' : En) : Fl → Prop
  | .nx => D.nx σ' H'
  | .bk => D.bk σ' H'
  | .ct => D.ct σ' H'
  | .rt r => ∀ v, ROk K H0 G' H' σ' ρ' v r → D.rt v H'
  | .ex C ns ds => ∀ o vs, XdN H0 G' H' ns vs o → ns.length = vs.length → Rps K G' vs ds → E (.ref C) o H'
def tsOf (K : PySem.W.Frag) (E : XK) (B : Fs) : TS := fun D σ H => ∃ G ρ fl ρ', Good K G H σ ρ ∧ B ρ = some (fl, ρ') ∧ ∀ σ' G' H', Aft K G H σ ρ G' H' σ' ρ' → EndsOk K E D H G' H' σ' ρ' fl
abbrev DS (X : Cx) (E : XK) (st : Stmt) (B : Fs) : Prop := PS X st (tsOf X.K E B)
abbrev DB (X : Cx) (E : XK) (st : List Stmt) (B : Fs) : Prop := PSs X st (tsOf X.K E B)
theorem PS.weak {X : Cx} {e : Stmt} {t t' : TS} (h : PS X e t) (w : ∀ D σ H, t' D σ H → t D σ H) : PS X e t' := ⟨fun pins s σ H Q I q => h.run pins s σ H Q I (w Q σ H q)⟩
theorem PSs.weak {X : Cx} {e : List Stmt} {t t' : TS} (h : PSs X e t) (w : ∀ D σ H, t' D σ H → t D σ H) : PSs X e t' := ⟨fun pins s σ H Q I q => h.run pins s σ H Q I (w Q σ H q)⟩
theorem EndsOk.start {K : PySem.W.Frag} {E : XK} {D : Ends} {H0 H1 G' H' : Hp} {σ' : L2.St} {ρ' : En} {fl : Fl} (k : EndsOk K E D H0 G' H' σ' ρ' fl) (dom : ∀ a o, H0 a = some o → ∃ o', H1 a = some o') : EndsOk K E D H1 G' H' σ' ρ' fl := by
  cases fl with
  | nx => exact k
  | bk => exact k
  | ct => exact k
  | rt r => exact fun v h => k v (h.start dom)
  | ex C ns ds => exact fun o vs h1 h4 h5 => k o vs (h1.imp (fun ⟨d, z1, z2, z3, z4⟩ => ⟨d, z1, none_back dom z2, z3, z4⟩) id) h4 h5
theorem EndsOk.nx_of {K : PySem.W.Frag} {E : XK} {D : Ends} {u : L2.St → Hp → Prop} {H0 G' H' : Hp} {σ' : L2.St} {ρ' : En} {fl : Fl} (n : fl ≠ .nx) (k : EndsOk K E D H0 G' H' σ' ρ' fl) : EndsOk K E { D with nx := u } H0 G' H' σ' ρ' fl := by
  cases fl with
  | nx => exact absurd rfl n
  | bk => exact k
  | ct => exact k
  | rt r => exact k
  | ex C ns ds => exact k
def bNext : Fs := fun ρ => some (.nx, ρ)
def bSeq (A B : Fs) : Fs := fun ρ => match A ρ with
  | some (.nx, ρ1) => B ρ1
  | o => o
section
variable {X : Cx} {E : XK} {e a b c : Expr} {f fa fb fc : Fe} {ft : Ft} {pos : Pos} {st : Stmt} {rest : List Stmt} {A B : Fs}
theorem db_nil : DB X E [] bNext := PSs.weak pss_nil fun D σ H ⟨G, ρ, fl, ρ', g, e, k⟩ => by
  cases e
  exact k σ G H (Aft.refl g)
theorem db_cons (h1 : DS X E st A) (h2 : DB X E rest B) : DB X E (st :: rest) (bSeq A B) := PSs.weak (pss_cons h1 h2) fun D σ H ⟨G, ρ, fl, ρ', g, e, k⟩ => by
  unfold bSeq at e
  split at e
  · rename_i ρ1 q
    refine ⟨G, ρ, .nx, ρ1, g, q, fun σ1 G1 H1 A1 => ?_⟩
    exact ⟨G1, ρ1, fl, ρ', A1.good, e, fun σ2 G2 H2 A2 => (k σ2 G2 H2 (A1.trans A2)).start A1.dom⟩
  · rename_i n
    refine ⟨G, ρ, fl, ρ', g, e, fun σ1 G1 H1 A1 => ?_⟩
    exact EndsOk.nx_of (fun z => n ρ' (by rw [e, z])) (k σ1 G1 H1 A1)
theorem db_one (h1 : DS X E st A) : DB X E [st] A := pss_one h1
def bNever : Fs := fun _ => none
theorem ds_never : DS X E st bNever := PS.weak ps_never fun D σ H ⟨G, ρ, fl, ρ', g, e, k⟩ => nomatch e
def bDrop (f : Fe) : Fs := fun ρ => match f ρ with
  | some (_, ρ1) => some (.nx, ρ1)
  | none => none
theorem ds_expr (h : DE X e f) (hs : swapsWith e none pos.line X.env = pure false := by rfl) : DS X E (.Expr e pos) (bDrop f) := PS.weak (ps_expr h hs) fun D σ H ⟨G, ρ, fl, ρ', g, e, k⟩ => by
  unfold bDrop at e
  cases q : f ρ with
  | none => rw [q] at e; cases e
  | some y =>
    obtain ⟨r, ρ1⟩ := y
    rw [q] at e
    cases e
    exact ⟨G, ρ, r, _, g, q, fun v G1 H1 A1 _ => k σ G1 H1 A1⟩
def bRet (f : Fe) : Fs := fun ρ => match f ρ with
  | some (r, ρ1) => some (.rt r, ρ1)
  | none => none
theorem ds_ret (h : DE X e f) : DS X E (.Return (some e) pos) (bRet f) := PS.weak (ps_ret h) fun D σ H ⟨G, ρ, fl, ρ', g, e, k⟩ => by
  unfold bRet at e
  cases q : f ρ with
  | none => rw [q] at e; cases e
  | some y =>
    obtain ⟨r, ρ1⟩ := y
    rw [q] at e
    cases e
    exact ⟨G, ρ, r, _, g, q, fun v G1 H1 A1 R1 => k σ G1 H1 A1 v R1⟩
def bIf (t : Ft) (A B : Fs) : Fs := fun ρ => match t ρ with
  | some (true, ρ1) => A ρ1
  | some (false, ρ1) => B ρ1
  | none => none
theorem ds_if {as bs : List Stmt} (hc : DT X c ft) (ha : DB X E as A) (hb : DB X E bs B) : DS X E (.If c as bs pos) (bIf ft A B) := PS.weak (ps_if hc ha hb) fun D σ H ⟨G, ρ, fl, ρ', g, e, k⟩ => by
  unfold bIf at e
  cases q : ft ρ with
  | none => rw [q] at e; cases e
  | some y =>
    obtain ⟨y, ρ1⟩ := y
    rw [q] at e
    refine ⟨G, ρ, y, ρ1, g, q, fun G1 H1 A1 => ?_⟩
    cases y with
    | true => exact iteT ⟨G1, ρ1, fl, ρ', A1.good, e, fun σ2 G2 H2 A2 => (k σ2 G2 H2 (A1.trans A2)).start A1.dom⟩
    | false => exact iteF ⟨G1, ρ1, fl, ρ', A1.good, e, fun σ2 G2 H2 A2 => (k σ2 G2 H2 (A1.trans A2)).start A1.dom⟩
def toSlot (ρ : En) : Sl → Option (Sl × En)
  | .fz d => some (.fz d, ρ)
  | .ow m => some (.ow m, ρ)
  | .bw j => match fr ρ (.bw j) with
    | some (d, ρ1) => some (.fz d, ρ1)
    | none => none
  | _ => none
def bAsg (i : Nat) (f : Fe) : Fs := fun ρ => match f ρ with
  | some (r, ρ1) => match toSlot ρ1 r with
    | some (z, ρ2) => if notRf ρ2 i then some (.nx, ρ2.set i z) else none
    | none => none
  | none => none
theorem asg_ok {K : PySem.W.Frag} {G H G1 H1 : Hp} {σ : L2.St} {ρ ρ1 ρ2 : En} {v : V} {r z : Sl} {i : Nat} (A1 : Aft K G H σ ρ G1 H1 σ ρ1) (R1 : ROk K H G1 H1 σ ρ1 v r) (e : toSlot ρ1 r = some (z, ρ2)) (n : notRf ρ2 i = true) :
    ∃ G2, Aft K G H σ ρ G2 H1 (σ.set i (some v)) (ρ2.set i z) := by
  cases r with
  | un => cases e
  | rf m => cases e
  | fz d =>
    cases e
    exact ⟨G1, A1.store ⟨v, rfl, R1⟩ (fun p h1 h2 => by rcases h2 with ⟨m, h2⟩ | ⟨m, h2⟩ <;> cases h2) n⟩
  | ow m =>
    cases e
    obtain ⟨p, o, rfl, h0, h1, h2, h3, h4⟩ := R1
    exact ⟨G1, A1.store ⟨p, o, rfl, h1, h2, h3⟩ (fun q h1 _ => by cases h1; exact ⟨h4, h0⟩) n⟩
  | bw j =>
    have e' : (match fr ρ1 (.bw j) with | some (d, ρ1) => some (Sl.fz d, ρ1) | none => none) = some (z, ρ2) := e
    cases q : fr ρ1 (.bw j) with
    | none => rw [q] at e'; cases e'
    | some y =>
      obtain ⟨d, ρ3⟩ := y
      rw [q] at e'
      cases e'
      obtain ⟨G2, A2, R2⟩ := fr_ok A1 R1 q
      exact ⟨G2, A2.store ⟨v, rfl, R2⟩ (fun p h1 h2 => by rcases h2 with ⟨m, h2⟩ | ⟨m, h2⟩ <;> cases h2) n⟩
theorem tAsg_of {K : PySem.W.Frag} {i : Nat} : ∀ D σ H, tsOf K E (bAsg i f) D σ H → tAsg (teOf K f) (gName i) D σ H := fun D σ H ⟨G, ρ, fl, ρ', g, e, k⟩ => by
  unfold bAsg at e
  cases q : f ρ with
  | none => rw [q] at e; cases e
  | some y =>
    obtain ⟨r, ρ1⟩ := y
    rw [q] at e
    cases q2 : toSlot ρ1 r with
    | none => simp only [q2] at e; cases e
    | some w =>
      obtain ⟨z, ρ2⟩ := w
      simp only [q2] at e
      split at e
      · rename_i n
        cases e
        refine ⟨G, ρ, r, ρ1, g, q, fun v G1 H1 A1 R1 => ?_⟩
        obtain ⟨G2, A2⟩ := asg_ok A1 R1 q2 n
        exact k _ G2 H1 A2
      · cases e
theorem ds_set {i : Nat} {x : Str} {e : Expr} {pos' : Pos} (hN : X.N.Nodup) (hi : X.N[i]? = some x) (hx : Loc X.env.scope x) (he : DE X e f) (hs : swapsWith e (some (.Name x pos')) pos.line X.env = pure false := by rfl) (hf : X.fn x = true ∨ X.env.scope.names.lookup x = some .local := by first | exact .inl rfl | exact .inr rfl | assumption) :
    DS X E (.Assign [.Name x pos'] e pos) (bAsg i f) := PS.weak (ps_set hN hi hx he hs hf) (tAsg_of)
abbrev Fg := D → En → Option En
def tgOf (K : PySem.W.Frag) (h : Fg) (S : List Nat) : TG := fun v σ H Q => ∃ G ρ d ρ', Good K G H σ ρ ∧ Rp K G v d ∧ h d ρ = some ρ' ∧ ∀ σ', Aft K G H σ ρ G H σ' ρ' → σ'.length = σ.length → (∀ i, i ∉ S → σ'[i]? = σ[i]?) → Q σ' H
abbrev DG (X : Cx) (tg : Expr) (h : Fg) (S : List Nat) : Prop := PG X tg (tgOf X.K h S)
theorem PG.weak {tg : Expr} {t t' : TG} (h : PG X tg t) (w : ∀ v σ H Q, t' v σ H Q → t v σ H Q) : PG X tg t' := ⟨fun pins s σ H v u Q I r q => h.run pins s σ H v u Q I r (w v σ H Q q)⟩
def gNm (i : Nat) : Fg := fun d ρ => if notRf ρ i then some (ρ.set i (.fz d)) else none
theorem dg_name {i : Nat} {x : Str} (hN : X.N.Nodup) (hi : X.N[i]? = some x) (hx : Loc X.env.scope x) (hf : X.fn x = true ∨ X.env.scope.names.lookup x = some .local := by first | exact .inl rfl | exact .inr rfl | assumption) : DG X (.Name x pos) (gNm i) [i] :=
  PG.weak (pg_name hN hi hx hf) fun v σ H Q ⟨G, ρ, d, ρ', g, r, e, k⟩ => by
    unfold gNm at e
    split at e
    · rename_i n
      cases e
      refine k _ ((Aft.refl g).store ⟨v, rfl, r⟩ (fun p h1 h2 => by rcases h2 with ⟨m, h2⟩ | ⟨m, h2⟩ <;> cases h2) n) (by simp) fun j hj => ?_
      rw [List.getElem?_set_ne fun z => hj (by simp [z])]
    · cases e
abbrev Fgs := List D → En → Option En
def tgsOf (K : PySem.W.Frag) (h : Fgs) (S : List Nat) : TGs := fun vs σ H Q => ∃ G ρ ds ρ', Good K G H σ ρ ∧ Rps K G vs ds ∧ h ds ρ = some ρ' ∧ ∀ σ', Aft K G H σ ρ G H σ' ρ' → σ'.length = σ.length → (∀ i, i ∉ S → σ'[i]? = σ[i]?) → Q σ' H
abbrev DGs (X : Cx) (tg : List Expr) (h : Fgs) (S : List Nat) : Prop := PGs X tg (tgsOf X.K h S)
theorem PGs.weak {tg : List Expr} {t t' : TGs} (h : PGs X tg t) (w : ∀ v σ H Q, t' v σ H Q → t v σ H Q) : PGs X tg t' := ⟨fun pins s σ H v u Q I r q => h.run pins s σ H v u Q I r (w v σ H Q q)⟩
def gsNil : Fgs := fun ds ρ => match ds with
  | [] => some ρ
  | _ => none
def gsCons (h : Fg) (t : Fgs) : Fgs := fun ds ρ => match ds with
  | [] => none
  | d :: ds => match h d ρ with
    | some ρ1 => t ds ρ1
    | none => none
theorem dgs_nil : DGs X [] gsNil [] := PGs.weak pgs_nil fun vs σ H Q ⟨G, ρ, ds, ρ', g, r, e, k⟩ => by
  cases r with
  | nil =>
    cases e
    exact ⟨rfl, k σ (Aft.refl g) rfl fun _ _ => rfl⟩
  | cons _ _ => cases e
theorem dgs_cons {es : List Expr} {h : Fg} {t : Fgs} {S T : List Nat} (h1 : DG X e h S) (h2 : DGs X es t T) (hs : (assignEach (e :: es) X.env).map (·.2) = assign e X.env :: (assignEach es X.env).map (·.2) := by rfl) : DGs X (e :: es) (gsCons h t) (S ++ T) := by
  refine PGs.weak (pgs_cons h1 h2 hs) fun vs σ H Q ⟨G, ρ, ds, ρ', g, r, q, k⟩ => ?_
  cases r with
  | nil => cases q
  | @cons v vs d ds r1 r2 =>
    unfold gsCons at q
    cases q1 : h d ρ with
    | none => simp only [q1] at q; cases q
    | some ρ1 =>
      simp only [q1] at q
      refine ⟨v, vs, rfl, G, ρ, d, ρ1, g, r1, q1, fun σ1 A1 l1 s1 => ?_⟩
      exact ⟨G, ρ1, ds, ρ', A1.good, r2, q, fun σ2 A2 l2 s2 => k σ2 (A1.trans A2) (l2.trans l1) fun i hi => (s2 i fun z => hi (List.mem_append_right _ z)).trans (s1 i fun z => hi (List.mem_append_left _ z))⟩
def gTp (n : Nat) (t : Fgs) : Fg := fun d ρ => match d with
  | .tup ds => if ds.length = n then t ds ρ else none
  | _ => none
theorem dg_tup {es : List Expr} {k n : Nat} {t : Fgs} {S : List Nat} (hc : X.calm = true) (h : DGs X es t S) (hn : (assignEach es X.env).length = n := by rfl) (hst : (assignEach es X.env).findIdx? (·.1) = none := by rfl) : DG X (.Tuple es k pos) (gTp n t) S := by
  refine PG.weak (pg_tup hc h hn hst) fun v σ H Q ⟨G, ρ, d, ρ', g, r, q, k⟩ => ?_
  unfold gTp at q
  split at q
  · rename_i ds
    split at q
    · rename_i hl
      cases r with
      | tup r1 r2 => exact ⟨_, _, rfl, SqT.of (g.ex _ _ r1), r2.len.trans hl, G, ρ, ds, ρ', g, r2, q, k⟩
    · cases q
  · cases q
def bUnp (h : Fg) (f : Fe) : Fs := fun ρ => match dFr f ρ with
  | some (d, ρ1) => match h d ρ1 with
    | some ρ2 => some (.nx, ρ2)
    | none => none
  | none => none
theorem ds_unp {tg : Expr} {h : Fg} {S : List Nat} (he : DE X e f) (hg : DG X tg h S) (hs : swapsWithSole [tg] e pos.line X.env = pure false := by rfl) (hw : swappedStores [tg] e X.env = pure none := by rfl) (h1 : (assignEach [tg] X.env).map (·.2) = [assign tg X.env] := by rfl) : DS X E (.Assign [tg] e pos) (bUnp h f) :=
  PS.weak (ps_asg (de_fr he) hg hs hw h1) fun D σ H ⟨G, ρ, fl, ρ', g, e, k⟩ => by
    unfold bUnp at e
    cases q : dFr f ρ with
    | none => rw [q] at e; cases e
    | some y =>
      obtain ⟨d, ρ1⟩ := y
      rw [q] at e
      cases q2 : h d ρ1 with
      | none => simp only [q2] at e; cases e
      | some ρ2 =>
        simp only [q2] at e
        cases e
        exact ⟨G, ρ, d, ρ1, g, q, fun v G1 H1 A1 R1 => ⟨G1, ρ1, d, _, A1.good, R1, q2, fun σ' A2 _ _ => k σ' G1 H1 (A1.trans A2)⟩⟩
abbrev Fi := En → Option (List D × En)
def ItemY (K : PySem.W.Frag) (G : Hp) (d : D) (H : Hp) (x : V) (H' : Hp) : Prop :=
  (H' = H ∧ Rp K G x d) ∨ (∃ T vs ds, x = .ref T ∧ d = .tup ds ∧ H T = none ∧ H' = upd H T (.tup vs) ∧ Rps K G vs ds) ∨ ∃ T vs ds, x = .ref T ∧ d = .tup ds ∧ H T = some (.tup vs) ∧ H' = H ∧ Rps K G vs ds
def ItOk (K : PySem.W.Frag) (G : Hp) (J : It) (xs : List D) : Prop := Walk J xs.length (fun H => Ex G H) (fun i H x H' => ∃ d, xs[i]? = some d ∧ ItemY K G d H x H')
def tiOf (K : PySem.W.Frag) (f : Fi) : TI := fun σ H R => ∃ G ρ xs ρ', Good K G H σ ρ ∧ f ρ = some (xs, ρ') ∧ ∀ J G' H', Aft K G H σ ρ G' H' σ ρ' → ItOk K G' J xs → R J H'
abbrev DI (X : Cx) (tg it : Expr) (f : Fi) : Prop := PI X tg it (tiOf X.K f)
theorem PI.weak {tg it : Expr} {t t' : TI} (h : PI X tg it t) (w : ∀ σ H R, t' σ H R → t σ H R) : PI X tg it t' := ⟨fun pins s σ H R I q => h.run pins s σ H R I (w σ H R q)⟩
theorem ItemY.take {K : PySem.W.Frag} {G G1 H H' : Hp} {d : D} {x : V} {σ : L2.St} {ρ : En} (g : Good K G1 H σ ρ) (ex : Ex G G1) (y : ItemY K G d H x H') : ∃ G2, Aft K G1 H σ ρ G2 H' σ ρ ∧ Rp K G2 x d := by
  rcases y with ⟨rfl, r⟩ | ⟨T, vs, ds, rfl, rfl, hT, rfl, r⟩ | ⟨T, vs, ds, rfl, rfl, hT, rfl, r⟩
  · exact ⟨G1, Aft.refl g, r.up ex⟩
  · exact ⟨_, Aft.laid g hT, .tup upd_same (r.up (ex.trans (ex_new (g.ex.free hT))))⟩
  · cases q : G1 T with
    | none => exact ⟨_, (Aft.refl g).stayT q hT, .tup upd_same (r.up (ex.trans (ex_new q)))⟩
    | some o =>
      have z := g.ex _ _ q
      rw [hT] at z
      cases z
      exact ⟨G1, Aft.refl g, .tup q (r.up ex)⟩
def forL (h : Fg) (B : Fs) : List D → En → Option (Fl × En)
  | [], ρ => some (.nx, ρ)
  | d :: ds, ρ => match h d ρ with
    | none => none
    | some ρ1 => match B ρ1 with
      | some (.nx, ρ2) => forL h B ds ρ2
      | some (.ct, ρ2) => forL h B ds ρ2
      | some (.bk, ρ2) => some (.nx, ρ2)
      | o => o
def bFor (fi : Fi) (h : Fg) (B : Fs) : Fs := fun ρ => match fi ρ with
  | some (xs, ρ1) => forL h B xs ρ1
  | none => none
theorem ds_for {iter tg : Expr} {body : List Stmt} {fi : Fi} {h : Fg} {S : List Nat} (hp : PassesOwn (model X.prog X.w) X.A X.env X.xe) (hc : X.calm = true) (hi : DI X tg iter fi) (hg : DG X tg h S) (hb : DB X E body B) (hs : ∀ x, foldedSetIterable iter X.env x = pure x := by intro _; rfl) : DS X E (.For tg iter body [] pos) (bFor fi h B) :=
  PS.weak (ps_for hp hc hi hg hb hs) fun D σ H ⟨G, ρ, fl, ρ', g, e, k⟩ => by
    unfold bFor at e
    cases q : fi ρ with
    | none => rw [q] at e; cases e
    | some y =>
      obtain ⟨xs, ρ1⟩ := y
      rw [q] at e
      replace e : forL h B xs ρ1 = some (fl, ρ') := e
      refine ⟨G, ρ, xs, ρ1, g, q, fun J G1 H1 A1 W => ?_⟩
      refine for_it W (fun i σ2 H2 => ∃ G2 ρ2, Aft X.K G H σ ρ G2 H2 σ2 ρ2 ∧ Ex G1 G2 ∧ forL h B (xs.drop i) ρ2 = some (fl, ρ')) ⟨G1, ρ1, A1, Same.refl _, by rw [List.drop_zero]; exact e⟩
        (fun i σ2 H2 _ ⟨G2, ρ2, A2, x2, _⟩ => x2.trans A2.good.ex) ?_ ?_
      · rintro i x σ2 H2 H3 hi ⟨G2, ρ2, A2, x2, e2⟩ ⟨d, hd, y⟩
        obtain ⟨G3, A3, R3⟩ := ItemY.take A2.good x2 y
        have hlt : i < xs.length := hi
        have hdr : xs.drop i = d :: xs.drop (i + 1) := by
          rw [List.drop_eq_getElem_cons hlt]
          rw [List.getElem?_eq_getElem hlt] at hd
          cases hd
          rfl
        rw [hdr] at e2
        unfold forL at e2
        cases q3 : h d ρ2 with
        | none => simp only [q3] at e2; cases e2
        | some ρ3 =>
          simp only [q3] at e2
          have A23 := A2.trans A3
          refine ⟨G3, ρ2, d, ρ3, A3.good, R3, q3, fun σ4 A4 _ _ => ?_⟩
          have A24 := A23.trans A4
          have x4 : Ex G1 G3 := x2.trans A3.ex
          split at e2
          · rename_i ρ5 q5
            exact ⟨G3, ρ3, .nx, ρ5, A4.good, q5, fun σ5 G5 H5 A5 => ⟨G5, ρ5, A24.trans A5, x4.trans A5.ex, e2⟩⟩
          · rename_i ρ5 q5
            exact ⟨G3, ρ3, .ct, ρ5, A4.good, q5, fun σ5 G5 H5 A5 => ⟨G5, ρ5, A24.trans A5, x4.trans A5.ex, e2⟩⟩
          · rename_i ρ5 q5
            cases e2
            exact ⟨G3, ρ3, .bk, _, A4.good, q5, fun σ5 G5 H5 A5 => k σ5 G5 H5 (A24.trans A5)⟩
          · rename_i n1 n2 n3
            refine ⟨G3, ρ3, fl, ρ', A4.good, e2, fun σ5 G5 H5 A5 => ?_⟩
            have r := (k σ5 G5 H5 (A24.trans A5)).start A24.dom
            cases fl with
            | nx => exact absurd e2 (n1 _)
            | ct => exact absurd e2 (n2 _)
            | bk => exact absurd e2 (n3 _)
            | rt r' => exact r
            | ex C ns ds => exact r
      · rintro σ2 H2 ⟨G2, ρ2, A2, x2, e2⟩
        rw [List.drop_eq_nil_of_le (Nat.le_refl _)] at e2
        cases e2
        exact k σ2 G2 H2 A2
end
end DL
namespace DL
open PySem PySem.Spec L2
def wipeD (ρ : En) : List Nat → En
  | [] => ρ
  | v :: vs => (wipeD ρ vs).set v .un
def restD (ρ0 ρ : En) : List Nat → En
  | [] => ρ
  | v :: vs => match ρ0[v]? with
    | some x => (restD ρ0 ρ vs).set v x
    | none => restD ρ0 ρ vs
theorem wipeD_len (ρ : En) : ∀ vs, (wipeD ρ vs).length = ρ.length
  | [] => rfl
  | v :: vs => by unfold wipeD; rw [List.length_set, wipeD_len ρ vs]
theorem restD_len (ρ0 ρ : En) : ∀ vs, (restD ρ0 ρ vs).length = ρ.length
  | [] => rfl
  | v :: vs => by
    unfold restD
    split
    · rw [List.length_set, restD_len ρ0 ρ vs]
    · exact restD_len ρ0 ρ vs
theorem wipe_in (σ : L2.St) (i : Nat) (h : i < σ.length) : ∀ vs, i ∈ vs → (wipe σ vs)[i]? = some none
  | v :: vs, hi => by
    unfold wipe
    by_cases e : v = i
    · subst e
      rw [List.getElem?_set_self (by rw [wipe_length]; exact h)]
    · rw [List.getElem?_set_ne e]
      exact wipe_in σ i h vs ((List.mem_cons.mp hi).resolve_left fun z => e z.symm)
theorem wipe_out (σ : L2.St) (i : Nat) : ∀ vs, i ∉ vs → (wipe σ vs)[i]? = σ[i]?
  | [], _ => rfl
  | v :: vs, hi => by
    unfold wipe
    rw [List.getElem?_set_ne fun z => hi (by simp [z])]
    exact wipe_out σ i vs fun z => hi (List.mem_cons_of_mem _ z)
theorem wipeD_in (σ : En) (i : Nat) (h : i < σ.length) : ∀ vs, i ∈ vs → (wipeD σ vs)[i]? = some .un
  | v :: vs, hi => by
    unfold wipeD
    by_cases e : v = i
    · subst e
      rw [List.getElem?_set_self (by rw [wipeD_len]; exact h)]
    · rw [List.getElem?_set_ne e]
      exact wipeD_in σ i h vs ((List.mem_cons.mp hi).resolve_left fun z => e z.symm)
theorem wipeD_out (σ : En) (i : Nat) : ∀ vs, i ∉ vs → (wipeD σ vs)[i]? = σ[i]?
  | [], _ => rfl
  | v :: vs, hi => by
    unfold wipeD
    rw [List.getElem?_set_ne fun z => hi (by simp [z])]
    exact wipeD_out σ i vs fun z => hi (List.mem_cons_of_mem _ z)
theorem restD_in (ρ0 ρ : En) (i : Nat) (h : i < ρ.length) (hl : ρ0.length = ρ.length) : ∀ vs, i ∈ vs → (restD ρ0 ρ vs)[i]? = ρ0[i]?
  | v :: vs, hi => by
    unfold restD
    by_cases e : v = i
    · subst e
      have e1 : ρ0[v]? = some ρ0[v] := List.getElem?_eq_getElem (by rw [hl]; exact h)
      rw [e1]
      exact List.getElem?_set_self (by rw [restD_len]; exact h)
    · have ih := restD_in ρ0 ρ i h hl vs ((List.mem_cons.mp hi).resolve_left fun z => e z.symm)
      split
      · rw [List.getElem?_set_ne e]
        exact ih
      · exact ih
theorem restD_out (ρ0 ρ : En) (i : Nat) : ∀ vs, i ∉ vs → (restD ρ0 ρ vs)[i]? = ρ[i]?
  | [], _ => rfl
  | v :: vs, hi => by
    unfold restD
    have ih := restD_out ρ0 ρ i vs fun z => hi (List.mem_cons_of_mem _ z)
    split
    · rw [List.getElem?_set_ne fun z => hi (by simp [z])]
      exact ih
    · exact ih
theorem wipe_eq {σ σ' : L2.St} {vs : List Nat} (hl : σ'.length = (wipe σ vs).length) (h : ∀ i, i ∉ vs → σ'[i]? = (wipe σ vs)[i]?) : wipe σ' vs = wipe σ vs := by
  apply List.ext_getElem?
  intro i
  rw [wipe_length] at hl
  by_cases hv : i ∈ vs
  · by_cases hi : i < σ.length
    · rw [wipe_in σ i hi vs hv, wipe_in σ' i (by omega) vs hv]
    · rw [List.getElem?_eq_none (by rw [wipe_length]; omega), List.getElem?_eq_none (by rw [wipe_length]; omega)]
  · rw [wipe_out σ' i vs hv]
    exact h i hv
section
variable {K : PySem.W.Frag} {G H G1 H1 G' H' : Hp} {σ σ' : L2.St} {ρ ρ' ρe : En} {vs : List Nat}
theorem own_wipe (hl : σ.length = ρ.length) {i : Nat} {p : Addr} (o : Own (wipe σ vs) (wipeD ρ vs) i p) : i ∉ vs ∧ Own σ ρ i p := by
  obtain ⟨h1, h2⟩ := o
  have hi : i ∉ vs := fun z => by
    by_cases l : i < σ.length
    · rw [wipe_in σ i l vs z] at h1
      cases h1
    · rw [List.getElem?_eq_none (by rw [wipe_length]; omega)] at h1
      cases h1
  rw [wipe_out σ i vs hi] at h1
  rw [wipeD_out ρ i vs hi] at h2
  exact ⟨hi, h1, h2⟩
theorem Good.wipe (g : Good K G H σ ρ) : Good K G H (wipe σ vs) (wipeD ρ vs) := by
  refine ⟨g.ex, by rw [wipe_length, wipeD_len]; exact g.len, fun i s r e1 e2 => ?_, fun i j p a b => g.nd i j p (own_wipe g.len a).2 (own_wipe g.len b).2⟩
  by_cases hv : i ∈ vs
  · by_cases l : i < ρ.length
    · rw [wipeD_in ρ i l vs hv] at e2
      cases e2
      trivial
    · rw [List.getElem?_eq_none (by rw [wipeD_len]; omega)] at e2
      cases e2
  · rw [wipe_out σ i vs hv] at e1
    rw [wipeD_out ρ i vs hv] at e2
    exact g.sl i s r e1 e2
theorem Aft.wipe (a : Aft K G H σ ρ G1 H1 σ' ρ') (hr : ∀ i m, i ∈ vs → ρ[i]? ≠ some (.rf m)) : Aft K G H σ ρ G1 H1 (wipe σ' vs) (wipeD ρ' vs) := by
  refine ⟨a.good.wipe, a.ex, a.keep, a.dom, fun i p o => a.own i p (own_wipe a.good.len o).2, fun i m e => ?_, by rw [wipeD_len]; exact a.len⟩
  have hv : i ∉ vs := fun z => hr i m z e
  obtain ⟨h1, m', h2⟩ := a.rf i m e
  exact ⟨by rw [wipe_out σ' i vs hv]; exact h1, m', by rw [wipeD_out ρ' i vs hv]; exact h2⟩
theorem Aft.rest (g : Good K G H σ ρ) (a : Aft K G H (L2.wipe σ vs) (wipeD ρ vs) G1 H1 (L2.wipe σ vs) ρe) : Aft K G H σ ρ G1 H1 σ (restD ρ ρe vs) := by
  have hl : ρe.length = ρ.length := by
    have := a.good.len
    rw [wipe_length] at this
    rw [← this]
    exact g.len
  have notW : ∀ i p, i ∈ vs → Own σ ρ i p → ¬ OwnA (L2.wipe σ vs) (wipeD ρ vs) p := fun i p hi o ⟨j, oj⟩ => by
    obtain ⟨hj, oj⟩ := own_wipe g.len oj
    exact hj (g.nd i j p o oj ▸ hi)
  have split_ : ∀ i p, Own σ (restD ρ ρe vs) i p → (i ∈ vs ∧ Own σ ρ i p) ∨ (i ∉ vs ∧ Own (L2.wipe σ vs) ρe i p) := fun i p ⟨h1, h2⟩ => by
    by_cases hv : i ∈ vs
    · have l : i < ρe.length := by
        rw [hl, ← g.len]
        exact (List.getElem?_eq_some_iff.mp h1).1
      rw [restD_in ρ ρe i l hl.symm vs hv] at h2
      exact .inl ⟨hv, h1, h2⟩
    · rw [restD_out ρ ρe i vs hv] at h2
      exact .inr ⟨hv, by rw [wipe_out σ i vs hv]; exact h1, h2⟩
  refine ⟨⟨a.good.ex, by rw [restD_len, hl]; exact g.len, fun i s r e1 e2 => ?_, fun i j p oi oj => ?_⟩, a.ex, fun x o e n => a.keep x o e fun ⟨j, oj⟩ => n ⟨j, (own_wipe g.len oj).2⟩, a.dom, fun i p o => ?_, fun i m e => ⟨rfl, ?_⟩, by rw [restD_len, hl]⟩
  · by_cases hv : i ∈ vs
    · have l : i < ρe.length := by
        rw [hl, ← g.len]
        exact (List.getElem?_eq_some_iff.mp e1).1
      rw [restD_in ρ ρe i l hl.symm vs hv] at e2
      have k := g.sl i s r e1 e2
      cases r with
      | un => trivial
      | fz d =>
        obtain ⟨v, h1, h2⟩ := k
        exact ⟨v, h1, h2.up a.ex⟩
      | ow m =>
        obtain ⟨p, o, h1, h2, h3, h4⟩ := k
        obtain ⟨k1, k2⟩ := a.keep p o h3 (notW i p hv ⟨by rw [e1, h1], .inl ⟨m, e2⟩⟩)
        exact ⟨p, o, h1, k2 h2 h4.nt, k1, h4.up a.ex⟩
      | rf m =>
        obtain ⟨p, o, h1, h2, h3, h4⟩ := k
        obtain ⟨k1, k2⟩ := a.keep p o h3 (notW i p hv ⟨by rw [e1, h1], .inr ⟨m, e2⟩⟩)
        exact ⟨p, o, h1, k2 h2 h4.nt, k1, h4.up a.ex⟩
      | bw _ => exact k
    · rw [restD_out ρ ρe i vs hv] at e2
      exact a.good.sl i s r (by rw [wipe_out σ i vs hv]; exact e1) e2
  · have mix : ∀ i j, i ∈ vs → Own σ ρ i p → Own (L2.wipe σ vs) ρe j p → False := fun i j hi oi oj => by
      rcases a.own j p oj with z | z
      · exact notW i p hi oi z
      · obtain ⟨_, u, e⟩ := Own.there g oi
        rw [z] at e
        cases e
    rcases split_ i p oi with ⟨hi, oi⟩ | ⟨hi, oi⟩
    · rcases split_ j p oj with ⟨hj, oj⟩ | ⟨hj, oj⟩
      · exact g.nd i j p oi oj
      · exact (mix i j hi oi oj).elim
    · rcases split_ j p oj with ⟨hj, oj⟩ | ⟨hj, oj⟩
      · exact (mix j i hj oj oi).elim
      · exact a.good.nd i j p oi oj
  · rcases split_ i p o with ⟨_, oi⟩ | ⟨_, oi⟩
    · exact .inl ⟨i, oi⟩
    · rcases a.own i p oi with ⟨j, oj⟩ | z
      · exact .inl ⟨j, (own_wipe g.len oj).2⟩
      · exact .inr z
  · by_cases hv : i ∈ vs
    · have l : i < ρe.length := by
        rw [hl]
        exact (List.getElem?_eq_some_iff.mp e).1
      exact ⟨m, by rw [restD_in ρ ρe i l hl.symm vs hv]; exact e⟩
    · obtain ⟨_, m', e'⟩ := a.rf i m (by rw [wipeD_out ρ i vs hv]; exact e)
      exact ⟨m', by rw [restD_out ρ ρe i vs hv]; exact e'⟩
end
def lcL (h : Fg) (ft : Ft) (fe : Fe) (vs : List Nat) : List D → List D → En → Option (List D × En)
  | [], acc, ρ => some (acc, ρ)
  | d :: ds, acc, ρ => match h d ρ with
    | none => none
    | some ρ1 => match ft ρ1 with
      | none => none
      | some (false, ρ2) => lcL h ft fe vs ds acc (wipeD ρ2 vs)
      | some (true, ρ2) => match dFr fe ρ2 with
        | none => none
        | some (y, ρ3) => if acc.length < 16000000 then lcL h ft fe vs ds (acc ++ [y]) (wipeD ρ3 vs) else none
def dLc (fi : Fi) (h : Fg) (ft : Ft) (fe : Fe) (vs : List Nat) : Fe := fun ρ => match fi ρ with
  | some (xs, ρ1) => match lcL h ft fe vs xs [] (wipeD ρ1 vs) with
    | some (acc, ρ2) => some (.ow (.l acc), restD ρ1 ρ2 vs)
    | none => none
  | none => none
theorem sz16 {n : Nat} (h : n < 16000000) : n < sizeLine := Nat.lt_trans h (by decide)
theorem tLc_of {K : PySem.W.Frag} {fi : Fi} {h : Fg} {ft : Ft} {fe : Fe} {vs S : List Nat} (hS : ∀ i ∈ S, i ∈ vs) : ∀ σ H Q, teOf K (dLc fi h ft fe vs) σ H Q → tLc (tiOf K fi) (tgOf K h S) (ttOf K ft) (tdOf K (dFr fe)) vs σ H Q := fun σ H Q ⟨G, ρ, z, ρ', g, e, k⟩ => by
  unfold dLc at e
  cases q : fi ρ with
  | none => rw [q] at e; cases e
  | some y =>
    obtain ⟨xs, ρ1⟩ := y
    rw [q] at e
    cases q2 : lcL h ft fe vs xs [] (wipeD ρ1 vs) with
    | none => simp only [q2] at e; cases e
    | some y =>
      obtain ⟨accE, ρ2⟩ := y
      simp only [q2] at e
      cases e
      refine ⟨G, ρ, xs, ρ1, g, q, fun J G1 H1 A1 W Dl hD => ?_⟩
      have gw : Good K G1 H1 (wipe σ vs) (wipeD ρ1 vs) := A1.good.wipe
      have hr : ∀ i m, i ∈ vs → (wipeD ρ1 vs)[i]? ≠ some (.rf m) := fun i m hi z => by
        have l : i < ρ1.length := by
          have := (List.getElem?_eq_some_iff.mp z).1
          rw [wipeD_len] at this
          exact this
        rw [wipeD_in ρ1 i l vs hi] at z
        cases z
      refine lc_it W (fun i H2 => ∃ G2 ρ3 accV acc, Aft K G1 H1 (wipe σ vs) (wipeD ρ1 vs) G2 H2 (wipe σ vs) ρ3 ∧ Ex G1 G2 ∧ G2 Dl = none ∧ ¬ OwnA (wipe σ vs) ρ3 Dl ∧ H2 Dl = some (.lst accV) ∧ Rps K G2 accV acc ∧ lcL h ft fe vs (xs.drop i) acc ρ3 = some (accE, ρ2))
        ⟨G1, wipeD ρ1 vs, [], [], (Aft.refl gw).mut hD (gw.ex.free hD) (gw.notOwn hD), Same.refl _, gw.ex.free hD, gw.notOwn hD, upd_same, .nil, by rw [List.drop_zero]; exact q2⟩
        (fun i H2 _ ⟨G2, ρ3, accV, acc, A2, x2, _⟩ => x2.trans A2.good.ex) ?_ ?_
      · rintro i x H2 H3 hi ⟨G2, ρ3, accV, acc, A2, x2, d2, n2, h2, r2, e2⟩ ⟨d, hd, y⟩
        obtain ⟨G3, A3, R3⟩ := ItemY.take A2.good x2 y
        have hlt : i < xs.length := hi
        have hdr : xs.drop i = d :: xs.drop (i + 1) := by
          rw [List.drop_eq_getElem_cons hlt]
          rw [List.getElem?_eq_getElem hlt] at hd
          cases hd
          rfl
        rw [hdr] at e2
        unfold lcL at e2
        cases q3 : h d ρ3 with
        | none => simp only [q3] at e2; cases e2
        | some ρ4 =>
          simp only [q3] at e2
          obtain ⟨k3a, k3b⟩ := A3.keep Dl _ h2 n2
          refine ⟨G3, ρ3, d, ρ4, A3.good, R3, q3, fun σ4 A4 l4 s4 => ⟨wipe_eq l4 fun j hj => s4 j fun z => hj (hS j z), ?_⟩⟩
          obtain ⟨k4a, k4b⟩ := A4.keep Dl _ k3a (A3.nown h2 n2)
          have n4 := A4.nown k3a (A3.nown h2 n2)
          have ew : wipe σ4 vs = wipe σ vs := wipe_eq l4 fun j hj => s4 j fun z => hj (hS j z)
          cases q4 : ft ρ4 with
          | none => simp only [q4] at e2; cases e2
          | some y =>
            obtain ⟨b, ρ5⟩ := y
            simp only [q4] at e2
            refine ⟨G3, ρ4, b, ρ5, A4.good, q4, fun G5 H5 A5 => ?_⟩
            obtain ⟨k5a, k5b⟩ := A5.keep Dl _ k4a n4
            have n5 := A5.nown k4a n4
            have A25 := ((A2.trans A3).trans A4).trans A5
            cases b with
            | false =>
              refine iteF ⟨G5, wipeD ρ5 vs, accV, acc, ?_, ?_, k5b (k4b (k3b d2 trivial) trivial) trivial, ?_, k5a, r2.up (A3.ex.trans A5.ex), e2⟩
              · have := A25.wipe (vs := vs) hr
                rw [ew] at this
                exact this
              · exact (x2.trans A3.ex).trans A5.ex
              · rw [← ew]
                exact fun ⟨j, oj⟩ => n5 ⟨j, (own_wipe A5.good.len oj).2⟩
            | true =>
              cases q5 : dFr fe ρ5 with
              | none => simp only [q5] at e2; cases e2
              | some y =>
                obtain ⟨y, ρ6⟩ := y
                simp only [q5] at e2
                split at e2
                · rename_i hsz
                  refine iteT ⟨G5, ρ5, y, ρ6, A5.good, q5, fun v G6 H6 A6 R6 => ?_⟩
                  obtain ⟨k6a, k6b⟩ := A6.keep Dl _ k5a n5
                  have n6 := A6.nown k5a n5
                  have A26 := A25.trans A6
                  have x6 : Ex G2 G6 := (A3.ex.trans A5.ex).trans A6.ex
                  have Aw : Aft K G1 H1 (wipe σ vs) (wipeD ρ1 vs) G6 H6 (wipe σ vs) (wipeD ρ6 vs) := by
                    have := A26.wipe (vs := vs) hr
                    rw [ew] at this
                    exact this
                  have nw : ¬ OwnA (wipe σ vs) (wipeD ρ6 vs) Dl := by
                    rw [← ew]
                    exact fun ⟨j, oj⟩ => n6 ⟨j, (own_wipe A6.good.len oj).2⟩
                  have g6 : G6 Dl = none := k6b (k5b (k4b (k3b d2 trivial) trivial) trivial) trivial
                  refine ⟨accV, k6a, by rw [r2.len]; exact sz16 hsz, G6, wipeD ρ6 vs, accV ++ [v], acc ++ [y], Aw.mut hD g6 nw, x2.trans x6, g6, nw, upd_same, (r2.up x6).app (.one R6), e2⟩
                · cases e2
      · rintro H2 ⟨G2, ρ3, accV, acc, A2, x2, d2, n2, h2, r2, e2⟩
        rw [List.drop_eq_nil_of_le (Nat.le_refl _)] at e2
        cases e2
        have Ar := Aft.rest A1.good A2
        refine k (.ref Dl) G2 H2 (A1.trans Ar) ⟨Dl, _, rfl, A1.back hD, d2, h2, .l r2, fun ⟨j, oj1, oj2⟩ => ?_⟩
        have l2 : ρ2.length = ρ1.length := by
          have := A2.good.len
          rw [wipe_length] at this
          rw [← this]
          exact A1.good.len
        by_cases hv : j ∈ vs
        · have l : j < ρ2.length := by
            rw [l2, ← A1.good.len]
            exact (List.getElem?_eq_some_iff.mp oj1).1
          rw [restD_in ρ1 ρ2 j l l2.symm vs hv] at oj2
          obtain ⟨_, u, e⟩ := Own.there A1.good ⟨oj1, oj2⟩
          rw [hD] at e
          cases e
        · rw [restD_out ρ1 ρ2 j vs hv] at oj2
          exact n2 ⟨j, by rw [wipe_out σ j vs hv]; exact oj1, oj2⟩
section
variable {X : Cx} {elt tg iter : Expr} {ifs : List Expr} {scope : Scope} {own : List (Str × Nat)} {pos spos : Pos} {fi : Fi} {h : Fg} {S : List Nat} {ft : Ft} {fe : Fe}
def dYes : Ft := fun ρ => some (true, ρ)
abbrev DTs (X : Cx) (ifs : List Expr) (f : Ft) : Prop := PTs X ifs (ttOf X.K f)
theorem PTs.weak {X : Cx} {e : List Expr} {t t' : TT} (h : PTs X e t) (w : ∀ σ H Q, t' σ H Q → t σ H Q) : PTs X e t' := ⟨fun pins s σ H Q I q => h.run pins s σ H Q I (w σ H Q q)⟩
theorem dts_nil : DTs X [] dYes := PTs.weak pts_nil fun σ H Q ⟨G, ρ, b, ρ', g, e, k⟩ => by
  cases e
  exact k G H (Aft.refl g)
theorem dts_one {c : Expr} (hc : DT X c ft) : DTs X [c] ft := pts_one hc
theorem de_lc (hc : X.calm = true) (hN : X.N.Nodup) (hi : DI X tg iter fi) (ok : BlkOk X.N X.env.scope scope own)
    (hg : ∀ (s : Shared) (H : Hp) (C : Addr) (cl : List (Str × Addr)) (fp : List Addr), DG (X.blk s H scope (compEnvC scope cl C X.env) fp) tg h S) (ht : ∀ (s : Shared) (H : Hp) (C : Addr) (cl : List (Str × Addr)) (fp : List Addr), DTs (X.blk s H scope (compEnvC scope cl C X.env) fp) ifs ft)
    (he : ∀ (s : Shared) (H : Hp) (C : Addr) (cl : List (Str × Addr)) (fp : List Addr), DE (X.blk s H scope (compEnvC scope cl C X.env) fp) elt fe) (hS : ∀ i ∈ S, i ∈ own.map (·.2) := by decide) (hs : ∀ x, foldedSetIterable iter X.env x = pure x := by intro _; rfl) :
    DE X (.ListComp elt [⟨tg, iter, ifs, 0⟩] scope pos) (dLc fi h ft fe (own.map (·.2))) :=
  PE.weak (pe_lc hc hN hi ok hg ht (fun s H C cl fp => de_fr (he s H C cl fp)) hs) (tLc_of hS)
end
end DL
namespace DL
open PySem PySem.Spec L2
open PyProof.Rows (envOfC)
abbrev FF := En → Option (Sl × En)
def ArgsOk (ρ : En) : Prop := ∀ (i : Nat) (m : Mu), ρ[i]? ≠ some (.ow m)
def spD (K : PySem.W.Frag) (n : Nat) (F : FF) : Sp := fun vs H Q _ => ∃ G ρ r ρ', vs.length = n ∧ ArgsOk ρ ∧ Good K G H (vs.map some) ρ ∧ F ρ = some (r, ρ') ∧
  ∀ v G' H', Aft K G H (vs.map some) ρ G' H' (vs.map some) ρ' → ROk K H G' H' (vs.map some) ρ' v r → Q v H'
def resolve (ρ : En) : Sl → Option Sl
  | .fz d => some (.fz d)
  | .ow m => some (.ow m)
  | .bw i => match ρ[i]? with
    | some (.fz d) => some (.fz d)
    | some (.ow m) => some (.ow m)
    | _ => none
  | _ => none
def finS (a b : Sl) : Sl := match a with
  | .rf _ => b
  | .fz d => .fz d
  | _ => .un
def fin (ρ ρe : En) : En := List.zipWith finS ρ ρe
def endF (ρ : En) (o : Option (Fl × En)) : Option (Sl × En) := match o with
  | some (.nx, ρe) => some (.fz .non, fin ρ ρe)
  | some (.rt r, ρe) => match resolve ρe r with
    | some z => some (z, fin ρ ρe)
    | none => none
  | _ => none
def runF (k : Nat) (B : Fs) : FF := fun ρ => endF ρ (B (ρ ++ List.replicate k .un))
section
variable {K : PySem.W.Frag} {G H G' H' : Hp} {σ σ' : L2.St} {ρ ρe : En} {k : Nat} {vs : List V}
theorem pad_get {α : Type} {l : List α} {x : α} {i : Nat} {y : α} (h : (l ++ List.replicate k x)[i]? = some y) : l[i]? = some y ∨ y = x := by
  by_cases hi : i < l.length
  · rw [List.getElem?_append_left hi] at h
    exact .inl h
  · rw [List.getElem?_append_right (by omega)] at h
    rw [List.getElem?_replicate] at h
    split at h
    · cases h
      exact .inr rfl
    · cases h
theorem own_pad {i : Nat} {p : Addr} (o : Own (σ ++ List.replicate k none) (ρ ++ List.replicate k .un) i p) : Own σ ρ i p := by
  obtain ⟨h1, h2⟩ := o
  refine ⟨?_, ?_⟩
  · rcases pad_get h1 with z | z
    · exact z
    · cases z
  · rcases h2 with ⟨m, h2⟩ | ⟨m, h2⟩
    · rcases pad_get h2 with z | z
      · exact .inl ⟨m, z⟩
      · cases z
    · rcases pad_get h2 with z | z
      · exact .inr ⟨m, z⟩
      · cases z
theorem Good.pad (g : Good K G H σ ρ) : Good K G H (σ ++ List.replicate k none) (ρ ++ List.replicate k .un) := by
  refine ⟨g.ex, by simp [g.len], fun i s r e1 e2 => ?_, fun i j p a b => g.nd i j p (own_pad a) (own_pad b)⟩
  rcases pad_get e2 with z | z
  · have hi : i < σ.length := by
      rw [g.len]
      exact (List.getElem?_eq_some_iff.mp z).1
    rw [List.getElem?_append_left hi] at e1
    exact g.sl i s r e1 z
  · rw [z]
    trivial
theorem fin_get {i : Nat} {z : Sl} (h : (fin ρ ρe)[i]? = some z) : ∃ a b, ρ[i]? = some a ∧ ρe[i]? = some b ∧ z = finS a b := by
  unfold fin at h
  rw [List.getElem?_zipWith] at h
  cases h1 : ρ[i]? with
  | none => rw [h1] at h; cases h
  | some a =>
    cases h2 : ρe[i]? with
    | none => rw [h1, h2] at h; cases h
    | some b =>
      rw [h1, h2] at h
      cases h
      exact ⟨a, b, rfl, rfl, rfl⟩
theorem finS_own {a b : Sl} (h : (∃ m, finS a b = .ow m) ∨ ∃ m, finS a b = .rf m) : (∃ m, a = .rf m) ∧ finS a b = b := by
  cases a with
  | rf m => exact ⟨⟨m, rfl⟩, rfl⟩
  | un => rcases h with ⟨m, h⟩ | ⟨m, h⟩ <;> cases h
  | fz d => rcases h with ⟨m, h⟩ | ⟨m, h⟩ <;> cases h
  | ow d => rcases h with ⟨m, h⟩ | ⟨m, h⟩ <;> cases h
  | bw d => rcases h with ⟨m, h⟩ | ⟨m, h⟩ <;> cases h
theorem call_end (g : Good K G H (vs.map some) ρ) (a : Aft K G H (vs.map some ++ List.replicate k none) (ρ ++ List.replicate k .un) G' H' σ' ρe) : Aft K G H (vs.map some) ρ G' H' (vs.map some) (fin ρ ρe) := by
  have vlen : ∀ i (z : Sl), (fin ρ ρe)[i]? = some z → i < (vs.map some).length := fun i z h => by
    obtain ⟨x, y, h1, _⟩ := fin_get h
    rw [g.len]
    exact (List.getElem?_eq_some_iff.mp h1).1
  have sig : ∀ i m, ρ[i]? = some (Sl.rf m) → σ'[i]? = (vs.map some)[i]? ∧ ∃ m', ρe[i]? = some (Sl.rf m') := fun i m h => by
    have hi : i < ρ.length := (List.getElem?_eq_some_iff.mp h).1
    obtain ⟨h1, h2⟩ := a.rf i m (by rw [List.getElem?_append_left hi]; exact h)
    refine ⟨?_, h2⟩
    rw [h1, List.getElem?_append_left (by rw [g.len]; exact hi)]
  have own_ : ∀ i p, Own (vs.map some) (fin ρ ρe) i p → Own σ' ρe i p ∧ Own (vs.map some) ρ i p := fun i p ⟨h1, h2⟩ => by
    have h3 : ∃ z, (fin ρ ρe)[i]? = some z ∧ ((∃ m, z = .ow m) ∨ ∃ m, z = .rf m) := by
      rcases h2 with ⟨m, h2⟩ | ⟨m, h2⟩
      · exact ⟨_, h2, .inl ⟨m, rfl⟩⟩
      · exact ⟨_, h2, .inr ⟨m, rfl⟩⟩
    obtain ⟨z, hz, hm⟩ := h3
    obtain ⟨x, y, e1, e2, e3⟩ := fin_get hz
    subst e3
    obtain ⟨⟨m, rfl⟩, e4⟩ := finS_own hm
    obtain ⟨s1, m', s2⟩ := sig i m e1
    exact ⟨⟨by rw [s1]; exact h1, .inr ⟨m', s2⟩⟩, h1, .inr ⟨m, e1⟩⟩
  refine ⟨⟨a.good.ex, ?_, fun i s r e1 e2 => ?_, fun i j p oi oj => a.good.nd i j p (own_ i p oi).1 (own_ j p oj).1⟩, a.ex, fun x o e n => a.keep x o e fun ⟨j, oj⟩ => n ⟨j, own_pad oj⟩, a.dom, fun i p o => .inl ⟨i, (own_ i p o).2⟩, fun i m e => ⟨rfl, ?_⟩, ?_⟩
  · have h1 := a.good.len
    unfold fin
    rw [List.length_zipWith, g.len]
    have h2 := a.len
    rw [List.length_append] at h2
    omega
  · obtain ⟨x, y, h1, h2, rfl⟩ := fin_get e2
    cases x with
    | un => trivial
    | bw _ => trivial
    | ow _ => trivial
    | fz d =>
      obtain ⟨v, k1, k2⟩ := g.sl i s _ e1 h1
      exact ⟨v, k1, k2.up a.ex⟩
    | rf m =>
      obtain ⟨s1, m', s2⟩ := sig i m h1
      exact a.good.sl i s y (by rw [s1]; exact e1) h2
  · obtain ⟨s1, m', s2⟩ := sig i m e
    refine ⟨m', ?_⟩
    unfold fin
    rw [List.getElem?_zipWith, e, s2]
    rfl
  · have h2 := a.len
    rw [List.length_append] at h2
    unfold fin
    rw [List.length_zipWith]
    omega
theorem res_ok {r z : Sl} {v : V} (hA : ArgsOk ρ) (g : Good K G H (vs.map some) ρ) (a : Aft K G H (vs.map some ++ List.replicate k none) (ρ ++ List.replicate k .un) G' H' σ' ρe) (R : ROk K H G' H' σ' ρe v r) (e : resolve ρe r = some z) :
    ROk K H G' H' (vs.map some) (fin ρ ρe) v z := by
  have own_ : ∀ i p, Own (vs.map some) (fin ρ ρe) i p → Own σ' ρe i p ∧ ∃ m, ρ[i]? = some (Sl.rf m) := fun i p ⟨h1, h2⟩ => by
    have h3 : ∃ z, (fin ρ ρe)[i]? = some z ∧ ((∃ m, z = .ow m) ∨ ∃ m, z = .rf m) := by
      rcases h2 with ⟨m, h2⟩ | ⟨m, h2⟩
      · exact ⟨_, h2, .inl ⟨m, rfl⟩⟩
      · exact ⟨_, h2, .inr ⟨m, rfl⟩⟩
    obtain ⟨z, hz, hm⟩ := h3
    obtain ⟨x, y, e1, e2, e3⟩ := fin_get hz
    subst e3
    obtain ⟨⟨m, rfl⟩, e4⟩ := finS_own hm
    have hi : i < ρ.length := (List.getElem?_eq_some_iff.mp e1).1
    obtain ⟨s1, m', s2⟩ := a.rf i m (by rw [List.getElem?_append_left hi]; exact e1)
    rw [List.getElem?_append_left (by rw [g.len]; exact hi)] at s1
    exact ⟨⟨by rw [s1]; exact h1, .inr ⟨m', s2⟩⟩, m, e1⟩
  cases r with
  | un => cases e
  | rf m => cases e
  | fz d => cases e; exact R
  | ow m =>
    cases e
    obtain ⟨p, o, rfl, h0, h1, h2, h3, h4⟩ := R
    exact ⟨p, o, rfl, h0, h1, h2, h3, fun ⟨j, oj⟩ => h4 ⟨j, (own_ j p oj).1⟩⟩
  | bw i =>
    have e' : (match ρe[i]? with | some (.fz d) => some (Sl.fz d) | some (.ow m) => some (.ow m) | _ => none) = some z := e
    have R' : σ'[i]? = some (some v) := R
    cases q : ρe[i]? with
    | none => rw [q] at e'; cases e'
    | some x =>
      rw [q] at e'
      have s := a.good.sl i _ _ R' q
      cases x with
      | un => cases e'
      | bw _ => cases e'
      | rf m => cases e'
      | fz d =>
        cases e'
        obtain ⟨v', h1, h2⟩ := s
        cases h1
        exact h2
      | ow m =>
        cases e'
        obtain ⟨p, o, h1, h2, h3, h4⟩ := s
        cases h1
        have oi : Own σ' ρe i p := ⟨R', .inl ⟨m, q⟩⟩
        refine ⟨p, o, rfl, ?_, h2, h3, h4, fun ⟨j, oj⟩ => ?_⟩
        · rcases a.own i p oi with ⟨j, oj⟩ | z
          · exfalso
            obtain ⟨w1, w2⟩ := own_pad oj
            have hr : ∃ m, ρ[j]? = some (Sl.rf m) := by
              rcases w2 with ⟨m', w2⟩ | w2
              · exact absurd w2 (hA j m')
              · exact w2
            obtain ⟨m1, hr⟩ := hr
            have hj : j < ρ.length := (List.getElem?_eq_some_iff.mp hr).1
            obtain ⟨s1, m', s2⟩ := a.rf j m1 (by rw [List.getElem?_append_left hj]; exact hr)
            rw [List.getElem?_append_left (by rw [g.len]; exact hj)] at s1
            have e3 := a.good.nd i j p oi ⟨by rw [s1]; exact w1, .inr ⟨m', s2⟩⟩
            subst e3
            rw [q] at s2
            cases s2
          · exact z
        · obtain ⟨oj', m1, hr⟩ := own_ j p oj
          have e3 := a.good.nd i j p oi oj'
          subst e3
          have hj : i < ρ.length := (List.getElem?_eq_some_iff.mp hr).1
          obtain ⟨s1, m', s2⟩ := a.rf i m1 (by rw [List.getElem?_append_left hj]; exact hr)
          rw [q] at s2
          cases s2
end
section
variable {P : Program} {w : World} {K : PySem.W.Frag} {mg : Str → Option Value} {base : Heap}
end
def allFz : List Sl → Bool
  | [] => true
  | .fz _ :: r => allFz r
  | _ => false
def isRes : Sl → Bool
  | .fz _ => true
  | .ow _ => true
  | _ => false
def fCall (F : FF) (fa : Fa) : Fe := fun ρ => match fa ρ with
  | some (rs, ρ1) => match rs with
    | .bw i :: rest => if allFz rest = true then (match ρ1[i]? with
        | some (.ow m) => match F (.rf m :: rest) with
          | some (z, .rf m' :: _) => if isRes z = true then some (z, ρ1.set i (.ow m')) else none
          | _ => none
        | some (.rf m) => match F (.rf m :: rest) with
          | some (z, .rf m' :: _) => if isRes z = true then some (z, ρ1.set i (.rf m')) else none
          | _ => none
        | _ => none) else none
    | rs => if allFz rs = true then (match F rs with
        | some (z, _) => if isRes z = true then some (z, ρ1) else none
        | none => none) else none
  | none => none
section
variable {K : PySem.W.Frag} {G H G1 H1 G2 H2 H0 : Hp} {σ : L2.St} {ρ ρ1 ρc ρc' : En} {vs : List V} {rs : List Sl}
theorem fz_slots : ∀ {vs : List V} {rs : List Sl}, RsOk K H0 G H σ ρ vs rs → allFz rs = true → vs.length = rs.length ∧ (∀ (i : Nat) (s : Option V) (r : Sl), (vs.map some)[i]? = some s → rs[i]? = some r → ∃ v d, s = some v ∧ r = .fz d ∧ Rp K G v d)
  | _, _, .nil, _ => ⟨rfl, fun i s r h _ => by simp at h⟩
  | _, _, .cons (v := v) (r := r) h t, f => by
    cases r with
    | fz d =>
      obtain ⟨h1, h2⟩ := fz_slots t f
      refine ⟨by simp [h1], fun i s r e1 e2 => ?_⟩
      cases i with
      | zero =>
        simp at e1 e2
        subst e1
        subst e2
        exact ⟨v, d, rfl, rfl, h⟩
      | succ i => exact h2 i s r (by simpa using e1) (by simpa using e2)
    | un => cases f
    | ow _ => cases f
    | rf _ => cases f
    | bw _ => cases f
theorem Good.frame (g : Good K G1 H1 σ ρ) (ex : Ex G1 G2) (ex2 : Ex G2 H2) (k : ∀ a o, H1 a = some o → OwnA σ ρ a → H2 a = some o ∧ (G1 a = none → NT o → G2 a = none)) : Good K G2 H2 σ ρ := by
  refine ⟨ex2, g.len, fun i s r e1 e2 => ?_, g.nd⟩
  have q := g.sl i s r e1 e2
  cases r with
  | un => trivial
  | bw _ => exact q
  | fz d =>
    obtain ⟨v, h1, h2⟩ := q
    exact ⟨v, h1, h2.up ex⟩
  | ow m =>
    obtain ⟨p, o, h1, h2, h3, h4⟩ := q
    obtain ⟨k1, k2⟩ := k p o h3 ⟨i, by rw [e1, h1], .inl ⟨m, e2⟩⟩
    exact ⟨p, o, h1, k2 h2 h4.nt, k1, h4.up ex⟩
  | rf m =>
    obtain ⟨p, o, h1, h2, h3, h4⟩ := q
    obtain ⟨k1, k2⟩ := k p o h3 ⟨i, by rw [e1, h1], .inr ⟨m, e2⟩⟩
    exact ⟨p, o, h1, k2 h2 h4.nt, k1, h4.up ex⟩
theorem call_fz {F : FF} {n : Nat} {z : Sl} {Q : VK} {E : XK} (g : Good K G1 H1 σ ρ1) (R : RsOk K H0 G1 H1 σ ρ1 vs rs) (hz : allFz rs = true) (e : F rs = some (z, ρc')) (hzr : isRes z = true) (hn : rs.length = n)
    (k : ∀ v G2 H2, Aft K G1 H1 σ ρ1 G2 H2 σ ρ1 → ROk K H1 G2 H2 σ ρ1 v z → Q v H2) : spD K n F vs H1 Q E := by
  obtain ⟨hl, hs⟩ := fz_slots R hz
  have noOwn : ∀ p, ¬ OwnA (vs.map some) rs p := fun p ⟨i, h1, h2⟩ => by
    rcases h2 with ⟨m, h2⟩ | ⟨m, h2⟩
    · obtain ⟨v, d, _, q, _⟩ := hs i _ _ h1 h2
      cases q
    · obtain ⟨v, d, _, q, _⟩ := hs i _ _ h1 h2
      cases q
  have gc : Good K G1 H1 (vs.map some) rs := ⟨g.ex, by simp [hl], fun i s r e1 e2 => by
    obtain ⟨v, d, rfl, rfl, h⟩ := hs i s r e1 e2
    exact ⟨v, rfl, h⟩, fun i j p o _ => absurd ⟨i, o⟩ (noOwn p)⟩
  refine ⟨G1, rs, z, ρc', hl.trans hn, fun i m q => ?_, gc, e, fun v G2 H2 A2 R2 => ?_⟩
  · have hi : i < (vs.map some).length := by
      rw [List.length_map, hl]
      exact (List.getElem?_eq_some_iff.mp q).1
    obtain ⟨v, d, _, q', _⟩ := hs i _ _ (List.getElem?_eq_getElem hi) q
    cases q'
  · have kk : ∀ a o, H1 a = some o → H2 a = some o ∧ (G1 a = none → NT o → G2 a = none) := fun a o q => A2.keep a o q (noOwn a)
    have g2 : Good K G2 H2 σ ρ1 := g.frame A2.ex A2.good.ex fun a o q _ => kk a o q
    refine k v G2 H2 ⟨g2, A2.ex, fun a o q _ => kk a o q, A2.dom, fun i p o => .inl ⟨i, o⟩, fun i m q => ⟨rfl, m, q⟩, rfl⟩ ?_
    cases z with
    | un => exact R2
    | rf m => exact R2
    | fz d => exact R2
    | ow m =>
      obtain ⟨p, o, rfl, h0, h1, h2, h3, h4⟩ := R2
      exact ⟨p, o, rfl, h0, h1, h2, h3, g.notOwn h0⟩
    | bw i => cases hzr
theorem call_rf {F : FF} {n i : Nat} {z : Sl} {v0 : V} {rest : List Sl} {r0 : Sl} {m m' : Mu} {more : En} {Q : VK} {E : XK} (g : Good K G1 H1 σ ρ1) (R : RsOk K H0 G1 H1 σ ρ1 vs rest) (hz : allFz rest = true) (hv : σ[i]? = some (some v0)) (hr : ρ1[i]? = some r0) (hh : Held r0 m)
    (e : F (.rf m :: rest) = some (z, .rf m' :: more)) (hzr : isRes z = true) (hn : rest.length + 1 = n)
    (k : ∀ v G2 H2, Aft K G1 H1 σ ρ1 G2 H2 σ (ρ1.set i (r0.put m')) → ROk K H1 G2 H2 σ (ρ1.set i (r0.put m')) v z → Q v H2) : spD K n F (v0 :: vs) H1 Q E := by
  obtain ⟨hl, hs⟩ := fz_slots R hz
  have sl0 : ∃ p o, v0 = .ref p ∧ G1 p = none ∧ H1 p = some o ∧ MuOk K G1 p o m := by
    have q := g.sl i _ _ hv hr
    cases hh with
    | ow m =>
      obtain ⟨p, o, h1, h2⟩ := q
      exact ⟨p, o, by cases h1; rfl, h2⟩
    | rf m =>
      obtain ⟨p, o, h1, h2⟩ := q
      exact ⟨p, o, by cases h1; rfl, h2⟩
  obtain ⟨p, o, rfl, hp1, hp2, hp3⟩ := sl0
  have oi : Own σ ρ1 i p := ⟨hv, by cases hh with | ow m => exact .inl ⟨m, hr⟩ | rf m => exact .inr ⟨m, hr⟩⟩
  have onlyP : ∀ j q, Own ((V.ref p :: vs).map some) (.rf m :: rest) j q → j = 0 ∧ q = p := fun j q ⟨h1, h2⟩ => by
    cases j with
    | zero => exact ⟨rfl, by simpa using h1.symm⟩
    | succ j =>
      exfalso
      rcases h2 with ⟨m1, h2⟩ | ⟨m1, h2⟩
      · obtain ⟨v, d, _, q, _⟩ := hs j _ _ (show (vs.map some)[j]? = _ from h1) (show rest[j]? = _ from h2)
        cases q
      · obtain ⟨v, d, _, q, _⟩ := hs j _ _ (show (vs.map some)[j]? = _ from h1) (show rest[j]? = _ from h2)
        cases q
  have gc : Good K G1 H1 ((V.ref p :: vs).map some) (.rf m :: rest) := ⟨g.ex, by simp [hl], fun j s r e1 e2 => by
    cases j with
    | zero =>
      simp at e1 e2
      subst e1
      subst e2
      exact ⟨p, o, rfl, hp1, hp2, hp3⟩
    | succ j =>
      obtain ⟨v, d, rfl, rfl, h⟩ := hs j s r (by simpa using e1) (by simpa using e2)
      exact ⟨v, rfl, h⟩, fun j1 j2 q o1 o2 => (onlyP j1 q o1).1.trans (onlyP j2 q o2).1.symm⟩
  refine ⟨G1, _, z, _, by simp only [List.length_cons]; omega, fun j m1 q => ?_, gc, e, fun v G2 H2 A2 R2 => ?_⟩
  · cases j with
    | zero => simp at q
    | succ j =>
      have hi : j < (vs.map some).length := by
        rw [List.length_map, hl]
        exact (List.getElem?_eq_some_iff.mp (show rest[j]? = some _ by simpa using q)).1
      obtain ⟨v, d, _, q', _⟩ := hs j _ _ (List.getElem?_eq_getElem hi) (by simpa using q)
      cases q'
  · have kk : ∀ a o, H1 a = some o → a ≠ p → H2 a = some o ∧ (G1 a = none → NT o → G2 a = none) := fun a o q ne => A2.keep a o q fun ⟨j, oj⟩ => ne (onlyP j a oj).2
    obtain ⟨p', o', h1, h2, h3, h4⟩ := A2.good.sl 0 _ _ rfl rfl
    have ep : p = p' := by simpa using h1
    subst ep
    have hi : i < ρ1.length := (List.getElem?_eq_some_iff.mp hr).1
    have ownOld : ∀ j q, Own σ (ρ1.set i (r0.put m')) j q → Own σ ρ1 j q := fun j q ⟨z1, z2⟩ => by
      by_cases ne : j = i
      · subst ne
        rw [hv] at z1
        cases z1
        exact oi
      · rw [List.getElem?_set_ne (Ne.symm ne)] at z2
        exact ⟨z1, z2⟩
    have g2 : Good K G2 H2 σ (ρ1.set i (r0.put m')) := by
      refine ⟨A2.good.ex, by simpa using g.len, fun j s r e1 e2 => ?_, fun j1 j2 q o1 o2 => g.nd j1 j2 q (ownOld _ _ o1) (ownOld _ _ o2)⟩
      rcases getElem?_set_cases e2 with ⟨y1, y2⟩ | ⟨y1, y2⟩
      · subst y1
        subst y2
        rw [hv] at e1
        cases e1
        cases hh with
        | ow m => exact ⟨p, o', rfl, h2, h3, h4⟩
        | rf m => exact ⟨p, o', rfl, h2, h3, h4⟩
      · have q := g.sl j s r e1 y2
        cases r with
        | un => trivial
        | bw _ => exact q
        | fz d =>
          obtain ⟨v, w1, w2⟩ := q
          exact ⟨v, w1, w2.up A2.ex⟩
        | ow m1 =>
          obtain ⟨q, u, w1, w2, w3, w4⟩ := q
          have ne : q ≠ p := fun z => y1 (g.nd j i p ⟨by rw [e1, w1, z], .inl ⟨m1, y2⟩⟩ oi)
          obtain ⟨k1, k2⟩ := kk q u w3 ne
          exact ⟨q, u, w1, k2 w2 w4.nt, k1, w4.up A2.ex⟩
        | rf m1 =>
          obtain ⟨q, u, w1, w2, w3, w4⟩ := q
          have ne : q ≠ p := fun z => y1 (g.nd j i p ⟨by rw [e1, w1, z], .inr ⟨m1, y2⟩⟩ oi)
          obtain ⟨k1, k2⟩ := kk q u w3 ne
          exact ⟨q, u, w1, k2 w2 w4.nt, k1, w4.up A2.ex⟩
    refine k v G2 H2 ⟨g2, A2.ex, fun a u q n => kk a u q fun z => n ⟨i, z ▸ oi⟩, A2.dom, fun j q oj => .inl ⟨j, ownOld j q oj⟩, fun j m1 q => ⟨rfl, ?_⟩, by simp⟩ ?_
    · by_cases ne : i = j
      · subst ne
        rw [hr] at q
        cases q
        exact ⟨m', by rw [List.getElem?_set_self hi]; cases hh; rfl⟩
      · exact ⟨m1, by rw [List.getElem?_set_ne ne]; exact q⟩
    · cases z with
      | un => exact R2
      | rf m => exact R2
      | fz d => exact R2
      | ow m1 =>
        obtain ⟨q, u, rfl, h0, w1, w2, w3, w4⟩ := R2
        exact ⟨q, u, rfl, h0, w1, w2, w3, fun ⟨j, oj⟩ => g.notOwn h0 ⟨j, ownOld j q oj⟩⟩
      | bw i => cases hzr
end
section
variable {X : Cx} {k : Nat} {f : Addr} {fd : FuncData} {ps : List Str} {F : FF} {x : Str} {p pos : Pos} {e : Expr} {es : List Expr} {fa : Fa}
theorem tCall_of {K : PySem.W.Frag} {n : Nat} {E : XK} (hl : ∀ ρ rs ρ', fa ρ = some (rs, ρ') → rs.length = n) : ∀ σ H Q, teOf K (fCall F fa) σ H Q → tCall (spD K n F) [] E (taOf K fa) σ H Q := fun σ H Q ⟨G, ρ, z, ρ', g, q, kk⟩ => by
  unfold fCall at q
  cases q1 : fa ρ with
  | none => rw [q1] at q; cases q
  | some y =>
    obtain ⟨rs, ρ1⟩ := y
    simp only [q1] at q
    have hn := hl ρ rs ρ1 q1
    refine ⟨G, ρ, rs, ρ1, g, q1, fun vs G1 H1 A1 R1 => ?_⟩
    show spD K n F (vs ++ []) H1 Q E
    rw [List.append_nil]
    split at q
    · rename_i i rest
      split at q
      · rename_i hz
        cases R1 with
        | cons r1 r2 =>
          have hv : σ[i]? = some (some _) := r1
          split at q
          · rename_i m hr
            split at q
            · rename_i z' m' more hF
              split at q
              · rename_i hres
                cases q
                refine call_rf A1.good r2 hz hv hr (.ow m) hF hres (by simpa using hn) fun v G2 H2 A2 R2 => kk v G2 H2 (A1.trans A2) (R2.start A1.dom)
              · cases q
            · cases q
          · rename_i m hr
            split at q
            · rename_i z' m' more hF
              split at q
              · rename_i hres
                cases q
                refine call_rf A1.good r2 hz hv hr (.rf m) hF hres (by simpa using hn) fun v G2 H2 A2 R2 => kk v G2 H2 (A1.trans A2) (R2.start A1.dom)
              · cases q
            · cases q
          · cases q
      · cases q
    · split at q
      · rename_i hz
        split at q
        · rename_i z' ρ2 hF
          split at q
          · rename_i hres
            cases q
            exact call_fz A1.good R1 hz hF hres hn fun v G2 H2 A2 R2 => kk v G2 H2 (A1.trans A2) (R2.start A1.dom)
          · cases q
        · cases q
      · cases q
inductive Cnt : Fa → Nat → Prop
  | nil : Cnt aNil 0
  | cons {f : Fe} {g : Fa} {n : Nat} : Cnt g n → Cnt (aCons f g) (n + 1)
  | fr {f : Fe} {g : Fa} {n : Nat} : Cnt g n → Cnt (aFr f g) (n + 1)
theorem Cnt.len {g : Fa} {n : Nat} (c : Cnt g n) : ∀ ρ rs ρ', g ρ = some (rs, ρ') → rs.length = n := by
  induction c with
  | nil =>
    intro ρ rs ρ' e
    cases e
    rfl
  | @cons f g n _ ih =>
    intro ρ rs ρ' e
    unfold aCons at e
    cases q : f ρ with
    | none => rw [q] at e; cases e
    | some y =>
      obtain ⟨r, ρ1⟩ := y
      simp only [q] at e
      cases q2 : g ρ1 with
      | none => simp only [q2] at e; cases e
      | some y =>
        obtain ⟨rs', ρ2⟩ := y
        simp only [q2] at e
        cases e
        simp [ih _ _ _ q2]
  | @fr f g n _ ih =>
    intro ρ rs ρ' e
    unfold aFr at e
    cases q : dFr f ρ with
    | none => rw [q] at e; cases e
    | some y =>
      obtain ⟨r, ρ1⟩ := y
      simp only [q] at e
      cases q2 : g ρ1 with
      | none => simp only [q2] at e; cases e
      | some y =>
        obtain ⟨rs', ρ2⟩ := y
        simp only [q2] at e
        cases e
        simp [ih _ _ _ q2]
end
def spLaw (K : PySem.W.Frag) : Sp := fun vs H Q _ => ∃ (a : Addr) (ns : List Int), vs = [.ref a] ∧ SqL K H a (ns.map V.int) ∧ ns.length ≤ 63 ∧ ∀ H', Q (.bl true) H'
theorem spLaw_of {K : PySem.W.Frag} {F : FF} {vs : List V} {H : Hp} {Q : VK} {E : XK} (h : ∀ ns : List Int, ns.length ≤ 63 → ∃ ρ', F [.fz (.scr ns)] = some (.fz (.bl true), ρ')) (z : spLaw K vs H Q E) : spD K 1 F vs H Q E := by
    obtain ⟨a, ns, e, hS, hl, q⟩ := z
    subst e
    obtain ⟨ρ', h⟩ := h ns hl
    refine ⟨H, [.fz (.scr ns)], .fz (.bl true), ρ', rfl, fun i m z => ?_, ⟨Same.refl H, rfl, fun i s r e1 e2 => ?_, fun i j p o _ => ?_⟩, h, fun v G' H' _ R => ?_⟩
    · cases i with
      | zero => simp at z
      | succ i => simp at z
    · cases i with
      | zero =>
        simp at e1 e2
        subst e1
        subst e2
        exact ⟨_, rfl, .scr hS⟩
      | succ i => simp at e2
    · exfalso
      obtain ⟨_, h2⟩ := o
      cases i with
      | zero => rcases h2 with ⟨m, h2⟩ | ⟨m, h2⟩ <;> simp at h2
      | succ i => rcases h2 with ⟨m, h2⟩ | ⟨m, h2⟩ <;> simp at h2
    · rw [Rp.of_bl R]
      exact q H'
end DL
namespace DL
open PySem PySem.Spec L2
open PyProof.Rows (envOfC boot_enumerate)
section
variable {X : Cx}
theorem op_mul_str : OpR X (binaryOp .Mult) (fun x y H Q => ∃ z n, x = .str z ∧ y = .int n ∧ MulOk z n ∧ Q (.str (Txt.mul z n)) H) := by
  intro pins s σ H x y v u Q I rx ry h
  obtain ⟨z, n, rfl, rfl, hm, q⟩ := h
  obtain ⟨t, rfl⟩ := rx
  obtain ⟨t', rfl⟩ := ry
  exact SB.mul hm fun t1 k => ⟨.str _, H, I.tok _, ⟨_, rfl⟩, q⟩
def CPowW (i j : Int) : Prop := 0 ≤ j ∧ (Builtin.Int.intBits i : Int) * j ≤ 2 ^ 27
theorem op_powW : OpR X (binaryOp .Pow) (rI CPowW fun i j => .int (i ^ j.toNat)) := opI fun _ _ _ _ _ _ _ hc q => PyProof.Rows.pow_int hc.1 hc.2 q
end
section
open AutoSeq1 (wpAny_loadPart')
theorem meets_enumerate_newT (l : Addr) (items : Array Value) (n : Nat) (dct : Option Addr) (sl : Array (Option Value)) :
    Meets (Builtin.«enumerate.__new__» ⟨[.type "enumerate", .ref l], []⟩) (fun _ R s => s.heap.get? l = some { cls := .type "tuple", dict := dct, data := .seq items n, slots := sl } ∧
      R (.ok (.ret (.ref (s.heap.push { cls := .type "tuple_iterator", data := .fields #[.ref l, .int 0 0] }).objs.size)))
        { s with heap := (s.heap.push { cls := .type "tuple_iterator", data := .fields #[.ref l, .int 0 0] }).push { cls := .type "enumerate", data := .fields #[.none, .bool false, .ref s.heap.objs.size, rawInt 0, .none, .none] } }) :=
  .of_wp fun prog w A R s h => by
    obtain ⟨hp, g, d, tk, os⟩ := s; obtain ⟨hl, h⟩ := h
    have hsub := sub_enumerate
    have hL : Heap.IsTuple (Shared.heap ⟨hp, g, d, tk, os⟩) l items := ⟨_, hl, rfl, n, rfl⟩
    wp_walk using wpAny_loadPart' hl
    refine wpAny_stack_any fun st => wpAny_pure ?_
    split
    · rename_i c _ _ _ _ _
      cases (c == Value.type "enumerate")
      · wp_walk using wpAny_loadPart' hl, wpAny_pyIter_tuple hL
        exact ⟨_, rfl, h⟩
      · wp_walk using wpAny_loadPart' hl, wpAny_pyIter_tuple hL
        exact ⟨_, rfl, h⟩
    · wp_walk using wpAny_loadPart' hl, wpAny_pyIter_tuple hL
      exact ⟨_, rfl, h⟩
theorem call_enumerate_tuple {prog : Program} {w : World} {A : Around} {E : Value → Shared → Prop} {s : Shared} {l : Addr} {items : Array Value} {Q : Value → Shared → Prop} (hL : s.heap.IsTuple l items)
    (h : ∀ h', IsEnum h' (s.heap.objs.size + 1) s.heap.objs.size 0 .none → h'.IsTupleIter s.heap.objs.size l 0 → h'.objs.size = s.heap.objs.size + 2 →
      (∀ b o, s.heap.get? b = some o → h'.get? b = some o) → Q (.ref (s.heap.objs.size + 1)) { s with heap := h' }) :
    wpAny (model prog w) A (call (.type "enumerate") [.ref l]) Q E s := by
  obtain ⟨⟨c, dct, dt, sl⟩, hl, hc, n, hd⟩ := hL
  replace hc : c = .type "tuple" := hc
  replace hd : dt = .seq items n := hd
  subst hc hd
  refine callType_new F.called_enumerate (by decide) (F.typeCall_enumerate_1 _) (F.newCall_enumerate_1 _) (fun obj => F.args_object_init_2 obj _) F.entry_enumerate_new
    (meets_enumerate_newT l items n dct sl) ⟨hl, ?_⟩
  have hz : (s.heap.push { cls := .type "tuple_iterator", data := .fields #[.ref l, .int 0 0] }).objs.size = s.heap.objs.size + 1 := Heap.size_push ..
  show _ ∧ _
  rw [hz]
  have he : IsEnum ((s.heap.push { cls := .type "tuple_iterator", data := .fields #[.ref l, .int 0 0] }).push
      { cls := .type "enumerate", data := .fields #[.none, .bool false, .ref s.heap.objs.size, rawInt 0, .none, .none] }) (s.heap.objs.size + 1) s.heap.objs.size 0 .none := by
    have := Heap.get?_push_size (s.heap.push { cls := .type "tuple_iterator", data := .fields #[.ref l, .int 0 0] })
      (o := { cls := .type "enumerate", data := .fields #[.none, .bool false, .ref s.heap.objs.size, rawInt 0, .none, .none] }) rfl
    rw [hz] at this; exact this
  refine ⟨⟨_, he, rfl⟩, h _ he ⟨_, Heap.get?_push_of_some _ (Heap.get?_push_size _ rfl), rfl, rfl⟩ (by rw [Heap.size_push, hz]) fun b o x => Heap.get?_push_of_some _ (Heap.get?_push_of_some _ x)⟩
end
def IteT (K : PySem.W.Frag) (a : Addr) : It :=
  ⟨fun i H => ∃ (xs : List V) (x : V), SqT K H a xs ∧ xs[i]? = some x, fun i H v H' => ∃ T x, v = .ref T ∧ H T = none ∧ H' = upd H T (.tup [.int (i : Nat), x]) ∧ ∀ xs, SqT K H a xs → xs[i]? = some x, fun i H => ∃ xs : List V, SqT K H a xs ∧ xs.length = i⟩
theorem turn_enumT {P : Program} {w : World} {K : PySem.W.Frag} {elts : List Expr} {kk : Nat} {tpos : Pos} (a e it : Addr) :
    Turn P w K (.Tuple elts kk tpos) (IteT K a) [e, it] e (fun i h => (∃ old, IsEnum h e it ((i : Nat) : Int) old) ∧ h.IsTupleIter it a i ∧ e ≠ it ∧ a ≠ it ∧ a ≠ e) where
  mem := by simp
  obj := fun i h st b hb => by
    obtain ⟨⟨old, he⟩, ⟨o, ho, hc, hd⟩, _⟩ := st
    have e' : b = e ∨ b = it := by simpa using hb
    rcases e' with z | z
    · rw [z]; exact ⟨_, he, fun v q => nomatch q⟩
    · rw [z]; exact ⟨o, ho, fun v q => by rw [hd] at q; cases q⟩
  keep := fun i h h' st k => let ⟨⟨old, he⟩, hi, hne⟩ := st; ⟨⟨old, k e (by simp) _ he⟩, hi.at fun o q => k it (by simp) o q, hne⟩
  item := by
    intro X hP hw hK hc i pins s σ H E I hf st hg
    subst hP hw hK
    obtain ⟨⟨old, he⟩, hit, hne, hai, hae⟩ := st
    obtain ⟨xs, x, hq, hx⟩ := hg
    obtain ⟨its, rv, p, hz⟩ := I.tuple hq
    obtain ⟨u, hu, ru⟩ := rv.get hx
    have hel : e < s.heap.objs.size := Heap.lt_size he
    have hil : it < s.heap.objs.size := by obtain ⟨_, q, _⟩ := hit; exact Heap.lt_size q
    have hlt : i < its.toArray.size := by
      have := (List.getElem?_eq_some_iff.mp hu).1
      simpa using this
    refine wpAny_pyNext_enum_itemD (Draws.tuple (A := X.A.in1) (I.ok.hd hc) it a hai its.toArray) he ⟨hit, p⟩ hlt hne (by simp [hne, Ne.symm hae]) fun x' h' tk hx' ho hst' hT hsz hk => ?_
    have hit' := hst'.1
    have ex : x' = u := by
      have h1 : its[i]? = some x' := by simpa using hx'
      rw [hu] at h1
      exact (Option.some.inj h1).symm
    subst ex
    refine ⟨_, rfl, wpAny_letOwnedTupleGo_enum (s := { s with heap := h', toks := tk + 1 }) ho fun h'' he' sb => ?_⟩
    have hT2 : h''.get? s.heap.objs.size = some { cls := .type "tuple", data := .seq #[.int i tk, x'] } := (sb.2 _ (Nat.ne_of_gt hel)).trans hT
    have new : ObjOk X.prog X.w (upd H s.heap.objs.size (.tup [.int (i : Nat), x])) h'' s.heap.objs.size (.tup [.int (i : Nat), x]) :=
      ⟨by show 2 ≤ sizeLine; decide, [.int i tk, x'], .cons ⟨_, rfl⟩ (.cons ru .nil), ⟨_, hT2, rfl, _, rfl⟩⟩
    have I1 : Inv X pins σ (upd H s.heap.objs.size (.tup [.int (i : Nat), x])) { s with heap := h'', toks := tk + 1 } :=
      I.turnedNew (ch := [e, it]) (fun b ob hb q => (sb.2 b (fun z => hb (by simp [z]))).trans (hk b ob (fun z => hb (by simp [z])) (fun z => hb (by simp [z])) q)) hf (Nat.le_refl _) new
    refine ⟨.ref s.heap.objs.size, _, I1, rfl, ⟨_, x, rfl, I.hok.fresh (Nat.le_refl _), rfl, fun ys hy => by rw [I.tuple_inj hy hq]; exact hx⟩, ⟨⟨x', ?_⟩, hit'.at fun o q => (sb.2 it (Ne.symm hne)).trans q, hne, hai, hae⟩, fun b hb => ?_⟩
    · have e1 : ((i + 1 : Nat) : Int) = (i : Int) + 1 := by omega
      rw [e1]; exact he'
    · have hb' : b < s.heap.objs.size := by
        have e' : b = e ∨ b = it := by simpa using hb
        rcases e' with z | z
        · rw [z]; exact hel
        · rw [z]; exact hil
      rw [upd_ne (Nat.ne_of_lt hb')]
      exact (hf b hb).1
  done := by
    intro X hP hw hK hc i pins s σ H E I hf st hg
    subst hP hw hK
    obtain ⟨⟨old, he⟩, hit, hne, hai, hae⟩ := st
    obtain ⟨xs, hq, hx⟩ := hg
    obtain ⟨its, rv, p, hz⟩ := I.tuple hq
    obtain ⟨f0, f1, f2, f3, f4, f5⟩ := hf it (by simp)
    have hl := rv.length
    have hn : i = its.toArray.size := by simp; omega
    subst hn
    exact wpAny_pyNext_enum_endD (Draws.tuple (A := X.A.in1) (I.ok.hd hc) it a hai its.toArray) he ⟨hit, p⟩ fun h' eb => ⟨rfl, I.turned (t' := s.toks) (fun b o hb q => eb b o hb q) f0 f1 f3 f4 f5⟩
  self := fun A i s Q E st h => let ⟨⟨_, he⟩, _⟩ := st; wpAny_pyIter_enum he h
def iEnumT (K : PySem.W.Frag) (ta : TA) : TI := fun σ H R => ta σ H fun vs H1 => ∃ a xs, vs = [.ref a] ∧ ((SqL K H1 a xs ∧ R (Ite K a) H1) ∨ (SqT K H1 a xs ∧ R (IteT K a) H1))
theorem pi_enumA {X : Cx} {e : Expr} {ta : TA} {p pos tpos : Pos} {elts : List Expr} {kk : Nat} (hg : Gl X "enumerate") (hm : X.mg "enumerate" = none) (ha : PA X [e] ta) (hs : starEach [e] X.env = [(false, eval e X.env)] := by rfl) :
    PI X (.Tuple elts kk tpos) (.Call (.Name "enumerate" p) [e] [] pos) (iEnumT X.K ta) := by
  refine ⟨fun pins s σ H R I h => ?_⟩
  refine PyProof.Rows.Call_ (ld_blt I hg hm boot_enumerate (PyProof.Rows.callWith_type1 (thn (ha.run pos pins s σ H _ I h) fun us s1 ⟨vs, H1, I1, r1, q1⟩ => ?_) hs rfl))
  obtain ⟨a, xs, ex, q⟩ := q1
  subst ex
  cases r1 with
  | cons r rr =>
    cases rr
    cases r
    have fresh : ∀ b, b ∈ [s1.heap.objs.size + 1, s1.heap.objs.size] → FpOk X pins H1 b := fun b hb => by
      have e' : b = s1.heap.objs.size + 1 ∨ b = s1.heap.objs.size := by simpa using hb
      have hle : s1.heap.objs.size ≤ b := by
        rcases e' with z | z
        · rw [z]; exact Nat.le_add_right _ _
        · rw [z]; exact Nat.le_refl _
      exact I1.fpOk hle (I1.hok.fresh hle)
    rcases q with ⟨hq, q⟩ | ⟨hq, q⟩
    · obtain ⟨its, rv, p', hz⟩ := I1.list hq
      refine call_enumerate_list p'.isList fun h' he hit hsz hk => wpAny_pyIter_enum he ?_
      have I2 : Inv X pins σ H1 { s1 with heap := h' } := I1.kept (t' := s1.toks) hk
      exact ⟨s1.heap.objs.size + 1, [s1.heap.objs.size + 1, s1.heap.objs.size], _, _, H1, rfl, I2, turn_enum a (s1.heap.objs.size + 1) s1.heap.objs.size, ⟨⟨.none, he⟩, hit, Nat.succ_ne_self _⟩, fresh, q⟩
    · obtain ⟨its, rv, p', hz⟩ := I1.tuple hq
      obtain ⟨ob, hob, _⟩ := id p'
      have la : a < s1.heap.objs.size := Heap.lt_size hob
      refine call_enumerate_tuple (show s1.heap.IsTuple a its.toArray from p') fun h' he hit hsz hk => wpAny_pyIter_enum he ?_
      have I2 : Inv X pins σ H1 { s1 with heap := h' } := I1.kept (t' := s1.toks) hk
      exact ⟨s1.heap.objs.size + 1, [s1.heap.objs.size + 1, s1.heap.objs.size], _, _, H1, rfl, I2, turn_enumT a (s1.heap.objs.size + 1) s1.heap.objs.size, ⟨⟨.none, he⟩, hit, Nat.succ_ne_self _, Nat.ne_of_lt la, Nat.ne_of_lt (Nat.lt_succ_of_lt la)⟩, fresh, q⟩
theorem walk_enumT {K : PySem.W.Frag} {a : Addr} {xs : List V} : Walk (IteT K a) xs.length (fun H => SqT K H a xs) (YPair (fun i => some (.int (i : Nat))) (fun i => xs[i]?)) := by
  refine ⟨fun i _ hi q => ⟨xs, xs[i], q, by simp [hi]⟩, fun _ q => ⟨xs, q, rfl⟩, fun i H v H' _ q y => ?_⟩
  obtain ⟨T, x, h1, h2, h3, h4⟩ := y
  exact ⟨T, .int (i : Nat), x, h1, h2, h3, rfl, h4 xs q⟩
mutual
def D.py : D → PyData
  | .non => .none
  | .bl b => .bool b
  | .int i => .int i
  | .str s => .str s
  | .tup xs => .tuple (D.pys xs)
  | .lst xs => .list (D.pys xs)
  | .ins _ _ _ => .none
  | .exn _ _ _ => .none
  | .dk _ _ => .none
  | .dt _ _ => .none
  | .scr ns => .list (ns.map .int)
  | .row ns => .tuple (ns.map .int)
  | .ptr _ => .none
def D.pys : List D → List PyData
  | [] => []
  | d :: ds => d.py :: D.pys ds
end
mutual
def D.plain : D → Bool
  | .ins _ _ _ => false
  | .exn _ _ _ => false
  | .ptr _ => false
  | .dk _ _ => false
  | .dt _ _ => false
  | .scr _ => false
  | .tup xs => D.plains xs
  | .lst xs => D.plains xs
  | _ => true
def D.plains : List D → Bool
  | [] => true
  | d :: ds => d.plain && D.plains ds
end
theorem dp_ints {K : PySem.W.Frag} {H : Hp} : ∀ ns : List Int, DpAll K H (ns.map V.int) (ns.map PyData.int)
  | [] => .nil
  | n :: ns => .cons (.int n) (dp_ints ns)
section
variable {K : PySem.W.Frag} {H : Hp}
mutual
theorem Rp.dp : ∀ (d : D) (v : V), d.plain = true → Rp K H v d → Dp K H v d.py
  | .non, _, _, h => by cases h; rw [D.py]; exact .non
  | .bl b, _, _, h => by cases h; rw [D.py]; exact .bl b
  | .int b, _, _, h => by cases h; rw [D.py]; exact .int b
  | .str b, _, _, h => by cases h; rw [D.py]; exact .str b
  | .tup ds, _, p, h => by
    cases h with
    | tup h1 h2 =>
      rw [D.py]
      exact .tup (SqT.of h1) (Rps.dp ds _ (by rw [D.plain] at p; exact p) h2)
  | .lst ds, _, p, h => by
    cases h with
    | lst h1 h2 =>
      rw [D.py]
      exact .lst (SqL.of h1) (Rps.dp ds _ (by rw [D.plain] at p; exact p) h2)
  | .ins _ _ _, _, p, _ => by rw [D.plain] at p; cases p
  | .exn _ _ _, _, p, _ => by rw [D.plain] at p; cases p
  | .dk _ _, _, p, _ => by rw [D.plain] at p; cases p
  | .dt _ _, _, p, _ => by rw [D.plain] at p; cases p
  | .scr _, _, p, _ => by rw [D.plain] at p; cases p
  | .row ns, _, _, h => by
    cases h with
    | row h1 _ _ =>
      rw [D.py]
      exact .tup (.inl (.inr ⟨_, h1⟩)) (dp_ints ns)
  | .ptr _, _, p, _ => by rw [D.plain] at p; cases p
theorem Rps.dp : ∀ (ds : List D) (vs : List V), D.plains ds = true → Rps K H vs ds → DpAll K H vs (D.pys ds)
  | [], _, _, h => by cases h; rw [D.pys]; exact .nil
  | d :: ds, _, p, h => by
    cases h with
    | cons h1 h2 =>
      rw [D.plains, Bool.and_eq_true] at p
      rw [D.pys]
      exact .cons (Rp.dp d _ p.1 h1) (Rps.dp ds _ p.2 h2)
end
end
def D.ok (d : D) : Bool := d.plain && SeqAt.shaped d.py
def D.eqv (d e : D) : Bool := PyData.eqv d.py e.py
def lim : Nat := 1000000
theorem lim_le {n : Nat} (h : n ≤ lim) : n ≤ sizeLine := Nat.le_trans h (by decide)
theorem lim_lt {n : Nat} (h : n ≤ lim) : n < sizeLine := Nat.lt_of_le_of_lt h (by decide)
def rOr (r r' : R2) : R2 := fun x y H Q => r x y H Q ∨ r' x y H Q
section
variable {K : PySem.W.Frag} {G H : Hp} {σ : L2.St} {ρ : En} {Q : VK}
theorem give {v : V} {d : D} (g : Good K G H σ ρ) (r : Rp K G v d) (k : ∀ v G' H', Aft K G H σ ρ G' H' σ ρ → ROk K H G' H' σ ρ v (.fz d) → Q v H') : Q v H := k v G H (Aft.refl g) r
theorem giveL {vs : List V} {ds : List D} (g : Good K G H σ ρ) (r : Rps K G vs ds) (k : ∀ v G' H', Aft K G H σ ρ G' H' σ ρ → ROk K H G' H' σ ρ v (.ow (.l ds)) → Q v H') : ∀ p, H p = none → Q (.ref p) (upd H p (.lst vs)) := fun p hp => by
  have gp : G p = none := g.ex.free hp
  exact k (.ref p) G _ ((Aft.refl g).mut hp gp (g.notOwn hp)) ⟨p, _, rfl, hp, gp, upd_same, .l r, g.notOwn hp⟩
theorem giveT {vs : List V} {ds : List D} (g : Good K G H σ ρ) (r : Rps K G vs ds) (k : ∀ v G' H', Aft K G H σ ρ G' H' σ ρ → ROk K H G' H' σ ρ v (.fz (.tup ds)) → Q v H') : ∀ p, H p = none → Q (.ref p) (upd H p (.tup vs)) := fun p hp => by
  have gp : G p = none := g.ex.free hp
  exact k (.ref p) _ _ (Aft.laid g hp) (.tup upd_same (r.up (ex_new gp)))
end
def gAdd : D → D → Option Sl
  | .int i, .int j => some (.fz (.int (i + j)))
  | .str a, .str b => if a.length + b.length ≤ lim then some (.fz (.str (a ++ b))) else none
  | .lst xs, .lst ys => if xs.length + ys.length ≤ lim then some (.ow (.l (xs ++ ys))) else none
  | .tup xs, .tup ys => if xs.length + ys.length ≤ lim then some (.fz (.tup (xs ++ ys))) else none
  | _, _ => none
def rAddU (K : PySem.W.Frag) : R2 := rOr (rI0 fun i j => .int (i + j)) (rOr (fun x y H Q => ∃ i j, x = .str i ∧ y = .str j ∧ i.length + j.length ≤ sizeLine ∧ Q (.str (i ++ j)) H) (rOr rCat (rCatA K)))
theorem op_addU {X : Cx} : OpR X (binaryOp .Add) (rAddU X.K) := OpR.or op_add (OpR.or op_add_str (OpR.or op_cat op_catA))
theorem g_add {K : PySem.W.Frag} : Op2 K (rAddU K) gAdd := fun {G H σ ρ x y d e z Q} g hx hy he k => by
  unfold gAdd at he
  split at he
  · cases he
    exact .inl ⟨_, _, hx.int, hy.int, give g (.int _) k⟩
  · split at he
    · rename_i hl
      cases he
      exact .inr (.inl ⟨_, _, hx.str, hy.str, lim_le hl, give g (.str _) k⟩)
    · cases he
  · split at he
    · rename_i hl
      cases he
      obtain ⟨p, vs, rfl, h1, h2⟩ := hx.lst g.ex
      obtain ⟨q, ws, rfl, h3, h4⟩ := hy.lst g.ex
      exact .inr (.inr (.inl ⟨p, q, vs, ws, rfl, rfl, h1, h3, by rw [h2.len, h4.len]; exact lim_le hl, giveL g (h2.app h4) k⟩))
    · cases he
  · split at he
    · rename_i hl
      cases he
      obtain ⟨p, vs, rfl, h0, h1, h2⟩ := hx.tup g.ex
      obtain ⟨q, ws, rfl, h0', h3, h4⟩ := hy.tup g.ex
      refine .inr (.inr (.inr ⟨p, q, vs, ws, rfl, rfl, SqT.of h1, SqT.of h3, by rw [h2.len, h4.len]; exact lim_le hl, fun ev => ?_, fun _ ev => ?_, fun _ _ => giveT g (h2.app h4) k⟩))
      · subst ev
        cases h2
        exact k _ G H (Aft.refl g) (show Rp K G (.ref q) (.tup ([] ++ _)) from .tup h0' h4)
      · subst ev
        cases h4
        exact k _ G H (Aft.refl g) (show Rp K G (.ref p) (.tup (_ ++ [])) from by rw [List.append_nil]; exact .tup h0 h2)
    · cases he
  · cases he
def gSub : D → D → Option Sl
  | .int i, .int j => some (.fz (.int (i - j)))
  | _, _ => none
theorem g_sub {K : PySem.W.Frag} : Op2 K (rI0 fun i j => .int (i - j)) gSub := fun {G H σ ρ x y d e z Q} g hx hy he k => by
  unfold gSub at he
  split at he
  · cases he
    exact ⟨_, _, hx.int, hy.int, give g (.int _) k⟩
  · cases he
def gMul : D → D → Option Sl
  | .int i, .int j => if i.natAbs.log2 + j.natAbs.log2 < 1000000 then some (.fz (.int (i * j))) else none
  | .str a, .int j => if 0 ≤ j ∧ j ≤ 1000 ∧ a.length ≤ 1000 then some (.fz (.str (Txt.mul a j))) else none
  | .lst xs, .int j => if 0 ≤ j ∧ j ≤ 1000 ∧ xs.length ≤ 1000 then some (.ow (.l (List.replicate j.toNat xs).flatten)) else none
  | .tup xs, .int j => if xs ≠ [] ∧ 2 ≤ j ∧ j ≤ 1000 ∧ xs.length ≤ 1000 then some (.fz (.tup (List.replicate j.toNat xs).flatten)) else none
  | _, _ => none
def rMulU (K : PySem.W.Frag) : R2 := rOr (rI CMulW fun i j => .int (i * j)) (rOr (fun x y H Q => ∃ z n, x = .str z ∧ y = .int n ∧ MulOk z n ∧ Q (.str (Txt.mul z n)) H) (rOr rRep (rRepT K)))
theorem op_mulU {X : Cx} : OpR X (binaryOp .Mult) (rMulU X.K) := OpR.or op_mulW (OpR.or op_mul_str (OpR.or op_rep op_repT))
theorem mulOk_small {z : Str} {n : Int} (h : 0 ≤ n ∧ n ≤ 1000 ∧ z.length ≤ 1000) : MulOk z n := by
  obtain ⟨h0, h1, h2⟩ := h
  refine ⟨?_, fun h3 _ => ?_, fun h3 _ => ?_⟩
  · rw [decide_eq_false (by omega), decide_eq_false (by omega)]
    rfl
  · have e : (2 ^ 63 - 1) / 1000 ≤ ((2 ^ 63 - 1) / n : Int) := by
      rw [Int.le_ediv_iff_mul_le (by omega)]
      omega
    omega
  · have h4 : z.length * n.toNat ≤ 1000 * 1000 := Nat.mul_le_mul h2 (by omega)
    rw [Builtin.Str.tooLong]
    simp
    have := sizeLine_eq
    omega
theorem Rps.reps {K : PySem.W.Frag} {G : Hp} {vs : List V} {ds : List D} (h : Rps K G vs ds) : ∀ n : Nat, Rps K G (List.replicate n vs).flatten (List.replicate n ds).flatten
  | 0 => .nil
  | n + 1 => by
    rw [List.replicate_succ, List.replicate_succ, List.flatten_cons, List.flatten_cons]
    exact h.app (Rps.reps h n)
theorem g_mul {K : PySem.W.Frag} : Op2 K (rMulU K) gMul := fun {G H σ ρ x y d e z Q} g hx hy he k => by
  unfold gMul at he
  split at he
  · split at he
    · rename_i hl
      cases he
      exact .inl ⟨_, _, hx.int, hy.int, hl, give g (.int _) k⟩
    · cases he
  · split at he
    · rename_i hl
      cases he
      exact .inr (.inl ⟨_, _, hx.str, hy.int, mulOk_small hl, give g (.str _) k⟩)
    · cases he
  · split at he
    · rename_i hl
      cases he
      obtain ⟨p, vs, rfl, h1, h2⟩ := hx.lst g.ex
      obtain ⟨l0, l1, l2⟩ := hl
      refine .inr (.inr (.inl ⟨p, _, vs, rfl, hy.int, h1, by omega, by omega, ?_, giveL g (h2.reps _) k⟩))
      rw [h2.len]
      refine Nat.le_trans (Nat.mul_le_mul l2 (show Int.toNat _ ≤ 1000 by omega)) (by decide)
    · cases he
  · split at he
    · rename_i hl
      cases he
      obtain ⟨p, vs, rfl, h0, h1, h2⟩ := hx.tup g.ex
      obtain ⟨l0, l1, l2, l3⟩ := hl
      refine .inr (.inr (.inr ⟨p, _, vs, rfl, hy.int, SqT.of h1, fun ev => ?_, l1, l2, by rw [h2.len]; exact l3, giveT g (h2.reps _) k⟩))
      subst ev
      cases h2
      exact l0 rfl
    · cases he
  · cases he
def gDiv : D → D → Option Sl
  | .int i, .int j => if 0 < j ∧ j.natAbs.log2 < 9000 then some (.fz (.int (i / j))) else none
  | _, _ => none
theorem g_div {K : PySem.W.Frag} : Op2 K (rI CDivW fun i j => .int (i / j)) gDiv := fun {G H σ ρ x y d e z Q} g hx hy he k => by
  unfold gDiv at he
  split at he
  · split at he
    · rename_i hl
      cases he
      exact ⟨_, _, hx.int, hy.int, hl, give g (.int _) k⟩
    · cases he
  · cases he
def gMod : D → D → Option Sl
  | .int i, .int j => if 0 < j then some (.fz (.int (i % j))) else none
  | _, _ => none
theorem g_mod {K : PySem.W.Frag} : Op2 K (rI (fun _ j => 0 < j) fun i j => .int (i % j)) gMod := fun {G H σ ρ x y d e z Q} g hx hy he k => by
  unfold gMod at he
  split at he
  · split at he
    · rename_i hl
      cases he
      exact ⟨_, _, hx.int, hy.int, hl, give g (.int _) k⟩
    · cases he
  · cases he
def gPow : D → D → Option Sl
  | .int i, .int j => if 0 ≤ j ∧ (Builtin.Int.intBits i : Int) * j ≤ 2 ^ 27 then some (.fz (.int (i ^ j.toNat))) else none
  | _, _ => none
theorem g_pow {K : PySem.W.Frag} : Op2 K (rI CPowW fun i j => .int (i ^ j.toNat)) gPow := fun {G H σ ρ x y d e z Q} g hx hy he k => by
  unfold gPow at he
  split at he
  · split at he
    · rename_i hl
      cases he
      exact ⟨_, _, hx.int, hy.int, hl, give g (.int _) k⟩
    · cases he
  · cases he
def gCmp (p : Int → Int → Bool) : D → D → Option Sl
  | .int i, .int j => some (.fz (.bl (p i j)))
  | _, _ => none
theorem g_cmp {K : PySem.W.Frag} (p : Int → Int → Bool) : Op2 K (rI0 fun i j => .bl (p i j)) (gCmp p) := fun {G H σ ρ x y d e z Q} g hx hy he k => by
  unfold gCmp at he
  split at he
  · cases he
    exact ⟨_, _, hx.int, hy.int, give g (.bl _) k⟩
  · cases he
abbrev gLt : D → D → Option Sl := gCmp fun i j => decide (i < j)
abbrev gLe : D → D → Option Sl := gCmp fun i j => decide (i ≤ j)
abbrev gGt : D → D → Option Sl := gCmp fun i j => decide (j < i)
def gEq (d e : D) : Option Sl := match d, e with
  | .str i, .str j => some (.fz (.bl (decide (i = j))))
  | .int i, .int j => some (.fz (.bl (decide (i = j))))
  | d, e => if d.ok = true ∧ e.ok = true then some (.fz (.bl (d.eqv e))) else none
def gNe (d e : D) : Option Sl := match d, e with
  | .str i, .str j => some (.fz (.bl (!decide (i = j))))
  | .int i, .int j => some (.fz (.bl (!decide (i = j))))
  | d, e => if d.ok = true ∧ e.ok = true then some (.fz (.bl (!d.eqv e))) else none
theorem ok_parts {d : D} (h : d.ok = true) : d.plain = true ∧ SeqAt.shaped d.py = true := by
  unfold D.ok at h
  rw [Bool.and_eq_true] at h
  exact h
theorem scal_str {i j : Str} {H : Hp} {Q : VK} (h : Q (.bl (decide (i = j))) H) : rEq (.str i) (.str j) H Q := ⟨rfl, by rwa [show decide (V.str i = V.str j) = decide (i = j) by simp]⟩
theorem scal_int {i j : Int} {H : Hp} {Q : VK} (h : Q (.bl (decide (i = j))) H) : rEq (.int i) (.int j) H Q := ⟨rfl, by rwa [show decide (V.int i = V.int j) = decide (i = j) by simp]⟩
theorem scaln_str {i j : Str} {H : Hp} {Q : VK} (h : Q (.bl (!decide (i = j))) H) : rNe (.str i) (.str j) H Q := ⟨rfl, by rwa [show decide (V.str i = V.str j) = decide (i = j) by simp]⟩
theorem scaln_int {i j : Int} {H : Hp} {Q : VK} (h : Q (.bl (!decide (i = j))) H) : rNe (.int i) (.int j) H Q := ⟨rfl, by rwa [show decide (V.int i = V.int j) = decide (i = j) by simp]⟩
theorem g_eq {K : PySem.W.Frag} : Op2 K (rOr rEq (rEqD K)) gEq := fun {G H σ ρ x y d e z Q} g hx hy he k => by
  unfold gEq at he
  split at he
  · cases he
    rw [hx.str, hy.str]
    exact .inl (scal_str (give g (.bl _) k))
  · cases he
    rw [hx.int, hy.int]
    exact .inl (scal_int (give g (.bl _) k))
  · split at he
    · rename_i hl
      cases he
      obtain ⟨a1, a2⟩ := ok_parts hl.1
      obtain ⟨b1, b2⟩ := ok_parts hl.2
      exact .inr ⟨_, _, Rp.dp _ x a1 (hx.rp g.ex), Rp.dp _ y b1 (hy.rp g.ex), a2, b2, give g (.bl _) k⟩
    · cases he
theorem g_ne {K : PySem.W.Frag} : Op2 K (rOr rNe (rNeD K)) gNe := fun {G H σ ρ x y d e z Q} g hx hy he k => by
  unfold gNe at he
  split at he
  · cases he
    rw [hx.str, hy.str]
    exact .inl (scaln_str (give g (.bl _) k))
  · cases he
    rw [hx.int, hy.int]
    exact .inl (scaln_int (give g (.bl _) k))
  · split at he
    · rename_i hl
      cases he
      obtain ⟨a1, a2⟩ := ok_parts hl.1
      obtain ⟨b1, b2⟩ := ok_parts hl.2
      exact .inr ⟨_, _, Rp.dp _ x a1 (hx.rp g.ex), Rp.dp _ y b1 (hy.rp g.ex), a2, b2, give g (.bl _) k⟩
    · cases he
def D.isNon : D → Bool
  | .non => true
  | _ => false
theorem Vw.isNon {K : PySem.W.Frag} {G H : Hp} {v : V} {d : D} (h : Vw K G H v d) : decide (v = .non) = d.isNon := by
  rcases h with ⟨xs, p, vs, rfl, rfl, _, _⟩ | h
  · rfl
  · cases h <;> rfl
def gIsNot : D → D → Option Sl
  | d, .non => some (.fz (.bl (!d.isNon)))
  | _, _ => none
theorem g_isnot {K : PySem.W.Frag} : Op2 K (fun x y H Q => y = .non ∧ Q (.bl (!decide (x = .non))) H) gIsNot := fun {G H σ ρ x y d e z Q} g hx hy he k => by
  unfold gIsNot at he
  split at he
  · cases he
    exact ⟨hy.non, by rw [hx.isNon]; exact give g (.bl _) k⟩
  · cases he
def D.flat : D → Bool
  | .non => true
  | .bl _ => true
  | .int _ => true
  | .str _ => true
  | _ => false
def gIn' : D → D → Option Bool
  | .str a, .str z => if a.cps.size = 1 then some (decide (a.cps.getD 0 0 ∈ z.cps.toList)) else none
  | d, .lst ys => if d.ok = true ∧ (D.lst ys).ok = true then some (ys.any fun y => y.eqv d) else none
  | d, .tup ys => if d.flat = true ∧ ys.all D.flat = true then some (ys.any fun y => y.eqv d) else if d.ok = true ∧ (D.tup ys).ok = true then some (ys.any fun y => y.eqv d) else none
  | _, _ => none
def gIn (d e : D) : Option Sl := (gIn' d e).map fun b => .fz (.bl b)
def rTupIn (K : PySem.W.Frag) (neg : Bool) : R2 := fun x y M Q => ∃ e es, Dp K M x e ∧ Dp K M y (.tuple es) ∧ SeqAt.shaped e = true ∧ SeqAt.shaped (.tuple es) = true ∧ Q (.bl (neg ^^ es.any fun z => PyData.eqv z e)) M
theorem op_tupIn {X : Cx} (room : X.A.units + 65 < cLine) : OpR X (compareOp .In) (rTupIn X.K false) := by
  rintro pins t σ M x y v u Q J rx ry ⟨e, es, p1, p2, c1, c2, k⟩
  obtain ⟨l1, r1⟩ := Dp.reads J e x v p1 rx
  obtain ⟨l2, r2⟩ := Dp.reads J (.tuple es) y u p2 ry
  refine SeqAt.in_tuple_reads r2 r1 (SeqAt.canLay_of_shaped c2) (SeqAt.canLay_of_shaped c1) (PyProof.Rows.room_in_shaped c1 room) ⟨.bl _, M, J, rfl, ?_⟩
  rwa [Bool.false_xor] at k
def rInU (K : PySem.W.Frag) : R2 := rOr (fun x y H Q => ∃ (c : Nat) (z : Str), x = .str ⟨#[c]⟩ ∧ y = .str z ∧ Q (.bl (decide (c ∈ z.cps.toList))) H) (rOr (rInD K) (rOr (rIn K false) (rTupIn K false)))
def rNotInU (K : PySem.W.Frag) : R2 := rOr (fun x y H Q => ∃ (c : Nat) (z : Str), x = .str ⟨#[c]⟩ ∧ y = .str z ∧ Q (.bl (!decide (c ∈ z.cps.toList))) H) (rOr (rNotInD K) (rOr (rIn K true) (rTupIn K true)))
theorem op_inU {X : Cx} (hu : X.A.units + 65 < cLine) : OpR X (compareOp .In) (rInU X.K) := OpR.or op_in_sign (OpR.or (op_inD hu) (OpR.or op_in_seq (op_tupIn hu)))
theorem pys_any (d : D) : ∀ ys : List D, (D.pys ys).any (fun z => PyData.eqv z d.py) = ys.any fun y => y.eqv d
  | [] => by rw [D.pys]; rfl
  | y :: ys => by
    rw [D.pys, List.any_cons, List.any_cons, pys_any d ys]
    rfl
theorem flat_v {K : PySem.W.Frag} {G : Hp} {v : V} {d : D} (h : Rp K G v d) (f : d.flat = true) : flatV v = true := by
  cases h <;> first | rfl | cases f
theorem flat_eq {K : PySem.W.Frag} {G : Hp} {v u : V} {d e : D} (h : Rp K G v d) (h' : Rp K G u e) (f : d.flat = true) (f' : e.flat = true) : eqV v u = d.eqv e := by
  unfold D.eqv
  cases h <;> first | (cases (show false = true from f)) | skip
  all_goals cases h' <;> first | (cases (show false = true from f')) | (simp only [D.py, PyData.eqv, eqV] <;> done) | (simp only [D.py, PyData.eqv, eqV] <;> rfl)
theorem flat_all {K : PySem.W.Frag} {G : Hp} : ∀ {vs : List V} {ds : List D}, Rps K G vs ds → ds.all D.flat = true → vs.all flatV = true
  | _, _, .nil, _ => rfl
  | _, _, .cons h t, f => by
    rw [List.all_cons, Bool.and_eq_true] at f
    rw [List.all_cons, flat_v h f.1, flat_all t f.2]
    rfl
theorem flat_in {K : PySem.W.Frag} {G : Hp} {v : V} {d : D} (hd : Rp K G v d) (fd : d.flat = true) : ∀ {vs : List V} {ds : List D}, Rps K G vs ds → ds.all D.flat = true → inV v vs = ds.any fun y => y.eqv d
  | _, _, .nil, _ => rfl
  | _, _, .cons h t, f => by
    rw [List.all_cons, Bool.and_eq_true] at f
    have ih := flat_in hd fd t f.2
    unfold inV at ih ⊢
    rw [List.any_cons, List.any_cons, flat_eq h hd f.1 fd, ih]
theorem Vw.flat {K : PySem.W.Frag} {G H : Hp} {v : V} {d : D} (h : Vw K G H v d) (f : d.flat = true) : Rp K G v d := by
  rcases h with ⟨xs, p, vs, rfl, rfl, _, _⟩ | h
  · cases f
  · exact h
theorem one_sign {a : Str} (h : a.cps.size = 1) : a = ⟨#[a.cps.getD 0 0]⟩ := by
  obtain ⟨cps⟩ := a
  obtain ⟨l⟩ := cps
  match l, h with
  | [c], _ => rfl
theorem g_in' {K : PySem.W.Frag} {G H : Hp} {σ : L2.St} {ρ : En} {x y : V} {d e : D} {b : Bool} {Q : VK} (g : Good K G H σ ρ) (hx : Vw K G H x d) (hy : Vw K G H y e) (he : gIn' d e = some b) :
    (Q (.bl b) H → rInU K x y H Q) ∧ (Q (.bl !b) H → rNotInU K x y H Q) := by
  unfold gIn' at he
  split at he
  · split at he
    · rename_i a z hs
      cases he
      have e1 := hx.str
      rw [one_sign hs] at e1
      exact ⟨fun q => .inl ⟨_, _, e1, hy.str, q⟩, fun q => .inl ⟨_, _, e1, hy.str, q⟩⟩
    · cases he
  · split at he
    · rename_i ys hl
      cases he
      obtain ⟨a1, a2⟩ := ok_parts hl.1
      obtain ⟨b1, b2⟩ := ok_parts hl.2
      have q1 := Rp.dp d x a1 (hx.rp g.ex)
      have q2 := Rp.dp _ y b1 (hy.rp g.ex)
      rw [D.py] at q2 b2
      exact ⟨fun q => .inr (.inl ⟨_, _, q1, q2, a2, b2, by rw [pys_any]; exact q⟩), fun q => .inr (.inl ⟨_, _, q1, q2, a2, b2, by rw [pys_any]; exact q⟩)⟩
    · cases he
  · split at he
    · rename_i ys hl
      cases he
      obtain ⟨p, vs, rfl, h0, h1, h2⟩ := hy.tup g.ex
      have hx' := hx.flat hl.1
      refine ⟨fun q => .inr (.inr (.inl ⟨p, vs, rfl, .inr (SqT.of h1), flat_v hx' hl.1, flat_all h2 hl.2, ?_⟩)), fun q => .inr (.inr (.inl ⟨p, vs, rfl, .inr (SqT.of h1), flat_v hx' hl.1, flat_all h2 hl.2, ?_⟩))⟩
      · rw [flat_in hx' hl.1 h2 hl.2]
        exact q
      · rw [flat_in hx' hl.1 h2 hl.2]
        exact q
    · split at he
      · rename_i ys _ hl
        cases he
        obtain ⟨a1, a2⟩ := ok_parts hl.1
        obtain ⟨b1, b2⟩ := ok_parts hl.2
        have q1 := Rp.dp d x a1 (hx.rp g.ex)
        have q2 := Rp.dp _ y b1 (hy.rp g.ex)
        rw [D.py] at q2 b2
        exact ⟨fun q => .inr (.inr (.inr ⟨_, _, q1, q2, a2, b2, by rw [pys_any, Bool.false_xor]; exact q⟩)), fun q => .inr (.inr (.inr ⟨_, _, q1, q2, a2, b2, by rw [pys_any, Bool.true_xor]; exact q⟩))⟩
      · cases he
  · cases he
theorem g_in {K : PySem.W.Frag} : Op2 K (rInU K) gIn := fun {G H σ ρ x y d e z Q} g hx hy he k => by
  unfold gIn at he
  cases q : gIn' d e with
  | none => rw [q] at he; cases he
  | some b =>
    rw [q] at he
    cases he
    exact (g_in' g hx hy q).1 (give g (.bl _) k)
def gIx : D → D → Option Sl
  | .lst xs, .int i => (atI xs i).map .fz
  | .tup xs, .int i => (atI xs i).map .fz
  | .scr ns, .int i => (atI ns i).map fun n => .fz (.int n)
  | .str z, .int i => if z.length ≤ lim then (atI z.cps.toList i).map fun c => .fz (.str ⟨#[c]⟩) else none
  | _, _ => none
theorem atI_rel {K : PySem.W.Frag} {G : Hp} {vs : List V} {ds : List D} {i : Int} {d : D} (h : Rps K G vs ds) (e : atI ds i = some d) : ∃ v, atI vs i = some v ∧ Rp K G v d := by
  unfold atI at e ⊢
  rw [h.len]
  cases q : ixN ds.length i with
  | none => rw [q] at e; cases e
  | some j =>
    rw [q] at e
    exact h.get e
theorem g_ix {K : PySem.W.Frag} : Op2 K (rIx K) gIx := fun {G H σ ρ x y d e z Q} g hx hy he k => by
  unfold gIx at he
  split at he
  · rename_i xs i
    cases q : atI xs i with
    | none => rw [q] at he; cases he
    | some d =>
      rw [q] at he
      cases he
      obtain ⟨p, vs, rfl, h1, h2⟩ := hx.lst g.ex
      obtain ⟨v, e1, r⟩ := atI_rel h2 q
      exact .inl ⟨p, vs, i, v, rfl, hy.int, SqL.of h1, e1, give g r k⟩
  · rename_i xs i
    cases q : atI xs i with
    | none => rw [q] at he; cases he
    | some d =>
      rw [q] at he
      cases he
      obtain ⟨p, vs, rfl, h0, h1, h2⟩ := hx.tup g.ex
      obtain ⟨v, e1, r⟩ := atI_rel h2 q
      exact .inr (.inl ⟨p, vs, i, v, rfl, hy.int, SqT.of h1, e1, give g r k⟩)
  · rename_i ns i
    cases q : atI ns i with
    | none => rw [q] at he; cases he
    | some n =>
      rw [q] at he
      cases he
      obtain ⟨p, rfl, h1⟩ := hx.scr g.ex
      refine .inl ⟨p, _, i, .int n, rfl, hy.int, h1, ?_, give g (.int n) k⟩
      unfold atI at q ⊢
      rw [List.length_map]
      cases q2 : ixN ns.length i with
      | none => rw [q2] at q; cases q
      | some j =>
        rw [q2] at q
        show (ns.map V.int)[j]? = _
        rw [List.getElem?_map, show ns[j]? = some n from q]
        rfl
  · split at he
    · rename_i z i hl
      cases q : atI z.cps.toList i with
      | none => rw [q] at he; cases he
      | some c =>
        rw [q] at he
        cases he
        exact .inr (.inr ⟨z, i, c, hx.str, hy.int, lim_le hl, q, give g (.str _) k⟩)
    · cases he
  · cases he
theorem de_ix {X : Cx} {a b : Expr} {fa fb : Fe} {pos : Pos} (ha : DE X a fa) (hb : DE X b fb) (hs : PlainIx b := by first | exact fun _ _ => rfl | (intro _ _; rfl)) : DE X (.Subscript a b pos) (dOp2 gIx fa fb) := PE.weak (pe_ix ix_seq ha hb hs) (tOp_of g_ix)
abbrev Fo := En → Option (Option Int × En)
def toOf (K : PySem.W.Frag) (f : Fo) : TO := fun σ H Q => ∃ G ρ o ρ', Good K G H σ ρ ∧ f ρ = some (o, ρ') ∧ ∀ G' H', Aft K G H σ ρ G' H' σ ρ' → Q o H'
abbrev DO (X : Cx) (e : Option Expr) (f : Fo) : Prop := PO X e (toOf X.K f)
theorem PO.weak {X : Cx} {e : Option Expr} {t t' : TO} (h : PO X e t) (w : ∀ σ H Q, t' σ H Q → t σ H Q) : PO X e t' := ⟨fun pins s σ H Q I q => h.run pins s σ H Q I (w σ H Q q)⟩
def oNo : Fo := fun ρ => some (none, ρ)
def oSome (f : Fe) : Fo := fun ρ => match f ρ with
  | some (.fz (.int i), ρ1) => some (some i, ρ1)
  | _ => none
theorem do_no {X : Cx} : DO X none oNo := PO.weak po_none fun σ H Q ⟨G, ρ, o, ρ', g, e, k⟩ => by
  cases e
  exact k G H (Aft.refl g)
theorem do_some {X : Cx} {e : Expr} {f : Fe} (h : DE X e f) : DO X (some e) (oSome f) := PO.weak (po_some h) fun σ H Q ⟨G, ρ, o, ρ', g, e, k⟩ => by
  unfold oSome at e
  split at e
  · rename_i i ρ1 q
    cases e
    exact ⟨G, ρ, _, _, g, q, fun v G1 H1 A1 R1 => ⟨i, Rp.of_int R1, k G1 H1 A1⟩⟩
  · cases e
def cutD {α : Type} (xs : List α) (lo hi : Option Int) : List α := (xs.drop (HT.sIx xs.length 0 lo)).take (HT.sIx xs.length xs.length hi - HT.sIx xs.length 0 lo)
def gSl : D → Option Int → Option Int → Option Sl
  | .lst xs, lo, hi => some (.ow (.l (cutD xs lo hi)))
  | .tup xs, lo, hi => some (.fz (.tup (cutD xs lo hi)))
  | .str z, lo, hi => if z.length ≤ lim then some (.fz (.str (cutS z lo hi))) else none
  | _, _, _ => none
def dSl (f : Fe) (fl fh : Fo) : Fe := fun ρ => match f ρ with
  | none => none
  | some (r, ρ1) => match fl ρ1 with
    | none => none
    | some (lo, ρ2) => match fh ρ2 with
      | none => none
      | some (hi, ρ3) => match rd ρ3 r with
        | none => none
        | some d => match gSl d lo hi with
          | none => none
          | some z => some (z, ρ3)
def rSlU (K : PySem.W.Frag) : V → Option Int → Option Int → Hp → VK → Prop := fun x lo hi H Q => rSlL K x lo hi H Q ∨ (rSlA K x lo hi H Q ∨ rSlS x lo hi H Q)
theorem sl_u {X : Cx} : SlR X (rSlU X.K) := SlR.or sl_list (SlR.or sl_tupA sl_str)
theorem Rps.cut {K : PySem.W.Frag} {G : Hp} {vs : List V} {ds : List D} (h : Rps K G vs ds) (lo hi : Option Int) : Rps K G (cutV vs lo hi) (cutD ds lo hi) := by
  unfold cutV cutD
  rw [h.len]
  exact (h.drop _).take _
theorem de_sl {X : Cx} {e : Expr} {lo hi : Option Expr} {f : Fe} {fl fh : Fo} {pos p2 : Pos} (he : DE X e f) (hl : DO X lo fl) (hh : DO X hi fh) : DE X (.Subscript e (.Slice lo hi none p2) pos) (dSl f fl fh) :=
  PE.weak (pe_slice sl_u he hl hh) fun σ H Q ⟨G, ρ, z, ρ', g, q, k⟩ => by
    unfold dSl at q
    cases q1 : f ρ with
    | none => rw [q1] at q; cases q
    | some y =>
      obtain ⟨r, ρ1⟩ := y
      simp only [q1] at q
      cases q2 : fl ρ1 with
      | none => simp only [q2] at q; cases q
      | some y =>
        obtain ⟨l, ρ2⟩ := y
        simp only [q2] at q
        cases q3 : fh ρ2 with
        | none => simp only [q3] at q; cases q
        | some y =>
          obtain ⟨h, ρ3⟩ := y
          simp only [q3] at q
          cases q4 : rd ρ3 r with
          | none => simp only [q4] at q; cases q
          | some d =>
            simp only [q4] at q
            cases q5 : gSl d l h with
            | none => simp only [q5] at q; cases q
            | some w =>
              simp only [q5] at q
              cases q
              refine ⟨G, ρ, r, ρ1, g, q1, fun v G1 H1 A1 R1 => ⟨G1, ρ1, l, ρ2, A1.good, q2, fun G2 H2 A2 => ⟨G2, ρ2, h, _, A2.good, q3, fun G3 H3 A3 => ?_⟩⟩⟩
              have A13 := (A1.trans A2).trans A3
              have R3 := (R1.aft A2).aft A3
              have W := rd_ok A3.good R3 q4
              have k' : ∀ v G' H', Aft X.K G3 H3 σ ρ' G' H' σ ρ' → ROk X.K H3 G' H' σ ρ' v z → Q v H' := fun v G' H' A R => k v G' H' (A13.trans A) (R.start A13.dom)
              unfold gSl at q5
              split at q5
              · cases q5
                obtain ⟨p, vs, rfl, h1, h2⟩ := W.lst A3.good.ex
                exact .inl ⟨p, vs, rfl, SqL.of h1, giveL A3.good (h2.cut _ _) k'⟩
              · cases q5
                obtain ⟨p, vs, rfl, h0, h1, h2⟩ := W.tup A3.good.ex
                refine .inr (.inl ⟨p, vs, rfl, SqT.of h1, fun hw => ?_, fun hw => giveT A3.good (h2.cut _ _) k'⟩)
                refine k' (.ref p) G3 H3 (Aft.refl A3.good) (.tup h0 ?_)
                unfold cutD
                rw [← h2.len, hw.1, hw.2, List.drop_zero, Nat.sub_zero, h2.len, List.take_length]
                exact h2
              · split at q5
                · rename_i hz
                  cases q5
                  exact .inr (.inr ⟨_, W.str, lim_le hz, give A3.good (.str _) k'⟩)
                · cases q5
              · cases q5
end DL
namespace DL
open PySem PySem.Spec L2
open PyProof.Rows (envOfC)
section
variable {K : PySem.W.Frag} {G H : Hp} {σ : L2.St} {ρ : En} {Q : VK}
theorem Vws.one {vs : List V} {d : D} (h : Vws K G H vs [d]) : ∃ v, vs = [v] ∧ Vw K G H v d := by
  cases h with
  | cons h1 h2 =>
    cases h2
    exact ⟨_, rfl, h1⟩
theorem Vws.two {vs : List V} {d e : D} (h : Vws K G H vs [d, e]) : ∃ v u, vs = [v, u] ∧ Vw K G H v d ∧ Vw K G H u e := by
  cases h with
  | cons h1 h2 =>
    obtain ⟨u, rfl, h3⟩ := h2.one
    exact ⟨_, u, rfl, h1, h3⟩
end
def gLen : List D → Option Sl
  | [.lst xs] => some (.fz (.int xs.length))
  | [.tup xs] => some (.fz (.int xs.length))
  | [.scr xs] => some (.fz (.int xs.length))
  | [.str z] => if z.length ≤ lim then some (.fz (.int z.length)) else none
  | _ => none
theorem c_len {K : PySem.W.Frag} : Cl K (fun xs H Q => ∃ x n, xs = [x] ∧ LenV K x H n ∧ Q (.int n) H) gLen := fun {G H σ ρ xs ds z Q} g hx he k => by
  unfold gLen at he
  split at he
  · cases he
    obtain ⟨v, rfl, h⟩ := hx.one
    obtain ⟨p, vs, rfl, h1, h2⟩ := h.lst g.ex
    exact ⟨_, _, rfl, .inl ⟨_, SqL.of h1, h2.len.symm⟩, give g (.int _) k⟩
  · cases he
    obtain ⟨v, rfl, h⟩ := hx.one
    obtain ⟨p, vs, rfl, h0, h1, h2⟩ := h.tup g.ex
    exact ⟨_, _, rfl, .inr ⟨_, SqT.of h1, h2.len.symm⟩, give g (.int _) k⟩
  · cases he
    obtain ⟨v, rfl, h⟩ := hx.one
    obtain ⟨p, rfl, h1⟩ := h.scr g.ex
    exact ⟨_, _, rfl, .inl ⟨_, h1, by simp⟩, give g (.int _) k⟩
  · split at he
    · rename_i hl
      cases he
      obtain ⟨v, rfl, h⟩ := hx.one
      exact ⟨_, _, rfl, by rw [h.str]; exact ⟨lim_le hl, rfl⟩, give g (.int _) k⟩
    · cases he
  · cases he
def gMax : List D → Option Sl
  | [.int i, .int j] => some (.fz (.int (if j > i then j else i)))
  | _ => none
def gMin : List D → Option Sl
  | [.int i, .int j] => some (.fz (.int (if j < i then j else i)))
  | _ => none
theorem c_max {K : PySem.W.Frag} : Cl K (fun xs H Q => ∃ i j, xs = [.int i, .int j] ∧ Q (.int (if j > i then j else i)) H) gMax := fun {G H σ ρ xs ds z Q} g hx he k => by
  unfold gMax at he
  split at he
  · cases he
    obtain ⟨v, u, rfl, h1, h2⟩ := hx.two
    rw [h1.int, h2.int]
    exact ⟨_, _, rfl, give g (.int _) k⟩
  · cases he
theorem c_min {K : PySem.W.Frag} : Cl K (fun xs H Q => ∃ i j, xs = [.int i, .int j] ∧ Q (.int (if j < i then j else i)) H) gMin := fun {G H σ ρ xs ds z Q} g hx he k => by
  unfold gMin at he
  split at he
  · cases he
    obtain ⟨v, u, rfl, h1, h2⟩ := hx.two
    rw [h1.int, h2.int]
    exact ⟨_, _, rfl, give g (.int _) k⟩
  · cases he
def gInt : List D → Option Sl
  | [.int i] => some (.fz (.int i))
  | [.bl b] => some (.fz (.int (if b then 1 else 0)))
  | _ => none
theorem c_int {K : PySem.W.Frag} : Cl K (fun xs H Q => (∃ i, xs = [.int i] ∧ Q (.int i) H) ∨ ∃ k, xs = [.bl k] ∧ Q (.int (if k then 1 else 0)) H) gInt := fun {G H σ ρ xs ds z Q} g hx he k => by
  unfold gInt at he
  split at he
  · cases he
    obtain ⟨v, rfl, h1⟩ := hx.one
    rw [h1.int]
    exact .inl ⟨_, rfl, give g (.int _) k⟩
  · cases he
    obtain ⟨v, rfl, h1⟩ := hx.one
    rw [h1.bl]
    exact .inr ⟨_, rfl, give g (.int _) k⟩
  · cases he
def gList : List D → Option Sl
  | [.lst xs] => some (.ow (.l xs))
  | [.tup xs] => some (.ow (.l xs))
  | _ => none
theorem c_list {K : PySem.W.Frag} : Cl K (fun xs H Q => ∃ p ys, xs = [.ref p] ∧ (SqL K H p ys ∨ SqT K H p ys) ∧ ∀ l, H l = none → Q (.ref l) (upd H l (.lst ys))) gList := fun {G H σ ρ xs ds z Q} g hx he k => by
  unfold gList at he
  split at he
  · cases he
    obtain ⟨v, rfl, h⟩ := hx.one
    obtain ⟨p, vs, rfl, h1, h2⟩ := h.lst g.ex
    exact ⟨p, vs, rfl, .inl (SqL.of h1), giveL g h2 k⟩
  · cases he
    obtain ⟨v, rfl, h⟩ := hx.one
    obtain ⟨p, vs, rfl, h0, h1, h2⟩ := h.tup g.ex
    exact ⟨p, vs, rfl, .inr (SqT.of h1), giveL g h2 k⟩
  · cases he
def gTuple : List D → Option Sl
  | [.lst xs] => some (.fz (.tup xs))
  | [.tup xs] => some (.fz (.tup xs))
  | _ => none
theorem c_tuple {K : PySem.W.Frag} : Cl K (fun xs H Q => ∃ p ys, xs = [.ref p] ∧ ((SqL K H p ys ∧ ∀ l, H l = none → Q (.ref l) (upd H l (.tup ys))) ∨ (SqT K H p ys ∧ Q (.ref p) H))) gTuple := fun {G H σ ρ xs ds z Q} g hx he k => by
  unfold gTuple at he
  split at he
  · cases he
    obtain ⟨v, rfl, h⟩ := hx.one
    obtain ⟨p, vs, rfl, h1, h2⟩ := h.lst g.ex
    exact ⟨p, vs, rfl, .inl ⟨SqL.of h1, giveT g h2 k⟩⟩
  · cases he
    obtain ⟨v, rfl, h⟩ := hx.one
    obtain ⟨p, vs, rfl, h0, h1, h2⟩ := h.tup g.ex
    exact ⟨p, vs, rfl, .inr ⟨SqT.of h1, k (.ref p) G H (Aft.refl g) (.tup h0 h2)⟩⟩
  · cases he
def dsOf : List Sl → Option (List D)
  | [] => some []
  | .fz d :: r => (dsOf r).map (d :: ·)
  | _ => none
theorem dsOf_ok {K : PySem.W.Frag} {H0 G H : Hp} {σ : L2.St} {ρ : En} : ∀ {vs : List V} {rs : List Sl} {ds : List D}, RsOk K H0 G H σ ρ vs rs → dsOf rs = some ds → Rps K G vs ds
  | _, _, _, .nil, e => by cases e; exact .nil
  | _, _, _, .cons (r := r) (rs := rs) h t, e => by
    cases r with
    | fz d =>
      have e' : (dsOf rs).map (d :: ·) = some _ := e
      cases q : dsOf rs with
      | none => rw [q] at e'; cases e'
      | some ds =>
        rw [q] at e'
        cases e'
        exact .cons h (dsOf_ok t q)
    | un => cases e
    | ow _ => cases e
    | rf _ => cases e
    | bw _ => cases e
def eTup (fa : Fa) : Fe := fun ρ => match fa ρ with
  | some (rs, ρ1) => match dsOf rs with
    | some ds => if ds.length ≤ lim then some (.fz (.tup ds), ρ1) else none
    | none => none
  | none => none
def eLst (fa : Fa) : Fe := fun ρ => match fa ρ with
  | some (rs, ρ1) => match dsOf rs with
    | some ds => if ds.length ≤ lim then some (.ow (.l ds), ρ1) else none
    | none => none
  | none => none
section
variable {X : Cx} {es : List Expr} {fa : Fa} {pos : Pos} {k : Nat}
theorem de_tup (ha : DA X es fa) : DE X (.Tuple es k pos) (eTup fa) := PE.weak (pe_tup ha) fun σ H Q ⟨G, ρ, z, ρ', g, q, kk⟩ => by
  unfold eTup at q
  cases q1 : fa ρ with
  | none => rw [q1] at q; cases q
  | some y =>
    obtain ⟨rs, ρ1⟩ := y
    simp only [q1] at q
    cases q2 : dsOf rs with
    | none => simp only [q2] at q; cases q
    | some ds =>
      simp only [q2] at q
      split at q
      · rename_i hl
        cases q
        refine ⟨G, ρ, rs, _, g, q1, fun vs G1 H1 A1 R1 => ?_⟩
        have r := dsOf_ok R1 q2
        exact ⟨by rw [r.len]; exact lim_le hl, giveT A1.good r fun v G' H' A R => kk v G' H' (A1.trans A) (R.start A1.dom)⟩
      · cases q
theorem de_lst (ha : DA X es fa) : DE X (.List es pos) (eLst fa) := PE.weak (pe_lst ha) fun σ H Q ⟨G, ρ, z, ρ', g, q, kk⟩ => by
  unfold eLst at q
  cases q1 : fa ρ with
  | none => rw [q1] at q; cases q
  | some y =>
    obtain ⟨rs, ρ1⟩ := y
    simp only [q1] at q
    cases q2 : dsOf rs with
    | none => simp only [q2] at q; cases q
    | some ds =>
      simp only [q2] at q
      split at q
      · rename_i hl
        cases q
        refine ⟨G, ρ, rs, _, g, q1, fun vs G1 H1 A1 R1 => ?_⟩
        have r := dsOf_ok R1 q2
        exact ⟨by rw [r.len]; exact lim_le hl, giveL A1.good r fun v G' H' A R => kk v G' H' (A1.trans A) (R.start A1.dom)⟩
      · cases q
end
section
variable {K : PySem.W.Frag} {G H : Hp}
theorem it_list {p : Addr} {vs : List V} {xs : List D} (h1 : G p = some (.lst vs)) (h2 : Rps K G vs xs) : ItOk K G (Itl K p) xs := by
  have w := (walk_list (K := K) (a := p) (xs := vs)).mono (G' := fun H => Ex G H) (Y' := fun i H x H' => ∃ d, xs[i]? = some d ∧ ItemY K G d H x H') (fun H e => SqL.of (e _ _ h1)) fun i H x H' hi e y => by
    obtain ⟨rfl, e1⟩ := y
    obtain ⟨d, e2, r⟩ := h2.getV e1
    exact ⟨d, e2, .inl ⟨rfl, r⟩⟩
  rw [h2.len] at w
  exact w
theorem it_tup {p : Addr} {vs : List V} {xs : List D} (h1 : G p = some (.tup vs)) (h2 : Rps K G vs xs) : ItOk K G (Itt K p) xs := by
  have w := (walk_tup (K := K) (a := p) (xs := vs)).mono (G' := fun H => Ex G H) (Y' := fun i H x H' => ∃ d, xs[i]? = some d ∧ ItemY K G d H x H') (fun H e => SqT.of (e _ _ h1)) fun i H x H' hi e y => by
    obtain ⟨rfl, e1⟩ := y
    obtain ⟨d, e2, r⟩ := h2.getV e1
    exact ⟨d, e2, .inl ⟨rfl, r⟩⟩
  rw [h2.len] at w
  exact w
def rangeD (lo : Int) (n : Nat) : List D := (List.range n).map fun i => .int (lo + (i : Nat))
theorem it_range {lo : Int} {n : Nat} : ItOk K G (Itr lo n) (rangeD lo n) := by
  have w := (walk_range (lo := lo) (n := n)).mono (G' := fun H => Ex G H) (Y' := fun i H x H' => ∃ d, (rangeD lo n)[i]? = some d ∧ ItemY K G d H x H') (fun _ _ => trivial) fun i H x H' hi e y => by
    obtain ⟨rfl, rfl⟩ := y
    exact ⟨.int (lo + (i : Nat)), by unfold rangeD; rw [List.getElem?_map, List.getElem?_range hi]; rfl, .inl ⟨rfl, .int _⟩⟩
  have e : (rangeD lo n).length = n := by unfold rangeD; simp
  unfold ItOk
  rw [e]
  exact w
def enumD (xs : List D) : List D := xs.zipIdx.map fun p => .tup [.int (p.2 : Nat), p.1]
theorem enumD_get (xs : List D) (i : Nat) : (enumD xs)[i]? = xs[i]?.map fun d => .tup [.int (i : Nat), d] := by
  unfold enumD
  rw [List.getElem?_map, List.getElem?_zipIdx]
  cases xs[i]? with
  | none => rfl
  | some d => simp
theorem it_enum {J : It} {vs : List V} {xs : List D} {P : Hp → Prop} (w : Walk J vs.length P (YPair (fun i => some (.int (i : Nat))) (fun i => vs[i]?))) (hp : ∀ H, Ex G H → P H) (h2 : Rps K G vs xs) : ItOk K G J (enumD xs) := by
  have w := w.mono (G' := fun H => Ex G H) (Y' := fun i H x H' => ∃ d, (enumD xs)[i]? = some d ∧ ItemY K G d H x H') hp fun i H x H' hi e y => by
    obtain ⟨T, a, b, rfl, h3, h4, h5, h6⟩ := y
    cases h5
    obtain ⟨d, e2, r⟩ := h2.getV h6
    exact ⟨.tup [.int (i : Nat), d], by rw [enumD_get, e2]; rfl, .inr (.inl ⟨T, _, _, rfl, rfl, h3, h4, .cons (.int _) (.one r)⟩)⟩
  have e : (enumD xs).length = vs.length := by unfold enumD; simp [h2.len]
  unfold ItOk
  rw [e]
  exact w
end
section
variable {X : Cx} {tg e : Expr} {f : Fe}
def iRange1 (fa : Fa) : Fi := fun ρ => match fa ρ with
  | some ([.fz (.int n)], ρ1) => if n < 4000000000000000000 ∧ -4000000000000000000 ≤ n then some (rangeD 0 n.toNat, ρ1) else none
  | _ => none
def iRange2 (fa : Fa) : Fi := fun ρ => match fa ρ with
  | some ([.fz (.int m), .fz (.int n)], ρ1) => if n < 4000000000000000000 ∧ -4000000000000000000 ≤ n ∧ m < 4000000000000000000 ∧ -4000000000000000000 ≤ m then some (rangeD m (n - m).toNat, ρ1) else none
  | _ => none
theorem di_range1 {a : Expr} {fa : Fa} {p pos : Pos} (hg : Gl X "range") (hm : X.mg "range" = none) (ha : DA X [a] fa) (hs : starEach [a] X.env = [(false, eval a X.env)] := by rfl) : DI X tg (.Call (.Name "range" p) [a] [] pos) (iRange1 fa) :=
  PI.weak (pi_range1 hg hm ha hs) fun σ H R ⟨G, ρ, xs, ρ', g, q, k⟩ => by
    unfold iRange1 at q
    split at q
    · rename_i n ρ1 q1
      split at q
      · rename_i hl
        cases q
        refine ⟨G, ρ, _, _, g, q1, fun vs G1 H1 A1 R1 => ?_⟩
        cases R1 with
        | cons r1 r2 =>
          cases r2
          refine ⟨n, by rw [Rp.of_int r1], by omega, by omega, k _ G1 H1 A1 it_range⟩
      · cases q
    · cases q
theorem di_range2 {a b : Expr} {fa : Fa} {p pos : Pos} (hg : Gl X "range") (hm : X.mg "range" = none) (ha : DA X [a, b] fa) (hs : starEach [a, b] X.env = [(false, eval a X.env), (false, eval b X.env)] := by rfl) (hs2 : starEach [b] X.env = [(false, eval b X.env)] := by rfl) :
    DI X tg (.Call (.Name "range" p) [a, b] [] pos) (iRange2 fa) :=
  PI.weak (pi_range2 hg hm ha hs hs2) fun σ H R ⟨G, ρ, xs, ρ', g, q, k⟩ => by
    unfold iRange2 at q
    split at q
    · rename_i m n ρ1 q1
      split at q
      · rename_i hl
        cases q
        refine ⟨G, ρ, _, _, g, q1, fun vs G1 H1 A1 R1 => ?_⟩
        cases R1 with
        | cons r1 r2 =>
          cases r2 with
          | cons r2 r3 =>
            cases r3
            refine ⟨m, n, by rw [Rp.of_int r1, Rp.of_int r2], ⟨by omega, by omega, by omega, by omega⟩, k _ G1 H1 A1 it_range⟩
      · cases q
    · cases q
def iEnumD (fa : Fa) : Fi := fun ρ => match fa ρ with
  | some ([.fz (.lst xs)], ρ1) => some (enumD xs, ρ1)
  | some ([.fz (.tup xs)], ρ1) => some (enumD xs, ρ1)
  | _ => none
theorem di_enum {fa : Fa} {p pos tpos : Pos} {elts : List Expr} {kk : Nat} (hg : Gl X "enumerate") (hm : X.mg "enumerate" = none) (ha : DA X [e] fa) (hs : starEach [e] X.env = [(false, eval e X.env)] := by rfl) :
    DI X (.Tuple elts kk tpos) (.Call (.Name "enumerate" p) [e] [] pos) (iEnumD fa) := PI.weak (pi_enumA hg hm ha hs) fun σ H R ⟨G, ρ, xs, ρ', g, q, k⟩ => by
  unfold iEnumD at q
  split at q
  · rename_i ys ρ1 q1
    cases q
    refine ⟨G, ρ, _, _, g, q1, fun vs G1 H1 A1 R1 => ?_⟩
    cases R1 with
    | cons r1 r2 =>
      cases r2
      have r1' : Rp X.K G1 _ (.lst ys) := r1
      cases r1' with
      | lst h1 h2 => exact ⟨_, _, rfl, .inl ⟨SqL.of (A1.good.ex _ _ h1), k _ G1 H1 A1 (it_enum walk_enum (fun H e => SqL.of (e _ _ h1)) h2)⟩⟩
  · rename_i ys ρ1 q1
    cases q
    refine ⟨G, ρ, _, _, g, q1, fun vs G1 H1 A1 R1 => ?_⟩
    cases R1 with
    | cons r1 r2 =>
      cases r2
      have r1' : Rp X.K G1 _ (.tup ys) := r1
      cases r1' with
      | tup h1 h2 => exact ⟨_, _, rfl, .inr ⟨SqT.of (A1.good.ex _ _ h1), k _ G1 H1 A1 (it_enum walk_enumT (fun H e => SqT.of (e _ _ h1)) h2)⟩⟩
  · cases q
end
end DL
namespace DL
open PySem PySem.Spec L2
def dNeg (f : Fe) : Fe := fun ρ => match f ρ with
  | some (.fz (.int i), ρ1) => some (.fz (.int (-i)), ρ1)
  | _ => none
theorem de_neg {X : Cx} {a : Expr} {f : Fe} {pos : Pos} (ha : DE X a f) : DE X (.UnaryOp .USub a pos) (dNeg f) := PE.weak (pe_un un_neg ha) fun σ H Q ⟨G, ρ, z, ρ', g, q, k⟩ => by
  unfold dNeg at q
  split at q
  · rename_i i ρ1 q1
    cases q
    exact ⟨G, ρ, _, _, g, q1, fun v G1 H1 A1 R1 => ⟨i, Rp.of_int R1, k _ G1 H1 A1 (.int _)⟩⟩
  · cases q
def heldL : Option Sl → Option (List D)
  | some (.ow (.l xs)) => some xs
  | some (.rf (.l xs)) => some xs
  | _ => none
def putS (ρ : En) (i : Nat) (m : Mu) : En := match ρ[i]? with
  | some r => ρ.set i (r.put m)
  | none => ρ
theorem heldL_ok {o : Option Sl} {xs : List D} (h : heldL o = some xs) : ∃ r, o = some r ∧ Held r (.l xs) := by
  unfold heldL at h
  split at h
  · cases h; exact ⟨_, rfl, .ow _⟩
  · cases h; exact ⟨_, rfl, .rf _⟩
  · cases h
theorem held_at {K : PySem.W.Frag} {G H : Hp} {σ : L2.St} {ρ : En} {i : Nat} {xs : List D} (g : Good K G H σ ρ) (h : heldL ρ[i]? = some xs) : ∃ p vs, σ[i]? = some (some (.ref p)) ∧ H p = some (.lst vs) ∧ Rps K G vs xs ∧
    (∀ vs' ys, Rps K G vs' ys → Aft K G H σ ρ G (upd H p (.lst vs')) σ (putS ρ i (.l ys))) := by
  obtain ⟨r, e, hh⟩ := heldL_ok h
  have hi : i < σ.length := by
    rw [g.len]
    exact (List.getElem?_eq_some_iff.mp e).1
  have hs : σ[i]? = some σ[i] := List.getElem?_eq_getElem hi
  have s := g.sl i _ _ hs e
  have s' : ∃ p o, σ[i] = some (.ref p) ∧ G p = none ∧ H p = some o ∧ MuOk K G p o (.l xs) := by
    cases hh with
    | ow => exact s
    | rf => exact s
  obtain ⟨p, o, e1, e2, e3, e4⟩ := s'
  cases e4 with
  | @l vs _ e4 =>
    rw [e1] at hs
    refine ⟨p, vs, hs, e3, e4, fun vs' ys r' => ?_⟩
    have := Aft.change (o := .lst vs') (m' := .l ys) g hs e hh (.l r')
    unfold putS
    rw [e]
    exact this
abbrev Gm := List D → List D → Option (D × List D)
def MtL (K : PySem.W.Frag) (r : V → List V → Hp → VK → Prop) (g : Gm) : Prop := ∀ {G H : Hp} {p : Addr} {vs us : List V} {xs ds : List D} {d : D} {ys : List D} {Q : VK}, Ex G H → H p = some (.lst vs) → Rps K G vs xs → Rps K G us ds → g xs ds = some (d, ys) →
  (∀ v vs', Rp K G v d → Rps K G vs' ys → Q v (upd H p (.lst vs'))) → r (.ref p) us H Q
def dMt (i : Nat) (fa : Fa) (g : Gm) : Fe := fun ρ => match heldL ρ[i]? with
  | none => none
  | some _ => match fa ρ with
    | none => none
    | some (rs, ρ1) => match dsOf rs with
      | none => none
      | some ds => match heldL ρ1[i]? with
        | none => none
        | some xs => match g xs ds with
          | none => none
          | some (d, ys) => some (.fz d, putS ρ1 i (.l ys))
theorem dMt_inv {i : Nat} {fa : Fa} {g : Gm} {ρ ρ' : En} {z : Sl} (e : dMt i fa g ρ = some (z, ρ')) : ∃ xs0 rs ρ1 ds xs d ys, heldL ρ[i]? = some xs0 ∧ fa ρ = some (rs, ρ1) ∧ dsOf rs = some ds ∧ heldL ρ1[i]? = some xs ∧ g xs ds = some (d, ys) ∧ z = .fz d ∧ ρ' = putS ρ1 i (.l ys) := by
  unfold dMt at e
  cases q1 : heldL ρ[i]? with
  | none => simp only [q1] at e; cases e
  | some xs0 =>
    simp only [q1] at e
    cases q2 : fa ρ with
    | none => simp only [q2] at e; cases e
    | some y =>
      obtain ⟨rs, ρ1⟩ := y
      simp only [q2] at e
      cases q3 : dsOf rs with
      | none => simp only [q3] at e; cases e
      | some ds =>
        simp only [q3] at e
        cases q4 : heldL ρ1[i]? with
        | none => simp only [q4] at e; cases e
        | some xs =>
          simp only [q4] at e
          cases q5 : g xs ds with
          | none => simp only [q5] at e; cases e
          | some y =>
            obtain ⟨d, ys⟩ := y
            simp only [q5] at e
            cases e
            exact ⟨_, _, _, _, _, _, _, rfl, rfl, q3, q4, q5, rfl, rfl⟩
section
variable {X : Cx} {o e : Expr} {es : List Expr} {fa : Fa} {name : Str} {apos cpos : Pos} {id : String} {r : V → List V → Hp → VK → Prop} {g : Gm} {i : Nat}
theorem de_mt (slot : Slot "list" name id) (hty : typeOf (.builtin id) = pure (.type "method_descriptor")) (hm : MtR X id r) (hg : MtL X.K r g) (ho : PE X o (tVar i)) (ha : DA X (e :: es) fa)
    (hbase : attributeBase o name X.env (eval o X.env) = eval o X.env := by rfl)
    (hfew : ((backTo cpos (starEach (e :: es) X.env)).all (fun x => !x.1) && (backToKw cpos (keywordEach [] X.env)).all (fun x => x.1.isSome)
      && decide ((e :: es).length + ([] : List Keyword).length + (if ([] : List Keyword).isEmpty then 0 else 1) < 30)) = true := by rfl)
    (hline : (apos.endLine == cpos.line) = true := by rfl) (hs : starEach (e :: es) X.env = (false, eval e X.env) :: starEach es X.env := by rfl) (hplain : (backTo cpos (starEach es X.env)).any (·.1) = false := by rfl) :
    DE X (.Call (.Attribute o name apos) (e :: es) [] cpos) (dMt i fa g) :=
  PE.weak (pe_bm F.plainAttrs_list slot hty hm ho ha hbase hfew hline hs hplain) fun σ H Q ⟨G, ρ, z, ρ', gd, q, k⟩ => by
    obtain ⟨xs0, rs, ρ1, ds, xs, d, ys, q1, q2, q3, q4, q5, rfl, rfl⟩ := dMt_inv q
    obtain ⟨p, vs0, e1, e2, e3, _⟩ := held_at gd q1
    refine ⟨.ref p, e1, .inl ⟨rfl, _, SqL.of e2⟩, G, ρ, rs, ρ1, gd, q2, fun us G1 H1 A1 R1 => ?_⟩
    obtain ⟨p', vs, e4, e5, e6, A2⟩ := held_at A1.good q4
    rw [e1] at e4
    cases e4
    exact hg A1.good.ex e5 e6 (dsOf_ok R1 q3) q5 fun v vs' rv rvs => k v G1 _ (A1.trans (A2 vs' ys rvs)) rv
end
def gApp : Gm := fun xs ds => match ds with
  | [d] => if xs.length ≤ lim then some (.non, xs ++ [d]) else none
  | _ => none
theorem m_app {K : PySem.W.Frag} : MtL K rAppend gApp := fun {G H p vs us xs ds d ys Q} ex h1 h2 h3 e k => by
  unfold gApp at e
  split at e
  · split at e
    · rename_i hl
      cases e
      cases h3 with
      | cons a b =>
        cases b
        exact ⟨p, vs, _, rfl, rfl, h1, by rw [h2.len]; exact lim_lt hl, k _ _ .non (h2.app (.one a))⟩
    · cases e
  · cases e
def gPopAt : Gm := fun xs ds => match ds with
  | [.int i] => if -(2 ^ 63) ≤ i ∧ i < 2 ^ 63 then (match seqIndex? i xs.length with
    | some k => match xs[k]? with
      | some d => some (d, xs.eraseIdx k)
      | none => none
    | none => none) else none
  | _ => none
theorem m_popAt {K : PySem.W.Frag} : MtL K rPopAt gPopAt := fun {G H p vs us xs ds d ys Q} ex h1 h2 h3 e k => by
  unfold gPopAt at e
  split at e
  · rename_i i
    split at e
    · rename_i hl
      cases q1 : seqIndex? i xs.length with
      | none => simp only [q1] at e; cases e
      | some j =>
        simp only [q1] at e
        cases q2 : xs[j]? with
        | none => simp only [q2] at e; cases e
        | some d' =>
          simp only [q2] at e
          cases e
          cases h3 with
          | cons a b =>
            cases b
            obtain ⟨v, q', r⟩ := h2.get q2
            exact ⟨p, vs, i, j, v, rfl, by rw [a.of_int], h1, hl.1, hl.2, by rw [h2.len]; exact q1, q', k _ _ r (h2.erase j)⟩
    · cases e
  · cases e
def bSetIx (i : Nat) (fi fe : Fe) : Fs := fun ρ => match dFr fe ρ with
  | none => none
  | some (d, ρ1) => match heldL ρ1[i]? with
    | none => none
    | some _ => match fi ρ1 with
      | some (.fz (.int k), ρ2) => match heldL ρ2[i]? with
        | none => none
        | some xs => match ixN xs.length k with
          | none => none
          | some j => some (.nx, putS ρ2 i (.l (xs.set j d)))
      | _ => none
section
variable {X : Cx} {E : XK} {o e ix : Expr} {fi fe : Fe} {i : Nat} {pos spos : Pos}
theorem ds_setIx (he : DE X e fe) (ho : PE X o (tVar i)) (hi : DE X ix fi)
    (ha : ∀ v, assign (.Subscript o ix spos) X.env v = (do
      let ov ← holding [v] (eval o X.env)
      let iv ← holding [v, ov] (eval ix X.env)
      standAt spos
      holding [v, ov, iv] (setItem ov iv v)
      release [v, ov, iv] []) := by intro _; rfl)
    (hs : swapsWithSole [.Subscript o ix spos] e pos.line X.env = pure false := by rfl) (hw : swappedStores [.Subscript o ix spos] e X.env = pure none := by rfl)
    (h1 : (assignEach [.Subscript o ix spos] X.env).map (·.2) = [assign (.Subscript o ix spos) X.env] := by rfl) : DS X E (.Assign [.Subscript o ix spos] e pos) (bSetIx i fi fe) :=
  PS.weak (ps_asg (de_fr he) (pg_sub ho hi set_list ha) hs hw h1) fun D σ H ⟨G, ρ, fl, ρ', g, q, k⟩ => by
    unfold bSetIx at q
    cases q1 : dFr fe ρ with
    | none => simp only [q1] at q; cases q
    | some y =>
      obtain ⟨d, ρ1⟩ := y
      simp only [q1] at q
      cases q2 : heldL ρ1[i]? with
      | none => simp only [q2] at q; cases q
      | some xs0 =>
        simp only [q2] at q
        split at q
        · rename_i kk ρ2 q3
          cases q4 : heldL ρ2[i]? with
          | none => simp only [q4] at q; cases q
          | some xs =>
            simp only [q4] at q
            cases q5 : ixN xs.length kk with
            | none => simp only [q5] at q; cases q
            | some j =>
              simp only [q5] at q
              cases q
              refine ⟨G, ρ, d, ρ1, g, q1, fun v G1 H1 A1 R1 => ?_⟩
              obtain ⟨p, vs0, e1, e2, e3, _⟩ := held_at A1.good q2
              refine ⟨.ref p, e1, G1, ρ1, _, ρ2, A1.good, q3, fun u G2 H2 A2 R2 => ?_⟩
              obtain ⟨p', vs, e4, e5, e6, A3⟩ := held_at A2.good q4
              rw [e1] at e4
              cases e4
              refine ⟨p, vs, kk, j, rfl, Rp.of_int R2, e5, by rw [e6.len]; exact q5, ?_⟩
              have A := (A1.trans A2).trans (A3 (vs.set j v) (xs.set j d) (e6.set (R1.up A2.ex) j))
              exact k σ G2 _ A
        · cases q
end
section
variable {X : Cx} {o e : Expr} {fo fe : Fe} {apos pos : Pos}
end
end DL
namespace DL
open PySem PySem.Spec L2
open PyProof.Rows (envOfC)
theorem passL' {X : Cx} : Passes (L2.CX X.prog X.w) X E0 := fun _ _ _ _ _ _ _ h => by
  obtain ⟨_, _, _, _, _, _, _, _, _, _, _, _, z⟩ := h
  exact z.elim
structure FnG (P : Program) (w : World) (K : PySem.W.Frag) (mg : Str → Option Value) (b0 : Heap) (k : Nat) (f : Addr) (fd : FuncData) (ps : List Str) (sp : Sp) : Prop where
  len : ∀ xs M R F, sp xs M R F → xs.length = ps.length
  go : ∀ (Z : Around) (up : List Env) (t : Shared) (M : Hp) (gv : Args) (us : List Value) (xs : List V) (R : VK) (F : XK), Z.guards = some [] → Room k Z → Env0 P w K mg b0 Z up t M →
    BindsTo t fd gv (ps.zip us) → Vals xs us → sp xs M R F → codeAny (model P w) Z (.call (.ref f) gv) (CR (L2.CX P w) up P w M t R F) t
section
variable {P : Program} {w : World} {K : PySem.W.Frag} {mg : Str → Option Value} {b0 : Heap} {k : Nat} {f : Addr}
theorem FnG.imp {fd : FuncData} {ps : List Str} {sp sp' : Sp} (G : FnG P w K mg b0 k f fd ps sp) (h : ∀ xs M R F, sp' xs M R F → sp xs M R F) : FnG P w K mg b0 k f fd ps sp' :=
  ⟨fun xs M R F q => G.len xs M R F (h _ _ _ _ q), fun Z up t M gv us xs R F g r e b v q => G.go Z up t M gv us xs R F g r e b v (h _ _ _ _ q)⟩
theorem fnG_of {nm qn : Str} {pr : Arguments} {bd : List Stmt} {sc : Scope} {dV kV doc pm cv ct oc : Value} {an od : Option Addr} {os : Array (Option Value)} {N ps : List Str} {sp : Sp}
    (look : K.lookup f = some ⟨oc, od, .func (PySem.W.fnOf nm qn pr bd sc dV kV doc pm an cv ct), os⟩) (code : PySem.W.codeIn K cv qn = true) (S : FnScope N ps sc) (len : ∀ xs M R F, sp xs M R F → xs.length = ps.length)
    (body : ∀ (Z : Around) (up : List Env) (t : Shared) (M : Hp) (xs : List V) (R : VK) (F : XK), Z.guards = some [] → Room k (Z.deeper (envOfC qn sc t.heap.objs.size f cv)) → sp xs M R F →
      ∃ T, PSs (cxOf (L2.CX P w) P w K mg b0 N qn sc f cv Z up t M F) bd T ∧ T { nx := fun _ M' => R .non M', rt := R } (start N xs) M) :
    FnG P w K mg b0 (k + 1) f (PySem.W.fnOf nm qn pr bd sc dV kV doc pm an cv ct) ps sp := by
  constructor
  · exact len
  intro Z up t M gv us xs R F guard room e0 binds vals hsp
  have inHeap : K.In t.heap := e0.mod.kin.keeps fun a o q => (e0.bs a o q).1
  have noLim : t.heap.NoLimit := e0.mod.nolimit.keeps fun a o q => (e0.bs a o q).1
  have xl := len _ _ _ _ hsp
  have kinds : ∀ z ∈ ps.zip us, sc.names.lookup z.1 = some .local ∨ (sc.names.lookup z.1 = some .cell ∧ ((cellsFrom (t.heap.objs.size + 1) sc.names []).lookup z.1).isSome = true) := by
    rintro ⟨n, v⟩ hz
    rcases S.par n (List.of_mem_zip hz).1 with p | p
    · exact .inl p
    · exact .inr ⟨p, PySem.W.cellsFrom_some _ _ _ (.inl p)⟩
  apply codeAny_call_function room.depth (inHeap _ _ look) rfl S.co S.gen rfl (PySem.W.codeRec_of inHeap code)
  apply binds
  apply wpAny_newFunctionEnv_cells S.kind kinds
  rintro env rfl t1 x
  refine ⟨noLim.keeps x.toInCall.keep, codeAny_func ?_⟩
  obtain ⟨T, hT, hq⟩ := body Z up t M xs R F guard (room.deeper _) hsp
  have J : Inv (cxOf (L2.CX P w) P w K mg b0 N qn sc f cv Z up t M F) [] (start N xs) M t1 := inv_start S room.hd e0 xl vals x
  apply wpAny_mono (hT.run [] t1 (start N xs) M _ J hq)
  · intro fl t2 hs
    cases fl with
    | brk => exact (hs.elim fun _ z => z.elim fun _ z => z.2.elim : False).elim
    | cont => exact (hs.elim fun _ z => z.elim fun _ z => z.2.elim : False).elim
    | next =>
      obtain ⟨s2, M2, J2, q⟩ := hs
      exact ⟨.non, M2, J2.os, J2.bare, J2.base, J2.hok, rfl, q⟩
    | ret u =>
      obtain ⟨v, s2, M2, J2, rv, q⟩ := hs
      exact ⟨v, M2, J2.os, J2.bare, J2.base, J2.hok, rv, q⟩
  · intro e t2 hs
    exact hs
end
section
variable {X : Cx} {k : Nat} {f : Addr} {fd : FuncData} {ps : List Str} {sp : Sp} {x : Str} {p pos : Pos} {e : Expr} {es : List Expr} {t : TA} {F : XK}
theorem pe_callG (G : FnG X.prog X.w X.K X.mg X.base k f fd ps sp) (gd : X.A.guards = some []) (hr : Room k X.A) (hg : Gl X x) (hm : X.mg x = some (.ref f)) (hk : PySem.W.keepIn X.K (.ref f) = true) (hb : Binds X.K fd ps []) (hx : Passes (L2.CX X.prog X.w) X F)
    (ha : PA X (e :: es) t) (hdb : (x == ("__debug__" : Str)) = false := by decide) (he : starEach (e :: es) X.env = (false, eval e X.env) :: starEach es X.env := by rfl) (hpl : (backTo pos (starEach es X.env)).any (·.1) = false := by rfl) :
    PE X (.Call (.Name x p) (e :: es) [] pos) (tCall sp [] F t) := by
  constructor
  intro pins s σ M R I q
  apply wpAny_Call_Name_kw (ld_glob I hg hm ?_ hdb)
  refine PySem.W.callWith_K (h₀ := X.base) I.ok.mod.kin hk (thn (ha.run pos pins s σ M _ I q) fun us s1 ⟨vs, M1, I1, r, q1⟩ => ⟨I1.kIn, ?_⟩) he hpl
  replace q1 : sp vs M1 R F := by simpa using q1
  have ln : us.length = ps.length := r.length.symm.trans (G.len _ _ _ _ q1)
  have bd := hb s1 us I1.kIn (by rw [List.append_nil]; exact ln)
  rw [List.append_nil] at bd
  apply wpAny_call
  apply codeAny_mono (G.go X.A X.stack s1 M1 ⟨us, []⟩ us vs R F gd hr I1.env0 bd r q1)
  intro res s2 h2
  cases res with
  | error er => exact hx pins σ M1 s1 er s2 I1 h2
  | ok fl =>
    cases fl with
    | next => cases h2
    | brk => cases h2
    | cont => cases h2
    | ret u => exact I1.after h2
end
theorem law_go {P : Program} {w : World} {K : PySem.W.Frag} {mg mb : Str → Option Value} {k : Nat} {f a : Addr} {fd : FuncData} {x : Str} {sp : Sp} {t : Shared} {us : List Value} {ns : List Int}
    (inK : K.In t.heap) (gl : t.heap.Ns mainGlobals mg) (bl : t.heap.Ns builtinsNs mb) (bb : ∀ y : Str, y ≠ "__name__" → mb y = bootBuiltins y) (nl : t.heap.NoLimit) (gens : t.gens = #[])
    (obj : t.heap.get? a = some { cls := .type "list", data := .seq us.toArray }) (hints : PyProof.Rows.IntsAre us ns) (short : ns.length ≤ sizeLine) (room : Room k callerA)
    (G : ∀ b0 : Heap, K.In b0 → b0.Ns mainGlobals mg → FnG P w K mg b0 k f fd [x] sp) (binds : ∀ (s : Shared) (u : Value), BindsTo s fd ⟨[u], []⟩ [(x, u)])
    (keeps : ∀ M : Hp, Only M → SqL K M a (ns.map V.int) → sp [.ref a] M (fun v _ => v = .bl true) fun _ _ _ => False) :
    codeAny (model P w) callerA (.call (.ref f) ⟨[.ref a], []⟩) (fun r s => r = .ok (.ret (.bool true)) ∧ PySem.OldK t.heap s.heap ∧ s.os = t.os ∧ PyProof.Rows.AllBare s.gens) t := by
  have rv := vals_ints hints
  have main : ∀ M : Hp, Only M → SqL K M a (ns.map V.int) → HOk P w M t.heap → (∀ c, M c ≠ none → c = a) → (M a ≠ none → K.lookup a = none) →
      codeAny (model P w) callerA (.call (.ref f) ⟨[.ref a], []⟩) (fun r s => r = .ok (.ret (.bool true)) ∧ PySem.OldK t.heap s.heap ∧ s.os = t.os ∧ PyProof.Rows.AllBare s.gens) t := by
    intro M only sq hok onlyA noK
    have hide : ∀ {c : Addr} {o : Obj}, t.heap.get? c = some o → M c = none → (hidT t.heap M).get? c = some o := fun g n => hidT_get g n
    have free : ∀ {c : Addr} {o : Obj}, t.heap.get? c = some o → c ≠ a → M c = none := fun {c o} _ ne => by
      cases q : M c with
      | none => rfl
      | some u => exact absurd (onlyA c (by rw [q]; exact nofun)) ne
    have dictFree : ∀ {c : Addr} {o : Obj} {es : Array DictEntry} {n : Nat}, t.heap.get? c = some o → o.data = .dict es n → M c = none := fun {c o es n} g d => by
      refine free g fun e => ?_
      subst e
      rw [obj] at g
      cases g
      cases d
    have ns' : ∀ {c : Addr} {m : Str → Option Value}, t.heap.Ns c m → (hidT t.heap M).Ns c m := by
      rintro c m ⟨o, es, n, g, d, r⟩
      exact ⟨o, es, n, hide g (dictFree g d), d, r⟩
    have inK' : K.In (hidT t.heap M) := fun c o e => by
      refine hide (inK c o e) ?_
      by_cases ca : c = a
      · subst ca
        cases q : M c with
        | none => rfl
        | some u =>
          rw [noK (by rw [q]; exact nofun)] at e
          cases e
      · exact free (inK c o e) ca
    have mod : Mod K mg (hidT t.heap M) := ⟨inK', ns' gl, ⟨mb, ns' bl, bb⟩, nl.elim fun mc z => ⟨mc, ns' z.1, z.2⟩⟩
    have e0 : Env0 P w K mg (hidT t.heap M) callerA [] t M := ⟨rfl, mod, fun c o e => of_hidT e, Nat.le_of_eq (hidT_size _ _), trivial, fun c hc => (nomatch hc), hok, .of_eq gens⟩
    apply codeAny_mono ((G _ inK' (ns' gl)).go callerA [] t M ⟨[.ref a], []⟩ [.ref a] [.ref a] _ _ rfl room e0 (binds t (.ref a)) (.cons rfl .nil) (keeps M only sq))
    intro r s h
    cases r with
    | error e =>
      obtain ⟨_, _, _, _, _, _, _, _, _, _, _, _, z⟩ := h
      exact z.elim
    | ok fl =>
      cases fl with
      | next => cases h
      | brk => cases h
      | cont => cases h
      | ret u =>
        obtain ⟨v, M', os, bare, un, hok', rel, q⟩ := h
        cases q
        cases rel
        refine ⟨rfl, OldK.of_keep fun c o e => ?_, os, bare⟩
        rcases only c with z | ⟨ob, zs, z⟩
        · exact un.keep c o e z (fun y => nomatch y) (fun y => nomatch y)
        · obtain ⟨g1, _⟩ := hok c _ z
          obtain ⟨g2, _⟩ := hok' c _ (un.frzs c ob _ z)
          rw [e] at g1
          cases g1
          exact g2
  cases hk : K.lookup a with
  | some o =>
    have g := inK a o hk
    rw [obj] at g
    cases g
    exact main (fun _ => none) (fun _ => .inl rfl) (.inr ⟨_, us.toArray, _, hk, rfl, rfl, rfl, by rw [List.size_toArray, hints.length]; exact short, by simpa using rv⟩) (fun c u z => nomatch z) (fun c z => absurd rfl z) fun z => absurd rfl z
  | none =>
    let ob : Obj := { cls := .type "list", data := .seq us.toArray }
    have at_ : ∀ {c : Addr} {u : HO}, (if c = a then some (HO.frz ob (.lst (ns.map V.int))) else none) = some u → c = a ∧ u = .frz ob (.lst (ns.map V.int)) := fun {c u} z => by
      split at z
      · rename_i h
        exact ⟨h, (Option.some.inj z).symm⟩
      · cases z
    refine main (fun c => if c = a then some (.frz ob (.lst (ns.map V.int))) else none) (fun c => ?_) (.inl (.inr ⟨ob, if_pos rfl⟩)) (fun c u z => ?_) (fun c z => ?_) fun _ => hk
    · show (if c = a then _ else none) = none ∨ ∃ o zs, (if c = a then _ else none) = _
      split
      · exact .inr ⟨_, _, rfl⟩
      · exact .inl rfl
    · obtain ⟨rfl, rfl⟩ := at_ z
      exact ⟨obj, by rw [List.length_map]; exact short, us, _, rv, obj⟩
    · cases q : (if c = a then some (HO.frz ob (.lst (ns.map V.int))) else none) with
      | none => exact absurd q z
      | some u => exact (at_ q).1
theorem walk_go {l : PySem.W.OpenLaw} {n k : Nat} {q : Program} {loose : List Str} {XP : (Str → Option Value) → Heap → Prop} {YP : World → Heap → Prop} {d : DefRec} {x : Str}
    (most : l.most = some n) (small : n ≤ sizeLine) (nodef : d.params.defaults = []) (room : Room k callerA)
    (facts : ∀ (w : World) (mg : Str → Option Value) (f : Addr) (h : Heap), YP w h → h.Ns mainGlobals mg → mg d.name = some (.ref f) →
      ∃ (K : PySem.W.Frag) (fd : FuncData) (sp : Sp), K.In h ∧ (∀ (s : Shared) (u : Value), BindsTo s fd ⟨[u], []⟩ [(x, u)]) ∧
        (∀ (M : Hp) (a : Addr) (ns : List Int), ns.length ≤ n → Only M → SqL K M a (ns.map V.int) → sp [.ref a] M (fun v _ => v = .bl true) fun _ _ _ => False) ∧
        ∀ b0 : Heap, K.In b0 → b0.Ns mainGlobals mg → FnG l.prog w K mg b0 k f fd [x] sp) :
    PySem.W.WalkO q loose XP YP l.row.toRowW d [] (fun f vs => PySem.call f vs) := by
  apply Att.attach_call most nodef
  intro w s0 s1 mg mb f o pm cd doc a us ns G Y ho hd code named obj hints len gens
  obtain ⟨K, fd, sp, inK, binds, keeps, fg⟩ := facts w mg f _ Y G.T.g named
  exact law_go inK G.T.g G.T.b G.T.builtins G.T.nolimit gens obj hints (Nat.le_trans len small) room fg binds fun M o sq => keeps M a ns len o sq
end DL
namespace DL
open PySem PySem.Spec L2
open PyProof.Rows (envOfC)
def dChain (g1 g2 : D → D → Option Sl) (fa fb fc : Fe) : Fe := fun ρ => match fa ρ with
  | none => none
  | some (ra, ρ1) => match fb ρ1 with
    | none => none
    | some (rb, ρ2) => match rd ρ2 ra, rd ρ2 rb with
      | some d, some e => match g1 d e with
        | some (.fz (.bl true)) => (match fc ρ2 with
          | none => none
          | some (rc, ρ3) => match rd ρ3 rb, rd ρ3 rc with
            | some e, some w => match g2 e w with
              | some z => some (z, ρ3)
              | none => none
            | _, _ => none)
        | some (.fz (.bl false)) => some (.fz (.bl false), ρ2)
        | _ => none
      | _, _ => none
section
variable {X : Cx} {a b c : Expr} {fa fb fc : Fe} {pos : Pos}
theorem tChain_of {K : PySem.W.Frag} {r r' : R2} {g1 g2 : D → D → Option Sl} (h1 : Op2 K r g1) (h2 : Op2 K r' g2) : ∀ σ H Q, teOf K (dChain g1 g2 fa fb fc) σ H Q → tChain r r' (teOf K fa) (teOf K fb) (teOf K fc) σ H Q := fun σ H Q ⟨G, ρ, z, ρ', gd, e, k⟩ => by
  unfold dChain at e
  split at e
  · cases e
  rename_i ra ρ1 q1
  split at e
  · cases e
  rename_i rb ρ2 q2
  split at e
  · rename_i da db q3 q4
    split at e
    · rename_i q5
      split at e
      · cases e
      rename_i rc ρ3 q6
      split at e
      · rename_i eb ec q7 q8
        split at e
        · rename_i y q9
          cases e
          refine ⟨G, ρ, ra, ρ1, gd, q1, fun va G1 H1 A1 R1 => ⟨G1, ρ1, rb, _, A1.good, q2, fun vb G2 H2 A2 R2 => ?_⟩⟩
          refine h1 A2.good (rd_ok A2.good (R1.aft A2) q3) (rd_ok A2.good R2 q4) q5 fun v G3 H3 A3 R3 => ⟨true, Rp.of_bl R3, iteT ⟨G3, ρ2, rc, _, A3.good, q6, fun vc G4 H4 A4 R4 => ?_⟩⟩
          refine h2 A4.good (rd_ok A4.good ((R2.aft A3).aft A4) q7) (rd_ok A4.good R4 q8) q9 fun v G5 H5 A5 R5 => ?_
          exact k v G5 H5 ((((A1.trans A2).trans A3).trans A4).trans A5) (R5.start (((A1.trans A2).trans A3).trans A4).dom)
        · cases e
      · cases e
    · rename_i q5
      cases e
      refine ⟨G, ρ, ra, ρ1, gd, q1, fun va G1 H1 A1 R1 => ⟨G1, ρ1, rb, _, A1.good, q2, fun vb G2 H2 A2 R2 => ?_⟩⟩
      refine h1 A2.good (rd_ok A2.good (R1.aft A2) q3) (rd_ok A2.good R2 q4) q5 fun v G3 H3 A3 R3 => ⟨false, Rp.of_bl R3, iteF ?_⟩
      exact k _ G3 H3 ((A1.trans A2).trans A3) (.bl false)
    · cases e
  · cases e
theorem de_chain {op op' : CmpOp} {r r' : R2} {g1 g2 : D → D → Option Sl} (o1 : OpR X (compareOp op) r) (h1 : Op2 X.K r g1) (o2 : OpR X (compareOp op') r') (h2 : Op2 X.K r' g2) (ha : DE X a fa) (hb : DE X b fb) (hc : DE X c fc)
    (hm : lastMarks [op, op'] [b, c] = false := by with_unfolding_all rfl) : DE X (.Compare a [op, op'] [b, c] pos) (dChain g1 g2 fa fb fc) := PE.weak (pe_chain o1 o2 ha hb hc hm) (tChain_of h1 h2)
end
end DL
namespace DL
open PySem PySem.Spec L2
open PyProof.Rows (envOfC)
theorem wipe_wipe {σ : L2.St} {vs vs1 : List Nat} (h : ∀ i ∈ vs1, i ∈ vs) : wipe (wipe σ vs1) vs = wipe σ vs :=
  wipe_eq (by rw [wipe_length, wipe_length]) fun i hi => by rw [wipe_out σ i vs hi, wipe_out σ i vs1 fun z => hi (h i z)]
theorem it_gen {J : It} {n : Nat} {G0 : Hp → Prop} {Y : Nat → Hp → V → Hp → Prop} (w : Walk J n G0 Y) {B : V → Hp → (Hp → Prop) → Prop} {H0 : Hp} {Qd : Hp → Prop} (Pv : Nat → Hp → Prop) (h0 : Pv 0 H0) (hG : ∀ i H, i ≤ n → Pv i H → G0 H)
    (hs : ∀ i x H H', i < n → Pv i H → Y i H x H' → B x H' (Pv (i + 1))) (hd : ∀ H, Pv n H → Qd H) :
    ∃ W : Nat → Nat → Hp → Prop, (∃ m, W 0 m H0) ∧ ∀ i m H, W i m H → (J.stop i H ∧ Qd H) ∨ (J.go i H ∧ ∃ Nx : Hp → Prop, (∀ H', Nx H' → ∃ m', m' < m ∧ W (i + 1) m' H') ∧ ∀ x H', J.yld i H x H' → B x H' Nx) := by
  refine ⟨fun i m H => i + m = n ∧ Pv i H, ⟨n, Nat.zero_add n, h0⟩, fun i m H z => ?_⟩
  obtain ⟨hm, p⟩ := z
  have q := hG i H (by omega) p
  rcases Nat.lt_or_ge i n with hlt | hge
  · exact .inr ⟨w.goes i H hlt q, Pv (i + 1), fun H' p' => ⟨m - 1, by omega, by omega, p'⟩, fun x H' y => hs i x H H' hlt p (w.yields i H x H' hlt q y)⟩
  · obtain rfl : i = n := by omega
    exact .inl ⟨w.stops H q, hd H p⟩
theorem lc_inner {K : PySem.W.Frag} {h : Fg} {ft : Ft} {fe : Fe} {vs S : List Nat} (hS : ∀ i ∈ S, i ∈ vs) {J : It} {xs : List D} {G1 H1 : Hp} {σ : L2.St} {ρ1 ρ2 : En} {Gb Hb : Hp} {σb : L2.St} {ρb : En} {accV0 : List V} {acc0 accE : List D} {Dl : Addr} (g1 : Good K G1 H1 σ ρ1) (hb : Hb Dl = none) (A0 : Aft K Gb Hb σb ρb G1 H1 (wipe σ vs) (wipeD ρ1 vs)) (hr : ∀ i m, i ∈ vs → ρb[i]? ≠ some (.rf m))
    (W : ItOk K G1 J xs) (d0 : G1 Dl = none) (n0 : ¬ OwnA σ ρ1 Dl) (h0 : H1 Dl = some (.lst accV0)) (r0 : Rps K G1 accV0 acc0) (e0 : lcL h ft fe vs xs acc0 (wipeD ρ1 vs) = some (accE, ρ2)) {Qd : Hp → Prop}
    (k : ∀ G2 H2 accV, Aft K Gb Hb σb ρb G2 H2 (wipe σ vs) ρ2 → Ex G1 G2 → G2 Dl = none → ¬ OwnA (wipe σ vs) ρ2 Dl → H2 Dl = some (.lst accV) → Rps K G2 accV accE → Qd H2) :
    ∃ W1 : Nat → Nat → Hp → Prop, (∃ m, W1 0 m H1) ∧ ∀ i m H, W1 i m H → (J.stop i H ∧ Qd H) ∨ (J.go i H ∧ ∃ Nx : Hp → Prop, (∀ H', Nx H' → ∃ m', m' < m ∧ W1 (i + 1) m' H') ∧
      ∀ x H', J.yld i H x H' → tgOf K h S x (wipe σ vs) H' fun σ3 H5 => wipe σ3 vs = wipe σ vs ∧ ttOf K ft σ3 H5 fun b H6 => if b = true then tdOf K (dFr fe) σ3 H6 fun y H7 => ∃ acc, H7 Dl = some (.lst acc) ∧ acc.length < sizeLine ∧ Nx (upd H7 Dl (.lst (acc ++ [y]))) else Nx H6) := by
  have nw0 : ¬ OwnA (wipe σ vs) (wipeD ρ1 vs) Dl := fun ⟨j, oj⟩ => n0 ⟨j, (own_wipe g1.len oj).2⟩
  refine it_gen W (B := fun x H' Nx => tgOf K h S x (wipe σ vs) H' fun σ3 H5 => wipe σ3 vs = wipe σ vs ∧ ttOf K ft σ3 H5 fun b H6 => if b = true then tdOf K (dFr fe) σ3 H6 fun y H7 => ∃ acc, H7 Dl = some (.lst acc) ∧ acc.length < sizeLine ∧ Nx (upd H7 Dl (.lst (acc ++ [y]))) else Nx H6)
    (fun i H2 => ∃ G2 ρ3 accV acc, Aft K Gb Hb σb ρb G2 H2 (wipe σ vs) ρ3 ∧ Ex G1 G2 ∧ G2 Dl = none ∧ ¬ OwnA (wipe σ vs) ρ3 Dl ∧ H2 Dl = some (.lst accV) ∧ Rps K G2 accV acc ∧ lcL h ft fe vs (xs.drop i) acc ρ3 = some (accE, ρ2))
    ⟨G1, wipeD ρ1 vs, accV0, acc0, A0, Same.refl _, d0, nw0, h0, r0, by rw [List.drop_zero]; exact e0⟩
    (fun i H2 _ ⟨G2, ρ3, accV, acc, A2, x2, _⟩ => x2.trans A2.good.ex) ?_ ?_
  · rintro i x H2 H3 hi ⟨G2, ρ3, accV, acc, A2, x2, d2, n2, h2, r2, e2⟩ ⟨d, hd, y⟩
    obtain ⟨G3, A3, R3⟩ := ItemY.take A2.good x2 y
    have hlt : i < xs.length := hi
    have hdr : xs.drop i = d :: xs.drop (i + 1) := by
      rw [List.drop_eq_getElem_cons hlt]
      rw [List.getElem?_eq_getElem hlt] at hd
      cases hd
      rfl
    rw [hdr] at e2
    unfold lcL at e2
    cases q3 : h d ρ3 with
    | none => simp only [q3] at e2; cases e2
    | some ρ4 =>
      simp only [q3] at e2
      obtain ⟨k3a, k3b⟩ := A3.keep Dl _ h2 n2
      refine ⟨G3, ρ3, d, ρ4, A3.good, R3, q3, fun σ4 A4 l4 s4 => ⟨wipe_eq l4 fun j hj => s4 j fun z => hj (hS j z), ?_⟩⟩
      obtain ⟨k4a, k4b⟩ := A4.keep Dl _ k3a (A3.nown h2 n2)
      have n4 := A4.nown k3a (A3.nown h2 n2)
      have ew : wipe σ4 vs = wipe σ vs := wipe_eq l4 fun j hj => s4 j fun z => hj (hS j z)
      cases q4 : ft ρ4 with
      | none => simp only [q4] at e2; cases e2
      | some y =>
        obtain ⟨b, ρ5⟩ := y
        simp only [q4] at e2
        refine ⟨G3, ρ4, b, ρ5, A4.good, q4, fun G5 H5 A5 => ?_⟩
        obtain ⟨k5a, k5b⟩ := A5.keep Dl _ k4a n4
        have n5 := A5.nown k4a n4
        have A25 := ((A2.trans A3).trans A4).trans A5
        cases b with
        | false =>
          refine iteF ⟨G5, wipeD ρ5 vs, accV, acc, ?_, (x2.trans A3.ex).trans A5.ex, k5b (k4b (k3b d2 trivial) trivial) trivial, ?_, k5a, r2.up (A3.ex.trans A5.ex), e2⟩
          · have := A25.wipe (vs := vs) hr
            rw [ew] at this
            exact this
          · rw [← ew]
            exact fun ⟨j, oj⟩ => n5 ⟨j, (own_wipe A5.good.len oj).2⟩
        | true =>
          cases q5 : dFr fe ρ5 with
          | none => simp only [q5] at e2; cases e2
          | some y =>
            obtain ⟨y, ρ6⟩ := y
            simp only [q5] at e2
            split at e2
            · rename_i hsz
              refine iteT ⟨G5, ρ5, y, ρ6, A5.good, q5, fun v G6 H6 A6 R6 => ?_⟩
              obtain ⟨k6a, k6b⟩ := A6.keep Dl _ k5a n5
              have n6 := A6.nown k5a n5
              have A26 := A25.trans A6
              have x6 : Ex G2 G6 := (A3.ex.trans A5.ex).trans A6.ex
              have Aw : Aft K Gb Hb σb ρb G6 H6 (wipe σ vs) (wipeD ρ6 vs) := by
                have := A26.wipe (vs := vs) hr
                rw [ew] at this
                exact this
              have nw : ¬ OwnA (wipe σ vs) (wipeD ρ6 vs) Dl := by
                rw [← ew]
                exact fun ⟨j, oj⟩ => n6 ⟨j, (own_wipe A6.good.len oj).2⟩
              have g6 : G6 Dl = none := k6b (k5b (k4b (k3b d2 trivial) trivial) trivial) trivial
              refine ⟨accV, k6a, by rw [r2.len]; exact sz16 hsz, G6, wipeD ρ6 vs, accV ++ [v], acc ++ [y], Aw.mut hb g6 nw, x2.trans x6, g6, nw, upd_same, (r2.up x6).app (.one R6), e2⟩
            · cases e2
  · rintro H2 ⟨G2, ρ3, accV, acc, A2, x2, d2, n2, h2, r2, e2⟩
    rw [List.drop_eq_nil_of_le (Nat.le_refl _)] at e2
    cases e2
    exact k G2 H2 accV A2 x2 d2 n2 h2 r2
def lc2L (h : Fg) (ft : Ft) (fi1 : Fi) (h1 : Fg) (ft1 : Ft) (fe : Fe) (vs vs1 : List Nat) : List D → List D → En → Option (List D × En)
  | [], acc, ρ => some (acc, ρ)
  | d :: ds, acc, ρ => match h d ρ with
    | none => none
    | some ρ1 => match ft ρ1 with
      | none => none
      | some (false, ρ2) => lc2L h ft fi1 h1 ft1 fe vs vs1 ds acc (wipeD ρ2 vs)
      | some (true, ρ2) => match fi1 ρ2 with
        | none => none
        | some (ys, ρ3) => match lcL h1 ft1 fe vs1 ys acc (wipeD ρ3 vs1) with
          | none => none
          | some (acc', ρ4) => lc2L h ft fi1 h1 ft1 fe vs vs1 ds acc' (wipeD ρ4 vs)
def dLc2 (fi : Fi) (h : Fg) (ft : Ft) (fi1 : Fi) (h1 : Fg) (ft1 : Ft) (fe : Fe) (vs vs1 : List Nat) : Fe := fun ρ => match fi ρ with
  | some (xs, ρ1) => match lc2L h ft fi1 h1 ft1 fe vs vs1 xs [] (wipeD ρ1 vs) with
    | some (acc, ρ2) => some (.ow (.l acc), restD ρ1 ρ2 vs)
    | none => none
  | none => none
theorem tLc2_of {K : PySem.W.Frag} {fi fi1 : Fi} {h h1 : Fg} {ft ft1 : Ft} {fe : Fe} {vs S vs1 S1 : List Nat} (hS : ∀ i ∈ S, i ∈ vs) (hS1 : ∀ i ∈ S1, i ∈ vs1) (hv : ∀ i ∈ vs1, i ∈ vs) :
    ∀ σ H Q, teOf K (dLc2 fi h ft fi1 h1 ft1 fe vs vs1) σ H Q → tLc2 (tiOf K fi) (tgOf K h S) (ttOf K ft) (tiOf K fi1) (tgOf K h1 S1) (ttOf K ft1) (tdOf K (dFr fe)) vs vs1 σ H Q := fun σ H Q ⟨G, ρ, z, ρ', g, e, k⟩ => by
  unfold dLc2 at e
  cases q : fi ρ with
  | none => rw [q] at e; cases e
  | some y =>
    obtain ⟨xs, ρ1⟩ := y
    rw [q] at e
    cases q2 : lc2L h ft fi1 h1 ft1 fe vs vs1 xs [] (wipeD ρ1 vs) with
    | none => simp only [q2] at e; cases e
    | some y =>
      obtain ⟨accE, ρ2⟩ := y
      simp only [q2] at e
      cases e
      refine ⟨G, ρ, xs, ρ1, g, q, fun J G1 H1 A1 W Dl hD => ?_⟩
      have gw : Good K G1 H1 (wipe σ vs) (wipeD ρ1 vs) := A1.good.wipe
      have hr : ∀ i m, i ∈ vs → (wipeD ρ1 vs)[i]? ≠ some (.rf m) := fun i m hi z => by
        have l : i < ρ1.length := by
          have := (List.getElem?_eq_some_iff.mp z).1
          rw [wipeD_len] at this
          exact this
        rw [wipeD_in ρ1 i l vs hi] at z
        cases z
      refine it_gen W (B := fun x H' Nx => tgOf K h S x (wipe σ vs) H' fun σ2 H2 => wipe σ2 vs = wipe σ vs ∧ ttOf K ft σ2 H2 fun b H3 =>
          if b = true then tiOf K fi1 σ2 H3 fun J1 H4 => ∃ W1 : Nat → Nat → Hp → Prop, (∃ m, W1 0 m H4) ∧ ∀ j k H, W1 j k H →
            (J1.stop j H ∧ Nx H) ∨ (J1.go j H ∧ ∃ Nx1 : Hp → Prop, (∀ H', Nx1 H' → ∃ k', k' < k ∧ W1 (j + 1) k' H') ∧ ∀ x H', J1.yld j H x H' → tgOf K h1 S1 x (wipe σ2 vs1) H' fun σ3 H5 => wipe σ3 vs1 = wipe σ2 vs1 ∧ ttOf K ft1 σ3 H5 fun b H6 =>
              if b = true then tdOf K (dFr fe) σ3 H6 fun y H7 => ∃ acc, H7 Dl = some (.lst acc) ∧ acc.length < sizeLine ∧ Nx1 (upd H7 Dl (.lst (acc ++ [y]))) else Nx1 H6)
          else Nx H3)
        (fun i H2 => ∃ G2 ρ3 accV acc, Aft K G1 H1 (wipe σ vs) (wipeD ρ1 vs) G2 H2 (wipe σ vs) ρ3 ∧ Ex G1 G2 ∧ G2 Dl = none ∧ ¬ OwnA (wipe σ vs) ρ3 Dl ∧ H2 Dl = some (.lst accV) ∧ Rps K G2 accV acc ∧ lc2L h ft fi1 h1 ft1 fe vs vs1 (xs.drop i) acc ρ3 = some (accE, ρ2))
        ⟨G1, wipeD ρ1 vs, [], [], (Aft.refl gw).mut hD (gw.ex.free hD) (gw.notOwn hD), Same.refl _, gw.ex.free hD, gw.notOwn hD, upd_same, .nil, by rw [List.drop_zero]; exact q2⟩
        (fun i H2 _ ⟨G2, ρ3, accV, acc, A2, x2, _⟩ => x2.trans A2.good.ex) ?_ ?_
      · rintro i x H2 H3 hi ⟨G2, ρ3, accV, acc, A2, x2, d2, n2, h2, r2, e2⟩ ⟨d, hd, y⟩
        obtain ⟨G3, A3, R3⟩ := ItemY.take A2.good x2 y
        have hlt : i < xs.length := hi
        have hdr : xs.drop i = d :: xs.drop (i + 1) := by
          rw [List.drop_eq_getElem_cons hlt]
          rw [List.getElem?_eq_getElem hlt] at hd
          cases hd
          rfl
        rw [hdr] at e2
        unfold lc2L at e2
        cases q3 : h d ρ3 with
        | none => simp only [q3] at e2; cases e2
        | some ρ4 =>
          simp only [q3] at e2
          obtain ⟨k3a, k3b⟩ := A3.keep Dl _ h2 n2
          refine ⟨G3, ρ3, d, ρ4, A3.good, R3, q3, fun σ4 A4 l4 s4 => ⟨wipe_eq l4 fun j hj => s4 j fun z => hj (hS j z), ?_⟩⟩
          obtain ⟨k4a, k4b⟩ := A4.keep Dl _ k3a (A3.nown h2 n2)
          have n4 := A4.nown k3a (A3.nown h2 n2)
          have ew : wipe σ4 vs = wipe σ vs := wipe_eq l4 fun j hj => s4 j fun z => hj (hS j z)
          cases q4 : ft ρ4 with
          | none => simp only [q4] at e2; cases e2
          | some y =>
            obtain ⟨b, ρ5⟩ := y
            simp only [q4] at e2
            refine ⟨G3, ρ4, b, ρ5, A4.good, q4, fun G5 H5 A5 => ?_⟩
            obtain ⟨k5a, k5b⟩ := A5.keep Dl _ k4a n4
            have n5 := A5.nown k4a n4
            have A25 := ((A2.trans A3).trans A4).trans A5
            cases b with
            | false =>
              refine iteF ⟨G5, wipeD ρ5 vs, accV, acc, ?_, (x2.trans A3.ex).trans A5.ex, k5b (k4b (k3b d2 trivial) trivial) trivial, ?_, k5a, r2.up (A3.ex.trans A5.ex), e2⟩
              · have := A25.wipe (vs := vs) hr
                rw [ew] at this
                exact this
              · rw [← ew]
                exact fun ⟨j, oj⟩ => n5 ⟨j, (own_wipe A5.good.len oj).2⟩
            | true =>
              cases q5 : fi1 ρ5 with
              | none => simp only [q5] at e2; cases e2
              | some y =>
                obtain ⟨ys, ρ6⟩ := y
                simp only [q5] at e2
                cases q6 : lcL h1 ft1 fe vs1 ys acc (wipeD ρ6 vs1) with
                | none => simp only [q6] at e2; cases e2
                | some y =>
                  obtain ⟨acc', ρ7⟩ := y
                  simp only [q6] at e2
                  refine iteT ⟨G5, ρ5, ys, ρ6, A5.good, q5, fun J1 G6 H6 A6 W1 => ?_⟩
                  obtain ⟨k6a, k6b⟩ := A6.keep Dl _ k5a n5
                  have n6 := A6.nown k5a n5
                  have A26 := A25.trans A6
                  have x6 : Ex G2 G6 := (A3.ex.trans A5.ex).trans A6.ex
                  have g6 : G6 Dl = none := k6b (k5b (k4b (k3b d2 trivial) trivial) trivial) trivial
                  have hr1 : ∀ i m, i ∈ vs1 → (wipeD ρ1 vs)[i]? ≠ some (.rf m) := fun i m hi => hr i m (hv i hi)
                  refine lc_inner hS1 A6.good hD (A26.wipe hr1) hr1 W1 g6 n6 k6a (r2.up x6) q6 fun G7 H7 accV7 A7 x7 d7 n7 h7 r7 => ?_
                  have ew2 : wipe (wipe σ4 vs1) vs = wipe σ vs := (wipe_wipe hv).trans ew
                  refine ⟨G7, wipeD ρ7 vs, accV7, acc', ?_, (x2.trans x6).trans x7, d7, ?_, h7, r7, e2⟩
                  · have := A7.wipe (vs := vs) hr
                    rw [ew2] at this
                    exact this
                  · rw [← ew2]
                    exact fun ⟨j, oj⟩ => n7 ⟨j, (own_wipe A7.good.len oj).2⟩
      · rintro H2 ⟨G2, ρ3, accV, acc, A2, x2, d2, n2, h2, r2, e2⟩
        rw [List.drop_eq_nil_of_le (Nat.le_refl _)] at e2
        cases e2
        have Ar := Aft.rest A1.good A2
        refine k (.ref Dl) G2 H2 (A1.trans Ar) ⟨Dl, _, rfl, A1.back hD, d2, h2, .l r2, fun ⟨j, oj1, oj2⟩ => ?_⟩
        have l2 : ρ2.length = ρ1.length := by
          have := A2.good.len
          rw [wipe_length] at this
          rw [← this]
          exact A1.good.len
        by_cases hv : j ∈ vs
        · have l : j < ρ2.length := by
            rw [l2, ← A1.good.len]
            exact (List.getElem?_eq_some_iff.mp oj1).1
          rw [restD_in ρ1 ρ2 j l l2.symm vs hv] at oj2
          obtain ⟨_, u, e⟩ := Own.there A1.good ⟨oj1, oj2⟩
          rw [hD] at e
          cases e
        · rw [restD_out ρ1 ρ2 j vs hv] at oj2
          exact n2 ⟨j, by rw [wipe_out σ j vs hv]; exact oj1, oj2⟩
section
variable {X : Cx} {elt tg iter tg1 iter1 : Expr} {ifs ifs1 : List Expr} {scope : Scope} {own : List (Str × Nat)} {vs1 : List Nat} {pos spos : Pos} {fi fi1 : Fi} {h h1 : Fg} {S S1 : List Nat} {ft ft1 : Ft} {fe : Fe}
theorem de_lc2 (hc : X.calm = true) (hN : X.N.Nodup) (hi : DI X tg iter fi) (ok : BlkOk X.N X.env.scope scope own)
    (hg : ∀ (s : Shared) (H : Hp) (C : Addr) (cl : List (Str × Addr)) (fp : List Addr), DG (X.blk s H scope (compEnvC scope cl C X.env) fp) tg h S) (ht : ∀ (s : Shared) (H : Hp) (C : Addr) (cl : List (Str × Addr)) (fp : List Addr), DTs (X.blk s H scope (compEnvC scope cl C X.env) fp) ifs ft)
    (hi1 : ∀ (s : Shared) (H : Hp) (C : Addr) (cl : List (Str × Addr)) (fp : List Addr), DI (X.blk s H scope (compEnvC scope cl C X.env) fp) tg1 iter1 fi1)
    (hg1 : ∀ (s : Shared) (H : Hp) (C : Addr) (cl : List (Str × Addr)) (fp : List Addr), DG (X.blk s H scope (compEnvC scope cl C X.env) fp) tg1 h1 S1) (ht1 : ∀ (s : Shared) (H : Hp) (C : Addr) (cl : List (Str × Addr)) (fp : List Addr), DTs (X.blk s H scope (compEnvC scope cl C X.env) fp) ifs1 ft1)
    (he : ∀ (s : Shared) (H : Hp) (C : Addr) (cl : List (Str × Addr)) (fp : List Addr), DE (X.blk s H scope (compEnvC scope cl C X.env) fp) elt fe)
    (hv : ∀ i ∈ vs1, i ∈ own.map (·.2) := by decide) (hS : ∀ i ∈ S, i ∈ own.map (·.2) := by decide) (hS1 : ∀ i ∈ S1, i ∈ vs1 := by decide) (hs : ∀ x, foldedSetIterable iter X.env x = pure x := by intro _; rfl) (hs1 : ∀ env x, foldedSetIterable iter1 env x = pure x := by intro _ _; rfl) :
    DE X (.ListComp elt [⟨tg, iter, ifs, 0⟩, ⟨tg1, iter1, ifs1, 0⟩] scope pos) (dLc2 fi h ft fi1 h1 ft1 fe (own.map (·.2)) vs1) :=
  PE.weak (pe_lc2 hc hN hi ok hv hg ht hi1 hg1 ht1 (fun s H C cl fp => de_fr (he s H C cl fp)) hs hs1) (tLc2_of hS hS1 hv)
theorem ds_setLc2 {E : XK} {i : Nat} {y : Str} {py : Pos} (hc : X.calm = true) (hN : X.N.Nodup) (hy : X.N[i]? = some y) (hyl : X.env.scope.names.lookup y = some .local)
    (hsw : swapsWith (.ListComp elt [⟨tg, iter, ifs, 0⟩, ⟨tg1, iter1, ifs1, 0⟩] scope pos) (some (.Name y py)) spos.line X.env = pure true) (hi : DI X tg iter fi) (ok : BlkOk X.N X.env.scope scope own)
    (hg : ∀ (s : Shared) (H : Hp) (C : Addr) (cl : List (Str × Addr)) (fp : List Addr), DG (X.blk s H scope (compEnvC scope cl C X.env) fp) tg h S) (ht : ∀ (s : Shared) (H : Hp) (C : Addr) (cl : List (Str × Addr)) (fp : List Addr), DTs (X.blk s H scope (compEnvC scope cl C X.env) fp) ifs ft)
    (hi1 : ∀ (s : Shared) (H : Hp) (C : Addr) (cl : List (Str × Addr)) (fp : List Addr), DI (X.blk s H scope (compEnvC scope cl C X.env) fp) tg1 iter1 fi1)
    (hg1 : ∀ (s : Shared) (H : Hp) (C : Addr) (cl : List (Str × Addr)) (fp : List Addr), DG (X.blk s H scope (compEnvC scope cl C X.env) fp) tg1 h1 S1) (ht1 : ∀ (s : Shared) (H : Hp) (C : Addr) (cl : List (Str × Addr)) (fp : List Addr), DTs (X.blk s H scope (compEnvC scope cl C X.env) fp) ifs1 ft1)
    (he : ∀ (s : Shared) (H : Hp) (C : Addr) (cl : List (Str × Addr)) (fp : List Addr), DE (X.blk s H scope (compEnvC scope cl C X.env) fp) elt fe)
    (hv : ∀ i ∈ vs1, i ∈ own.map (·.2) := by decide) (hS : ∀ i ∈ S, i ∈ own.map (·.2) := by decide) (hS1 : ∀ i ∈ S1, i ∈ vs1 := by decide) (hs : ∀ x, foldedSetIterable iter X.env x = pure x := by intro _; rfl) (hs1 : ∀ env x, foldedSetIterable iter1 env x = pure x := by intro _ _; rfl) :
    DS X E (.Assign [.Name y py] (.ListComp elt [⟨tg, iter, ifs, 0⟩, ⟨tg1, iter1, ifs1, 0⟩] scope pos) spos) (bAsg i (dLc2 fi h ft fi1 h1 ft1 fe (own.map (·.2)) vs1)) :=
  PS.weak (ps_setLc2 hc hN hy hyl hsw hi ok hv hg ht hi1 hg1 ht1 (fun s H C cl fp => de_fr (he s H C cl fp)) hs hs1) fun D σ H q => tLc2_of hS hS1 hv σ H _ (tAsg_of D σ H q)
end
end DL
namespace DL
open PySem PySem.Spec L2
open PyProof.Rows (envOfC)
theorem rps_map {α : Type} {K : PySem.W.Frag} {G : Hp} {f : α → V} {g : α → D} (h : ∀ x, Rp K G (f x) (g x)) : ∀ l : List α, Rps K G (l.map f) (l.map g)
  | [] => .nil
  | x :: l => .cons (h x) (rps_map h l)
theorem rps_rg {K : PySem.W.Frag} {G : Hp} (a b : Int) : Rps K G (rgV a b) (rangeD a (b - a).toNat) := rps_map (fun _ => .int _) _
def dLRg1 (f : Fe) : Fe := fun ρ => match f ρ with
  | some (.fz (.int n), ρ1) => if n ≤ 1000000 ∧ -1000000 ≤ n then some (.ow (.l (rangeD 0 n.toNat)), ρ1) else none
  | _ => none
section
variable {X : Cx} {a b : Expr} {fa fb : Fe} {p p2 pos pos2 : Pos}
theorem de_lrg1 (hc : X.calm = true) (hg : Gl X "list") (hm : X.mg "list" = none) (hg2 : Gl X "range") (hm2 : X.mg "range" = none) (ha : DE X a fa)
    (na : starEach [a] X.env = (false, eval a X.env) :: starEach [] X.env := by rfl) (nb : starEach [.Call (.Name "range" p2) [a] [] pos2] X.env = (false, eval (.Call (.Name "range" p2) [a] [] pos2) X.env) :: starEach [] X.env := by rfl) :
    DE X (.Call (.Name "list" p) [.Call (.Name "range" p2) [a] [] pos2] [] pos) (dLRg1 fa) := PE.weak (pe_listRg hc hg hm (prg_1 hg2 hm2 ha na) nb) fun σ H Q ⟨G, ρ, z, ρ', g, e, k⟩ => by
  unfold dLRg1 at e
  split at e
  · rename_i n ρ1 q
    split at e
    · rename_i hb
      cases e
      refine ⟨G, ρ, _, _, g, q, fun v G1 H1 A1 R1 => ⟨n, Rp.of_int R1, ⟨by omega, by omega, by omega, by omega, by omega⟩, ?_⟩⟩
      have r := rps_rg (K := X.K) (G := G1) 0 n
      rw [Int.sub_zero] at r
      exact giveL A1.good r fun v G' H' A R => k v G' H' (A1.trans A) (R.start A1.dom)
    · cases e
  · cases e
end
def kOf : D → Option Key
  | .int i => some (.inl i)
  | .str s => some (.inr s)
  | _ => none
def ksOf : List D → Option (List Key)
  | [] => some []
  | d :: ds => match kOf d, ksOf ds with
    | some k, some ks => some (k :: ks)
    | _, _ => none
section
variable {κ : Type} [DecidableEq κ]
def valD (xs : List (κ × D)) (k : κ) : Option D := (xs.find? fun p => decide (p.1 = k)).map (·.2)
def putD (xs : List (κ × D)) (k : κ) (v : D) : List (κ × D) := if (xs.any fun p => decide (p.1 = k)) = true then xs.map (fun p => if p.1 = k then (p.1, v) else p) else xs ++ [(k, v)]
variable {K : PySem.W.Frag} {G : Hp}
theorem RpKV.val {k : κ} : ∀ {vs : List (κ × V)} {ds : List (κ × D)}, RpKV K G vs ds → ∀ {d : D}, valD ds k = some d → ∃ v, valV vs k = some v ∧ Rp K G v d
  | _, _, .nil, _, e => by cases e
  | _, _, .cons (k := k1) (v := v) (d := d0) (vs := vs) (ds := ds) h t, d, e => by
    unfold valD at e
    unfold valV
    rw [List.find?_cons] at e ⊢
    by_cases c : k1 = k
    · simp only [decide_eq_true c] at e ⊢
      cases e
      exact ⟨v, rfl, h⟩
    · simp only [decide_eq_false c] at e ⊢
      exact RpKV.val t e
theorem RpKV.isSome {k : κ} : ∀ {vs : List (κ × V)} {ds : List (κ × D)}, RpKV K G vs ds → (valV vs k).isSome = (valD ds k).isSome
  | _, _, .nil => rfl
  | _, _, .cons (k := k1) (v := v) (d := d0) (vs := vs) (ds := ds) h t => by
    unfold valD valV
    rw [List.find?_cons, List.find?_cons]
    by_cases c : k1 = k
    · simp only [decide_eq_true c]
      rfl
    · simp only [decide_eq_false c]
      exact RpKV.isSome t
theorem RpKV.len : ∀ {vs : List (κ × V)} {ds : List (κ × D)}, RpKV K G vs ds → vs.length = ds.length
  | _, _, .nil => rfl
  | _, _, .cons h t => congrArg (· + 1) (RpKV.len t)
theorem RpKV.app : ∀ {vs : List (κ × V)} {ds : List (κ × D)} {vs' : List (κ × V)} {ds' : List (κ × D)}, RpKV K G vs ds → RpKV K G vs' ds' → RpKV K G (vs ++ vs') (ds ++ ds')
  | _, _, _, _, .nil, h => h
  | _, _, _, _, .cons h t, h' => .cons h (RpKV.app t h')
theorem RpKV.any {k : κ} : ∀ {vs : List (κ × V)} {ds : List (κ × D)}, RpKV K G vs ds → (vs.any fun p => decide (p.1 = k)) = (ds.any fun p => decide (p.1 = k))
  | _, _, .nil => rfl
  | _, _, .cons h t => by rw [List.any_cons, List.any_cons, RpKV.any t]
theorem RpKV.store {k : κ} {v : V} {d : D} (r : Rp K G v d) : ∀ {vs : List (κ × V)} {ds : List (κ × D)}, RpKV K G vs ds → RpKV K G (vs.map fun p => if p.1 = k then (p.1, v) else p) (ds.map fun p => if p.1 = k then (p.1, d) else p)
  | _, _, .nil => .nil
  | _, _, .cons (k := k1) h t => by
    rw [List.map_cons, List.map_cons]
    by_cases c : k1 = k
    · simp only [c, ↓reduceIte]
      exact .cons r (RpKV.store r t)
    · simp only [c, ↓reduceIte]
      exact .cons h (RpKV.store r t)
theorem RpKV.put {k : κ} {v : V} {d : D} {vs : List (κ × V)} {ds : List (κ × D)} (h : RpKV K G vs ds) (r : Rp K G v d) : RpKV K G (putK vs k v) (putD ds k d) := by
  unfold putK putD
  rw [RpKV.any h]
  split
  · exact RpKV.store r h
  · exact RpKV.app h (.cons r .nil)
end
theorem kOf_rp {K : PySem.W.Frag} {G : Hp} {v : V} {d : D} {k : Key} (r : Rp K G v d) (e : kOf d = some k) : v = kV k := by
  cases r <;> cases e <;> rfl
theorem kOf_vw {K : PySem.W.Frag} {G H : Hp} {v : V} {d : D} {k : Key} (r : Vw K G H v d) (e : kOf d = some k) : v = kV k := by
  unfold kOf at e
  split at e
  · cases e; exact r.int
  · cases e; exact r.str
  · cases e
theorem ksOf_rps {K : PySem.W.Frag} {G : Hp} : ∀ {vs : List V} {ds : List D} {ks : List Key}, Rps K G vs ds → ksOf ds = some ks → vs = ks.map kV
  | _, _, _, .nil, e => by cases e; rfl
  | _, _, _, .cons (d := d) (ds := ds) r t, e => by
    unfold ksOf at e
    split at e
    · rename_i k ks q1 q2
      cases e
      rw [kOf_rp r q1, ksOf_rps t q2]
      rfl
    · cases e
def heldM : Option Sl → Option Mu
  | some (.ow m) => some m
  | some (.rf m) => some m
  | _ => none
theorem heldM_ok {o : Option Sl} {m : Mu} (h : heldM o = some m) : ∃ r, o = some r ∧ Held r m := by
  unfold heldM at h
  split at h
  · cases h; exact ⟨_, rfl, .ow _⟩
  · cases h; exact ⟨_, rfl, .rf _⟩
  · cases h
theorem held_atM {K : PySem.W.Frag} {G H : Hp} {σ : L2.St} {ρ : En} {i : Nat} {m : Mu} (g : Good K G H σ ρ) (h : heldM ρ[i]? = some m) : ∃ p o, σ[i]? = some (some (.ref p)) ∧ H p = some o ∧ MuOk K G p o m ∧
    (∀ o' m', MuOk K G p o' m' → Aft K G H σ ρ G (upd H p o') σ (putS ρ i m')) := by
  obtain ⟨r, e, hh⟩ := heldM_ok h
  have hi : i < σ.length := by
    rw [g.len]
    exact (List.getElem?_eq_some_iff.mp e).1
  have hs : σ[i]? = some σ[i] := List.getElem?_eq_getElem hi
  have s := g.sl i _ _ hs e
  have s' : ∃ p o, σ[i] = some (.ref p) ∧ G p = none ∧ H p = some o ∧ MuOk K G p o m := by
    cases hh with
    | ow => exact s
    | rf => exact s
  obtain ⟨p, o, e1, e2, e3, e4⟩ := s'
  rw [e1] at hs
  refine ⟨p, o, hs, e3, e4, fun o' m' r' => ?_⟩
  have := Aft.change (o := o') (m' := m') g hs e hh r'
  unfold putS
  rw [e]
  exact this
def mGet : Mu → D → Option (Option D)
  | .k xs, d => (kOf d).map fun k => valD xs k
  | .t xs, .tup ds => (ksOf ds).map fun k => valD xs k
  | .at _ xs, d => (kOf d).map fun k => valD xs k
  | _, _ => none
def mPut : Mu → D → D → Option Mu
  | .k xs, d, v => if xs.length ≤ lim then (kOf d).map fun k => .k (putD xs k v) else none
  | .t xs, .tup ds, v => if xs.length ≤ lim then (ksOf ds).map fun k => .t (putD xs k v) else none
  | .at q xs, d, v => if xs.length ≤ lim then (kOf d).map fun k => .at q (putD xs k v) else none
  | _, _, _ => none
theorem mGet_ok {K : PySem.W.Frag} {G H : Hp} {p : Addr} {o : HO} {m : Mu} {y : V} {d : D} {r : Option D} (ex : Ex G H) (hp : H p = some o) (ok : MuOk K G p o m) (hy : Vw K G H y d) (e : mGet m d = some r) :
    ∃ w, DGet H p y w ∧ w.isSome = r.isSome ∧ ∀ v, r = some v → ∃ u, w = some u ∧ Rp K G u v := by
  unfold mGet at e
  cases ok with
  | w _ _ => cases e
  | w0 => cases e
  | l h => cases e
  | ob _ _ => cases e
  | @«at» vs xs h =>
    cases q : kOf d with
    | none => simp only [q, Option.map_none] at e; cases e
    | some k =>
      simp only [q, Option.map_some] at e
      cases e
      have ey : y = kV k := kOf_vw hy q
      exact ⟨_, .inl ⟨vs, k, .inl hp, ey, rfl⟩, RpKV.isSome h, fun v e => RpKV.val h e⟩
  | @k vs xs h =>
    cases q : kOf d with
    | none => simp only [q, Option.map_none] at e; cases e
    | some k =>
      simp only [q, Option.map_some] at e
      cases e
      have ey : y = kV k := kOf_vw hy q
      exact ⟨_, .inl ⟨vs, k, .inl hp, ey, rfl⟩, RpKV.isSome h, fun v e => RpKV.val h e⟩
  | @t vs xs h =>
    cases d with
    | tup ds =>
      cases q : ksOf ds with
      | none => simp only [q, Option.map_none] at e; cases e
      | some k =>
        simp only [q, Option.map_some] at e
        cases e
        obtain ⟨b, us, rfl, h0, h1, h2⟩ := hy.tup ex
        exact ⟨_, .inr ⟨vs, k, b, .inl hp, rfl, by rw [h1, ksOf_rps h2 q], rfl⟩, RpKV.isSome h, fun v e => RpKV.val h e⟩
    | _ => cases e
theorem mPut_ok {K : PySem.W.Frag} {G H : Hp} {p : Addr} {o : HO} {m m' : Mu} {y u : V} {d v : D} (ex : Ex G H) (hp : H p = some o) (ok : MuOk K G p o m) (hy : Vw K G H y d) (hu : Rp K G u v) (e : mPut m d v = some m') :
    ∃ o', DPut H p y u (upd H p o') ∧ MuOk K G p o' m' := by
  cases ok with
  | w _ _ => cases e
  | w0 => cases e
  | l h => cases e
  | ob _ _ => cases e
  | @«at» vs xs h =>
    replace e : (if xs.length ≤ lim then (kOf d).map fun k => Mu.at p (putD xs k v) else none) = some m' := e
    split at e
    · rename_i hl
      cases q : kOf d with
      | none => simp only [q, Option.map_none] at e; cases e
      | some k =>
        simp only [q, Option.map_some] at e
        cases e
        exact ⟨_, .inl ⟨vs, k, hp, kOf_vw hy q, by rw [RpKV.len h, sizeLine_eq]; unfold lim at hl; omega, rfl⟩, .at (RpKV.put h hu)⟩
    · cases e
  | @k vs xs h =>
    replace e : (if xs.length ≤ lim then (kOf d).map fun k => Mu.k (putD xs k v) else none) = some m' := e
    split at e
    · rename_i hl
      cases q : kOf d with
      | none => simp only [q, Option.map_none] at e; cases e
      | some k =>
        simp only [q, Option.map_some] at e
        cases e
        exact ⟨_, .inl ⟨vs, k, hp, kOf_vw hy q, by rw [RpKV.len h, sizeLine_eq]; unfold lim at hl; omega, rfl⟩, .k (RpKV.put h hu)⟩
    · cases e
  | @t vs xs h =>
    cases d with
    | tup ds =>
      replace e : (if xs.length ≤ lim then (ksOf ds).map fun k => Mu.t (putD xs k v) else none) = some m' := e
      split at e
      · rename_i hl
        cases q : ksOf ds with
        | none => simp only [q, Option.map_none] at e; cases e
        | some k =>
          simp only [q, Option.map_some] at e
          cases e
          obtain ⟨b, us, rfl, h0, h1, h2⟩ := hy.tup ex
          exact ⟨_, .inr ⟨vs, k, b, hp, rfl, by rw [h1, ksOf_rps h2 q], by rw [RpKV.len h, sizeLine_eq]; unfold lim at hl; omega, rfl⟩, .t (RpKV.put h hu)⟩
      · cases e
    | _ => cases e
def dDGet (i : Nat) (fk : Fe) : Fe := fun ρ => match heldM ρ[i]? with
  | none => none
  | some _ => match fk ρ with
    | none => none
    | some (rk, ρ1) => match rd ρ1 rk, heldM ρ1[i]? with
      | some d, some m => match mGet m d with
        | some (some v) => some (.fz v, ρ1)
        | _ => none
      | _, _ => none
def dDIn (neg : Bool) (i : Nat) (fk : Fe) : Fe := fun ρ => match fk ρ with
    | none => none
    | some (rk, ρ1) => match rd ρ1 rk, heldM ρ1[i]? with
      | some d, some m => match mGet m d with
        | some o => some (.fz (.bl (neg ^^ o.isSome)), ρ1)
        | _ => none
      | _, _ => none
def bDPut (i : Nat) (fk fv : Fe) : Fs := fun ρ => match dFr fv ρ with
  | none => none
  | some (v, ρ1) => match heldM ρ1[i]? with
    | none => none
    | some _ => match fk ρ1 with
      | none => none
      | some (rk, ρ2) => match rd ρ2 rk, heldM ρ2[i]? with
        | some d, some m => match mPut m d v with
          | some m' => some (.nx, putS ρ2 i m')
          | none => none
        | _, _ => none
section
variable {X : Cx} {o i e : Expr} {fk fv : Fe} {n : Nat} {pos pos' : Pos}
theorem de_dget (hu : X.A.units + 65 < cLine) (ho : PE X o (tVar n)) (hi : DE X i fk) (hs : NoSl i := by intro _ _; rfl) : DE X (.Subscript o i pos) (dDGet n fk) := PE.weak (pe_dget (by omega) ho hi hs) fun σ H Q ⟨G, ρ, z, ρ', g, e, k⟩ => by
  unfold dDGet at e
  split at e
  · cases e
  rename_i m0 q0
  split at e
  · cases e
  rename_i rk ρ1 q1
  split at e
  · rename_i d m q2 q3
    split at e
    · rename_i v q4
      cases e
      obtain ⟨p, o, e1, e2, e3, _⟩ := held_atM g q0
      refine ⟨.ref p, e1, G, ρ, rk, _, g, q1, fun y G1 H1 A1 R1 => ?_⟩
      obtain ⟨p', o', e4, e5, e6, _⟩ := held_atM A1.good q3
      rw [e1] at e4
      cases e4
      obtain ⟨w, dg, _, hv⟩ := mGet_ok A1.good.ex e5 e6 (rd_ok A1.good R1 q2) q4
      obtain ⟨u, rfl, ru⟩ := hv v rfl
      exact ⟨p, u, rfl, dg, k u G1 H1 A1 ru⟩
    · cases e
  · cases e
theorem dDIn_of {K : PySem.W.Frag} {neg : Bool} : ∀ σ H Q, teOf K (dDIn neg n fk) σ H Q → (teOf K fk) σ H fun y H1 => tVar n σ H1 fun x H2 => ∃ a o, x = .ref a ∧ DGet H2 a y o ∧ Q (.bl (neg ^^ o.isSome)) H2 := fun σ H Q ⟨G, ρ, z, ρ', g, e, k⟩ => by
  unfold dDIn at e
  split at e
  · cases e
  rename_i rk ρ1 q1
  split at e
  · rename_i d m q2 q3
    split at e
    · rename_i r q4
      cases e
      refine ⟨G, ρ, rk, _, g, q1, fun y G1 H1 A1 R1 => ?_⟩
      obtain ⟨p, o, e1, e2, e3, _⟩ := held_atM A1.good q3
      obtain ⟨w, dg, hs, _⟩ := mGet_ok A1.good.ex e2 e3 (rd_ok A1.good R1 q2) q4
      refine ⟨.ref p, e1, p, w, rfl, dg, ?_⟩
      rw [hs]
      exact k _ G1 H1 A1 (.bl _)
    · cases e
  · cases e
theorem dc_notin (hu : X.A.units + 65 < cLine) (hi : DE X i fk) (ho : PE X o (tVar n)) : PC X .NotIn i o (teOf X.K (dDIn true n fk)) :=
  ⟨fun pins s σ H Q I h => (pc_dnotin (by omega) hi ho).run pins s σ H Q I (by simpa [tDNotIn, Bool.true_xor] using dDIn_of σ H Q h)⟩
theorem dt_dnotin (hu : X.A.units + 65 < cLine) (hi : DE X i fk) (ho : PE X o (tVar n)) (hm : behindInMarks .NotIn o = false := by rfl) : DT X (.Compare i [.NotIn] [o] pos) (dTst (dDIn true n fk)) := PT.weak (pt_cmp (dc_notin hu hi ho) hm) fun σ H Q q => tTest_of σ H Q q
theorem ds_dput {E : XK} (hu : X.A.units + 65 < cLine) (ho : PE X o (tVar n)) (hi : DE X i fk) (hv : DE X e fv) (hs : swapsWith e (some (.Subscript o i pos')) pos.line X.env = pure false := by rfl) :
    DS X E (.Assign [.Subscript o i pos'] e pos) (bDPut n fk fv) := PS.weak (ps_dput (by omega) ho hi (de_fr hv) hs) fun D σ H ⟨G, ρ, fl, ρ', g, e, k⟩ => by
  unfold bDPut at e
  split at e
  · cases e
  rename_i v ρ1 q1
  split at e
  · cases e
  rename_i m0 q0
  split at e
  · cases e
  rename_i rk ρ2 q2
  split at e
  · rename_i d m q3 q4
    split at e
    · rename_i m' q5
      cases e
      refine ⟨G, ρ, v, ρ1, g, q1, fun u G1 H1 A1 R1 => ?_⟩
      obtain ⟨p, o, e1, e2, e3, _⟩ := held_atM A1.good q0
      refine ⟨.ref p, e1, G1, ρ1, rk, ρ2, A1.good, q2, fun y G2 H2 A2 R2 => ?_⟩
      obtain ⟨p', o', e4, e5, e6, ch⟩ := held_atM A2.good q4
      rw [e1] at e4
      cases e4
      obtain ⟨o2, dp, ok⟩ := mPut_ok A2.good.ex e5 e6 (rd_ok A2.good R2 q3) (R1.up A2.ex) q5
      exact ⟨p, _, rfl, dp, k σ G2 _ ((A1.trans A2).trans (ch o2 m' ok))⟩
    · cases e
  · cases e
end
def eDict (m : Mu) : Fe := fun ρ => some (.ow m, ρ)
theorem giveM {K : PySem.W.Frag} {G H : Hp} {σ : L2.St} {ρ : En} {Q : VK} {o : HO} {m : Mu} (g : Good K G H σ ρ) (r : ∀ p, MuOk K G p o m) (k : ∀ v G' H', Aft K G H σ ρ G' H' σ ρ → ROk K H G' H' σ ρ v (.ow m) → Q v H') : ∀ p, H p = none → Q (.ref p) (upd H p o) := fun p hp => by
  have gp : G p = none := g.ex.free hp
  exact k (.ref p) G _ ((Aft.refl g).mut hp gp (g.notOwn hp)) ⟨p, _, rfl, hp, gp, upd_same, r p, g.notOwn hp⟩
theorem de_dnewK {X : Cx} {pos : Pos} : DE X (.Dict [] [] pos) (eDict (.k [])) := PE.weak pe_dnewK fun σ H Q ⟨G, ρ, z, ρ', g, e, k⟩ => by
  cases e
  exact giveM g (fun _ => .k .nil) k
theorem de_dnewT {X : Cx} {pos : Pos} : DE X (.Dict [] [] pos) (eDict (.t [])) := PE.weak pe_dnewT fun σ H Q ⟨G, ρ, z, ρ', g, e, k⟩ => by
  cases e
  exact giveM g (fun _ => .t .nil) k
end DL
namespace DL
open PySem PySem.Spec L2
open PyProof.Rows (envOfC)
def bPar (i j : Nat) (fa : Fa) : Fs := fun ρ => match fa ρ with
  | some ([.fz d, .fz e], ρ1) => if notRf ρ1 i = true ∧ notRf ρ1 j = true then some (.nx, (ρ1.set i (.fz d)).set j (.fz e)) else none
  | _ => none
theorem ds_par {X : Cx} {E : XK} {i j : Nat} {x y : Str} {a b : Expr} {fa : Fa} {px py pt pos : Pos} {kt k2 pt2} (hc : X.calm = true) (hN : X.N.Nodup) (ha : DA X [a, b] fa) (hi : X.N[i]? = some x := by rfl) (hj : X.N[j]? = some y := by rfl) (hij : i ≠ j := by decide)
    (hx : X.env.scope.names.lookup x = some .local := by rfl) (hy : X.env.scope.names.lookup y = some .local := by rfl)
    (hw : swappedStores [.Tuple [.Name x px, .Name y py] kt pt] (.Tuple [a, b] k2 pt2) X.env = pure (some [x, y]) := by rfl)
    (hs : swapsWithSole [.Tuple [.Name x px, .Name y py] kt pt] (.Tuple [a, b] k2 pt2) pos.line X.env = pure false := by rfl) :
    DS X E (.Assign [.Tuple [.Name x px, .Name y py] kt pt] (.Tuple [a, b] k2 pt2) pos) (bPar i j fa) := PS.weak (ps_par hc hN hi hj hij hx hy ha hw hs) fun D σ H ⟨G, ρ, fl, ρ', g, e, k⟩ => by
  unfold bPar at e
  split at e
  · rename_i d1 d2 ρ1 q
    split at e
    · rename_i nr
      cases e
      refine ⟨G, ρ, _, ρ1, g, q, fun vs G1 H1 A1 R1 => ?_⟩
      obtain ⟨v, w, rfl, r1, r2⟩ : ∃ v w, vs = [v, w] ∧ Rp X.K G1 v d1 ∧ Rp X.K G1 w d2 := by
        cases R1 with
        | cons r1 t => cases t with
          | cons r2 t => cases t; exact ⟨_, _, rfl, r1, r2⟩
      refine ⟨v, w, rfl, k _ G1 H1 ?_⟩
      have A2 := A1.store (i := i) (s := some v) (r := .fz d1) ⟨v, rfl, r1⟩ (fun p h1 h2 => by rcases h2 with ⟨m, h2⟩ | ⟨m, h2⟩ <;> cases h2) nr.1
      refine A2.store (s := some w) (r := .fz d2) ⟨w, rfl, r2⟩ (fun p h1 h2 => by rcases h2 with ⟨m, h2⟩ | ⟨m, h2⟩ <;> cases h2) ?_
      have h2 := nr.2
      unfold notRf at h2 ⊢
      rw [List.getElem?_set_ne (by omega)]
      exact h2
    · cases e
  · cases e
end DL
namespace DL
open PySem PySem.Spec L2
open PyProof.Rows (envOfC)
def dRevL (f : Fe) : Fe := fun ρ => match f ρ with
  | none => none
  | some (r, ρ1) => match rd ρ1 r with
    | some (.lst xs) => some (.ow (.l xs.reverse), ρ1)
    | _ => none
theorem de_revL {X : Cx} {e : Expr} {f : Fe} {k : Nat} {p1 p2 p3 pos : Pos} (he : DE X e f) : DE X (.Subscript e (.Slice none none (some (.UnaryOp .USub (.Constant (.int 1) k p1) p2)) p3) pos) (dRevL f) := PE.weak (pe_revL he) fun σ H Q ⟨G, ρ, z, ρ', g, q, kk⟩ => by
  unfold dRevL at q
  split at q
  · cases q
  rename_i r ρ1 q1
  split at q
  · rename_i xs q2
    cases q
    refine ⟨G, ρ, r, _, g, q1, fun v G1 H1 A1 R1 => ?_⟩
    obtain ⟨p, vs, rfl, h1, h2⟩ := (rd_ok A1.good R1 q2).lst A1.good.ex
    exact ⟨p, vs, rfl, SqL.of h1, giveL A1.good (Rps.rev h2) fun v G' H' A R => kk v G' H' (A1.trans A) (R.start A1.dom)⟩
  · cases q
def setAt (i : Nat) (fi : Fe) (d : D) : En → Option En := fun ρ => match heldL ρ[i]? with
  | none => none
  | some _ => match fi ρ with
    | some (.fz (.int k), ρ2) => (match heldL ρ2[i]? with
      | none => none
      | some xs => match ixN xs.length k with
        | none => none
        | some j => some (putS ρ2 i (.l (xs.set j d))))
    | _ => none
theorem setAt_of {K : PySem.W.Frag} {G H : Hp} {σ : L2.St} {ρ ρ' : En} {i : Nat} {fi : Fe} {d : D} {v : V} {Q : L2.St → Hp → Prop} (g : Good K G H σ ρ) (r : Rp K G v d) (q : setAt i fi d ρ = some ρ') (k : ∀ G' H', Aft K G H σ ρ G' H' σ ρ' → Q σ H') :
    L2.gSub (tVar i) (teOf K fi) rSetL v σ H Q := by
  unfold setAt at q
  split at q
  · cases q
  rename_i xs0 q0
  split at q
  · rename_i kk ρ2 q1
    split at q
    · cases q
    rename_i xs q2
    split at q
    · cases q
    rename_i j q3
    cases q
    obtain ⟨p, vs0, e1, e2, e3, _⟩ := held_at g q0
    refine ⟨.ref p, e1, G, ρ, _, ρ2, g, q1, fun u G2 H2 A2 R2 => ?_⟩
    obtain ⟨p', vs, e4, e5, e6, A3⟩ := held_at A2.good q2
    rw [e1] at e4
    cases e4
    refine ⟨p, vs, kk, j, rfl, Rp.of_int R2, e5, by rw [e6.len]; exact q3, ?_⟩
    exact k G2 _ (A2.trans (A3 (vs.set j v) (xs.set j d) (e6.set (r.up A2.ex) j)))
  · cases q
def bSet2 (i : Nat) (f1 f2 fv : Fe) : Fs := fun ρ => match dFr fv ρ with
  | some (.tup [d, e], ρ1) => (match setAt i f1 d ρ1 with
    | none => none
    | some ρ2 => match setAt i f2 e ρ2 with
      | none => none
      | some ρ3 => some (.nx, ρ3))
  | _ => none
theorem ds_set2 {X : Cx} {E : XK} {i : Nat} {o o2 i1 i2 e : Expr} {f1 f2 fv : Fe} {s1 s2 pt pos : Pos} {kt : Nat} (hc : X.calm = true) (he : DE X e fv) (ho : PE X o (tVar i)) (ho2 : PE X o2 (tVar i)) (h1 : DE X i1 f1) (h2 : DE X i2 f2)
    (ha : ∀ v, assign (.Subscript o i1 s1) X.env v = (do
      let ov ← holding [v] (eval o X.env)
      let iv ← holding [v, ov] (eval i1 X.env)
      standAt s1
      holding [v, ov, iv] (setItem ov iv v)
      release [v, ov, iv] []) := by intro _; rfl)
    (hb : ∀ v, assign (.Subscript o2 i2 s2) X.env v = (do
      let ov ← holding [v] (eval o2 X.env)
      let iv ← holding [v, ov] (eval i2 X.env)
      standAt s2
      holding [v, ov, iv] (setItem ov iv v)
      release [v, ov, iv] []) := by intro _; rfl)
    (hs : swapsWithSole [.Tuple [.Subscript o i1 s1, .Subscript o2 i2 s2] kt pt] e pos.line X.env = pure false := by rfl) (hw : swappedStores [.Tuple [.Subscript o i1 s1, .Subscript o2 i2 s2] kt pt] e X.env = pure none := by rfl)
    (hl : (assignEach [.Tuple [.Subscript o i1 s1, .Subscript o2 i2 s2] kt pt] X.env).map (·.2) = [assign (.Tuple [.Subscript o i1 s1, .Subscript o2 i2 s2] kt pt) X.env] := by rfl)
    (hn : (assignEach [.Subscript o i1 s1, .Subscript o2 i2 s2] X.env).length = 2 := by rfl) (hst : (assignEach [.Subscript o i1 s1, .Subscript o2 i2 s2] X.env).findIdx? (·.1) = none := by rfl)
    (hc1 : (assignEach [.Subscript o i1 s1, .Subscript o2 i2 s2] X.env).map (·.2) = assign (.Subscript o i1 s1) X.env :: (assignEach [.Subscript o2 i2 s2] X.env).map (·.2) := by rfl)
    (hc2 : (assignEach [.Subscript o2 i2 s2] X.env).map (·.2) = assign (.Subscript o2 i2 s2) X.env :: (assignEach [] X.env).map (·.2) := by rfl) :
    DS X E (.Assign [.Tuple [.Subscript o i1 s1, .Subscript o2 i2 s2] kt pt] e pos) (bSet2 i f1 f2 fv) :=
  PS.weak (ps_asg (de_fr he) (pg_tup hc (pgs_cons (pg_sub ho h1 set_list ha) (pgs_cons (pg_sub ho2 h2 set_list hb) pgs_nil hc2) hc1) hn hst) hs hw hl) fun D σ H ⟨G, ρ, fl, ρ', g, q, k⟩ => by
    unfold bSet2 at q
    split at q
    · rename_i d e' ρ1 q1
      split at q
      · cases q
      rename_i ρ2 q2
      split at q
      · cases q
      rename_i ρ3 q3
      cases q
      refine ⟨G, ρ, _, ρ1, g, q1, fun v G1 H1 A1 R1 => ?_⟩
      cases R1 with
      | @tup a xs _ z1 z2 =>
        cases z2 with
        | cons r1 t => cases t with
          | cons r2 t =>
            cases t
            refine ⟨a, _, rfl, SqT.of (A1.good.ex _ _ z1), rfl, _, _, rfl, setAt_of A1.good r1 q2 fun G2 H2 A2 => ⟨_, _, rfl, setAt_of A2.good (r2.up A2.ex) q3 fun G3 H3 A3 => ⟨rfl, ?_⟩⟩⟩
            exact k σ G3 H3 ((A1.trans A2).trans A3)
    · cases q
end DL
namespace DL
open PySem PySem.Spec L2
open PyProof.Rows (envOfC)
def aCat (fa fb : Fa) : Fa := fun ρ => match fa ρ with
  | none => none
  | some (rs, ρ1) => match fb ρ1 with
    | none => none
    | some (qs, ρ2) => some (rs ++ qs, ρ2)
def aKon (ds : List D) : Fa := fun ρ => some (ds.map .fz, ρ)
theorem RsOk.len {K : PySem.W.Frag} {H0 G H : Hp} {σ : L2.St} {ρ : En} : ∀ {vs : List V} {rs : List Sl}, RsOk K H0 G H σ ρ vs rs → vs.length = rs.length
  | _, _, .nil => rfl
  | _, _, .cons _ t => congrArg (· + 1) (RsOk.len t)
theorem RsOk.cat {K : PySem.W.Frag} {H0 G H : Hp} {σ : L2.St} {ρ : En} : ∀ {vs : List V} {rs : List Sl} {ws : List V} {qs : List Sl}, RsOk K H0 G H σ ρ vs rs → RsOk K H0 G H σ ρ ws qs → RsOk K H0 G H σ ρ (vs ++ ws) (rs ++ qs)
  | _, _, _, _, .nil, h => h
  | _, _, _, _, .cons a t, h => .cons a (RsOk.cat t h)
theorem RsOk.kon {K : PySem.W.Frag} {H0 G H : Hp} {σ : L2.St} {ρ : En} : ∀ {vs : List V} {ds : List D}, Rps K G vs ds → RsOk K H0 G H σ ρ vs (ds.map .fz)
  | _, _, .nil => .nil
  | _, _, .cons a t => .cons a (RsOk.kon t)
theorem taCat {K : PySem.W.Frag} {fa fb : Fa} {σ : L2.St} {H : Hp} {R : List V → Hp → Prop} : taOf K (aCat fa fb) σ H R → taOf K fa σ H fun vs H1 => taOf K fb σ H1 fun zs H2 => R (vs ++ zs) H2 := fun ⟨G, ρ, rs, ρ', g, q, k⟩ => by
  unfold aCat at q
  split at q
  · cases q
  rename_i r1 ρ1 q1
  split at q
  · cases q
  rename_i r2 ρ2 q2
  cases q
  exact ⟨G, ρ, r1, ρ1, g, q1, fun vs G1 H1 A1 R1 => ⟨G1, ρ1, r2, _, A1.good, q2, fun zs G2 H2 A2 R2 => k _ G2 H2 (A1.trans A2) ((R1.aft (vs := vs) (rs := r1) A2).cat (R2.start A1.dom))⟩⟩
theorem taKon {K : PySem.W.Frag} {fa : Fa} {ds : List D} {dvs : List V} (h : ∀ G, Rps K G dvs ds) {σ : L2.St} {H : Hp} {R : List V → Hp → Prop} (t : taOf K (aCat fa (aKon ds)) σ H R) : taOf K fa σ H fun vs H1 => R (vs ++ dvs) H1 := by
  obtain ⟨G, ρ, rs, ρ1, g, q, k⟩ := taCat t
  refine ⟨G, ρ, rs, ρ1, g, q, fun vs G1 H1 A1 R1 => ?_⟩
  obtain ⟨G2, ρ2, qs, ρ3, g2, q2, k2⟩ := k vs G1 H1 A1 R1
  cases q2
  exact k2 dvs G2 H1 (Aft.refl g2) (RsOk.kon (h G2))
theorem Cnt.cat {fa fb : Fa} {n m : Nat} (h1 : ∀ ρ rs ρ', fa ρ = some (rs, ρ') → rs.length = n) (h2 : ∀ ρ rs ρ', fb ρ = some (rs, ρ') → rs.length = m) : ∀ ρ rs ρ', aCat fa fb ρ = some (rs, ρ') → rs.length = n + m := by
  intro ρ rs ρ' q
  unfold aCat at q
  split at q
  · cases q
  rename_i r1 ρ1 q1
  split at q
  · cases q
  rename_i r2 ρ2 q2
  cases q
  rw [List.length_append, h1 _ _ _ q1, h2 _ _ _ q2]
theorem kon_len (ds : List D) : ∀ ρ rs ρ', aKon ds ρ = some (rs, ρ') → rs.length = ds.length := by
  intro ρ rs ρ' q
  cases q
  rw [List.length_map]
abbrev DK (X : Cx) (kws : List Keyword) (f : Fa) : Prop := PK X kws (taOf X.K f)
theorem PK.weak {X : Cx} {kws : List Keyword} {t t' : TA} (h : PK X kws t) (w : ∀ σ H Q, t' σ H Q → t σ H Q) : PK X kws t' := ⟨fun pos pins s σ H Q I q => h.run pos pins s σ H Q I (w σ H Q q)⟩
section
variable {X : Cx} {f : Fe} {ga : Fa} {e : Expr} {kws : List Keyword} {nm : Option Str} {kpos : Pos}
theorem dk_nil : DK X [] aNil := PK.weak pk_nil fun σ H Q ⟨G, ρ, x, ρ', g, e, k⟩ => by
  cases e
  exact k [] G H (Aft.refl g) .nil
theorem dk_fr (ha : DE X e f) (hr : DK X kws ga) : DK X (⟨nm, e, kpos⟩ :: kws) (aFr f ga) := PK.weak (pk_cons (de_fr ha) hr) fun σ H Q ⟨G, ρ, x, ρ', g, q, k⟩ => by
  unfold aFr at q
  cases q1 : dFr f ρ with
  | none => rw [q1] at q; cases q
  | some y =>
    obtain ⟨r, ρ1⟩ := y
    rw [q1] at q
    cases q2 : ga ρ1 with
    | none => simp only [q2] at q; cases q
    | some y =>
      obtain ⟨rs, ρ2⟩ := y
      simp only [q2] at q
      cases q
      exact ⟨G, ρ, r, ρ1, g, q1, fun v G1 H1 A1 R1 => ⟨G1, ρ1, rs, _, A1.good, q2, fun vs G2 H2 A2 R2 => k (v :: vs) G2 H2 (A1.trans A2) (.cons (Rp.up R1 A2.ex) (R2.start A1.dom))⟩⟩
end
structure BindsK (K : PySem.W.Frag) (fd : FuncData) (ps : List Str) (n : Nat) (ks : List Str) (dvs : List V) : Prop where
  less : ∃ ds, Vals dvs ds ∧ Binds K fd ps ds
  all : ∀ (s : Shared) (us ws : List Value), K.In s.heap → us.length = n → ws.length = ks.length → BindsTo s fd ⟨us, ks.zip ws⟩ (ps.zip (us ++ ws))
section
variable {X : Cx} {k n : Nat} {f : Addr} {fd : FuncData} {ps ks : List Str} {sp : Sp} {x : Str} {p pos : Pos} {e : Expr} {es : List Expr} {kws : List Keyword} {t tk : TA} {F : XK} {dvs : List V} {ds : List Value}
theorem pe_callGd (G : FnG X.prog X.w X.K X.mg X.base k f fd ps sp) (gd : X.A.guards = some []) (hr : Room k X.A) (hg : Gl X x) (hm : X.mg x = some (.ref f)) (hk : PySem.W.keepIn X.K (.ref f) = true) (hb : Binds X.K fd ps ds) (hd : Vals dvs ds) (hx : Passes (L2.CX X.prog X.w) X F)
    (ha : PA X (e :: es) t) (hdb : (x == ("__debug__" : Str)) = false := by decide) (he : starEach (e :: es) X.env = (false, eval e X.env) :: starEach es X.env := by rfl) (hpl : (backTo pos (starEach es X.env)).any (·.1) = false := by rfl) :
    PE X (.Call (.Name x p) (e :: es) [] pos) (tCall sp dvs F t) := by
  constructor
  intro pins s σ M R I q
  apply wpAny_Call_Name_kw (ld_glob I hg hm ?_ hdb)
  refine PySem.W.callWith_K (h₀ := X.base) I.ok.mod.kin hk (thn (ha.run pos pins s σ M _ I q) fun us s1 ⟨vs, M1, I1, r, q1⟩ => ⟨I1.kIn, ?_⟩) he hpl
  have r2 : Vals (vs ++ dvs) (us ++ ds) := r.append hd
  have ln : (us ++ ds).length = ps.length := r2.length.symm.trans (G.len _ _ _ _ q1)
  apply wpAny_call
  apply codeAny_mono (G.go X.A X.stack s1 M1 ⟨us, []⟩ (us ++ ds) (vs ++ dvs) R F gd hr I1.env0 (hb s1 us I1.kIn ln) r2 q1)
  intro res s2 h2
  cases res with
  | error er => exact hx pins σ M1 s1 er s2 I1 h2
  | ok fl =>
    cases fl with
    | next => cases h2
    | brk => cases h2
    | cont => cases h2
    | ret u => exact I1.after h2
end
end DL
namespace DL
open PySem PySem.Spec L2
open PyProof.Rows (envOfC)
def Df (P : Program) (w : World) (K : PySem.W.Frag) (mg : Str → Option Value) (base : Heap) (k : Nat) (x : Str) (ps : List Str) (F : FF) : Prop :=
  ∃ f fd, mg x = some (.ref f) ∧ PySem.W.keepIn K (.ref f) = true ∧ Binds K fd ps [] ∧ FnG P w K mg base k f fd ps (spD K ps.length F)
section
variable {P : Program} {w : World} {K : PySem.W.Frag} {mg : Str → Option Value} {base : Heap}
theorem okF {x qual : Str} {st : Stmt} {f : Addr} {fd : FuncData} {N ps : List Str} {k : Nat} {B : Fs} {dvs : List V} {kws : List (Str × V)} (F : FunD K x qual (defArgs st) (defBody st) (defScope st) dvs kws f fd) (S : FnScope N ps (defScope st))
    (hb : ∀ (cdv : Value) (A : Around) (outer : List Env) (s : Shared) (H : Hp), A.guards = some [] → Room k (A.deeper (envOfC qual (defScope st) s.heap.objs.size f cdv)) → DB (cxOf (L2.CX P w) P w K mg base N qual (defScope st) f cdv A outer s H E0).nox E0 (defBody st) B) :
    FnG P w K mg base (k + 1) f fd ps (spD K ps.length (runF (N.length - ps.length) B)) := by
  obtain ⟨oc, od, dV, kV, doc, pm, an, cdv, ct, osl, rfl, lk, hcd, _, _⟩ := F.ex
  refine fnG_of lk hcd S (fun vs H Q E h => ?_) fun A outer s H vs Q E gd hr hsp => ?_
  · obtain ⟨G, ρ, r, ρ', h1, _⟩ := h
    exact h1
  · obtain ⟨G, ρ, r, ρ', h1, hA, g, e, k⟩ := hsp
    refine ⟨tsOf K E0 B, ?_, ?_⟩
    · have h0 := hb cdv A outer s H gd hr
      exact PSs.nox (X := cxOf (L2.CX P w) P w K mg base N qual (defScope st) f cdv A outer s H E) (show PSs _ _ (tsOf K E0 B) from ⟨fun pins s1 σ H1 D I q => h0.run pins s1 σ H1 D I q⟩)
    · have e0 : L2.start N vs = vs.map some ++ List.replicate (N.length - ps.length) none := by
        unfold L2.start
        rw [h1]
      rw [e0]
      unfold runF at e
      cases q : B (ρ ++ List.replicate (N.length - ps.length) .un) with
      | none => rw [q] at e; cases e
      | some y =>
        obtain ⟨fl, ρe⟩ := y
        rw [q] at e
        refine ⟨G, _, fl, ρe, g.pad, q, fun σ' G' H' A' => ?_⟩
        have Ae := call_end g A'
        cases fl with
        | nx =>
          cases e
          exact k .non G' H' Ae .non
        | bk => cases e
        | ct => cases e
        | ex C ns ds => cases e
        | rt r1 =>
          intro v R
          replace e : (match resolve ρe r1 with | some z => some (z, fin ρ ρe) | none => none) = some (r, ρ') := e
          cases q2 : resolve ρe r1 with
          | none => rw [q2] at e; cases e
          | some z =>
            rw [q2] at e
            cases e
            exact k v G' H' Ae (res_ok hA g A' R q2)
theorem dfMk {x : Str} {st : Stmt} {fd : FuncData} {N ps : List Str} {k : Nat} {B : Fs} (F : FunD K x x (defArgs st) (defBody st) (defScope st) [] [] (He.fAd K (x, none)) fd) (gl : mg x = some (.ref (He.ga K x))) (S : FnScope N ps (defScope st))
    (hbind : ∀ (kV doc pm : Value) (an : Option Addr) (cdv ct : Value) (us : List Value), us.length = ps.length → bindArgs (PySem.W.fnOf x x (defArgs st) (defBody st) (defScope st) .none kV doc pm an cdv ct) ⟨us, []⟩ = pure (ps.zip us))
    (hb : ∀ (cdv : Value) (A : Around) (outer : List Env) (s : Shared) (H : Hp), A.guards = some [] → Room k (A.deeper (envOfC x (defScope st) s.heap.objs.size (He.fAd K (x, none)) cdv)) → DB (cxOf (L2.CX P w) P w K mg base N x (defScope st) (He.fAd K (x, none)) cdv A outer s H E0).nox E0 (defBody st) B) :
    Df P w K mg base (k + 1) x ps (runF (N.length - ps.length) B) := ⟨_, fd, gl, F.kp, FunD.bindsN F hbind, okF F S hb⟩
end
def DfD (P : Program) (w : World) (K : PySem.W.Frag) (mg : Str → Option Value) (base : Heap) (k : Nat) (x : Str) (ps : List Str) (F : FF) (n : Nat) (ks : List Str) (dvs : List D) : Prop :=
  ∃ f fd vs, mg x = some (.ref f) ∧ PySem.W.keepIn K (.ref f) = true ∧ BindsK K fd ps n ks vs ∧ (∀ G, Rps K G vs dvs) ∧ FnG P w K mg base k f fd ps (spD K ps.length F)
theorem dfMkD {P : Program} {w : World} {K : PySem.W.Frag} {mg : Str → Option Value} {base : Heap} {x : Str} {st : Stmt} {fd : FuncData} {N ps : List Str} {k : Nat} {B : Fs} {kws : List (Str × V)} (n : Nat) (dvs : List D)
    (F : FunD K x x (defArgs st) (defBody st) (defScope st) [] kws (He.fAd K (x, none)) fd) (gl : mg x = some (.ref (He.ga K x))) (S : FnScope N ps (defScope st)) (hk : kws ≠ []) (hn : n + kws.length = ps.length)
    (hless : ∀ (D : Addr) (doc pm : Value) (an : Option Addr) (cdv ct : Value) (us ks : List Value), us.length = n → ks.length = kws.length →
      KwChain D ((kws.map (·.1)).zip ks) (bindArgs (PySem.W.fnOf x x (defArgs st) (defBody st) (defScope st) .none (.ref D) doc pm an cdv ct) ⟨us, []⟩) (ps.zip (us ++ ks)))
    (hall : ∀ (kV doc pm : Value) (an : Option Addr) (cdv ct : Value) (us ws : List Value), us.length = n → ws.length = kws.length → bindArgs (PySem.W.fnOf x x (defArgs st) (defBody st) (defScope st) .none kV doc pm an cdv ct) ⟨us, (kws.map (·.1)).zip ws⟩ = pure (ps.zip (us ++ ws)))
    (hd : ∀ G, Rps K G (kws.map (·.2)) dvs)
    (hb : ∀ (cdv : Value) (A : Around) (outer : List Env) (s : Shared) (H : Hp), A.guards = some [] → Room k (A.deeper (envOfC x (defScope st) s.heap.objs.size (He.fAd K (x, none)) cdv)) → DB (cxOf (L2.CX P w) P w K mg base N x (defScope st) (He.fAd K (x, none)) cdv A outer s H E0).nox E0 (defBody st) B) :
    DfD P w K mg base (k + 1) x ps (runF (N.length - ps.length) B) n (kws.map (·.1)) dvs := by
  obtain ⟨ds, v1, v2⟩ := FunD.binds0 F n hk hn hless
  refine ⟨_, fd, kws.map (·.2), gl, F.kp, ⟨⟨ds, v1, v2⟩, fun s us ws _ l1 l2 => ?_⟩, hd, okF F S hb⟩
  obtain ⟨oc, od, dV, kV, doc, pm, an, cdv, ct, osl, rfl, lk, hcd, hD, hK⟩ := F.ex
  rw [List.length_map] at l2
  rcases hD with ⟨_, rfl⟩ | ⟨e, _⟩
  · exact .of_eq (hall kV doc pm an cdv ct us ws l1 l2)
  · exact absurd rfl e
theorem de_callDd {X : Cx} {k n : Nat} {ps ks : List Str} {F : FF} {dvs : List D} {x : Str} {p pos : Pos} {e : Expr} {es : List Expr} {fa : Fa} (D : DfD X.prog X.w X.K X.mg X.base k x ps F n ks dvs) (gd : X.A.guards = some []) (hr : Room k X.A) (hg : Gl X x) (ha : DA X (e :: es) fa) (hc : Cnt fa n) (hn : n + dvs.length = ps.length := by rfl)
    (hdb : (x == ("__debug__" : Str)) = false := by decide) (he : starEach (e :: es) X.env = (false, eval e X.env) :: starEach es X.env := by rfl) (hpl : (backTo pos (starEach es X.env)).any (·.1) = false := by rfl) :
    DE X (.Call (.Name x p) (e :: es) [] pos) (fCall F (aCat fa (aKon dvs))) := by
  obtain ⟨f, fd, vs, h1, h2, h3, h4, h5⟩ := D
  obtain ⟨ds, b1, b2⟩ := h3.less
  refine PE.weak (pe_callGd (F := E0) h5 gd hr hg h1 h2 b2 b1 passL' ha hdb he hpl) fun σ H Q q => ?_
  have q1 := tCall_of (n := ps.length) (E := E0) (by rw [← hn]; exact Cnt.cat hc.len (kon_len dvs)) σ H Q q
  have q2 := taKon h4 (R := fun vs H1 => spD X.K ps.length F vs H1 Q E0) (by simpa [tCall] using q1)
  exact q2
theorem de_callD {X : Cx} {k : Nat} {ps : List Str} {F : FF} {x : Str} {p pos : Pos} {e : Expr} {es : List Expr} {fa : Fa} (D : Df X.prog X.w X.K X.mg X.base k x ps F) (gd : X.A.guards = some []) (hr : Room k X.A) (hg : Gl X x) (ha : DA X (e :: es) fa) (hc : Cnt fa ps.length)
    (hdb : (x == ("__debug__" : Str)) = false := by decide) (he : starEach (e :: es) X.env = (false, eval e X.env) :: starEach es X.env := by rfl) (hpl : (backTo pos (starEach es X.env)).any (·.1) = false := by rfl) :
    DE X (.Call (.Name x p) (e :: es) [] pos) (fCall F fa) := by
  obtain ⟨f, fd, h1, h2, h3, h4⟩ := D
  exact PE.weak (pe_callG (F := E0) h4 gd hr hg h1 h2 h3 passL' ha hdb he hpl) (tCall_of hc.len)
theorem PI.or {X : Cx} {tg it : Expr} {t t' : TI} (h : PI X tg it t) (h' : PI X tg it t') : PI X tg it (fun σ H R => t σ H R ∨ t' σ H R) := ⟨fun pins s σ H R I q => q.elim (h.run pins s σ H R I) (h'.run pins s σ H R I)⟩
def signsD (z : Str) : List D := z.cps.toList.map fun c => .str ⟨#[c]⟩
theorem it_str {K : PySem.W.Frag} {G : Hp} {z : Str} : ItOk K G (Its z) (signsD z) := by
  have w := (walk_str (z := z)).mono (G' := fun H => Ex G H) (Y' := fun i H x H' => ∃ d, (signsD z)[i]? = some d ∧ ItemY K G d H x H') (fun _ _ => trivial) fun i H x H' hi e y => by
    obtain ⟨rfl, c, h1, rfl⟩ := y
    exact ⟨.str ⟨#[c]⟩, by unfold signsD; rw [List.getElem?_map, Array.getElem?_toList, h1]; rfl, .inl ⟨rfl, .str _⟩⟩
  have e : (signsD z).length = z.cps.size := by unfold signsD; simp
  unfold ItOk
  rw [e]
  exact w
def iAny (f : Fe) : Fi := fun ρ => match dFr f ρ with
  | some (.lst xs, ρ1) => some (xs, ρ1)
  | some (.tup xs, ρ1) => some (xs, ρ1)
  | some (.str z, ρ1) => some (signsD z, ρ1)
  | _ => none
theorem di_any {X : Cx} {tg e : Expr} {f : Fe} (h : DE X e f) : DI X tg e (iAny f) := PI.weak (PI.or (pi_list (de_fr h)) (PI.or (pi_tup (de_fr h)) (pi_str (de_fr h)))) fun σ H R ⟨G, ρ, xs, ρ', g, q, k⟩ => by
  unfold iAny at q
  split at q
  · rename_i ys ρ1 q1
    cases q
    refine .inl ⟨G, ρ, _, _, g, q1, fun v G1 H1 A1 R1 => ?_⟩
    cases R1 with
    | lst h1 h2 => exact ⟨_, rfl, ⟨_, SqL.of (A1.good.ex _ _ h1)⟩, k _ G1 H1 A1 (it_list h1 h2)⟩
  · rename_i ys ρ1 q1
    cases q
    refine .inr (.inl ⟨G, ρ, _, _, g, q1, fun v G1 H1 A1 R1 => ?_⟩)
    cases R1 with
    | tup h1 h2 => exact ⟨_, rfl, ⟨_, SqT.of (A1.good.ex _ _ h1)⟩, k _ G1 H1 A1 (it_tup h1 h2)⟩
  · rename_i z ρ1 q1
    cases q
    refine .inr (.inr ⟨G, ρ, _, _, g, q1, fun v G1 H1 A1 R1 => ?_⟩)
    exact ⟨z, Rp.of_str R1, k _ G1 H1 A1 it_str⟩
  · cases q
theorem lawG_of {P : Program} {w : World} {K : PySem.W.Frag} {mg : Str → Option Value} {base : Heap} {k : Nat} {f : Addr} {fd : FuncData} {ps : List Str} {F : FF} (G : FnG P w K mg base k f fd ps (spD K 1 F))
    (h : ∀ ns : List Int, ns.length ≤ 63 → ∃ ρ', F [.fz (.scr ns)] = some (.fz (.bl true), ρ')) : FnG P w K mg base k f fd ps (spLaw K) :=
  G.imp fun vs H Q E z => spLaw_of h z
structure Tx (fa : List He.Fa) (fn : List He.DefD) (K : PySem.W.Frag) (mg : Str → Option Value) : Prop where
  c : He.SaysD fa fn K
  gl : ∀ (i : Nat) {x : Str}, fa[i]? = some (.glo x) → mg x = some (.ref (He.ga K x))
  fr : ∀ (i : Nat) {x : Str}, fa[i]? = some (.free x) → mg x = none
  it : ∀ (i : Nat) {x : Str} {n : Int}, fa[i]? = some (.int x n) → ∃ t, mg x = some (.int n t)
  st : ∀ (i : Nat) {x z : Str}, fa[i]? = some (.str x z) → ∃ t, mg x = some (.str z t)
theorem txMk {fa : List He.Fa} {fn : List He.DefD} {K : PySem.W.Frag} {mg : Str → Option Value} {h : Heap} (X : K.In h) (G : h.Ns mainGlobals mg) (c : He.SaysD fa fn K) : Tx fa fn K mg :=
  ⟨c, fun i _ e => He.glo_ok X G (c.fact i e), fun i _ e => He.free_ok X G (c.fact i e), fun i _ _ e => He.int_ok X G (c.fact i e), fun i _ _ e => He.str_ok X G (c.fact i e)⟩
theorem hu64 {k : Nat} {A : Around} (h : Room k A) : A.units + 64 < cLine := by have := h.un; omega
theorem hu65 {k : Nat} {A : Around} (h : Room k A) : A.units + 65 < cLine := by have := h.un; omega
theorem sset {X : Cx} {E : XK} {f : Fe} {e : Expr} {pos pos' : Pos} {x : Str} (i : Nat) (hN : X.N.Nodup) (he : DE X e f) (hi : X.N[i]? = some x := by rfl) (hx : Loc X.env.scope x := by first | exact Or.inl rfl | exact Or.inr rfl) (hs : swapsWith e (some (.Name x pos')) pos.line X.env = pure false := by rfl) (hf : X.fn x = true ∨ X.env.scope.names.lookup x = some .local := by first | exact .inl rfl | exact .inr rfl) :
    DS X E (.Assign [.Name x pos'] e pos) (bAsg i f) := ds_set hN hi hx he hs hf
theorem gnm {X : Cx} {pos : Pos} {x : Str} (i : Nat) (hN : X.N.Nodup) (hi : X.N[i]? = some x := by rfl) (hx : Loc X.env.scope x := by first | exact Or.inl rfl | exact Or.inr rfl) (hf : X.fn x = true ∨ X.env.scope.names.lookup x = some .local := by first | exact .inl rfl | exact .inr rfl) : DG X (.Name x pos) (gNm i) [i] := dg_name hN hi hx hf
end DL
set_option maxHeartbeats 1000000
namespace DL
open PySem PySem.Spec L2
section
variable {f fa fb fo fe : Fe} {t u : Ft} {g : Fa} {ρ ρ1 : En} {i n : Nat} {A B : Fs} {h : Fg} {gs : Fgs} {F : FF} {fi : Fe}
def kNR (o : Option Sl) : Bool := match o with
  | some (.rf _) => false
  | some (.fz _) => true
  | some (.ow _) => true
  | some .un => true
  | some (.bw _) => true
  | none => false
theorem notRf_e : notRf ρ i = kNR ρ[i]? := by
  unfold notRf kNR
  cases ρ[i]? with
  | none => rfl
  | some z => cases z <;> rfl
def kAsg3 (b : Bool) (i : Nat) (z : Sl) (ρ : En) : Option (Fl × En) := match b with
  | true => some (.nx, ρ.set i z)
  | false => none
def kAsg2 (i : Nat) (o : Option (Sl × En)) : Option (Fl × En) := match o with
  | some (z, ρ2) => kAsg3 (notRf ρ2 i) i z ρ2
  | none => none
def kAsg (i : Nat) (o : Option (Sl × En)) : Option (Fl × En) := match o with
  | some (r, ρ1) => kAsg2 i (toSlot ρ1 r)
  | none => none
theorem bAsg_e : bAsg i f ρ = kAsg i (f ρ) := by
  unfold bAsg kAsg
  cases f ρ with
  | none => rfl
  | some y =>
    obtain ⟨r, ρ1⟩ := y
    show _ = kAsg2 i (toSlot ρ1 r)
    unfold kAsg2
    cases q : toSlot ρ1 r with
    | none => simp only [q]
    | some y =>
      obtain ⟨z, ρ2⟩ := y
      simp only [q]
      unfold kAsg3
      cases notRf ρ2 i <;> rfl
def kGN (b : Bool) (i : Nat) (d : D) (ρ : En) : Option En := match b with
  | true => some (ρ.set i (.fz d))
  | false => none
theorem gNm_e {d : D} : gNm i d ρ = kGN (notRf ρ i) i d ρ := by
  unfold gNm kGN
  cases notRf ρ i <;> rfl
def kGC (t : Fgs) (ds : List D) (o : Option En) : Option En := match o with
  | some ρ1 => t ds ρ1
  | none => none
theorem gsCons_e {d : D} {ds : List D} : gsCons h gs (d :: ds) ρ = kGC gs ds (h d ρ) := id rfl
theorem gTp_e {ds : List D} : gTp n gs (.tup ds) ρ = if ds.length = n then gs ds ρ else none := id rfl
end
end DL
namespace DL
open PySem PySem.Spec L2
set_option autoImplicit true
set_option relaxedAutoImplicit true
set_option autoImplicit false
end DL
namespace DL
open PySem PySem.Spec L2
theorem intBits_le {i : Int} {n : Nat} (h : i.natAbs < 2 ^ n) (h0 : 0 < n) : Builtin.Int.intBits i ≤ n := by
  unfold Builtin.Int.intBits
  split
  · exact Nat.zero_le _
  · rename_i hz
    have := PySem.Flt.log2_lt_of h0 h
    omega
def StrGood (s : Str) : Prop := PyData.strOk s = true
instance (s : Str) : Decidable (StrGood s) := inferInstanceAs (Decidable (PyData.strOk s = true))
inductive Fit : Nat → D → Prop
  | non (n : Nat) : Fit n .non
  | bl (n : Nat) (b : Bool) : Fit n (.bl b)
  | int (n : Nat) (i : Int) : Fit n (.int i)
  | str {s : Str} (n : Nat) (h : StrGood s) : Fit n (.str s)
  | tup {n : Nat} {xs : List D} (h : ∀ d ∈ xs, Fit n d) : Fit (n + 1) (.tup xs)
  | lst {n : Nat} {xs : List D} (h : ∀ d ∈ xs, Fit n d) : Fit (n + 1) (.lst xs)
theorem pys_lay : ∀ (xs : List D), (∀ d ∈ xs, d.py.canLay0 = true) → PyData.canLayAll0 (D.pys xs) = true
  | [], _ => by rw [D.pys]; rfl
  | x :: xs, h => by
    rw [D.pys, PyData.canLayAll0, h x (by simp), pys_lay xs fun d hd => h d (by simp [hd])]
    rfl
theorem pys_depth {n : Nat} : ∀ (xs : List D), (∀ d ∈ xs, d.py.depth ≤ n) → PyData.depthAll (D.pys xs) ≤ n
  | [], _ => by rw [D.pys]; exact Nat.zero_le _
  | x :: xs, h => by
    rw [D.pys, PyData.depthAll]
    exact Nat.max_le.mpr ⟨h x (by simp), pys_depth xs fun d hd => h d (by simp [hd])⟩
theorem plains_of : ∀ (xs : List D), (∀ d ∈ xs, d.plain = true) → D.plains xs = true
  | [], _ => by rw [D.plains]
  | x :: xs, h => by
    rw [D.plains, h x (by simp), plains_of xs fun d hd => h d (by simp [hd])]
    rfl
theorem Fit.parts {n : Nat} {d : D} (h : Fit n d) : d.plain = true ∧ d.py.canLay0 = true ∧ d.py.depth ≤ n := by
  induction h with
  | non n => rw [D.plain, D.py] <;> simp [PyData.canLay0, PyData.depth]
  | bl n b => rw [D.plain, D.py] <;> simp [PyData.canLay0, PyData.depth]
  | int n i => rw [D.plain, D.py] <;> simp [PyData.canLay0, PyData.depth]
  | @str s n h =>
    refine ⟨by simp [D.plain], ?_, ?_⟩
    · rw [D.py, PyData.canLay0]
      exact h
    · rw [D.py, PyData.depth]
      exact Nat.zero_le _
  | @tup n xs h ih =>
    rw [D.plain, D.py, PyData.canLay0, PyData.depth]
    exact ⟨plains_of xs fun d hd => (ih d hd).1, pys_lay xs fun d hd => (ih d hd).2.1, Nat.succ_le_succ (pys_depth xs fun d hd => (ih d hd).2.2)⟩
  | @lst n xs h ih =>
    rw [D.plain, D.py, PyData.canLay0, PyData.depth]
    exact ⟨plains_of xs fun d hd => (ih d hd).1, pys_lay xs fun d hd => (ih d hd).2.1, Nat.succ_le_succ (pys_depth xs fun d hd => (ih d hd).2.2)⟩
theorem Fit.ok {n : Nat} {d : D} (h : Fit n d) (hn : n ≤ 64) : d.ok = true := by
  obtain ⟨h1, h2, h3⟩ := h.parts
  unfold D.ok SeqAt.shaped
  rw [h1, h2, decide_eq_true (Nat.le_trans h3 hn)]
  rfl
theorem eqv_self {d : D} (h : d.ok = true) : d.eqv d = true := SeqAt.eqv_refl d.py (SeqAt.canLay_of_shaped (ok_parts h).2)
theorem ok_int (i : Int) : (D.int i).ok = true := (Fit.int 0 i).ok (by decide)
theorem eqv_int (i j : Int) : (D.int i).eqv (.int j) = decide (i = j) := by
  unfold D.eqv
  rw [D.py, D.py, PyData.eqv, Bool.beq_eq_decide_eq]
theorem gNe_int (i j : Int) : gNe (.int i) (.int j) = some (.fz (.bl (!decide (i = j)))) := id rfl
theorem gEq_str (i j : Str) : gEq (.str i) (.str j) = some (.fz (.bl (decide (i = j)))) := id rfl
theorem gNe_str (i j : Str) : gNe (.str i) (.str j) = some (.fz (.bl (!decide (i = j)))) := id rfl
theorem eq_row_floor : gEq (.str "row") (.str "floor") = some (.fz (.bl false)) := by rw [gEq_str]; rfl
theorem eq_ring_floor : gEq (.str "ring") (.str "floor") = some (.fz (.bl false)) := by rw [gEq_str]; rfl
theorem eq_floor_floor : gEq (.str "floor") (.str "floor") = some (.fz (.bl true)) := by rw [gEq_str]; rfl
theorem eq_row_ring : gEq (.str "row") (.str "ring") = some (.fz (.bl false)) := by rw [gEq_str]; rfl
theorem eq_ring_ring : gEq (.str "ring") (.str "ring") = some (.fz (.bl true)) := by rw [gEq_str]; rfl
theorem eq_floor_ring : gEq (.str "floor") (.str "ring") = some (.fz (.bl false)) := by rw [gEq_str]; rfl
theorem eq_row_row : gEq (.str "row") (.str "row") = some (.fz (.bl true)) := by rw [gEq_str]; rfl
theorem eq_ring_row : gEq (.str "ring") (.str "row") = some (.fz (.bl false)) := by rw [gEq_str]; rfl
theorem eq_floor_row : gEq (.str "floor") (.str "row") = some (.fz (.bl false)) := by rw [gEq_str]; rfl
theorem ne_row_floor : gNe (.str "row") (.str "floor") = some (.fz (.bl true)) := by rw [gNe_str]; rfl
theorem ne_ring_floor : gNe (.str "ring") (.str "floor") = some (.fz (.bl true)) := by rw [gNe_str]; rfl
theorem ne_floor_floor : gNe (.str "floor") (.str "floor") = some (.fz (.bl false)) := by rw [gNe_str]; rfl
theorem dLc_eq {fi : Fi} {h : Fg} {ft : Ft} {fe : Fe} {vs : List Nat} {ρ ρ1 ρ2 : En} {xs acc : List D} (h1 : fi ρ = some (xs, ρ1)) (h2 : lcL h ft fe vs xs [] (wipeD ρ1 vs) = some (acc, ρ2)) : dLc fi h ft fe vs ρ = some (.ow (.l acc), restD ρ1 ρ2 vs) := by
  unfold dLc
  simp only [h1, h2]
theorem bFor_eq {fi : Fi} {h : Fg} {B : Fs} {ρ ρ1 : En} {xs : List D} {r : Fl × En} (h1 : fi ρ = some (xs, ρ1)) (h2 : forL h B xs ρ1 = some r) : bFor fi h B ρ = some r := by
  unfold bFor
  simp only [h1, h2]
end DL
namespace DL
open PySem PySem.Spec L2
section
variable {α β γ δ S R T : Type}
def eP (ea : α → D) (eb : β → D) (p : α × β) : D := .tup [ea p.1, eb p.2]
def e3 (ea : α → D) (eb : β → D) (ec : γ → D) (p : α × β × γ) : D := .tup [ea p.1, eb p.2.1, ec p.2.2]
def e4 (ea : α → D) (eb : β → D) (ec : γ → D) (ed : δ → D) (p : α × β × γ × δ) : D := .tup [ea p.1, eb p.2.1, ec p.2.2.1, ed p.2.2.2]
def eL (ea : α → D) (xs : List α) : D := .lst (xs.map ea)
theorem bnd {o : Option α} {f : α → Option β} {r : β} (h : o.bind f = some r) : ∃ a, o = some a ∧ f a = some r := Option.bind_eq_some_iff.mp h
theorem cnd_t {c : Bool} {a b : Option α} {r : α} (h : cond c a b = some r) (e : c = true) : a = some r := by subst e; exact h
theorem cnd_f {c : Bool} {a b : Option α} {r : α} (h : cond c a b = some r) (e : c = false) : b = some r := by subst e; exact h
def ixI (xs : List α) (i : Int) : Option α := atI xs i
def ixS (z : Str) (i : Int) : Option Str := if z.length ≤ lim then (atI z.cps.toList i).map fun c => ⟨#[c]⟩ else none
def mulI (i j : Int) : Option Int := if i.natAbs.log2 + j.natAbs.log2 < 1000000 then some (i * j) else none
def divI (i j : Int) : Option Int := if 0 < j ∧ j.natAbs.log2 < 9000 then some (i / j) else none
def modI (i j : Int) : Option Int := if 0 < j then some (i % j) else none
def powI (i j : Int) : Option Int := if 0 ≤ j ∧ (Builtin.Int.intBits i : Int) * j ≤ 2 ^ 27 then some (i ^ j.toNat) else none
def catL (xs ys : List α) : Option (List α) := if xs.length + ys.length ≤ lim then some (xs ++ ys) else none
def catS (a b : Str) : Option Str := if a.length + b.length ≤ lim then some (a ++ b) else none
def repS (a : Str) (j : Int) : Option Str := if 0 ≤ j ∧ j ≤ 1000 ∧ a.length ≤ 1000 then some (Txt.mul a j) else none
def appL (xs : List α) (x : α) : Option (List α) := if xs.length ≤ lim then some (xs ++ [x]) else none
def popAtL (xs : List α) (i : Int) : Option (α × List α) := if -(2 ^ 63) ≤ i ∧ i < 2 ^ 63 then (seqIndex? i xs.length).bind fun k => (xs[k]?).map fun d => (d, xs.eraseIdx k) else none
def setL (xs : List α) (k : Int) (v : α) : Option (List α) := (ixN xs.length k).map fun j => xs.set j v
def eqO (x y : D) : Option Bool := if x.ok = true ∧ y.ok = true then some (x.eqv y) else none
def inO (x : D) (ys : List D) : Option Bool := if x.ok = true ∧ (D.lst ys).ok = true then some (ys.any fun y => y.eqv x) else none
def inV (x : D) (ys : List D) : Option Bool := if x.flat = true ∧ ys.all D.flat = true then some (ys.any fun y => y.eqv x) else if x.ok = true ∧ (D.tup ys).ok = true then some (ys.any fun y => y.eqv x) else none
def cutSO (z : Str) (lo hi : Option Int) : Option Str := if z.length ≤ lim then some (cutS z lo hi) else none
def rangeI (lo hi : Int) : List Int := (List.range (hi - lo).toNat).map fun i => lo + (i : Nat)
def rngO (lo hi : Int) : Option (List Int) := if hi < 4000000000000000000 ∧ -4000000000000000000 ≤ hi ∧ lo < 4000000000000000000 ∧ -4000000000000000000 ≤ lo then some (rangeI lo hi) else none
def rngL (lo hi : Int) : Option (List Int) := if hi ≤ 1000000 ∧ -1000000 ≤ hi ∧ lo ≤ 1000000 ∧ -1000000 ≤ lo then some (rangeI lo hi) else none
def enumI (xs : List α) : List (Int × α) := xs.zipIdx.map fun p => ((p.2 : Nat), p.1)
def signs (z : Str) : List Str := z.cps.toList.map fun c => ⟨#[c]⟩
def mxI (i j : Int) : Int := if j > i then j else i
def mnI (i j : Int) : Int := if j < i then j else i
def andO (a : Bool) (b : Option Bool) : Option Bool := cond a b (some false)
def forN (b : S → α → Option S) : List α → S → Option S
  | [], s => some s
  | x :: xs, s => (b s x).bind (forN b xs)
inductive Lp (S R : Type) where
  | nx (s : S) | bk (s : S) | rt (r : R)
def big : Nat := 16000000
def mapR (f : α → Option β) : List α → Option (List β)
  | [] => some []
  | x :: xs => (f x).bind fun y => (mapR f xs).bind fun ys => some (y :: ys)
def mapO (f : α → Option β) (xs : List α) : Option (List β) := if xs.length ≤ big then mapR f xs else none
def mapB (f : α → β) (xs : List α) : Option (List β) := if xs.length ≤ big then some (xs.map f) else none
def filR (p : α → Option Bool) (f : α → Option β) : List α → Option (List β)
  | [] => some []
  | x :: xs => (p x).bind fun c => cond c ((f x).bind fun y => (filR p f xs).bind fun ys => some (y :: ys)) (filR p f xs)
def filO (p : α → Option Bool) (f : α → Option β) (xs : List α) : Option (List β) := if xs.length ≤ big then filR p f xs else none
def mapSR (f : S → α → Option (β × S)) : List α → S → Option (List β × S)
  | [], s => some ([], s)
  | x :: xs, s => (f s x).bind fun y => (mapSR f xs y.2).bind fun ys => some (y.1 :: ys.1, ys.2)
def mapS (f : S → α → Option (β × S)) (xs : List α) (s : S) : Option (List β × S) := if xs.length ≤ big then mapSR f xs s else none
def flatR (f : α → Option (List β)) : List α → Option (List β)
  | [] => some []
  | x :: xs => (f x).bind fun ys => (flatR f xs).bind fun zs => some (ys ++ zs)
def flatO (f : α → Option (List β)) (xs : List α) : Option (List β) := (flatR f xs).bind fun zs => if zs.length ≤ big then some zs else none
end
section
variable {f fa fb fc fo fe : Fe} {t u : Ft} {g ga : Fa} {ρ ρ0 ρ1 ρ2 ρ3 : En} {i j n : Nat} {d e x y w : D} {z z' r ra rb rc : Sl} {m m' : Mu} {rs : List Sl} {ds : List D} {b b1 b2 c : Bool}
theorem ev_var (h : ρ[i]? = some (.fz d)) : eVar i ρ = some (.fz d, ρ) := by unfold eVar; rw [h]
theorem ev_own (h : ρ[i]? = some (.ow m)) : eVar i ρ = some (.bw i, ρ) := by unfold eVar; rw [h]
theorem ev_lent (h : ρ[i]? = some (.rf m)) : eVar i ρ = some (.bw i, ρ) := by unfold eVar; rw [h]
theorem ev_c : eC d ρ = some (.fz d, ρ) := rfl
theorem ev_as (h : f ρ = some (z', ρ1)) (e : z' = z) : f ρ = some (z, ρ1) := by rw [h, e]
theorem ev_let {α : Type} {a x : α} (k : α → Sl) (h : some a = some x) (d : f ρ = some (k a, ρ1)) : f ρ = some (k x, ρ1) := by cases h; exact d
theorem ev_op {g : D → D → Option Sl} (ha : fa ρ = some (ra, ρ1)) (hb : fb ρ1 = some (rb, ρ2)) (hx : rd ρ2 ra = some x) (hy : rd ρ2 rb = some y) (hg : g x y = some z) : dOp2 g fa fb ρ = some (z, ρ2) := by
  unfold dOp2
  simp only [ha, hb, hx, hy, hg]
theorem ev_fr (h : f ρ = some (r, ρ1)) (q : fr ρ1 r = some (d, ρ2)) : dFr f ρ = some (d, ρ2) := by
  unfold dFr fr2
  simp only [h, q]
theorem te_tst (h : f ρ = some (.fz (.bl b), ρ1)) : dTst f ρ = some (b, ρ1) := by
  unfold dTst
  simp only [h]
theorem te_let {a x : Bool} (h : some a = some x) (d : t ρ = some (a, ρ1)) : t ρ = some (x, ρ1) := by cases h; exact d
theorem te_and (ha : t ρ = some (b1, ρ)) (hb : u ρ = some (b2, ρ)) : dAnd t u ρ = some (b1 && b2, ρ) := by
  unfold dAnd
  cases b1 <;> simp only [ha, hb, Bool.true_and, Bool.false_and]
theorem te_andO {o : Option Bool} (ha : t ρ = some (b1, ρ)) (E : andO b1 o = some b) (hb : ∀ c, o = some c → u ρ = some (c, ρ)) : dAnd t u ρ = some (b, ρ) := by
  unfold dAnd
  cases b1 with
  | false => cases E; simp only [ha]
  | true => simp only [ha]; exact hb b E
theorem te_or (ha : t ρ = some (b1, ρ)) (hb : u ρ = some (b2, ρ)) : dOr t u ρ = some (b1 || b2, ρ) := by
  unfold dOr
  cases b1 <;> simp only [ha, hb, Bool.true_or, Bool.false_or]
theorem te_not (ha : t ρ = some (b, ρ1)) : dNot t ρ = some (!b, ρ1) := by
  unfold dNot
  simp only [ha]
theorem ev_andO {o : Option Bool} (ha : fa ρ = some (.fz (.bl b1), ρ)) (E : andO b1 o = some b) (hb : ∀ c, o = some c → fb ρ = some (.fz (.bl c), ρ)) : dAndV fa fb ρ = some (.fz (.bl b), ρ) := by
  unfold dAndV
  cases b1 with
  | false => cases E; simp only [ha]
  | true => simp only [ha]; exact hb b E
theorem ev_if {α : Type} {a a' : α} (k : α → Sl) (hc : t ρ = some (c, ρ)) (ha : fa ρ = some (k a, ρ1)) (hb : fb ρ = some (k a', ρ1)) : dIfE t fa fb ρ = some (k (cond c a a'), ρ1) := by
  unfold dIfE
  cases c <;> simp only [hc, ha, hb, cond_true, cond_false]
theorem ev_ifO {α : Type} {oa ob : Option α} {v : α} (k : α → Sl) (hc : t ρ = some (c, ρ)) (E : cond c oa ob = some v) (ha : ∀ a, oa = some a → fa ρ = some (k a, ρ1)) (hb : ∀ a, ob = some a → fb ρ = some (k a, ρ1)) : dIfE t fa fb ρ = some (k v, ρ1) := by
  unfold dIfE
  cases c with
  | true => simp only [hc]; exact ha v E
  | false => simp only [hc]; exact hb v E
theorem ev_chain {g1 g2 : D → D → Option Sl} (ha : fa ρ = some (ra, ρ)) (hb : fb ρ = some (rb, ρ)) (hx : rd ρ ra = some x) (hy : rd ρ rb = some y) (h1 : g1 x y = some (.fz (.bl b1))) (hc : fc ρ = some (rc, ρ)) (hw : rd ρ rc = some w) (h2 : g2 y w = some (.fz (.bl b2))) : dChain g1 g2 fa fb fc ρ = some (.fz (.bl (b1 && b2)), ρ) := by
  unfold dChain
  cases b1 <;> simp only [ha, hb, hx, hy, h1, hc, hw, h2, Bool.true_and, Bool.false_and]
theorem ev_neg {k : Int} (h : f ρ = some (.fz (.int k), ρ1)) : dNeg f ρ = some (.fz (.int (-k)), ρ1) := by
  unfold dNeg
  simp only [h]
theorem ar_nil : aNil ρ = some ([], ρ) := rfl
theorem ar_cons (h : f ρ = some (r, ρ1)) (hg : g ρ1 = some (rs, ρ2)) : aCons f g ρ = some (r :: rs, ρ2) := by
  unfold aCons
  simp only [h, hg]
theorem ar_fr (h : f ρ = some (r, ρ1)) (q : fr ρ1 r = some (d, ρ2)) (hg : g ρ2 = some (rs, ρ3)) : aFr f g ρ = some (.fz d :: rs, ρ3) := by
  unfold aFr
  simp only [ev_fr h q, hg]
theorem ar_cat {ga gb : Fa} {qs : List Sl} (ha : ga ρ = some (rs, ρ1)) (hb : gb ρ1 = some (qs, ρ2)) : aCat ga gb ρ = some (rs ++ qs, ρ2) := by
  unfold aCat
  simp only [ha, hb]
theorem ar_kon : aKon ds ρ = some (ds.map .fz, ρ) := rfl
theorem ev_call {gg : List D → Option Sl} (ha : g ρ = some (rs, ρ1)) (hd : rds ρ1 rs = some ds) (hg : gg ds = some z) : dCall gg g ρ = some (z, ρ1) := by
  unfold dCall
  simp only [ha, hd, hg]
theorem ev_tup (ha : g ρ = some (rs, ρ1)) (hd : dsOf rs = some ds) (hl : decide (ds.length ≤ 30) = true) : eTup g ρ = some (.fz (.tup ds), ρ1) := by
  have hl := of_decide_eq_true hl
  have : ds.length ≤ lim := Nat.le_trans hl (by decide)
  unfold eTup
  simp only [ha, hd, this, if_true]
theorem ev_lst (ha : g ρ = some (rs, ρ1)) (hd : dsOf rs = some ds) (hl : decide (ds.length ≤ 30) = true) : eLst g ρ = some (.ow (.l ds), ρ1) := by
  have hl := of_decide_eq_true hl
  have : ds.length ≤ lim := Nat.le_trans hl (by decide)
  unfold eLst
  simp only [ha, hd, this, if_true]
theorem ev_fc {F : FF} (ha : ga ρ = some (rs, ρ1)) (hz : allFz rs = true) (hF : ∃ ρ', F rs = some (z, ρ')) (hr : isRes z = true) : fCall F ga ρ = some (z, ρ1) := by
  obtain ⟨ρ', hF⟩ := hF
  unfold fCall
  simp only [ha]
  split
  · rename_i rs' i rest
    cases hz
  · simp only [hz, hF, hr, if_true]
theorem ev_fcO {F : FF} {rest : List Sl} (ha : ga ρ = some (.bw i :: rest, ρ1)) (hz : allFz rest = true) (hi : ρ1[i]? = some (.ow m)) (hF : ∃ ρ', F (.rf m :: rest) = some (z, .rf m' :: ρ')) (hr : isRes z = true) : fCall F ga ρ = some (z, ρ1.set i (.ow m')) := by
  obtain ⟨ρ', hF⟩ := hF
  unfold fCall
  simp only [ha, hz, hi, hF, hr, if_true]
theorem ev_fcR {F : FF} {rest : List Sl} (ha : ga ρ = some (.bw i :: rest, ρ1)) (hz : allFz rest = true) (hi : ρ1[i]? = some (.rf m)) (hF : ∃ ρ', F (.rf m :: rest) = some (z, .rf m' :: ρ')) (hr : isRes z = true) : fCall F ga ρ = some (z, ρ1.set i (.rf m')) := by
  obtain ⟨ρ', hF⟩ := hF
  unfold fCall
  simp only [ha, hz, hi, hF, hr, if_true]
theorem fo_no : oNo ρ = some (none, ρ) := rfl
theorem fo_some {k : Int} (h : f ρ = some (.fz (.int k), ρ1)) : oSome f ρ = some (some k, ρ1) := by
  unfold oSome
  simp only [h]
theorem ev_sl {fl fh : Fo} {lo hi : Option Int} (h : f ρ = some (r, ρ1)) (hl : fl ρ1 = some (lo, ρ2)) (hh : fh ρ2 = some (hi, ρ3)) (hd : rd ρ3 r = some d) (hg : gSl d lo hi = some z) : dSl f fl fh ρ = some (z, ρ3) := by
  unfold dSl
  simp only [h, hl, hh, hd, hg]
theorem ev_rev {xs : List D} (h : f ρ = some (r, ρ1)) (hd : rd ρ1 r = some (.lst xs)) : dRevL f ρ = some (.ow (.l xs.reverse), ρ1) := by
  unfold dRevL
  simp only [h, hd]
theorem ev_lrg1 {k : Int} {xs : List Int} (h : f ρ = some (.fz (.int k), ρ1)) (E : rngL 0 k = some xs) : dLRg1 f ρ = some (.ow (.l (xs.map D.int)), ρ1) := by
  unfold rngL at E
  split at E
  · rename_i hc
    cases E
    unfold dLRg1
    simp only [h, hc.1, hc.2.1, and_self, if_true]
    unfold rangeI rangeD
    rw [List.map_map, Int.sub_zero]
    rfl
  · cases E
theorem ev_mt {gm : Gm} {xs ys : List D} (hh : (heldL ρ[i]?).isSome = true) (ha : ga ρ = some (rs, ρ1)) (hd : dsOf rs = some ds) (hx : heldL ρ1[i]? = some xs) (hg : gm xs ds = some (d, ys)) : dMt i ga gm ρ = some (.fz d, putS ρ1 i (.l ys)) := by
  unfold dMt
  cases q : heldL ρ[i]? with
  | none => rw [q] at hh; cases hh
  | some _ => simp only [ha, hd, hx, hg]
end
end DL
namespace DL
open PySem PySem.Spec L2
section
variable {α β γ S R T : Type} {ea : α → D} {eb : β → D}
theorem atI_map (xs : List α) (f : α → β) (i : Int) : atI (xs.map f) i = (atI xs i).map f := by
  unfold atI
  rw [List.length_map]
  cases ixN xs.length i with
  | none => rfl
  | some j => show (xs.map f)[j]? = (xs[j]?).map f; rw [List.getElem?_map]
theorem d_ixL {xs : List α} {i : Int} {v : α} (E : ixI xs i = some v) : gIx (.lst (xs.map ea)) (.int i) = some (.fz (ea v)) := by
  show (atI _ _).map Sl.fz = _
  unfold ixI at E
  rw [atI_map, E]
  rfl
theorem d_ixV {xs : List α} {i : Int} {v : α} (E : ixI xs i = some v) : gIx (.tup (xs.map ea)) (.int i) = some (.fz (ea v)) := by
  show (atI _ _).map Sl.fz = _
  unfold ixI at E
  rw [atI_map, E]
  rfl
theorem d_ixR {xs : List Int} {i v : Int} (E : ixI xs i = some v) : gIx (.scr xs) (.int i) = some (.fz (.int v)) := by
  show (atI _ _).map _ = _
  unfold ixI at E
  rw [E]
  rfl
theorem d_ixS {z v : Str} {i : Int} (E : ixS z i = some v) : gIx (.str z) (.int i) = some (.fz (.str v)) := by
  unfold ixS at E
  split at E
  · rename_i h
    show (if z.length ≤ lim then _ else _) = _
    rw [if_pos h]
    cases q : atI z.cps.toList i with
    | none => rw [q] at E; cases E
    | some c => rw [q] at E; cases E; rfl
  · cases E
theorem d_mul {i j v : Int} (E : mulI i j = some v) : gMul (.int i) (.int j) = some (.fz (.int v)) := by
  unfold mulI at E
  split at E
  · rename_i h
    cases E
    show (if _ then _ else _) = _
    rw [if_pos h]
  · cases E
theorem d_div {i j v : Int} (E : divI i j = some v) : gDiv (.int i) (.int j) = some (.fz (.int v)) := by
  unfold divI at E
  split at E
  · rename_i h
    cases E
    show (if _ then _ else _) = _
    rw [if_pos h]
  · cases E
theorem d_mod {i j v : Int} (E : modI i j = some v) : gMod (.int i) (.int j) = some (.fz (.int v)) := by
  unfold modI at E
  split at E
  · rename_i h
    cases E
    show (if _ then _ else _) = _
    rw [if_pos h]
  · cases E
theorem d_pow {i j v : Int} (E : powI i j = some v) : gPow (.int i) (.int j) = some (.fz (.int v)) := by
  unfold powI at E
  split at E
  · rename_i h
    cases E
    show (if _ then _ else _) = _
    rw [if_pos h]
  · cases E
theorem d_catL {xs ys v : List α} (E : catL xs ys = some v) : gAdd (.lst (xs.map ea)) (.lst (ys.map ea)) = some (.ow (.l (v.map ea))) := by
  unfold catL at E
  split at E
  · rename_i h
    cases E
    show (if _ then _ else _) = _
    rw [List.length_map, List.length_map, if_pos h, List.map_append]
  · cases E
theorem d_catV {xs ys v : List α} (E : catL xs ys = some v) : gAdd (.tup (xs.map ea)) (.tup (ys.map ea)) = some (.fz (.tup (v.map ea))) := by
  unfold catL at E
  split at E
  · rename_i h
    cases E
    show (if _ then _ else _) = _
    rw [List.length_map, List.length_map, if_pos h, List.map_append]
  · cases E
theorem d_catS {a b v : Str} (E : catS a b = some v) : gAdd (.str a) (.str b) = some (.fz (.str v)) := by
  unfold catS at E
  split at E
  · rename_i h
    cases E
    show (if _ then _ else _) = _
    rw [if_pos h]
  · cases E
theorem d_repS {a v : Str} {j : Int} (E : repS a j = some v) : gMul (.str a) (.int j) = some (.fz (.str v)) := by
  unfold repS at E
  split at E
  · rename_i h
    cases E
    show (if _ then _ else _) = _
    rw [if_pos h]
  · cases E
theorem d_app {xs v : List α} {x : α} (E : appL xs x = some v) : gApp (xs.map ea) [ea x] = some (.non, v.map ea) := by
  unfold appL at E
  split at E
  · rename_i h
    cases E
    show (if _ then _ else _) = _
    rw [List.length_map, if_pos h, List.map_append]
    rfl
  · cases E
theorem map_eraseIdx' {f : α → β} : ∀ (xs : List α) (k : Nat), (xs.map f).eraseIdx k = (xs.eraseIdx k).map f
  | [], _ => rfl
  | _ :: _, 0 => rfl
  | x :: xs, k + 1 => congrArg (f x :: ·) (map_eraseIdx' xs k)
theorem d_popAt {xs : List α} {i : Int} {v : α × List α} (E : popAtL xs i = some v) : gPopAt (xs.map ea) [.int i] = some (ea v.1, v.2.map ea) := by
  unfold popAtL at E
  split at E
  · rename_i h
    show (if _ then _ else _) = _
    rw [if_pos h, List.length_map]
    cases q : seqIndex? i xs.length with
    | none => rw [q] at E; cases E
    | some k =>
      rw [q] at E
      show (match (xs.map ea)[k]? with | some d => some (d, (xs.map ea).eraseIdx k) | none => none) = _
      rw [List.getElem?_map]
      cases q2 : xs[k]? with
      | none =>
        have E' : (xs[k]?).map (fun d => (d, xs.eraseIdx k)) = some v := E
        rw [q2] at E'
        cases E'
      | some d =>
        have E' : (xs[k]?).map (fun d => (d, xs.eraseIdx k)) = some v := E
        rw [q2] at E'
        cases E'
        show some (ea d, (xs.map ea).eraseIdx k) = _
        rw [map_eraseIdx']
  · cases E
theorem d_slV (xs : List α) (lo hi : Option Int) : gSl (.tup (xs.map ea)) lo hi = some (.fz (.tup ((cutD xs lo hi).map ea))) := by
  show some (Sl.fz (.tup (cutD _ _ _))) = _
  unfold cutD
  rw [List.length_map, ← List.map_drop, ← List.map_take]
theorem d_slS {z v : Str} {lo hi : Option Int} (E : cutSO z lo hi = some v) : gSl (.str z) lo hi = some (.fz (.str v)) := by
  unfold cutSO at E
  split at E
  · rename_i h
    cases E
    show (if _ then _ else _) = _
    rw [if_pos h]
  · cases E
theorem ev_revL {f : Fe} {ρ ρ1 : En} {r : Sl} {xs : List α} (h : f ρ = some (r, ρ1)) (hd : rd ρ1 r = some (.lst (xs.map ea))) : dRevL f ρ = some (.ow (.l (xs.reverse.map ea)), ρ1) := by
  rw [ev_rev h hd, List.map_reverse]
theorem d_eq {x y : D} {b : Bool} (E : eqO x y = some b) (hs : (match x, y with | .str _, .str _ => false | .int _, .int _ => false | _, _ => true) = true) : gEq x y = some (.fz (.bl b)) := by
  unfold eqO at E
  split at E
  · rename_i h
    cases E
    unfold gEq
    split
    · cases hs
    · cases hs
    · rw [if_pos h]
  · cases E
theorem d_ne {x y : D} {b : Bool} (E : eqO x y = some b) (hs : (match x, y with | .str _, .str _ => false | .int _, .int _ => false | _, _ => true) = true) : gNe x y = some (.fz (.bl (!b))) := by
  unfold eqO at E
  split at E
  · rename_i h
    cases E
    unfold gNe
    split
    · cases hs
    · cases hs
    · rw [if_pos h]
  · cases E
theorem gIn'_lst {x : D} {ys : List D} {b : Bool} (E : inO x ys = some b) : gIn' x (.lst ys) = some b := by
  unfold inO at E
  unfold gIn'
  split at E
  · rename_i h
    cases E
    cases x <;> (show (if _ then _ else _) = _; rw [if_pos h])
  · cases E
theorem d_inL {x : D} {ys : List D} {b : Bool} (E : inO x ys = some b) : gIn x (.lst ys) = some (.fz (.bl b)) := by unfold gIn; rw [gIn'_lst E]; rfl
theorem d_lenL (xs : List α) : gLen [.lst (xs.map ea)] = some (.fz (.int (xs.length : Nat))) := by
  show some (Sl.fz (.int ((xs.map ea).length : Nat))) = _
  rw [List.length_map]
theorem d_lenV (xs : List α) : gLen [.tup (xs.map ea)] = some (.fz (.int (xs.length : Nat))) := by
  show some (Sl.fz (.int ((xs.map ea).length : Nat))) = _
  rw [List.length_map]
theorem tg_nm {i : Nat} {d : D} {ρ : En} (h : kNR ρ[i]? = true) : gNm i d ρ = some (ρ.set i (.fz d)) := by rw [gNm_e, notRf_e, h]; rfl
theorem tg_tp {n : Nat} {gs : Fgs} {ds : List D} {ρ ρ1 : En} (hn : ds.length = n) (h : gs ds ρ = some ρ1) : gTp n gs (.tup ds) ρ = some ρ1 := by rw [gTp_e, if_pos hn]; exact h
theorem tg_cs {h : Fg} {gs : Fgs} {d : D} {ds : List D} {ρ ρ1 ρ2 : En} (h1 : h d ρ = some ρ1) (h2 : gs ds ρ1 = some ρ2) : gsCons h gs (d :: ds) ρ = some ρ2 := by rw [gsCons_e, h1]; exact h2
theorem tg_nl {ρ : En} : gsNil [] ρ = some ρ := rfl
theorem it_r1 {fa : Fa} {ρ ρ1 : En} {n : Int} {xs : List Int} (h : fa ρ = some ([.fz (.int n)], ρ1)) (E : rngO 0 n = some xs) : iRange1 fa ρ = some (xs.map D.int, ρ1) := by
  unfold rngO at E
  split at E
  · rename_i hc
    cases E
    unfold iRange1
    rw [h]
    show (if _ then _ else _) = _
    rw [if_pos ⟨hc.1, hc.2.1⟩]
    unfold rangeI rangeD
    rw [List.map_map, Int.sub_zero]
    rfl
  · cases E
theorem it_r2 {fa : Fa} {ρ ρ1 : En} {m n : Int} {xs : List Int} (h : fa ρ = some ([.fz (.int m), .fz (.int n)], ρ1)) (E : rngO m n = some xs) : iRange2 fa ρ = some (xs.map D.int, ρ1) := by
  unfold rngO at E
  split at E
  · rename_i hc
    cases E
    unfold iRange2
    rw [h]
    show (if _ then _ else _) = _
    rw [if_pos hc]
    unfold rangeI rangeD
    rw [List.map_map]
    rfl
  · cases E
theorem enumI_map (xs : List α) : enumD (xs.map ea) = (enumI xs).map (eP D.int ea) := by
  unfold enumD enumI
  rw [List.zipIdx_map, List.map_map, List.map_map]
  rfl
theorem it_enV {fa : Fa} {ρ ρ1 : En} {xs : List α} (h : fa ρ = some ([.fz (.tup (xs.map ea))], ρ1)) : iEnumD fa ρ = some ((enumI xs).map (eP D.int ea), ρ1) := by
  unfold iEnumD
  rw [h, ← enumI_map]
theorem it_L {f : Fe} {ρ ρ1 ρ2 : En} {r : Sl} {xs : List α} (h : f ρ = some (r, ρ1)) (q : fr ρ1 r = some (.lst (xs.map ea), ρ2)) : iAny f ρ = some (xs.map ea, ρ2) := by
  unfold iAny
  rw [ev_fr h q]
theorem it_V {f : Fe} {ρ ρ1 ρ2 : En} {r : Sl} {xs : List α} (h : f ρ = some (r, ρ1)) (q : fr ρ1 r = some (.tup (xs.map ea), ρ2)) : iAny f ρ = some (xs.map ea, ρ2) := by
  unfold iAny
  rw [ev_fr h q]
theorem it_S {f : Fe} {ρ ρ1 ρ2 : En} {r : Sl} {z : Str} (h : f ρ = some (r, ρ1)) (q : fr ρ1 r = some (.str z, ρ2)) : iAny f ρ = some ((signs z).map D.str, ρ2) := by
  unfold iAny
  rw [ev_fr h q]
  show some (signsD z, ρ2) = _
  unfold signsD signs
  rw [List.map_map]
  rfl
end
section
variable {α β γ S : Type} {ea : α → D} {eb : β → D} {ec : γ → D} {fi fi1 : Fi} {h h1 : Fg} {ft : Ft} {fe : Fe} {vs vs1 : List Nat}
theorem lc_gen {X : Type} {ex : X → D} {st : S → En} (b : S → X → Option (Option β × S))
    (hs : ∀ s x o, b s x = some o → ∃ ρa c ρb, h (ex x) (st s) = some ρa ∧ ft ρa = some (c, ρb) ∧ (match c, o.1 with
      | false, none => wipeD ρb vs = st o.2
      | true, some y => ∃ ρc, dFr fe ρb = some (eb y, ρc) ∧ wipeD ρc vs = st o.2
      | _, _ => False)) (gR : List X → S → Option (List β × S))
    (g0 : ∀ s, gR [] s = some ([], s)) (g1 : ∀ x xs s r, gR (x :: xs) s = some r → ∃ o r', b s x = some o ∧ gR xs o.2 = some r' ∧ r = ((match o.1 with | some y => y :: r'.1 | none => r'.1), r'.2)) :
    ∀ (xs : List X) (s : S) (acc : List D) (r : List β × S), gR xs s = some r → acc.length + xs.length ≤ big → lcL h ft fe vs (xs.map ex) acc (st s) = some (acc ++ r.1.map eb, st r.2)
  | [], s, acc, r, e, _ => by
    rw [g0] at e
    cases e
    show some (acc, st s) = some (acc ++ [], st s)
    rw [List.append_nil]
  | x :: xs, s, acc, r, e, hl => by
    obtain ⟨o, r', e1, e2, rfl⟩ := g1 x xs s r e
    obtain ⟨ρa, c, ρb, k1, k2, k3⟩ := hs s x o e1
    have hlt : acc.length < 16000000 := by
      have hl2 : acc.length + (x :: xs).length ≤ 16000000 := hl
      rw [List.length_cons] at hl2
      omega
    obtain ⟨o1, o2⟩ := o
    cases c with
    | false =>
      cases o1 with
      | some y => exact k3.elim
      | none =>
        have k3' : wipeD ρb vs = st o2 := k3
        have ih := lc_gen b hs gR g0 g1 xs o2 acc r' e2 (by rw [List.length_cons] at hl; omega)
        rw [List.map_cons]
        unfold lcL
        simp only [k1, k2, k3', ih]
    | true =>
      cases o1 with
      | none => exact k3.elim
      | some y =>
        obtain ⟨ρc, k4, k5⟩ := k3
        have k5' : wipeD ρc vs = st o2 := k5
        have ih := lc_gen b hs gR g0 g1 xs o2 (acc ++ [eb y]) r' e2 (by rw [List.length_append, List.length_cons, List.length_nil]; rw [List.length_cons] at hl; omega)
        rw [List.map_cons]
        unfold lcL
        simp only [k1, k2, k4, k5', hlt, if_true, ih]
        rw [List.append_assoc]
        rfl
theorem lc_map (f : α → Option β) {ρ : En} (hs : ∀ x y, f x = some y → ∃ ρa ρc, h (ea x) ρ = some ρa ∧ dFr fe ρa = some (eb y, ρc) ∧ wipeD ρc vs = ρ) (xs : List α) (acc : List D) (r : List β) (e : mapR f xs = some r) (hl : acc.length + xs.length ≤ big) :
    lcL h dYes fe vs (xs.map ea) acc ρ = some (acc ++ r.map eb, ρ) :=
  lc_gen (S := Unit) (st := fun _ => ρ) (ex := ea) (eb := eb) (fun _ x => (f x).map fun y => (some y, ()))
    (fun s x o e => by
      cases q : f x with
      | none => rw [q] at e; cases e
      | some y =>
        rw [q] at e
        cases e
        obtain ⟨ρa, ρc, k1, k2, k3⟩ := hs x y q
        exact ⟨ρa, true, ρa, k1, rfl, ρc, k2, k3⟩) (fun xs s => (mapR f xs).map fun r => (r, ())) (fun _ => rfl)
    (fun x xs s r e => by
      cases q : mapR f (x :: xs) with
      | none => rw [q] at e; cases e
      | some zs =>
        rw [q] at e
        cases e
        obtain ⟨y, e1, q⟩ := bnd q
        obtain ⟨ys, e2, q⟩ := bnd q
        cases q
        exact ⟨(some y, ()), (ys, ()), by rw [e1]; rfl, by rw [e2]; rfl, rfl⟩) xs () acc (r, ()) (by rw [e]; rfl) hl
theorem ev_lcO {ρ ρ1 ρ2 : En} {f : α → Option β} {xs : List α} {r : List β} (E : mapO f xs = some r) (hi : fi ρ = some (xs.map ea, ρ1)) (hs : ∀ x y, f x = some y → ∃ ρa ρc, h (ea x) (wipeD ρ1 vs) = some ρa ∧ dFr fe ρa = some (eb y, ρc) ∧ wipeD ρc vs = wipeD ρ1 vs)
    (hr : restD ρ1 (wipeD ρ1 vs) vs = ρ2) : dLc fi h dYes fe vs ρ = some (.ow (.l (r.map eb)), ρ2) := by
  unfold mapO at E
  split at E
  · rename_i hl
    have := lc_map (h := h) (fe := fe) (vs := vs) f hs xs [] r E (by show 0 + _ ≤ _; omega)
    rw [dLc_eq hi this, hr, List.nil_append]
  · cases E
theorem ev_lcB {ρ ρ1 ρ2 : En} {f : α → β} {xs : List α} {r : List β} (E : mapB f xs = some r) (hi : fi ρ = some (xs.map ea, ρ1)) (hs : ∀ x, ∃ ρa ρc, h (ea x) (wipeD ρ1 vs) = some ρa ∧ dFr fe ρa = some (eb (f x), ρc) ∧ wipeD ρc vs = wipeD ρ1 vs)
    (hr : restD ρ1 (wipeD ρ1 vs) vs = ρ2) : dLc fi h dYes fe vs ρ = some (.ow (.l (r.map eb)), ρ2) := by
  unfold mapB at E
  split at E
  · rename_i hl
    cases E
    have q : ∀ xs : List α, mapR (fun x => some (f x)) xs = some (xs.map f) := fun xs => by
      induction xs with
      | nil => rfl
      | cons x xs ih => unfold mapR; rw [ih]; rfl
    refine ev_lcO (f := fun x => some (f x)) (xs := xs) ?_ hi (fun x y e => by cases e; exact hs x) hr
    unfold mapO
    rw [if_pos hl]
    exact q xs
  · cases E
theorem ev_lcF {ρ ρ1 ρ2 : En} {p : α → Option Bool} {f : α → Option β} {xs : List α} {r : List β} (E : filO p f xs = some r) (hi : fi ρ = some (xs.map ea, ρ1))
    (hs : ∀ x c, p x = some c → ∃ ρa, h (ea x) (wipeD ρ1 vs) = some ρa ∧ ft ρa = some (c, ρa) ∧ (c = false → wipeD ρa vs = wipeD ρ1 vs) ∧ (c = true → ∀ y, f x = some y → ∃ ρc, dFr fe ρa = some (eb y, ρc) ∧ wipeD ρc vs = wipeD ρ1 vs))
    (hr : restD ρ1 (wipeD ρ1 vs) vs = ρ2) : dLc fi h ft fe vs ρ = some (.ow (.l (r.map eb)), ρ2) := by
  unfold filO at E
  split at E
  · rename_i hl
    have := lc_gen (S := Unit) (st := fun _ => wipeD ρ1 vs) (ex := ea) (eb := eb) (h := h) (ft := ft) (fe := fe) (vs := vs) (fun _ x => (p x).bind fun c => cond c ((f x).map fun y => (some y, ())) (some (none, ())))
      (fun s x o e => by
        obtain ⟨c, e1, e⟩ := bnd e
        obtain ⟨ρa, k1, k2, k3, k4⟩ := hs x c e1
        cases c with
        | false =>
          cases e
          exact ⟨ρa, false, ρa, k1, k2, k3 rfl⟩
        | true =>
          have e' : (f x).map (fun y => (some y, ())) = some o := e
          cases q : f x with
          | none => rw [q] at e'; cases e'
          | some y =>
            rw [q] at e'
            cases e'
            obtain ⟨ρc, k5, k6⟩ := k4 rfl y q
            exact ⟨ρa, true, ρa, k1, k2, ρc, k5, k6⟩) (fun xs s => (filR p f xs).map fun r => (r, ())) (fun _ => rfl)
      (fun x xs s r e => by
        cases q : filR p f (x :: xs) with
        | none => rw [q] at e; cases e
        | some zs =>
          rw [q] at e
          cases e
          obtain ⟨c, e1, q⟩ := bnd q
          cases c with
          | false =>
            have q' : filR p f xs = some zs := q
            exact ⟨(none, ()), (zs, ()), by rw [e1]; rfl, by rw [q']; rfl, rfl⟩
          | true =>
            obtain ⟨y, e2, q⟩ := bnd (show (f x).bind _ = _ from q)
            obtain ⟨ys, e3, q⟩ := bnd q
            cases q
            exact ⟨(some y, ()), (ys, ()), by rw [e1]; show (f x).map _ = _; rw [e2]; rfl, by rw [e3]; rfl, rfl⟩) xs () [] (r, ()) (by rw [E]; rfl) (by show 0 + _ ≤ _; omega)
    rw [dLc_eq hi this, hr, List.nil_append]
  · cases E
theorem ev_lcS {ρ ρ1 ρ2 : En} {st : S → En} {s0 : S} {f : S → α → Option (β × S)} {xs : List α} {r : List β × S} (E : mapS f xs s0 = some r) (hi : fi ρ = some (xs.map ea, ρ1)) (h0 : wipeD ρ1 vs = st s0)
    (hs : ∀ s x y, f s x = some y → ∃ ρa ρc, h (ea x) (st s) = some ρa ∧ dFr fe ρa = some (eb y.1, ρc) ∧ wipeD ρc vs = st y.2)
    (hr : restD ρ1 (st r.2) vs = ρ2) : dLc fi h dYes fe vs ρ = some (.ow (.l (r.1.map eb)), ρ2) := by
  unfold mapS at E
  split at E
  · rename_i hl
    have := lc_gen (S := S) (st := st) (ex := ea) (eb := eb) (h := h) (ft := dYes) (fe := fe) (vs := vs) (fun s x => (f s x).map fun y => (some y.1, y.2))
      (fun s x o e => by
        cases q : f s x with
        | none => rw [q] at e; cases e
        | some y =>
          rw [q] at e
          cases e
          obtain ⟨ρa, ρc, k1, k2, k3⟩ := hs s x y q
          exact ⟨ρa, true, ρa, k1, rfl, ρc, k2, k3⟩) (mapSR f) (fun _ => rfl)
      (fun x xs s r e => by
        obtain ⟨y, e1, e⟩ := bnd e
        obtain ⟨ys, e2, e⟩ := bnd e
        cases e
        exact ⟨(some y.1, y.2), ys, by rw [e1]; rfl, e2, rfl⟩) xs s0 [] r E (by show 0 + _ ≤ _; omega)
    rw [← h0] at this
    rw [dLc_eq hi this, hr, List.nil_append]
  · cases E
def In2 (fi1 : Fi) (h1 : Fg) (ft1 : Ft) (fe : Fe) (vs vs1 : List Nat) (ρa ρ : En) (zs : List D) : Prop :=
  ∃ ys ρ3 ρ4, fi1 ρa = some (ys, ρ3) ∧ wipeD ρ4 vs = ρ ∧ ∀ acc : List D, acc.length + zs.length ≤ big → lcL h1 ft1 fe vs1 ys acc (wipeD ρ3 vs1) = some (acc ++ zs, ρ4)
theorem in2_map {fi1 : Fi} {h1 : Fg} {fe : Fe} {vs vs1 : List Nat} {ρa ρ ρ3 : En} {f : γ → Option β} {ys : List γ} {zs : List β} (E : mapR f ys = some zs) (hi : fi1 ρa = some (ys.map ec, ρ3)) (hw : wipeD (wipeD ρ3 vs1) vs = ρ)
    (hs : ∀ x y, f x = some y → ∃ ρb ρc, h1 (ec x) (wipeD ρ3 vs1) = some ρb ∧ dFr fe ρb = some (eb y, ρc) ∧ wipeD ρc vs1 = wipeD ρ3 vs1) : In2 fi1 h1 dYes fe vs vs1 ρa ρ (zs.map eb) := by
  have hl : zs.length = ys.length := by
    clear hi hs hw
    induction ys generalizing zs with
    | nil => cases E; rfl
    | cons y ys ih =>
      obtain ⟨a, e1, E⟩ := bnd E
      obtain ⟨b, e2, E⟩ := bnd E
      cases E
      rw [List.length_cons, List.length_cons, ih e2]
  exact ⟨_, ρ3, _, hi, hw, fun acc ha => lc_map (h := h1) (fe := fe) (vs := vs1) f hs ys acc zs E (by rw [List.length_map] at ha; omega)⟩
theorem lc2_gen {f : α → Option (List β)} {ρ : En} (hs : ∀ x zs, f x = some zs → ∃ ρa, h (ea x) ρ = some ρa ∧ In2 fi1 h1 dYes fe vs vs1 ρa ρ (zs.map eb)) :
    ∀ (xs : List α) (acc : List D) (zs : List β), flatR f xs = some zs → acc.length + zs.length ≤ big → lc2L h dYes fi1 h1 dYes fe vs vs1 (xs.map ea) acc ρ = some (acc ++ zs.map eb, ρ)
  | [], acc, zs, e, _ => by
    cases e
    show some (acc, ρ) = some (acc ++ [], ρ)
    rw [List.append_nil]
  | x :: xs, acc, zs, e, hl => by
    obtain ⟨a, e1, e⟩ := bnd e
    obtain ⟨b, e2, e⟩ := bnd e
    cases e
    rw [List.length_append] at hl
    obtain ⟨ρa, k1, ys, ρ3, ρ4, k2, k3, k4⟩ := hs x a e1
    have k5 := k4 acc (by rw [List.length_map]; omega)
    have ih := lc2_gen hs xs (acc ++ a.map eb) b e2 (by rw [List.length_append, List.length_map]; omega)
    rw [List.map_cons]
    unfold lc2L
    have y : ∀ ρ : En, dYes ρ = some (true, ρ) := fun _ => rfl
    simp only [k1, y, k2]
    rw [k5]
    show lc2L h dYes fi1 h1 dYes fe vs vs1 (xs.map ea) (acc ++ a.map eb) (wipeD ρ4 vs) = _
    rw [k3, ih, List.map_append, List.append_assoc]
theorem dLc2_eq' {ft ft1 : Ft} {ρ ρ1 ρ2 : En} {xs acc : List D} (e1 : fi ρ = some (xs, ρ1)) (e2 : lc2L h ft fi1 h1 ft1 fe vs vs1 xs [] (wipeD ρ1 vs) = some (acc, ρ2)) :
    dLc2 fi h ft fi1 h1 ft1 fe vs vs1 ρ = some (.ow (.l acc), restD ρ1 ρ2 vs) := by
  unfold dLc2
  simp only [e1, e2]
theorem ev_lc2 {ρ ρ1 ρ2 : En} {f : α → Option (List β)} {xs : List α} {r : List β} (E : flatO f xs = some r) (hi : fi ρ = some (xs.map ea, ρ1)) (hs : ∀ x zs, f x = some zs → ∃ ρa, h (ea x) (wipeD ρ1 vs) = some ρa ∧ In2 fi1 h1 dYes fe vs vs1 ρa (wipeD ρ1 vs) (zs.map eb))
    (hr : restD ρ1 (wipeD ρ1 vs) vs = ρ2) : dLc2 fi h dYes fi1 h1 dYes fe vs vs1 ρ = some (.ow (.l (r.map eb)), ρ2) := by
  obtain ⟨zs, e1, E⟩ := bnd E
  split at E
  · rename_i hl
    cases E
    have := lc2_gen (h := h) (fi1 := fi1) (h1 := h1) (fe := fe) (vs := vs) (vs1 := vs1) hs xs [] r e1 (by show 0 + _ ≤ _; omega)
    rw [dLc2_eq' hi this, hr, List.nil_append]
  · cases E
end
end DL
namespace DL
open PySem PySem.Spec L2
section
variable {κ ν : Type} [DecidableEq κ] {ev : ν → D}
def getK (kvs : List (κ × ν)) (k : κ) : Option ν := (kvs.find? fun p => decide (p.1 = k)).map (·.2)
def hasK (kvs : List (κ × ν)) (k : κ) : Bool := kvs.any fun p => decide (p.1 = k)
def putK' (kvs : List (κ × ν)) (k : κ) (v : ν) : List (κ × ν) := if hasK kvs k = true then kvs.map (fun p => if p.1 = k then (p.1, v) else p) else kvs ++ [(k, v)]
def putO (kvs : List (κ × ν)) (k : κ) (v : ν) : Option (List (κ × ν)) := if kvs.length ≤ lim then some (putK' kvs k v) else none
def mapKV {σ : Type} (ek : κ → σ) (ev : ν → D) (kvs : List (κ × ν)) : List (σ × D) := kvs.map fun p => (ek p.1, ev p.2)
variable {σ : Type} [DecidableEq σ] {ek : κ → σ}
theorem valD_map (hi : ∀ a b, ek a = ek b → a = b) (kvs : List (κ × ν)) (k : κ) : valD (mapKV ek ev kvs) (ek k) = (getK kvs k).map ev := by
  unfold valD getK mapKV
  rw [List.find?_map]
  have : ((fun p : σ × D => decide (p.1 = ek k)) ∘ fun p : κ × ν => (ek p.1, ev p.2)) = fun p : κ × ν => decide (p.1 = k) := funext fun p => by
    show decide (ek p.1 = ek k) = decide (p.1 = k)
    by_cases h : p.1 = k
    · rw [h]; simp
    · rw [decide_eq_false h, decide_eq_false fun e => h (hi _ _ e)]
  rw [this]
  cases kvs.find? fun p => decide (p.1 = k) <;> rfl
theorem has_get (kvs : List (κ × ν)) (k : κ) : (getK kvs k).isSome = hasK kvs k := by
  unfold getK hasK
  rw [Option.isSome_map]
  induction kvs with
  | nil => rfl
  | cons p kvs ih =>
    rw [List.find?_cons, List.any_cons]
    cases decide (p.1 = k) with
    | true => rfl
    | false => rw [Bool.false_or, ← ih]
theorem putD_map (hi : ∀ a b, ek a = ek b → a = b) (kvs : List (κ × ν)) (k : κ) (v : ν) : putD (mapKV ek ev kvs) (ek k) (ev v) = mapKV ek ev (putK' kvs k v) := by
  have h1 : ((mapKV ek ev kvs).any fun p => decide (p.1 = ek k)) = hasK kvs k := by
    unfold mapKV hasK
    rw [List.any_map]
    refine congrArg (fun f => kvs.any f) (funext fun p => ?_)
    show decide (ek p.1 = ek k) = decide (p.1 = k)
    by_cases h : p.1 = k
    · rw [h]; simp
    · rw [decide_eq_false h, decide_eq_false fun e => h (hi _ _ e)]
  unfold putD putK'
  rw [h1]
  split
  · unfold mapKV
    rw [List.map_map, List.map_map]
    refine List.map_congr_left fun p _ => ?_
    show (if ek p.1 = ek k then (ek p.1, ev v) else (ek p.1, ev p.2)) = _
    by_cases h : p.1 = k
    · rw [if_pos (by rw [h])]; show _ = (ek (if p.1 = k then (p.1, v) else p).1, ev (if p.1 = k then (p.1, v) else p).2); rw [if_pos h]
    · rw [if_neg fun e => h (hi _ _ e)]; show _ = (ek (if p.1 = k then (p.1, v) else p).1, ev (if p.1 = k then (p.1, v) else p).2); rw [if_neg h]
  · unfold mapKV
    rw [List.map_append]
    rfl
theorem mget_k {f : κ → D} {e : κ → Key} (hf : ∀ k, kOf (f k) = some (e k)) (hi : ∀ a b, e a = e b → a = b) (kvs : List (κ × ν)) (k : κ) : mGet (.k (mapKV e ev kvs)) (f k) = some ((getK kvs k).map ev) := by
  show (kOf _).map _ = _
  rw [hf, Option.map_some, valD_map hi]
theorem mget_t {f : κ → List D} {e : κ → List Key} (hf : ∀ k, ksOf (f k) = some (e k)) (hi : ∀ a b, e a = e b → a = b) (kvs : List (κ × ν)) (k : κ) : mGet (.t (mapKV e ev kvs)) (.tup (f k)) = some ((getK kvs k).map ev) := by
  show (ksOf _).map _ = _
  rw [hf, Option.map_some, valD_map hi]
theorem mput_t {f : κ → List D} {e : κ → List Key} (hf : ∀ k, ksOf (f k) = some (e k)) (hi : ∀ a b, e a = e b → a = b) {kvs r : List (κ × ν)} {k : κ} {v : ν} (E : putO kvs k v = some r) : mPut (.t (mapKV e ev kvs)) (.tup (f k)) (ev v) = some (.t (mapKV e ev r)) := by
  unfold putO at E
  split at E
  · rename_i hl
    cases E
    show (if (mapKV e ev kvs).length ≤ lim then (ksOf (f k)).map (fun k => Mu.t (putD (mapKV e ev kvs) k (ev v))) else none) = _
    rw [if_pos (by unfold mapKV; rw [List.length_map]; exact hl), hf, Option.map_some, putD_map hi]
  · cases E
end
abbrev kS : Str → Key := .inr
abbrev kII (p : Int × Int) : List Key := [.inl p.1, .inl p.2]
theorem kS_inj : ∀ a b : Str, kS a = kS b → a = b := fun a b h => Sum.inr.inj h
theorem kII_inj : ∀ a b : Int × Int, kII a = kII b → a = b := fun a b h => by
  obtain ⟨a1, a2⟩ := a
  obtain ⟨b1, b2⟩ := b
  simpa [kII] using h
theorem kfS (k : Str) : kOf (.str k) = some (kS k) := rfl
theorem kfII (k : Int × Int) : ksOf [.int k.1, .int k.2] = some (kII k) := rfl
section
variable {fk fv : Fe} {ρ ρ1 ρ2 : En} {i : Nat} {rk r : Sl} {d v : D} {m m' : Mu} {o : Option D} {neg : Bool}
theorem ev_dget (h0 : (heldM ρ[i]?).isSome = true) (hk : fk ρ = some (rk, ρ1)) (hd : rd ρ1 rk = some d) (hm : heldM ρ1[i]? = some m) (hg : mGet m d = some (some v)) : dDGet i fk ρ = some (.fz v, ρ1) := by
  unfold dDGet
  cases q : heldM ρ[i]? with
  | none => rw [q] at h0; cases h0
  | some _ => simp only [hk, hd, hm, hg]
theorem ev_din (hk : fk ρ = some (rk, ρ1)) (hd : rd ρ1 rk = some d) (hm : heldM ρ1[i]? = some m) (hg : mGet m d = some o) : dDIn neg i fk ρ = some (.fz (.bl (neg ^^ o.isSome)), ρ1) := by
  unfold dDIn
  simp only [hk, hd, hm, hg]
end
section
variable {κ ν : Type} [DecidableEq κ] {ev : ν → D} {fk : Fe} {ρ ρ1 : En} {i : Nat} {rk : Sl} {kvs : List (κ × ν)} {k : κ} {v : ν}
theorem ev_getK {f : κ → D} {e : κ → Key} (hf : ∀ k, kOf (f k) = some (e k)) (hi : ∀ a b, e a = e b → a = b) (E : getK kvs k = some v) (h0 : (heldM ρ[i]?).isSome = true) (hk : fk ρ = some (rk, ρ1)) (hd : rd ρ1 rk = some (f k)) (hm : heldM ρ1[i]? = some (.k (mapKV e ev kvs))) :
    dDGet i fk ρ = some (.fz (ev v), ρ1) := ev_dget h0 hk hd hm (by rw [mget_k hf hi, E]; rfl)
theorem ev_getT {f : κ → List D} {e : κ → List Key} (hf : ∀ k, ksOf (f k) = some (e k)) (hi : ∀ a b, e a = e b → a = b) (E : getK kvs k = some v) (h0 : (heldM ρ[i]?).isSome = true) (hk : fk ρ = some (rk, ρ1)) (hd : rd ρ1 rk = some (.tup (f k))) (hm : heldM ρ1[i]? = some (.t (mapKV e ev kvs))) :
    dDGet i fk ρ = some (.fz (ev v), ρ1) := ev_dget h0 hk hd hm (by rw [mget_t hf hi, E]; rfl)
theorem ev_hasT {neg : Bool} {f : κ → List D} {e : κ → List Key} (hf : ∀ k, ksOf (f k) = some (e k)) (hi : ∀ a b, e a = e b → a = b) (hk : fk ρ = some (rk, ρ1)) (hd : rd ρ1 rk = some (.tup (f k))) (hm : heldM ρ1[i]? = some (.t (mapKV e ev kvs))) :
    dDIn neg i fk ρ = some (.fz (.bl (neg ^^ hasK kvs k)), ρ1) := by
  rw [ev_din hk hd hm (mget_t hf hi kvs k), Option.isSome_map, has_get]
end
def Run (B : Fs) (ρ : En) (Q : Fl → En → Prop) : Prop := ∃ fl ρ', B ρ = some (fl, ρ') ∧ Q fl ρ'
section
variable {A B C : Fs} {f fe fk : Fe} {t : Ft} {ga : Fa} {ρ ρ1 ρ2 ρ3 : En} {i j : Nat} {d d' v : D} {r z : Sl} {c : Bool} {Q : Fl → En → Prop} {R S α : Type}
theorem run_seq (h : A ρ = some (.nx, ρ1)) (k : Run B ρ1 Q) : Run (bSeq A B) ρ Q := by
  obtain ⟨fl, ρ', e, q⟩ := k
  exact ⟨fl, ρ', by unfold bSeq; simp only [h, e], q⟩
theorem run_out {fl : Fl} (h : A ρ = some (fl, ρ1)) (n : fl ≠ .nx) (q : Q fl ρ1) : Run (bSeq A B) ρ Q := by
  refine ⟨fl, ρ1, ?_, q⟩
  unfold bSeq
  simp only [h]
  cases fl with
  | nx => exact absurd rfl n
  | _ => rfl
theorem run_asg (hf : f ρ = some (r, ρ1)) (hz : toSlot ρ1 r = some (z, ρ2)) (hn : kNR ρ2[i]? = true) (k : Run B (ρ2.set i z) Q) : Run (bSeq (bAsg i f) B) ρ Q :=
  run_seq (by rw [bAsg_e, hf]; show kAsg2 i (toSlot ρ1 r) = _; rw [hz]; show kAsg3 (notRf ρ2 i) i z ρ2 = _; rw [notRf_e, hn]; rfl) k
theorem run_unp {h : Fg} (hf : f ρ = some (r, ρ1)) (hq : fr ρ1 r = some (d, ρ2)) (hd : d = d') (hh : h d' ρ2 = some ρ3) (k : Run B ρ3 Q) : Run (bSeq (bUnp h f) B) ρ Q :=
  run_seq (by unfold bUnp; subst hd; simp only [ev_fr hf hq, hh]) k
theorem run_par (ha : ga ρ = some ([.fz d, .fz v], ρ1)) (hi : kNR ρ1[i]? = true) (hj : kNR ρ1[j]? = true) (k : Run B ((ρ1.set i (.fz d)).set j (.fz v)) Q) : Run (bSeq (bPar i j ga) B) ρ Q :=
  run_seq (by unfold bPar; rw [ha]; show (if _ then _ else _) = _; rw [if_pos ⟨by rw [notRf_e]; exact hi, by rw [notRf_e]; exact hj⟩]) k
theorem run_drop (hf : f ρ = some (r, ρ1)) (k : Run B ρ1 Q) : Run (bSeq (bDrop f) B) ρ Q := run_seq (by unfold bDrop; simp only [hf]) k
theorem run_if (ht : t ρ = some (c, ρ)) (h1 : c = true → Run (bSeq A C) ρ Q) (h2 : c = false → Run (bSeq B C) ρ Q) : Run (bSeq (bIf t A B) C) ρ Q := by
  cases c with
  | true =>
    obtain ⟨fl, ρ', e, q⟩ := h1 rfl
    refine ⟨fl, ρ', ?_, q⟩
    rw [← e]
    unfold bSeq bIf
    simp only [ht]
  | false =>
    obtain ⟨fl, ρ', e, q⟩ := h2 rfl
    refine ⟨fl, ρ', ?_, q⟩
    rw [← e]
    unfold bSeq bIf
    simp only [ht]
theorem run_assoc (h : Run (bSeq A (bSeq B C)) ρ Q) : Run (bSeq (bSeq A B) C) ρ Q := by
  obtain ⟨fl, ρ', e, q⟩ := h
  refine ⟨fl, ρ', ?_, q⟩
  rw [← e]
  unfold bSeq
  cases A ρ with
  | none => rfl
  | some y =>
    obtain ⟨fl, ρ1⟩ := y
    cases fl <;> rfl
theorem run_next (h : Run C ρ Q) : Run (bSeq bNext C) ρ Q := h
theorem run_last (h : Run (bSeq A bNext) ρ Q) : Run A ρ Q := by
  obtain ⟨fl, ρ', e, q⟩ := h
  refine ⟨fl, ρ', ?_, q⟩
  rw [← e]
  unfold bSeq bNext
  cases A ρ with
  | none => rfl
  | some y =>
    obtain ⟨fl, ρ1⟩ := y
    cases fl <;> rfl
theorem run_setIx {fi : Fe} {k : Int} {xs : List α} {ea : α → D} {x : α} {w : List α} (hf : fe ρ = some (r, ρ1)) (hq : fr ρ1 r = some (ea x, ρ2)) (h0 : (heldL ρ2[i]?).isSome = true) (hi : fi ρ2 = some (.fz (.int k), ρ3)) (hx : heldL ρ3[i]? = some (xs.map ea)) (E : setL xs k x = some w)
    (kk : Run B (putS ρ3 i (.l (w.map ea))) Q) : Run (bSeq (bSetIx i fi fe) B) ρ Q :=
  run_seq (by
    unfold setL at E
    unfold bSetIx
    simp only [ev_fr hf hq]
    cases q : heldL ρ2[i]? with
    | none => rw [q] at h0; cases h0
    | some _ =>
      simp only [hi, hx, List.length_map]
      cases q2 : ixN xs.length k with
      | none => rw [q2] at E; cases E
      | some j =>
        rw [q2] at E
        cases E
        simp only [List.map_set]) kk
theorem setAt_d {fi : Fe} {k : Int} {xs w : List α} {ea : α → D} {x : α} (h0 : (heldL ρ[i]?).isSome = true) (hi : fi ρ = some (.fz (.int k), ρ1)) (hx : heldL ρ1[i]? = some (xs.map ea)) (E : setL xs k x = some w) : setAt i fi (ea x) ρ = some (putS ρ1 i (.l (w.map ea))) := by
  unfold setL at E
  unfold setAt
  cases q : heldL ρ[i]? with
  | none => rw [q] at h0; cases h0
  | some _ =>
    simp only [hi, hx, List.length_map]
    cases q2 : ixN xs.length k with
    | none => rw [q2] at E; cases E
    | some j =>
      rw [q2] at E
      cases E
      simp only [List.map_set]
theorem run_set2 {f1 f2 : Fe} (hf : f ρ = some (r, ρ1)) (hq : fr ρ1 r = some (.tup [d, v], ρ2)) (h1 : setAt i f1 d ρ2 = some ρ3) {ρ4 : En} (h2 : setAt i f2 v ρ3 = some ρ4) (k : Run B ρ4 Q) : Run (bSeq (bSet2 i f1 f2 f) B) ρ Q :=
  run_seq (by unfold bSet2; simp only [ev_fr hf hq, h1, h2]) k
theorem run_dput {rk : Sl} {m m' : Mu} (hf : f ρ = some (r, ρ1)) (hq : fr ρ1 r = some (v, ρ2)) (h0 : (heldM ρ2[i]?).isSome = true) (hk : fk ρ2 = some (rk, ρ3)) (hd : rd ρ3 rk = some d) (hm : heldM ρ3[i]? = some m) (hp : mPut m d v = some m') (k : Run B (putS ρ3 i m') Q) : Run (bSeq (bDPut i fk f) B) ρ Q :=
  run_seq (by
    unfold bDPut
    simp only [ev_fr hf hq]
    cases q : heldM ρ2[i]? with
    | none => rw [q] at h0; cases h0
    | some _ => simp only [hk, hd, hm, hp]) k
theorem run_ret {Qr : R → Fl → En → Prop} {x y : R} (h : some x = some y) (hf : f ρ = some (r, ρ1)) (q : Qr x (.rt r) ρ1) : Run (bSeq (bRet f) C) ρ (Qr y) := by
  cases h
  exact run_out (by unfold bRet; simp only [hf]) (by intro h; cases h) q
theorem run_done {Qr : R → Fl → En → Prop} {x y : R} (h : some x = some y) (q : Qr x .nx ρ) : Run bNext ρ (Qr y) := by
  cases h
  exact ⟨.nx, ρ, rfl, q⟩
def LoopQ (P : S → En → Prop) (s : S) : Fl → En → Prop := fun fl ρ => (fl = .nx ∨ fl = .ct) ∧ P s ρ
theorem for_n {ea : α → D} {h : Fg} (body : S → α → Option S) (Rel : S → En → Prop) (hs : ∀ s x s' ρ, Rel s ρ → body s x = some s' → ∃ ρa, h (ea x) ρ = some ρa ∧ Run B ρa (LoopQ Rel s')) :
    ∀ (xs : List α) (s s1 : S) (ρ : En), forN body xs s = some s1 → Rel s ρ → ∃ ρ', forL h B (xs.map ea) ρ = some (.nx, ρ') ∧ Rel s1 ρ'
  | [], s, s1, ρ, e, hr => by
    cases e
    exact ⟨ρ, rfl, hr⟩
  | x :: xs, s, s1, ρ, e, hr => by
    obtain ⟨s', e1, e2⟩ := bnd e
    obtain ⟨ρa, k1, fl, ρb, k2, k3, k4⟩ := hs s x s' ρ hr e1
    obtain ⟨ρ', k5, k6⟩ := for_n body Rel hs xs s' s1 ρb e2 k4
    refine ⟨ρ', ?_, k6⟩
    rw [List.map_cons]
    unfold forL
    rcases k3 with rfl | rfl
    · simp only [k1, k2, k5]
    · simp only [k1, k2, k5]
theorem run_for {ea : α → D} {h : Fg} {fi : Fi} {body : S → α → Option S} {xs : List α} {s0 s1 : S} (E : forN body xs s0 = some s1) (Rel : S → En → Prop) (hi : fi ρ = some (xs.map ea, ρ1)) (h0 : Rel s0 ρ1)
    (hs : ∀ s x s' ρ, Rel s ρ → body s x = some s' → ∃ ρa, h (ea x) ρ = some ρa ∧ Run B ρa (LoopQ Rel s')) (k : ∀ ρ, Rel s1 ρ → Run C ρ Q) : Run (bSeq (bFor fi h B) C) ρ Q := by
  obtain ⟨ρ', e1, e2⟩ := for_n body Rel hs xs s0 s1 ρ1 E h0
  exact run_seq (bFor_eq hi e1) (k ρ' e2)
def RetQ (zf : R → Sl) (r : R) : Fl → En → Prop := fun fl ρ => match fl with
  | .rt x => resolve ρ x = some (zf r)
  | .nx => zf r = .fz .non
  | _ => False
def RetL (zf : R → Sl) (mf : R → Mu) (r : R) : Fl → En → Prop := fun fl ρ => (match fl with
  | .rt x => resolve ρ x = some (zf r)
  | .nx => zf r = .fz .non
  | _ => False) ∧ ρ[0]? = some (.rf (mf r))
theorem fn_ok {k : Nat} {zf : R → Sl} {x : R} (h : Run B (ρ ++ List.replicate k .un) (RetQ zf x)) : ∃ ρ', runF k B ρ = some (zf x, ρ') := by
  obtain ⟨fl, ρe, e, q⟩ := h
  unfold runF
  rw [e]
  cases fl with
  | rt x =>
    have q' : resolve ρe x = some _ := q
    exact ⟨fin ρ ρe, by unfold endF; simp only [q']⟩
  | nx =>
    have q' : _ = Sl.fz .non := q
    exact ⟨fin ρ ρe, by unfold endF; simp only [q']⟩
  | bk => exact q.elim
  | ct => exact q.elim
  | ex _ _ _ => exact q.elim
theorem fn_rf {k : Nat} {m : Mu} {zf : R → Sl} {mf : R → Mu} {x : R} (h : Run B ((.rf m :: ρ) ++ List.replicate k .un) (RetL zf mf x)) : ∃ ρ', runF k B (.rf m :: ρ) = some (zf x, .rf (mf x) :: ρ') := by
  obtain ⟨fl, ρe, e, q, q0⟩ := h
  have hf : ∃ ρ', fin (.rf m :: ρ) ρe = .rf (mf x) :: ρ' := by
    cases ρe with
    | nil => cases q0
    | cons a ρe =>
      have : a = .rf (mf x) := Option.some.inj q0
      subst this
      exact ⟨List.zipWith finS ρ ρe, rfl⟩
  obtain ⟨ρ', hf⟩ := hf
  unfold runF
  rw [e]
  cases fl with
  | rt x =>
    have q' : resolve ρe x = some _ := q
    exact ⟨ρ', by unfold endF; simp only [q', hf]⟩
  | nx =>
    have q' : _ = Sl.fz .non := q
    exact ⟨ρ', by unfold endF; simp only [q', hf]⟩
  | bk => exact q.elim
  | ct => exact q.elim
  | ex _ _ _ => exact q.elim
end
end DL
namespace DL
open PySem PySem.Spec L2
inductive Board where
  | row (n : Int) | ring (n : Int) | floor (h w : Int)
  deriving DecidableEq
def Board.d : Board → D
  | .row n => .tup [.str "row", .int n]
  | .ring n => .tup [.str "ring", .int n]
  | .floor h w => .tup [.str "floor", .int h, .int w]
def Board.tag : Board → Str
  | .row _ => "row"
  | .ring _ => "ring"
  | .floor _ _ => "floor"
def Board.isRow : Board → Bool
  | .row _ => true
  | _ => false
def Board.isRing : Board → Bool
  | .ring _ => true
  | _ => false
def Board.isFloor : Board → Bool
  | .floor _ _ => true
  | _ => false
def Board.n1 : Board → Int
  | .row n => n
  | .ring n => n
  | .floor h _ => h
def Board.n2 : Board → Option Int
  | .floor _ w => some w
  | _ => none
def Board.hw : Board → Option (Int × Int)
  | .floor h w => some (h, w)
  | _ => none
def Board.shw : Board → Option (Str × Int × Int)
  | .floor h w => some ("floor", h, w)
  | _ => none
inductive Rule where
  | swap (k c : Int) | over (h w c : Int) | under (h w c : Int)
  deriving DecidableEq
def Rule.d : Rule → D
  | .swap k c => .tup [.str "swap", .int k, .int c]
  | .over h w c => .tup [.str "over", .int h, .int w, .int c]
  | .under h w c => .tup [.str "under", .int h, .int w, .int c]
def Rule.tag : Rule → Str
  | .swap _ _ => "swap"
  | .over _ _ _ => "over"
  | .under _ _ _ => "under"
def Rule.isSwap : Rule → Bool
  | .swap _ _ => true
  | _ => false
def Rule.isOver : Rule → Bool
  | .over _ _ _ => true
  | _ => false
def Rule.isUnder : Rule → Bool
  | .under _ _ _ => true
  | _ => false
def Rule.n1 : Rule → Int
  | .swap k _ => k
  | .over h _ _ => h
  | .under h _ _ => h
def Rule.n2 : Rule → Int
  | .swap _ c => c
  | .over _ w _ => w
  | .under _ w _ => w
def Rule.m2 : Rule → Int
  | .swap k _ => k
  | .over _ w _ => w
  | .under _ w _ => w
def Rule.bent : Rule → Int
  | .swap _ c => c
  | .over _ _ c => c
  | .under _ _ c => c
theorem b_ix0 (b : Board) : gIx b.d (.int 0) = some (.fz (.str b.tag)) := by cases b <;> rfl
theorem b_ix1 (b : Board) : gIx b.d (.int 1) = some (.fz (.int b.n1)) := by cases b <;> rfl
theorem b_ix2 {b : Board} {v : Int} (E : b.n2 = some v) : gIx b.d (.int 2) = some (.fz (.int v)) := by
  cases b with
  | floor h w => cases E; rfl
  | _ => cases E
theorem b_hw {b : Board} {v : Int × Int} (E : b.hw = some v) : gSl b.d (some 1) none = some (.fz (.tup [.int v.1, .int v.2])) := by
  cases b with
  | floor h w => cases E; rfl
  | _ => cases E
theorem b_shw {b : Board} {v : Str × Int × Int} (E : b.shw = some v) : b.d = .tup [.str v.1, .int v.2.1, .int v.2.2] := by
  cases b with
  | floor h w => cases E; rfl
  | _ => cases E
theorem b_eqF (b : Board) : gEq (.str b.tag) (.str "floor") = some (.fz (.bl b.isFloor)) := by
  cases b
  · exact eq_row_floor
  · exact eq_ring_floor
  · exact eq_floor_floor
theorem b_eqG (b : Board) : gEq (.str b.tag) (.str "ring") = some (.fz (.bl b.isRing)) := by
  cases b
  · exact eq_row_ring
  · exact eq_ring_ring
  · exact eq_floor_ring
theorem b_eqR (b : Board) : gEq (.str b.tag) (.str "row") = some (.fz (.bl b.isRow)) := by
  cases b
  · exact eq_row_row
  · exact eq_ring_row
  · exact eq_floor_row
theorem b_neF (b : Board) : gNe (.str b.tag) (.str "floor") = some (.fz (.bl (!b.isFloor))) := by
  cases b
  · exact ne_row_floor
  · exact ne_ring_floor
  · exact ne_floor_floor
theorem r_ix0 (b : Rule) : gIx b.d (.int 0) = some (.fz (.str b.tag)) := by cases b <;> rfl
theorem r_ix1 (b : Rule) : gIx b.d (.int 1) = some (.fz (.int b.n1)) := by cases b <;> rfl
theorem r_ix2 (b : Rule) : gIx b.d (.int 2) = some (.fz (.int b.n2)) := by cases b <;> rfl
theorem r_ixm (b : Rule) : gIx b.d (.int (-1)) = some (.fz (.int b.bent)) := by cases b <;> rfl
theorem eq_lit (a b : Str) {c : Bool} (h : decide (a = b) = c) : gEq (.str a) (.str b) = some (.fz (.bl c)) := by rw [gEq_str, h]
theorem r_eqS (b : Rule) : gEq (.str b.tag) (.str "swap") = some (.fz (.bl b.isSwap)) := by
  cases b
  · exact eq_lit "swap" "swap" (c := true) (by decide +kernel)
  · exact eq_lit "over" "swap" (c := false) (by decide +kernel)
  · exact eq_lit "under" "swap" (c := false) (by decide +kernel)
theorem r_eqO (b : Rule) : gEq (.str b.tag) (.str "over") = some (.fz (.bl b.isOver)) := by
  cases b
  · exact eq_lit "swap" "over" (c := false) (by decide +kernel)
  · exact eq_lit "over" "over" (c := true) (by decide +kernel)
  · exact eq_lit "under" "over" (c := false) (by decide +kernel)
theorem r_eqU (b : Rule) : gEq (.str b.tag) (.str "under") = some (.fz (.bl b.isUnder)) := by
  cases b
  · exact eq_lit "swap" "under" (c := false) (by decide +kernel)
  · exact eq_lit "over" "under" (c := false) (by decide +kernel)
  · exact eq_lit "under" "under" (c := true) (by decide +kernel)
section
variable {B C : Fs} {ρ ρ' : En} {Q : Fl → En → Prop} {R S : Type} {P : S → En → Prop} {Qr : R → Fl → En → Prop} {zf : R → Sl} {mf : R → Mu} {r : R} {s : S} {fl : Fl} {x : Sl}
theorem lp_q (h : (fl = .nx ∨ fl = .ct) ∧ P s ρ) : LoopQ P s fl ρ := h
theorem rq (h : resolve ρ x = some (zf r)) : RetQ zf r (.rt x) ρ := h
theorem rqn (h : zf r = .fz .non) : RetQ zf r .nx ρ := h
theorem rql (h : resolve ρ x = some (zf r)) (h0 : ρ[0]? = some (.rf (mf r))) : RetL zf mf r (.rt x) ρ := ⟨h, h0⟩
theorem rqln (h : zf r = .fz .non) (h0 : ρ[0]? = some (.rf (mf r))) : RetL zf mf r .nx ρ := ⟨h, h0⟩
end
def b2i (b : Bool) : Int := if b then 1 else 0
theorem it_if {α : Type} {ea : α → D} {t : Ft} {fa fb : Fe} {ρ ρ1 : En} {c : Bool} {xs ys : List α} (ht : t ρ = some (c, ρ)) (ha : iAny fa ρ = some (xs.map ea, ρ1)) (hb : iAny fb ρ = some (ys.map ea, ρ1)) : iAny (dIfE t fa fb) ρ = some ((cond c xs ys).map ea, ρ1) := by
  cases c with
  | true =>
    rw [← show iAny fa ρ = some ((cond true xs ys).map ea, ρ1) from ha]
    unfold iAny dFr dIfE
    simp only [ht]
  | false =>
    rw [← show iAny fb ρ = some ((cond false xs ys).map ea, ρ1) from hb]
    unfold iAny dFr dIfE
    simp only [ht]
end DL
set_option maxHeartbeats 3200000
namespace DL
open PySem PySem.Spec L2 PyProof.Rows
section
variable {P : Program} {w : World} {A : Around} {E : Value → Shared → Prop} {s : Shared}
end
end DL
set_option maxHeartbeats 2000000
namespace DL
open PySem PySem.Spec L2 PyProof.Rows
section
variable {K : PySem.W.Frag} {X : Cx}
def rSetL (K : PySem.W.Frag) (w : World) : List V → Hp → VK → Prop := fun vs H Q => ∃ (a : Addr) (ns : List Int), vs = [V.ref a] ∧ SqL K H a (ns.map V.int) ∧ ns.length < 3000 ∧
  ∀ (p : Addr) (c : Nat), H p = none → c ≤ ns.length → Q (.ref p) (upd H p (SetO w p (fun j => decide (j ∈ ns)) c))
end
end DL
namespace DL
open PySem PySem.Spec L2 PyProof.Rows
def leafV : V → Option Leaf
  | .int i => some (.num i)
  | .bl b => some (.num (if b = true then 1 else 0))
  | .str x => some (.text x)
  | .non => some .none
  | _ => none
def leafsV : List V → Option (List Leaf)
  | [] => some []
  | v :: vs => match leafV v, leafsV vs with
    | some k, some ks => some (k :: ks)
    | _, _ => none
section
variable {P : Program} {w : World}
abbrev LK := List Leaf × Addr
def HasB (P : Program) (w : World) (a : Addr) (qs : List LK) (h : Heap) : Prop := qs.length ≤ sizeLine ∧ (a == sysModules) = false ∧
  ∃ xs : List (List Leaf × Addr × Value), xs.map (fun x => (x.1, x.2.1)) = qs ∧ ∃ o es ep, h.get? a = some o ∧ o.ExactDict ∧ o.data = .dict es ep ∧ es.toList = xs.map (entryOfKey (tupleKind (leafKind P w))) ∧ (xs.map (·.1)).Nodup
def dB (P : Program) (w : World) (a : Addr) (qs : List LK) : HO := .ext (HasB P w a qs)
end
section
variable {X : Cx}
def KeysB (H : Hp) (qs : List LK) : Prop := ∀ q ∈ qs, ∃ vs, H q.2 = some (.tup vs) ∧ leafsV vs = some q.1
end
end DL
namespace DL
open PySem PySem.Spec L2
def leafD : D → Option Leaf
  | .int i => some (.num i)
  | .bl b => some (.num (if b = true then 1 else 0))
  | .str x => some (.text x)
  | .non => some .none
  | _ => none
def leafsD : List D → Option (List Leaf)
  | [] => some []
  | v :: vs => match leafD v, leafsD vs with
    | some k, some ks => some (k :: ks)
    | _, _ => none
def keyD : D → Option (List Leaf)
  | .tup ds => leafsD ds
  | _ => none
inductive KB (K : PySem.W.Frag) (G : Hp) : List LK → List D → Prop
  | nil : KB K G [] []
  | cons {q : LK} {qs : List LK} {vs : List V} {ds : List D} {acc : List D} : G q.2 = some (.tup vs) → leafsV vs = some q.1 → Rps K G vs ds → leafsD ds = some q.1 → KB K G qs acc → KB K G (q :: qs) (.tup ds :: acc)
section
variable {K : PySem.W.Frag} {G G' H : Hp}
theorem KB.up (e : Ex G G') : ∀ {qs : List LK} {acc : List D}, KB K G qs acc → KB K G' qs acc
  | _, _, .nil => .nil
  | _, _, .cons a b c d t => .cons (e _ _ a) b (c.up e) d (KB.up e t)
theorem KB.len : ∀ {qs : List LK} {acc : List D}, KB K G qs acc → qs.length = acc.length
  | _, _, .nil => rfl
  | _, _, .cons _ _ _ _ t => congrArg (· + 1) (KB.len t)
theorem KB.any (ks : List Leaf) : ∀ {qs : List LK} {acc : List D}, KB K G qs acc → (qs.any fun q => decide (q.1 = ks)) = acc.any fun d => decide (keyD d = some ks)
  | _, _, .nil => rfl
  | _, _, .cons (q := q) _ _ _ d t => by
    rw [List.any_cons, List.any_cons, KB.any ks t]
    congr 1
    show _ = decide (leafsD _ = some ks)
    rw [d]
    simp
theorem KB.app {q : LK} {vs : List V} {ds : List D} (a : G q.2 = some (.tup vs)) (b : leafsV vs = some q.1) (c : Rps K G vs ds) (d : leafsD ds = some q.1) : ∀ {qs : List LK} {acc : List D}, KB K G qs acc → KB K G (qs ++ [q]) (acc ++ [.tup ds])
  | _, _, .nil => .cons a b c d .nil
  | _, _, .cons a' b' c' d' t => .cons a' b' c' d' (KB.app a b c d t)
theorem KB.keys (e : Ex G H) : ∀ {qs : List LK} {acc : List D}, KB K G qs acc → KeysB H qs
  | _, _, .nil => fun q hq => nomatch hq
  | _, _, .cons a b c d t => fun q hq => by
    rcases List.mem_cons.mp hq with z | z
    · subst z; exact ⟨_, e _ _ a, b⟩
    · exact KB.keys e t q z
end
structure HoldB (X : Cx) (H0 : Hp) (F : Nat) (p : Addr) (acc : List D) (G H : Hp) (σ : L2.St) (ρ : En) : Prop where
  sl : σ[F]? = some (some (.ref p))
  nw : H0 p = none
  ng : G p = none
  no : ¬ OwnA σ ρ p
  qs : ∃ qs, H p = some (dB X.prog X.w p qs) ∧ KB X.K G qs acc
theorem HoldB.aft {X : Cx} {H0 G H G' H' : Hp} {F : Nat} {p : Addr} {acc : List D} {σ σ' : L2.St} {ρ ρ' : En} (h : HoldB X H0 F p acc G H σ ρ) (a : Aft X.K G H σ ρ G' H' σ' ρ') (e : σ'[F]? = σ[F]?) : HoldB X H0 F p acc G' H' σ' ρ' := by
  obtain ⟨qs, h1, h2⟩ := h.qs
  obtain ⟨k1, k2⟩ := a.keep p _ h1 h.no
  exact ⟨e.trans h.sl, h.nw, k2 h.ng trivial, a.nown h1 h.no, qs, k1, h2.up a.ex⟩
section
variable {X : Cx} {E : XK} {F : Nat} {fk : Fe} {h2 : Fg} {S2 : List Nat}
section
variable {fi fi2 : Fi} {h : Fg} {r : Nat} {fr_ : Fe} {S : List Nat} {tg iter tg2 iter2 er ek : Expr} {xF xr : Str} {nb : Nat} {p1 p2 p3 p4 p5 p6 p7 p8 p9 q1 q2 q3 q4 q5 q6 : Pos}
end
end
end DL
namespace DL
open PySem PySem.Spec L2
structure HoldN (K : PySem.W.Frag) (H0 : Hp) (p : Addr) (qs : List Addr) (acc : List (List D)) (G H : Hp) (σ : L2.St) (ρ : En) : Prop where
  p0 : H0 p = none
  q0 : ∀ q ∈ qs, H0 q = none
  gp : G p = none
  gq : ∀ q ∈ qs, G q = none
  np : ¬ OwnA σ ρ p
  nq : ∀ q ∈ qs, ¬ OwnA σ ρ q
  top : H p = some (.lst (qs.map V.ref))
  nd : qs.Nodup
  ap : p ∉ qs
  len : qs.length = acc.length
  at_ : ∀ (j : Nat) (q : Addr) (ys : List D), qs[j]? = some q → acc[j]? = some ys → ∃ vs, H q = some (.lst vs) ∧ Rps K G vs ys
section
variable {K : PySem.W.Frag} {H0 G H G' H' : Hp} {p : Addr} {qs : List Addr} {acc : List (List D)} {σ σ' : L2.St} {ρ ρ' : En}
theorem HoldN.at_some (h : HoldN K H0 p qs acc G H σ ρ) {j : Nat} {q : Addr} (e : qs[j]? = some q) : ∃ ys vs, acc[j]? = some ys ∧ H q = some (.lst vs) ∧ Rps K G vs ys := by
  have hj : j < acc.length := by rw [← h.len]; exact (List.getElem?_eq_some_iff.mp e).1
  obtain ⟨vs, a, b⟩ := h.at_ j q acc[j] e (List.getElem?_eq_getElem hj)
  exact ⟨_, vs, List.getElem?_eq_getElem hj, a, b⟩
theorem HoldN.there (h : HoldN K H0 p qs acc G H σ ρ) {q : Addr} (hq : q ∈ qs) : ∃ vs, H q = some (.lst vs) := by
  obtain ⟨j, e⟩ := List.mem_iff_getElem?.mp hq
  obtain ⟨ys, vs, _, a, _⟩ := h.at_some e
  exact ⟨vs, a⟩
theorem HoldN.aft (h : HoldN K H0 p qs acc G H σ ρ) (a : Aft K G H σ ρ G' H' σ' ρ') : HoldN K H0 p qs acc G' H' σ' ρ' := by
  obtain ⟨k1, k2⟩ := a.keep p _ h.top h.np
  refine ⟨h.p0, h.q0, k2 h.gp trivial, fun q hq => ?_, a.nown h.top h.np, fun q hq => ?_, k1, h.nd, h.ap, h.len, fun j q ys e1 e2 => ?_⟩
  · obtain ⟨vs, e⟩ := h.there hq
    exact (a.keep q _ e (h.nq q hq)).2 (h.gq q hq) trivial
  · obtain ⟨vs, e⟩ := h.there hq
    exact a.nown e (h.nq q hq)
  · obtain ⟨vs, e, r⟩ := h.at_ j q ys e1 e2
    exact ⟨vs, (a.keep q _ e (h.nq q (List.mem_of_getElem? e1))).1, r.up a.ex⟩
theorem HoldN.more (h : HoldN K H0 p qs acc G H σ ρ) {q : Addr} (hq : H q = none) (g : Good K G H σ ρ) (dom : ∀ a o, H0 a = some o → ∃ o', H a = some o') :
    HoldN K H0 p (qs ++ [q]) (acc ++ [[]]) G (upd (upd H q (.lst [])) p (.lst (qs.map V.ref ++ [.ref q]))) σ ρ := by
  have nin : q ∉ qs := fun z => by
    obtain ⟨vs, e⟩ := h.there z
    rw [hq] at e
    cases e
  have pq : p ≠ q := fun z => by
    have := h.top
    rw [z, hq] at this
    cases this
  refine ⟨h.p0, fun a ha => ?_, h.gp, fun a ha => ?_, h.np, fun a ha => ?_, by rw [upd_same, List.map_append]; rfl, ?_, fun z => ?_, by simp [h.len], fun j a ys e1 e2 => ?_⟩
  · rcases List.mem_append.mp ha with z | z
    · exact h.q0 a z
    · rw [List.mem_singleton] at z
      subst z
      exact none_back dom hq
  · rcases List.mem_append.mp ha with z | z
    · exact h.gq a z
    · rw [List.mem_singleton] at z
      subst z
      exact g.ex.free hq
  · rcases List.mem_append.mp ha with z | z
    · exact h.nq a z
    · rw [List.mem_singleton] at z
      subst z
      exact g.notOwn hq
  · refine List.nodup_append.mpr ⟨h.nd, by simp, fun a ha b hb => ?_⟩
    rw [List.mem_singleton] at hb
    subst hb
    exact fun z => nin (z ▸ ha)
  · rcases List.mem_append.mp z with z | z
    · exact h.ap z
    · rw [List.mem_singleton] at z
      exact pq z
  · by_cases z : j < qs.length
    · rw [List.getElem?_append_left z] at e1
      rw [List.getElem?_append_left (by rw [← h.len]; exact z)] at e2
      obtain ⟨vs, g1, g2⟩ := h.at_ j a ys e1 e2
      have ha := List.mem_of_getElem? e1
      have n1 : a ≠ p := fun y => h.ap (by rw [← y]; exact ha)
      have n2 : a ≠ q := fun y => nin (by rw [← y]; exact ha)
      rw [upd_ne n1, upd_ne n2]
      exact ⟨vs, g1, g2⟩
    · rw [List.getElem?_append_right (by omega)] at e1
      rw [List.getElem?_append_right (by rw [← h.len]; omega)] at e2
      obtain rfl : a = q := List.mem_singleton.mp (List.mem_of_getElem? e1)
      obtain rfl : ys = [] := List.mem_singleton.mp (List.mem_of_getElem? e2)
      rw [upd_ne (Ne.symm pq), upd_same]
      exact ⟨[], rfl, .nil⟩
theorem HoldN.stay {Gs : Hp} {σ0 : L2.St} {ρ0 : En} : ∀ (qs : List Addr) {acc : List (List D)} {G : Hp}, (a : Aft K Gs H0 σ0 ρ0 G H σ ρ) → (q0 : ∀ q ∈ qs, H0 q = none) → (gq : ∀ q ∈ qs, G q = none) → (nq : ∀ q ∈ qs, ¬ OwnA σ ρ q) → qs.Nodup → qs.length = acc.length →
    (∀ (j : Nat) (q : Addr) (ys : List D), qs[j]? = some q → acc[j]? = some ys → ∃ vs, H q = some (.lst vs) ∧ Rps K G vs ys) →
    ∃ G', Aft K Gs H0 σ0 ρ0 G' H σ ρ ∧ Ex G G' ∧ Rps K G' (qs.map V.ref) (acc.map D.lst) ∧ ∀ b, b ∉ qs → G' b = G b
  | [], acc, G, a, _, _, _, _, len, _ => by
    cases acc with
    | nil => exact ⟨G, a, Same.refl _, .nil, fun _ _ => rfl⟩
    | cons _ _ => cases len
  | q :: qs, acc, G, a, q0, gq, nq, nd, len, at_ => by
    cases acc with
    | nil => cases len
    | cons ys acc =>
      have nd' := List.nodup_cons.mp nd
      obtain ⟨vs, e, r⟩ := at_ 0 q ys rfl rfl
      have gq0 := gq q List.mem_cons_self
      have a1 := a.stay (q0 q List.mem_cons_self) gq0 e (nq q List.mem_cons_self)
      have ex1 : Ex G (upd G q (.lst vs)) := ex_new gq0
      obtain ⟨G', A', x', R', o'⟩ := HoldN.stay qs a1 (fun b hb => q0 b (List.mem_cons_of_mem _ hb)) (fun b hb => by
          have n1 : b ≠ q := fun z => nd'.1 (by rw [← z]; exact hb)
          rw [upd_ne n1]
          exact gq b (List.mem_cons_of_mem _ hb))
        (fun b hb => nq b (List.mem_cons_of_mem _ hb)) nd'.2 (Nat.succ.inj len) (fun j b zs f1 f2 => by
          obtain ⟨us, g1, g2⟩ := at_ (j + 1) b zs f1 f2
          exact ⟨us, g1, g2.up ex1⟩)
      refine ⟨G', A', ex1.trans x', .cons (.lst (x' _ _ upd_same) ((r.up ex1).up x')) R', fun b hb => ?_⟩
      have n1 : b ≠ q := fun z => hb (by rw [z]; exact List.mem_cons_self)
      rw [o' b (fun z => hb (List.mem_cons_of_mem _ z)), upd_ne n1]
end
section
variable {X : Cx} {E : XK}
end
end DL
namespace DL
open PySem PySem.Spec L2
section
variable {α β κ S : Type} {ea : α → D} {eb : β → D}
variable [DecidableEq κ]
structure TK (ek : κ → D) (el : κ → List Leaf) : Prop where
  key : ∀ k, keyD (ek k) = some (el k)
  inj : ∀ a b, el a = el b → a = b
variable {ek : κ → D} {el : κ → List Leaf}
end
end DL
namespace DL
open PySem PySem.Spec L2
def dkGet : D → D → Option (Option D)
  | .dk ks ds, d => (kOf d).map fun k => valD (ks.zip ds) k
  | _, _ => none
theorem rpkv_zip {κ : Type} {K : PySem.W.Frag} {G : Hp} : ∀ {ks : List κ} {vs : List V} {ds : List D}, Rps K G vs ds → ks.length = vs.length → RpKV K G (ks.zip vs) (ks.zip ds)
  | [], _, _, _, _ => .nil
  | k :: ks, _, _, .cons r t, l => .cons r (rpkv_zip t (Nat.succ.inj l))
  | k :: ks, _, _, .nil, l => by cases l
theorem dkGet_ok {K : PySem.W.Frag} {G H : Hp} {v y : V} {dd d : D} {r : Option D} (ex : Ex G H) (hv : Vw K G H v dd) (hy : Vw K G H y d) (e : dkGet dd d = some r) :
    ∃ p w, v = .ref p ∧ DGet H p y w ∧ w.isSome = r.isSome ∧ ∀ z, r = some z → ∃ u, w = some u ∧ Rp K G u z := by
  unfold dkGet at e
  split at e
  · rename_i ks ds
    cases q : kOf d with
    | none => rw [q] at e; cases e
    | some k =>
      rw [q] at e
      cases e
      rcases hv with ⟨_, _, _, z, _⟩ | hv
      · cases z
      · cases hv with
        | @dk a od _ vs _ h1 h2 h3 =>
          have kv := rpkv_zip (ks := ks) h2 h3
          exact ⟨a, _, rfl, .inl ⟨_, k, .inr ⟨od, ex _ _ h1⟩, kOf_vw hy q, rfl⟩, RpKV.isSome kv, fun z ez => RpKV.val kv ez⟩
  · cases e
def dDgF (fo fk : Fe) : Fe := fun ρ => match fo ρ with
  | none => none
  | some (ra, ρ1) => match fk ρ1 with
    | none => none
    | some (rk, ρ2) => match rd ρ2 ra, rd ρ2 rk with
      | some dd, some d => match dkGet dd d with
        | some (some v) => some (.fz v, ρ2)
        | _ => none
      | _, _ => none
section
variable {X : Cx} {o i e : Expr} {fo fk fx : Fe} {n : Nat} {pos pos' : Pos}
theorem de_dgF (hu : X.A.units + 65 < cLine) (ho : DE X o fo) (hi : DE X i fk) (hs : NoSl i := by intro _ _; rfl) : DE X (.Subscript o i pos) (dDgF fo fk) := PE.weak (pe_dget (by omega) ho hi hs) fun σ H Q ⟨G, ρ, z, ρ', g, e, k⟩ => by
  unfold dDgF at e
  split at e
  · cases e
  rename_i ra ρ1 q1
  split at e
  · cases e
  rename_i rk ρ2 q2
  split at e
  · rename_i dd d q3 q4
    split at e
    · rename_i v q5
      cases e
      refine ⟨G, ρ, ra, ρ1, g, q1, fun x G1 H1 A1 R1 => ⟨G1, ρ1, rk, _, A1.good, q2, fun y G2 H2 A2 R2 => ?_⟩⟩
      obtain ⟨p, w, rfl, dg, _, hv⟩ := dkGet_ok A2.good.ex (rd_ok A2.good (R1.aft A2) q3) (rd_ok A2.good R2 q4) q5
      obtain ⟨u, rfl, ru⟩ := hv v rfl
      exact ⟨p, u, rfl, dg, k u G2 H2 (A1.trans A2) ru⟩
    · cases e
  · cases e
end
def kD : Key → D
  | .inl i => .int i
  | .inr s => .str s
theorem kD_rp {K : PySem.W.Frag} {G : Hp} (k : Key) : Rp K G (kV k) (kD k) := by
  cases k with
  | inl i => exact .int i
  | inr s => exact .str s
def iKeysF (f : Fe) : Fi := fun ρ => match dFr f ρ with
  | some (.dk ks ds, ρ1) => if ks.length = ds.length then some (ks.map kD, ρ1) else none
  | _ => none
theorem di_keysF {X : Cx} {tg e : Expr} {f : Fe} (he : DE X e f) : DI X tg e (iKeysF f) := PI.weak (pi_keys (de_fr he)) fun σ H R ⟨G, ρ, xs, ρ', g, e, k⟩ => by
  unfold iKeysF at e
  split at e
  · rename_i ks ds ρ1 q
    split at e
    · rename_i hl
      cases e
      refine ⟨G, ρ, _, _, g, q, fun v G1 H1 A1 R1 => ?_⟩
      cases R1 with
      | @dk a od _ vs _ h1 h2 h3 =>
        refine ⟨a, od, rfl, .inl ⟨_, A1.good.ex _ _ h1, k _ G1 H1 A1 ?_⟩⟩
        have w := walk_keys (d := a) (o := od) (kvs := ks.zip vs)
        have hl2 : (ks.zip vs).length = (ks.map kD).length := by rw [List.length_zip, List.length_map]; omega
        unfold ItOk
        rw [← hl2]
        refine w.mono (fun H e => e _ _ h1) fun i H x H' hi _ ⟨eH, kk, v, e1, e2⟩ => ?_
        subst e2
        have e3 : ks[i]? = some kk := by
          have := List.getElem?_zip_eq_some.mp e1
          exact this.1
        exact ⟨kD kk, by rw [List.getElem?_map, e3]; rfl, .inl ⟨eH, kD_rp kk⟩⟩
    · cases e
  · cases e
end DL
namespace DL
open PySem PySem.Spec L2 PyProof.Rows
section
variable {X : Cx} {pins : List (Addr × Obj)} {s : Shared} {σ : L2.St} {H : Hp}
end
end DL
namespace DL
open PySem PySem.Spec L2
section
variable {κ ν α β : Type} [DecidableEq κ] {ek : κ → Key} {ev : ν → D}
def dkOf (ek : κ → Key) (ev : ν → D) (kvs : List (κ × ν)) : D := .dk (kvs.map fun p => ek p.1) (kvs.map fun p => ev p.2)
theorem dkOf_map (kvs : List (κ × ν)) : D.dk ((mapKV ek ev kvs).map (·.1)) ((mapKV ek ev kvs).map (·.2)) = dkOf ek ev kvs := by
  unfold dkOf mapKV
  rw [List.map_map, List.map_map]
  rfl
theorem zip_maps {γ δ : Type} (f : α → γ) (g : α → δ) : ∀ l : List α, (l.map f).zip (l.map g) = l.map fun x => (f x, g x)
  | [] => rfl
  | x :: l => by rw [List.map_cons, List.map_cons, List.zip_cons_cons, zip_maps f g l]; rfl
theorem dkGet_map {f : κ → D} (hf : ∀ k, kOf (f k) = some (ek k)) (hi : ∀ a b, ek a = ek b → a = b) (kvs : List (κ × ν)) (k : κ) : dkGet (dkOf ek ev kvs) (f k) = some ((getK kvs k).map ev) := by
  unfold dkOf
  show (kOf (f k)).map _ = _
  rw [hf, Option.map_some, zip_maps]
  exact congrArg some (valD_map hi kvs k)
theorem ev_dgF {fo fk : Fe} {ρ ρ1 ρ2 : En} {ra rk : Sl} {f : κ → D} {kvs : List (κ × ν)} {k : κ} {v : ν} (hf : ∀ k, kOf (f k) = some (ek k)) (hi : ∀ a b, ek a = ek b → a = b) (E : getK kvs k = some v) (ho : fo ρ = some (ra, ρ1)) (hk : fk ρ1 = some (rk, ρ2))
    (h1 : rd ρ2 ra = some (dkOf ek ev kvs)) (h2 : rd ρ2 rk = some (f k)) : dDgF fo fk ρ = some (.fz (ev v), ρ2) := by
  unfold dDgF
  simp only [ho, hk, h1, h2, dkGet_map hf hi, E, Option.map_some]
variable {ea : α → D} {eb : β → D}
end
inductive Kd where
  | n (s : Str) | p (s : Str) (i : Int)
  deriving DecidableEq
def Kd.d : Kd → D
  | .n s => .str s
  | .p s i => .tup [.str s, .int i]
def Rule.at (r : Rule) (i : Int) : Option Int := if i = 1 then some r.n1 else if i = 2 then some r.n2 else if i = 3 then (match r with
  | .swap _ _ => none
  | .over _ _ c => some c
  | .under _ _ c => some c) else none
end DL
namespace DL
open PySem PySem.Spec L2 PyProof.Rows
end DL
set_option maxHeartbeats 3200000
namespace DL
open PySem PySem.Spec L2 PyProof.Rows
section
variable {P : Program} {w : World} {A : Around} {E : Value → Shared → Prop} {s : Shared}
end
end DL
namespace DL
open PySem PySem.Spec L2 PyProof.Rows
end DL
namespace DL
open PySem PySem.Spec L2 PyProof.Rows HT
theorem back_places (n : Nat) : Builtin.Slice.sliceAdjust none none (-1) (n : Int) = ((n : Int) - 1, -1) ∧ Builtin.Slice.slicePlaces ((n : Int) - 1) (-1) (-1) = n := by
  refine ⟨rfl, ?_⟩
  unfold Builtin.Slice.slicePlaces
  rw [if_neg (by decide)]
  by_cases h : ((n : Int) - 1 > -1)
  · rw [if_pos h, show (- (-1 : Int)) = 1 by decide, Int.ediv_one]
    omega
  · rw [if_neg h]
    omega
theorem fm_congr {α β : Type} {f g : α → Option β} : ∀ {l : List α}, (∀ x ∈ l, f x = g x) → l.filterMap f = l.filterMap g
  | [], _ => rfl
  | x :: l, h => by
    rw [List.filterMap_cons, List.filterMap_cons, h x (List.mem_cons_self ..), fm_congr (l := l) fun y hy => h y (List.mem_cons_of_mem _ hy)]
theorem back_pick (xs : Array Value) : ((List.range xs.size).filterMap fun (k : Nat) => xs[(((xs.size : Nat) : Int) - 1 + (k : Int) * -1).toNat]?).toArray = xs.toList.reverse.toArray := by
  congr 1
  have e : ((List.range xs.size).map fun k => xs.size - 1 - k) = (List.range xs.size).reverse := PySem.W.krv_range xs.size
  have e2 : (List.range xs.size).filterMap (fun (k : Nat) => xs[(((xs.size : Nat) : Int) - 1 + (k : Int) * -1).toNat]?) = ((List.range xs.size).map fun k => xs.size - 1 - k).filterMap fun j => xs[j]? := by
    rw [List.filterMap_map]
    refine fm_congr fun k hk => ?_
    have := List.mem_range.mp hk
    show _ = xs[xs.size - 1 - k]?
    simp only [show (((xs.size : Nat) : Int) - 1 + (k : Int) * -1).toNat = xs.size - 1 - k by omega]
  rw [e2, e, List.filterMap_reverse, PySem.W.krv_all]
section
variable {P : Program} {w : World} {A : Around} {E : Value → Shared → Prop} {s : Shared}
theorem back_applied {sl : Addr} {a b c : Value} {n : Nat} {Q : Int × Int × Nat → Shared → Prop} (hs : s.heap.IsSliceOf sl a b c) (pa : IsPart a none) (pb : IsPart b none) (pc : IsPart c (some (-1))) (k : Q ((n : Int) - 1, -1, n) s) :
    wpAny (model P w) A (Builtin.Slice.sliceApplied (.ref sl) (pure (n : Int))) Q E s := by
  obtain ⟨ob, at0, _, da⟩ := id hs
  unfold Builtin.Slice.sliceApplied Builtin.Slice.sliceFields
  refine wpAny_bind (wpAny_bind (wpAny_field at0 da (x := a) rfl (wpAny_bind (wpAny_field at0 da (x := b) rfl (wpAny_bind (wpAny_field at0 da (x := c) rfl (wpAny_pure ?h)))))))
  case h =>
    refine wpAny_bind (slicePart_ pc ?_)
    show wpAny _ _ (if ((-1 : Int) == 0) = true then _ else _) _ _ s
    rw [if_neg (by decide)]
    refine wpAny_bind (slicePart_ pa (wpAny_bind (slicePart_ pb (wpAny_bind (wpAny_pure ?_)))))
    obtain ⟨h1, h2⟩ := back_places n
    show wpAny _ _ (match Builtin.Slice.sliceAdjust none none (-1) (n : Int) with | (lo, hi) => pure (lo, (-1 : Int), Builtin.Slice.slicePlaces lo hi (-1))) _ _ s
    rw [h1]
    show wpAny _ _ (pure ((n : Int) - 1, (-1 : Int), Builtin.Slice.slicePlaces ((n : Int) - 1) (-1) (-1))) _ _ s
    rw [h2]
    exact wpAny_pure k
theorem getItem_back {t sl : Addr} {its : Array Value} {a b c : Value} {Q : Value → Shared → Prop} (ht : IsTup s.heap t its) (hs : s.heap.IsSliceOf sl a b c) (pa : IsPart a none) (pb : IsPart b none) (pc : IsPart c (some (-1)))
    (hz : its.size ≤ sizeLine) (k : Q (.ref s.heap.objs.size) { s with heap := s.heap.push { cls := .type "tuple", data := .seq its.toList.reverse.toArray } }) : wpAny (model P w) A (getItem (.ref t) (.ref sl)) Q E s := by
  have fits : sizeOk (.seq its.toList.reverse.toArray) := by
    show its.toList.reverse.toArray.size ≤ sizeLine
    rw [List.size_toArray, List.length_reverse, Array.length_toList]
    exact hz
  obtain ⟨ob, at0, cl0, da⟩ := id hs
  have isS : s.TypeIs (.ref sl) "slice" := ⟨ob, at0, cl0⟩
  unfold getItem
  try with_reducible refine wpAny_holding ?_
  first | refine wpAny_bind (wpAny_pure ?_) | skip
  refine wpAny_bind (wpAny_sequenceKey ht.typeIs (by decide) ?_)
  have ar := args_tuple_getitem (.ref t) (.ref sl)
  refine wpAny_bind (wpAny_callSpecial?_slot (name := Str.ofString "__getitem__") ht.typeIs PyProof.Rows.slot_tuple_getitem ?_)
  refine wpAny_call_entry PyProof.Rows.slot_tuple_getitem ht.typeIs entry_tuple_getitem ?_ ar
  show wpAny _ _ (Builtin.Tuple.tupleItemsOf (.ref t) >>= _) _ _ s
  refine wpAny_bind (tupleItemsOf_ ht ?_)
  refine wpAny_bind (wpAny_typeOf isS ?_)
  rw [if_pos (by decide)]
  refine wpAny_bind (back_applied hs pa pb pc ?_)
  have no : ¬ (((((its.size : Nat) : Int) - 1 == 0) && ((-1 : Int) == 1) && (its.size == its.size)) = true) := by simp
  show wpAny _ _ (if ((((its.size : Nat) : Int) - 1 == 0) && ((-1 : Int) == 1) && (its.size == its.size)) = true then _ else _) _ _ s
  rw [if_neg no, back_pick]
  first
    | exact wpAny_bind (m := Builtin.Tuple.tupleExact _) (wpAny_newObj_type (wpAny_pure ⟨_, rfl, wpAny_pure k⟩) fits)
    | exact wpAny_bind (wpAny_bind (m := Builtin.Tuple.tupleExact _) (wpAny_newObj_type (wpAny_pure (wpAny_pure ⟨_, rfl, wpAny_pure k⟩)) fits))
end
def tBack (K : PySem.W.Frag) (te : TE) : TE := fun σ H Q => te σ H fun x H1 => ∃ a vs, x = .ref a ∧ SqT K H1 a vs ∧ ∀ p, H1 p = none → Q (.ref p) (upd H1 p (.tup vs.reverse))
section
variable {X : Cx}
theorem pe_back {e : Expr} {te : TE} {k : Nat} {p1 p2 p3 pos : Pos} (he : PE X e te) : PE X (.Subscript e (.Slice none none (some (.UnaryOp .USub (.Constant (.int 1) k p1) p2)) p3) pos) (tBack X.K te) := by
  refine ⟨fun pins s σ H Q I h => Subscript_ (thn (he.run pins s σ H _ I h) fun v s1 ⟨x, H1, I1, r1, a, vs, ex, hx, q⟩ => ?_)⟩
  subst ex
  cases r1
  have minus1 : PO X (some (.UnaryOp .USub (.Constant (.int 1) k p1) p2)) (tPart (tUn (rU fun i => .int (-i)) (tC (.int 1)))) := po_some (pe_un un_neg pe_int)
  refine wpAny_Slice (thn (po_none.run pins s1 σ H1 (fun o H2 => o = none ∧ H2 = H1) I1 ⟨rfl, rfl⟩) fun va s2 ⟨oa, H2, I2, pa, ea, e2⟩ => ?_)
  subst ea e2
  refine thn (po_none.run pins s2 σ H2 (fun o H3 => o = none ∧ H3 = H2) I2 ⟨rfl, rfl⟩) fun vb s3 ⟨ob, H3, I3, pb, eb, e3⟩ => ?_
  subst eb e3
  refine thn (minus1.run pins s3 σ H3 (fun o H4 => o = some (-1) ∧ H4 = H3) I3 ⟨1, rfl, -1, rfl, rfl, rfl⟩) fun vc s4 ⟨oc, H4, I4, pc, ec, e4⟩ => ?_
  subst ec e4
  have I5 : Inv X pins σ H4 { s4 with heap := s4.heap.push { cls := .type "slice", data := .fields #[va, vb, vc] } } := I4.kept (t' := s4.toks) fun b ob q => Heap.get?_push_of_some _ q
  obtain ⟨its, r, ht, hz⟩ := I5.tuple hx
  have hl := r.length
  show wpAny (model X.prog X.w) X.A (subscriptTail e (.Slice none none (some (.UnaryOp .USub (.Constant (.int 1) k p1) p2)) p3) (.ref a) (.ref s4.heap.objs.size)) (EP X pins σ Q) X.xe _
  refine tail_any (ops := [.ref a, .ref s4.heap.objs.size]) ht.typeIs (PyProof.Rows.slot_tuple_getitem.lookup) ?_ (by with_unfolding_all rfl)
  refine getItem_back ht (Heap.IsSliceOf.new _ va vb vc) pa pb pc (by rw [List.size_toArray]; omega) ?_
  refine ⟨.ref _, _, I5.laid (t' := s4.toks) (o := .tup vs.reverse) (fun b ob q => Heap.get?_push_of_some _ q) (Nat.le_refl _) ?_, rfl, q _ (I5.hok.fresh (Nat.le_refl _))⟩
  exact ⟨by rw [List.length_reverse]; exact hz, _, r.reverse, IsTup.new _ _⟩
end
def dBack (f : Fe) : Fe := fun ρ => match f ρ with
  | none => none
  | some (r, ρ1) => match rd ρ1 r with
    | some (.tup xs) => some (.fz (.tup xs.reverse), ρ1)
    | _ => none
theorem de_back {X : Cx} {e : Expr} {f : Fe} {k : Nat} {p1 p2 p3 pos : Pos} (he : DE X e f) : DE X (.Subscript e (.Slice none none (some (.UnaryOp .USub (.Constant (.int 1) k p1) p2)) p3) pos) (dBack f) := PE.weak (pe_back he) fun σ H Q ⟨G, ρ, z, ρ', g, q, kk⟩ => by
  unfold dBack at q
  split at q
  · cases q
  rename_i r ρ1 q1
  split at q
  · rename_i xs q2
    cases q
    refine ⟨G, ρ, r, _, g, q1, fun v G1 H1 A1 R1 => ?_⟩
    obtain ⟨p, vs, rfl, h0, h1, h2⟩ := (rd_ok A1.good R1 q2).tup A1.good.ex
    exact ⟨p, vs, rfl, SqT.of h1, giveT A1.good (Rps.rev h2) fun v G' H' A R => kk v G' H' (A1.trans A) (R.start A1.dom)⟩
  · cases q
end DL
set_option maxHeartbeats 2000000
namespace DL
open PySem PySem.Spec L2
section
variable {α : Type}
theorem ev_back {e : α → D} {f : Fe} {ρ ρ1 : En} {r : Sl} {xs : List α} (h : f ρ = some (r, ρ1)) (hd : rd ρ1 r = some (.tup (xs.map e))) : dBack f ρ = some (.fz (.tup (xs.reverse.map e)), ρ1) := by
  unfold dBack
  simp only [h, hd, List.map_reverse]
end
end DL
set_option maxHeartbeats 3200000
namespace DL
open PySem PySem.Spec L2 PyProof.Rows
section
variable {X : Cx} {o e f : Expr} {td ty tx : TE} {apos cpos : Pos}
end
section
variable {X : Cx} {o i x : Expr} {fk fx : Fe} {n : Nat} {apos cpos : Pos}
end
end DL
set_option maxHeartbeats 2000000
namespace DL
open PySem PySem.Spec L2
section
variable {κ ν α : Type} [DecidableEq κ]
end
end DL
namespace DL
open PySem PySem.Spec L2
open PyProof.Rows (envOfC)
structure InsC (K : PySem.W.Frag) (C : Addr) (ns : List Str) : Prop where
  cls : Cls K C
  no : ∀ f ∈ ns, NoAttr K C f
  made : Mk K C (He.ma K C "__init__")
def insB (K : PySem.W.Frag) (C : Addr) (ns : List Str) : Bool := PySem.W.plainGet K C Str.empty && (PySem.W.hasDictIn K C && (PySem.W.plainOver K C && (decide (PySem.W.findIn K (.ref C) "__setattr__" = some (some (.builtin "object.__setattr__"))) &&
  ((ns.all fun f => decide (PySem.W.findIn K (.ref C) f = some none)) && (PySem.W.makesIn K C && (decide (PySem.W.findIn K (.ref C) "__init__" = some (some (.ref (He.ma K C "__init__")))) && (PySem.W.isFn K (.ref (He.ma K C "__init__")) && PySem.W.keepIn K (.ref C))))))))
theorem insB_ok {K : PySem.W.Frag} {C : Addr} {ns : List Str} (q : insB K C ns = true) : InsC K C ns := by
  obtain ⟨h1, h⟩ := Bool.and_eq_true_iff.mp q
  obtain ⟨h2, h⟩ := Bool.and_eq_true_iff.mp h
  obtain ⟨h3, h⟩ := Bool.and_eq_true_iff.mp h
  obtain ⟨h4, h⟩ := Bool.and_eq_true_iff.mp h
  obtain ⟨h5, h⟩ := Bool.and_eq_true_iff.mp h
  obtain ⟨h6, h⟩ := Bool.and_eq_true_iff.mp h
  obtain ⟨h7, h⟩ := Bool.and_eq_true_iff.mp h
  obtain ⟨h8, h9⟩ := Bool.and_eq_true_iff.mp h
  exact ⟨⟨h1, h2, h3, of_decide_eq_true h4⟩, fun f hf => (show NoAttr K C f from of_decide_eq_true (p := PySem.W.findIn K (.ref C) f = some none) (List.all_eq_true.mp h5 f hf)), ⟨h6, of_decide_eq_true h7, h8, h9⟩⟩
def mthB (K : PySem.W.Frag) (C : Addr) (m : Str) : Bool := decide (PySem.W.findIn K (.ref C) m = some (some (.ref (He.ma K C m)))) && (PySem.W.isFn K (.ref (He.ma K C m)) && PySem.W.keepIn K (.ref (He.ma K C m)))
theorem mthB_ok {K : PySem.W.Frag} {C : Addr} {m : Str} (q : mthB K C m = true) : Meth K C m (He.ma K C m) := by
  obtain ⟨h1, h⟩ := Bool.and_eq_true_iff.mp q
  obtain ⟨h2, h3⟩ := Bool.and_eq_true_iff.mp h
  exact ⟨of_decide_eq_true h1, h2, h3⟩
def fldD : List Str → List D → Str → Option D
  | n :: ns, d :: ds, f => if f = n then some d else fldD ns ds f
  | _, _, _ => none
theorem fld_ok {K : PySem.W.Frag} {G : Hp} {f : Str} : ∀ {ns : List Str} {xs : List V} {ds : List D} {d : D}, Rps K G xs ds → fldD ns ds f = some d → ∃ v, (ns.zip xs).lookup f = some v ∧ Rp K G v d ∧ f ∈ ns
  | [], _, _, _, _, e => by cases e
  | n :: ns, _, [], _, _, e => by cases e
  | n :: ns, _, d' :: ds, d, .cons (v := v) r t, e => by
    unfold fldD at e
    by_cases h : f = n
    · rw [if_pos h] at e
      cases e
      subst h
      exact ⟨v, by simp [List.lookup], r, List.mem_cons_self ..⟩
    · rw [if_neg h] at e
      obtain ⟨w, h1, h2, h3⟩ := fld_ok t e
      refine ⟨w, ?_, h2, List.mem_cons_of_mem _ h3⟩
      have hb : (f == n) = false := beq_eq_false_iff_ne.mpr h
      rw [List.zip_cons_cons, List.lookup_cons, hb]
      exact h1
def spMk (C : Addr) (ns : List Str) : Sp := fun vs H Q _ => ∃ x dx us, vs = .ref x :: us ∧ us.length = ns.length ∧ H x = some (.ins C dx []) ∧ Q .non (upd H x (.ins C dx (ns.zip us)))
structure MkC (P : Program) (w : World) (K : PySem.W.Frag) (mg : Str → Option Value) (base : Heap) (x : Str) (C : Addr) (ns : List Str) : Prop where
  gl : mg x = some (.ref C)
  c : InsC K C ns
  ini : ∃ (fd : FuncData) (ps : List Str), Binds K fd ps [] ∧ FnOk P w K mg base (L2.CX P w) 1 (He.ma K C "__init__") fd ps (spMk C ns)
section
variable {X : Cx} {k : Nat} {f C : Addr} {fd : FuncData} {ps : List Str} {sp : Sp} {m : Str} {apos pos : Pos} {o e : Expr} {es : List Expr} {ta : TE} {t : TA} {F : XK}
theorem run_fnG {pins : List (Addr × Obj)} {σ : L2.St} {H : Hp} {s : Shared} {Q : VK} {us : List Value} {vs : List V} {A : Around} (G : FnG X.prog X.w X.K X.mg X.base k f fd ps sp) (gd : A.guards = some []) (hr : Room k A) (hfr : A.frames = X.A.frames) (hb : Binds X.K fd ps []) (hx : Passes (L2.CX X.prog X.w) X F)
    (I : Inv X pins σ H s) (r : Vals vs us) (h : sp vs H Q F) : wpAny (model X.prog X.w) A (call (.ref f) us) (EP X pins σ Q) X.xe s := by
  have ln : us.length = ps.length := r.length.symm.trans (G.len _ _ _ _ h)
  have bd := hb s us I.kIn (by rw [List.append_nil]; exact ln)
  rw [List.append_nil] at bd
  have e0 : Env0 X.prog X.w X.K X.mg X.base A X.stack s H := by
    have e := I.env0
    exact ⟨by rw [hfr]; exact e.frames, e.mod, e.bs, e.bsz, e.funs, e.frf, e.hok, e.bare⟩
  refine wpAny_call (codeAny_mono (G.go A X.stack s H ⟨us, []⟩ us vs Q F gd hr e0 bd r h) fun res s2 h2 => ?_)
  cases res with
  | error er => exact hx pins σ H s er s2 I h2
  | ok fl =>
    cases fl with
    | next => cases h2
    | brk => cases h2
    | cont => cases h2
    | ret u => exact I.after h2
end
theorem lookup_none {m : Str} : ∀ {ns : List Str} {xs : List V}, m ∉ ns → (ns.zip xs).lookup m = none
  | [], _, _ => rfl
  | n :: ns, [], _ => rfl
  | n :: ns, x :: xs, hm => by
    have hb : (m == n) = false := beq_eq_false_iff_ne.mpr fun e => hm (by rw [e]; exact List.mem_cons_self ..)
    rw [List.zip_cons_cons, List.lookup_cons, hb]
    exact lookup_none fun h => hm (List.mem_cons_of_mem _ h)
end DL
namespace DL
open PySem PySem.Spec PyProof.Rows L2
theorem xho_ok {P : Program} {w : World} {H : Hp} {h : Heap} {a : Addr} {cls : Value} {d : Option Addr} {oe : Obj} {vs : Array Value} (e : h.get? a = some oe) (z : Zc cls d oe) (q : oe.data = .fields vs) : ObjOk P w H h a (xho a cls d) :=
  ⟨⟨oe, vs, e, z, q⟩, ⟨oe, e⟩, fun _ _ ⟨o, v, q, r⟩ k => ⟨o, v, k o q, r⟩⟩
theorem Inv.track {X : Cx} {pins : List (Addr × Obj)} {σ : L2.St} {H : Hp} {s : Shared} {a : Addr} {o : HO} (I : Inv X pins σ H s) (na : H a = none) (n0 : X.s_0.heap.get? a = none) (nL : a ≠ X.env.locals) (nC : ∀ v, ¬ s.heap.IsCell a v) (np : ∀ p ∈ X.pn ++ pins, p.1 ≠ a)
    (ok : ObjOk X.prog X.w (upd H a o) s.heap a o) : Inv X pins σ (upd H a o) s := by
  have ne : ∀ {b : Addr} {u : HO}, H b = some u → b ≠ a := fun {b u} e => ne_of_none e na
  refine ⟨I.ok, I.os, I.bare, ⟨I.base.keep, I.base.slot, fun b u e n hx => ?_, I.base.there, fun b xs e => ?_, fun b u v e => ?_, fun b ps e => ?_⟩, I.loc, I.cell, ?_, fun x c e => ?_, fun p hp => ?_, fun b u e => ?_, I.len⟩
  · rw [upd_ne fun z => by rw [z, n0] at e; cases e]
    exact I.base.free b u e n hx
  · have := I.base.tups b xs e
    rw [upd_ne (ne this)]
    exact this
  · have := I.base.frzs b u v e
    rw [upd_ne (ne this)]
    exact this
  · obtain ⟨more, this⟩ := I.base.tbls b ps e
    exact ⟨more, by rw [upd_ne (ne this)]; exact this⟩
  · rw [upd_ne (Ne.symm nL)]
    exact I.free
  · obtain ⟨v, q⟩ := I.cell x c e
    have nca : c ≠ a := fun z => by
      subst z
      exact nC v q
    rw [upd_ne nca]
    exact I.freeC x c e
  · obtain ⟨h1, h2, h3, h4, h5⟩ := I.pin p hp
    exact ⟨h1, by rw [upd_ne (np p hp)]; exact h2, h3, h4, h5⟩
  · by_cases hb : b = a
    · subst hb
      rw [upd_same] at e
      cases e
      exact ok
    · rw [upd_ne hb] at e
      exact (I.hok b u e).stay (fun c v hc z => z) (fun c hc => by rw [upd_ne (ne hc)]; exact hc) (fun c xs hc => by rw [upd_ne (ne hc)]; exact hc)
theorem Inv.suiteT {X : Cx} {pins : List (Addr × Obj)} {σ : L2.St} {H : Hp} {s : Shared} (I : Inv X pins σ H s) (a : Addr) : Inv (X.suite a (X.pn ++ pins)) [] σ H s :=
  ⟨I.ok.suite _ _, I.os, I.bare, I.base, I.loc, I.cell, I.free, I.freeC, fun p hp => I.pin p (by rw [List.append_nil] at hp; exact hp), I.hok, I.len⟩
theorem Inv.unsuiteT {X : Cx} {pins : List (Addr × Obj)} {σ : L2.St} {H : Hp} {s : Shared} {a : Addr} (I : Inv (X.suite a (X.pn ++ pins)) [] σ H s) (ok : X.Ok) : Inv X pins σ H s :=
  ⟨ok, I.os, I.bare, I.base, I.loc, I.cell, I.free, I.freeC, fun p hp => I.pin p (List.mem_append_left _ hp), I.hok, I.len⟩
def wAsT (K : PySem.W.Frag) (c : Value) (i : Nat) (ts : Addr → TS) (Wout : WX) (D : Ends) : WX := fun cls d σ H =>
  ∃ b, PySem.W.exmOne K cls c = some b ∧ (b = true → ∀ a, H a = none → ts a { nx := fun σ' H' => D.nx (σ'.set i none) H', rt := D.rt, bk := fun σ' H' => D.bk (σ'.set i none) H', ct := fun σ' H' => D.ct (σ'.set i none) H' } (σ.set i (some (.ref a))) (upd H a (xho a cls d))) ∧
    (b = false → Wout cls d σ H)
section
variable {X : Cx} {x n : Str} {c : Value} {i : Nat} {body suite : List Stmt} {b₀ : Stmt} {np pos pos' : Pos} {tb : WX → TS} {ts : Addr → TS} {Wout : WX}
theorem ps_try_asT (hex : X.ex = []) (hs : X.stack = X.env :: X.outer) (hf : X.env.frame = some X.env.locals) (hN : X.N.Nodup) (hi : X.N[i]? = some n) (hln : X.env.kindOf n = some .local) (hc : Names X x c) (tk : Takes X Wout)
    (hb : ∀ (W : WX) (pn : List (Addr × Obj)) (xe : Value → Shared → Prop), Takes (X.tr pn xe) W → PassesOwn (model X.prog X.w) X.A X.env xe → PSs (X.tr pn xe) body (tb W))
    (hsu : ∀ (a : Addr) (pn : List (Addr × Obj)), PSs (X.suite a pn) (b₀ :: suite) (ts a)) :
    PS X (.Try body [.ExceptHandler (some (.Name x np)) (some n) (b₀ :: suite) pos'] [] [] pos) (fun D σ H => tb (wAsT X.K c i ts Wout D) D σ H) := by
  refine ⟨fun pins s σ H D I h => ?_⟩
  have ok := I.ok
  have hfr : X.A.frames = some (X.env :: X.outer) := by rw [ok.frames, hs]
  have hloc : Loc X.env.scope n := .inl hln
  refine wpAny_Try_except ?_
  refine wpAny_mono ((hb (wAsT X.K c i ts Wout D) (X.pn ++ pins) (fun e s₁ => wpAny (model X.prog X.w) X.A (noteFrame e X.env) (fun _ s₂ => wpAny (model X.prog X.w) X.A (setFlight e none) (fun _ s₃ =>
    wpAny (model X.prog X.w) X.A (handleBy e X.env [.ExceptHandler (some (.Name x np)) (some n) (b₀ :: suite) pos']) (SP X pins D) X.xe s₃) X.xe s₂) X.xe s₁) (fun u s' xx => ?_) PassesOwn.looking).run [] s σ H D (I.toTry _) h) (fun f s1 hsp => ?_) (fun e s1 he => he)
  · obtain ⟨a, B, sI, pins', σ', H', cls, d, rfl, J', nb, up, sky, na, os, ag, b, hb1, hyes, hno⟩ := xx
    have J : Inv X pins σ' H' sI := J'.ofTry ok
    have sky' : Sky B (X.env :: X.outer) a (Zc cls d) X.env.locals s'.heap := by rw [← hs]; exact sky
    show wpAny (model X.prog X.w) X.A (noteFrame (.ref a) X.env) _ _ _
    refine Sky.land Zc.steady hfr hf sky' fun h3 fl3 up3 => ?_
    have J3 : Inv X pins σ' H' { s' with heap := h3 } := J.landed nb fl3.1 (up.trans up3) os ag
    obtain ⟨oe3, vs3, he3, hz3, hd3⟩ := fl3.there
    have notFr : ∀ {h : Heap} {o : Obj} {vs : Array Value}, h.FunFrames B (X.env :: X.outer) → h.get? a = some o → o.data = .fields vs → a ∉ frs (X.env :: X.outer) := fun {h o vs} ff e dd hm => by
      obtain ⟨_, o', e', hnf⟩ := ff.mem hm
      rw [e] at e'; cases e'
      exact hnf _ dd
    have nfr := notFr fl3.2.2.1 he3 hd3
    have nL : a ≠ X.env.locals := fun z => nfr (List.mem_filterMap.mpr ⟨X.env, List.mem_cons_self, by rw [hf, z]⟩)
    have nF : a ∉ X.fs := fun hm => by
      obtain ⟨e, he, q⟩ := List.mem_filterMap.mp hm
      exact nfr (List.mem_filterMap.mpr ⟨e, List.mem_cons_of_mem _ he, q⟩)
    have nI : sI.heap.get? a = none := by
      cases q : sI.heap.get? a with
      | none => rfl
      | some o =>
        have := nb a o q (by rw [hs]; exact nfr)
        have z : B.get? a = none := fl3.2.1
        rw [z] at this
        cases this
    have n0 : X.s_0.heap.get? a = none := by
      cases q : X.s_0.heap.get? a with
      | none => rfl
      | some o =>
        obtain ⟨o', e⟩ := J.base.there a o q (by rw [hex]; exact List.not_mem_nil)
        rw [nI] at e
        cases e
    have S3 := J3.suite he3 hd3 na nL nF
    refine wpAny_handleBy_cons (codeAny_handlers_test ?_) (by intro q; cases q)
    have LT : PySem.W.Looks (model X.prog X.w) h3 (typeOf (.ref a)) cls := fun A Q E s k q => wpAny_typeOf_ref (k _ _ he3) (by rw [hz3.1]; exact q)
    have LM := PySem.W.exm_one (M := model X.prog X.w) (J3.kIn) LT hb1
    have test : ∀ {Q : Value → Shared → Prop} {E : Value → Shared → Prop}, Q c { s' with heap := h3 } → wpAny (model X.prog X.w) (X.A.mark (some (.ref a))) (eval (.Name x np) X.env) Q E { s' with heap := h3 } := fun {Q E} q => by
      obtain ⟨hg, hdbg, hm | ⟨hm, hv, hnn⟩⟩ := hc
      · exact ld_glob (X := X.suite a ((a, oe3) :: (X.pn ++ pins))) S3 hg hm q hdbg
      · exact ld_blt (X := X.suite a ((a, oe3) :: (X.pn ++ pins))) S3 hg hm hv q hnn hdbg
    refine test (LM.here ?_)
    cases b with
    | true =>
      refine codeAny_handlers_suite_as ?_
      refine HandSPX.lands_againZ fl3 fun h4 fl4 up4 => ?_
      have J4 : Inv X pins σ' H' { s' with heap := h4 } := J.landed nb fl4.1 ((up.trans up3).trans up4) os ag
      obtain ⟨oe4, vs4, he4, hz4, hd4⟩ := fl4.there
      have J5 : Inv X pins σ' (upd H' a (xho a cls d)) { s' with heap := h4 } := Inv.track J4 na n0 nL (fun v ⟨o, q1, q2⟩ => by
          rw [show h4.get? a = some oe4 from he4] at q1
          cases q1
          first
            | (rw [hd4] at q2; cases q2)
            | (obtain ⟨q2, _⟩ := q2; rw [hd4] at q2; cases q2)
            | (obtain ⟨_, q2⟩ := q2; rw [hd4] at q2; cases q2)) (fun p hp z => by
          have := (J.pin p hp).1
          rw [z, nI] at this
          cases this) (xho_ok he4 hz4 hd4)
      have S4 := Inv.suiteT J5 a
      refine store_ok (X := X.suite a (X.pn ++ pins)) (v := .ref a) S4 hN hi hloc rfl (fun s5 S5 => ?_) (.inr hln)
      refine wpAny_mono ((hsu a (X.pn ++ pins)).run [] s5 _ _ _ S5 (hyes rfl a na)) (fun f s6 hsp => ?_) (fun _ _ z => False.elim z)
      have end_ : ∀ {σ6 : L2.St} {H6 : Hp} {Q : Shared → Prop}, Inv (X.suite a (X.pn ++ pins)) [] σ6 H6 s6 → (∀ s7, Inv X pins (σ6.set i none) H6 s7 → Q s7) →
          wpAny (model X.prog X.w) X.A (do bindName X.env n .none; unbindBehindTheSuite X.env n pos') (fun _ s7 => Q s7) X.xe s6 := fun {σ6 H6 Q} S6 hq => gone_ok (Inv.unsuiteT S6 ok) hN hi hln hq
      cases f with
      | next =>
        obtain ⟨σ6, H6, S6, q6⟩ := hsp
        exact end_ S6 fun s7 J7 => ⟨_, _, J7, q6⟩
      | brk =>
        obtain ⟨σ6, H6, S6, q6⟩ := hsp
        exact end_ S6 fun s7 J7 => ⟨_, _, J7, q6⟩
      | cont =>
        obtain ⟨σ6, H6, S6, q6⟩ := hsp
        exact end_ S6 fun s7 J7 => ⟨_, _, J7, q6⟩
      | ret u =>
        obtain ⟨v6, σ6, H6, S6, r6, q6⟩ := hsp
        exact end_ S6 fun s7 J7 => ⟨_, _, _, J7, r6, q6⟩
    | false =>
      show wpAny _ X.A (handleBy (.ref a) X.env []) _ _ _
      refine wpAny_handleBy_nil ?_
      obtain ⟨k1, k2, k3, oe, vs, T, oT, ts', he, hz, hd, h1, hr⟩ := id fl3
      unfold PySem.passOn
      refine wpAny_bind (wpAny_field he hd h1 ?_)
      rw [if_neg (show ¬ ((Value.ref T == Value.none) = true) from by simp)]
      have fin : wpAny (model X.prog X.w) X.A (setFlight (.ref a) X.env.frame) (fun _ s4 => wpAny (model X.prog X.w) X.A (throw (.ref a) : Sem Flow) (SP X pins D) X.xe s4) X.xe { s' with heap := h3 } := by
        rw [hf]
        refine HandSPX.setFlight_upZ fl3 fun h4 hh4 up4 => wpAny_throw (tk _ _ ?_)
        exact ⟨a, B, sI, pins, σ', H', cls, d, rfl, J, nb, (up.trans up3).trans up4, .inr (.inr (by rw [hs]; exact hh4)), na, os, ag, hno rfl⟩
      first
        | exact wpAny_bind (wpAny_pure (wpAny_bind fin))
        | exact wpAny_bind fin
  · cases f with
    | next =>
      obtain ⟨σ', H', J', q⟩ := hsp
      exact wpAny_execs_nil ⟨σ', H', J'.ofTry ok, q⟩
    | brk =>
      obtain ⟨σ', H', J', q⟩ := hsp
      exact ⟨σ', H', J'.ofTry ok, q⟩
    | cont =>
      obtain ⟨σ', H', J', q⟩ := hsp
      exact ⟨σ', H', J'.ofTry ok, q⟩
    | ret u =>
      obtain ⟨v, σ', H', J', r, q⟩ := hsp
      exact ⟨v, σ', H', J'.ofTry ok, r, q⟩
end
end DL
namespace DL
open PySem PySem.Spec L2
open PyProof.Rows (envOfC)
abbrev FX := En → Option ((Addr × List Str × List D) × En)
def runX (k : Nat) (B : Fs) : FX := fun ρ => match B (ρ ++ List.replicate k .un) with
  | some (.ex C ns ds, ρe) => some ((C, ns, ds), fin ρ ρe)
  | _ => none
def spX (K : PySem.W.Frag) (n : Nat) (Xf : FX) : Sp := fun vs H _ E => ∃ G ρ C ns ds ρ', vs.length = n ∧ ArgsOk ρ ∧ Good K G H (vs.map some) ρ ∧ Xf ρ = some ((C, ns, ds), ρ') ∧
  ∀ (o : Option Addr) (ws : List V) (G' H' : Hp), Aft K G H (vs.map some) ρ G' H' (vs.map some) ρ' → XdN H G' H' ns ws o → ns.length = ws.length → Rps K G' ws ds → E (.ref C) o H'
def spDX (K : PySem.W.Frag) (n : Nat) (F : FF) (Xf : FX) : Sp := fun vs H Q E => spD K n F vs H Q E ∨ spX K n Xf vs H Q E
section
variable {P : Program} {w : World} {K : PySem.W.Frag} {mg : Str → Option Value} {base : Heap}
end
theorem toSlot_res {ρ : En} {z : Sl} (h : isRes z = true) : toSlot ρ z = some (z, ρ) := by cases z <;> first | rfl | cases h
def okI : D → Bool
  | .int i => decide (i.natAbs.log2 < 1900)
  | .str s => decide (s.length ≤ 1000)
  | _ => false
def bRaise (C : Addr) (f : Str) (fe : Fe) : Fs := fun ρ => match dFr fe ρ with
  | some (d, ρ1) => if okI d = true then some (.ex C [f] [d], ρ1) else none
  | none => none
def okV : V → Prop
  | .int i => i.natAbs.log2 < 1900
  | .str s => s.length ≤ 1000
  | _ => False
def spIni (C : Addr) (f : Str) : Sp := fun vs H Q _ => ∃ a v, vs = [.ref a, v] ∧ H a = some (exo a C none) ∧ okV v ∧ ∀ d, H d = none → d ≠ a → Q .non (upd (upd H d (exd d [(f, v)])) a (exo a C (some d)))
theorem okI_v {K : PySem.W.Frag} {G : Hp} {v : V} {d : D} (r : Rp K G v d) (h : okI d = true) : okV v := by
  cases r with
  | int i => exact (of_decide_eq_true h : i.natAbs.log2 < 1900)
  | str x => exact (of_decide_eq_true h : x.length ≤ 1000)
  | _ => cases h
structure XCls (P : Program) (w : World) (K : PySem.W.Frag) (mg : Str → Option Value) (base : Heap) (x f : Str) (C : Addr) : Prop where
  gl : mg x = some (.ref C)
  o : OexC K C
  ini : ∃ (fI : Addr) (fd : FuncData) (ps : List Str), PySem.W.findIn K (.ref C) "__init__" = some (some (.ref fI)) ∧ PySem.W.typeIn K (.ref fI) = some (.type "function") ∧ Binds K fd ps [] ∧ FnOk P w K mg base (L2.CX P w) 1 fI fd ps (spIni C f)
theorem ds_raise {X : Cx} {E : XK} {x f : Str} {C : Addr} {e : Expr} {fe : Fe} {p pos pos2 : Pos} (hcalm : X.calm = true) (tk : Takes X (fun cls d _ H => E cls d H)) (c : XCls X.prog X.w X.K X.mg X.base x f C) (hr : Room 2 X.A) (hg : Gl X x) (he : DE X e fe)
    (hdb : (x == ("__debug__" : Str)) = false := by decide) (hst : starEach [e] X.env = (false, eval e X.env) :: starEach [] X.env := by rfl) (hpl : (backTo pos (starEach [] X.env)).any (·.1) = false := by rfl) :
    DS X E (.Raise (some (.Call (.Name x p) [e] [] pos)) none pos2) (bRaise C f fe) := by
  obtain ⟨fI, fd, ps, i1, i2, i3, i4⟩ := c.ini
  have hp : Passes (L2.CX X.prog X.w) X (fun _ _ _ => False) := passL'
  refine PS.weak (ps_raise hcalm tk (pmk_oex c.o i1 i2 i4 hr i3 .nil hp hg c.gl (pa_cons (de_fr he) pa_nil hst) hdb hst hpl)) fun D σ H ⟨G, ρ, fl, ρ', g, q, k⟩ => ?_
  unfold bRaise at q
  cases q1 : dFr fe ρ with
  | none => rw [q1] at q; cases q
  | some y =>
    obtain ⟨d, ρ1⟩ := y
    simp only [q1] at q
    split at q
    · rename_i hk
      cases q
      refine ⟨G, ρ, d, _, g, q1, fun v G1 H1 A1 r => ?_⟩
      refine ⟨by simp, fun a ha => ?_⟩
      refine ⟨a, v, rfl, upd_same, okI_v r hk, fun dd hd hne => ?_⟩
      have hd1 : H1 dd = none := by rwa [upd_ne hne] at hd
      refine ⟨rfl, dd, [(f, v)], upd_same, by rw [upd_ne hne, upd_same], hd1, ?_⟩
      have eH : upd (del (upd (upd (upd H1 a (exo a C none)) dd (exd dd [(f, v)])) a (exo a C (some dd))) a) dd (.xd [(f, v)]) = upd H1 dd (.xd [(f, v)]) := by
        funext b
        by_cases hb : b = dd
        · rw [hb, upd_same, upd_same]
        · rw [upd_ne hb, upd_ne hb]
          by_cases hba : b = a
          · rw [hba, del_same, ha]
          · rw [del_ne hba, upd_ne hba, upd_ne hb, upd_ne hba]
      rw [eH]
      have gd : G1 dd = none := A1.good.ex.free hd1
      have A2 : Aft X.K G H σ ρ G1 (upd H1 dd (.xd [(f, v)])) σ _ := A1.mut (A1.back hd1) gd (A1.good.notOwn hd1)
      exact k σ G1 _ A2 (some dd) [v] (.inl ⟨dd, rfl, A1.back hd1, gd, upd_same⟩) rfl (.one r)
    · cases q
structure ClsK0 (K : PySem.W.Frag) (C : Addr) : Prop where
  ex : PySem.W.excIn K C [.type "ValueError", .type "Exception", .type "BaseException", .type "object"] "ValueError.__new__" = true
  sub : PySem.W.subIn K (.ref C) (.type "BaseException") = some true
  ty : PySem.W.typeIn K (.ref C) = some (.type "type")
  kp : PySem.W.keepIn K (.ref C) = true
section
variable {X : Cx} {k : Nat} {f : Addr} {fd : FuncData} {ps : List Str} {sp : Sp} {x : Str} {p pos : Pos} {e : Expr} {es : List Expr} {t : TA} {E : L2.St → XK}
end
section
variable {X : Cx} {E : XK} {k : Nat} {ps : List Str} {F : FF} {Xf : FX} {x : Str} {p pos pos2 : Pos} {e : Expr} {es : List Expr} {fa : Fa}
end
end DL
namespace DL
open PySem PySem.Spec L2
open PyProof.Rows (envOfC)
theorem caught_ok {K : PySem.W.Frag} {c : Value} {i : Nat} {cs : List Addr} {B : Fs} {Wout : WX} {Dn : Ends} {σ : L2.St} {G G2 H H2 : Hp} {ρ ρ1 ρ2 : En} {C : Addr} {o : Option Addr} {ns : List Str} {ds : List D} {ws : List V} (hm : ∀ C ∈ cs, PySem.W.exmOne K (.ref C) c = some true) (hC : C ∈ cs) (hn : notRf ρ1 i = true)
    (eB : B (ρ1.set i (.fz (.exn C ns ds))) = some (.nx, ρ2)) (hn2 : notRf ρ2 i = true) (k : ∀ σ' G' H', Aft K G H σ ρ G' H' σ' (ρ2.set i .un) → Dn.nx σ' H')
    (A2 : Aft K G H σ ρ G2 H2 σ ρ1) (hx : XdN H G2 H2 ns ws o) (h4 : ns.length = ws.length) (h5 : Rps K G2 ws ds) : wAsT K c i (fun _ => tsOf K E0 B) Wout Dn (.ref C) o σ H2 := by
  refine ⟨true, hm C hC, fun _ a ha => ?_, fun z => by cases z⟩
  rcases hx with ⟨d, rfl, h1, h2, h3⟩ | ⟨rfl, rfl⟩
  case inr =>
    have A4 := A2.trans (Aft.laid (o := xho a (.ref C) none) A2.good ha)
    have r : Rp K (upd G2 a (xho a (.ref C) none)) (.ref a) (.exn C [] ds) := .exn upd_same (.inr ⟨rfl, rfl⟩) (h5.up (ex_new (A2.good.ex.free ha))) h4
    have A5 := A4.store (i := i) (s := some (.ref a)) (r := .fz (.exn C [] ds)) ⟨_, rfl, r⟩ (fun p _ z => by rcases z with ⟨m, z⟩ | ⟨m, z⟩ <;> cases z) hn
    refine ⟨_, _, .nx, ρ2, A5.good, eB, fun σ' G' H' A6 => ?_⟩
    exact k (σ'.set i none) G' H' ((A5.trans A6).store (i := i) (s := none) (r := .un) trivial (fun p z _ => by cases z) hn2)
  have nd : ¬ OwnA σ ρ1 d := fun ⟨j, e1, e2⟩ => by
    rcases e2 with ⟨m, e2⟩ | ⟨m, e2⟩
    · obtain ⟨q, o, q1, _, q3, q4⟩ := A2.good.sl j _ _ e1 e2
      cases q1
      rw [h3] at q3
      cases q3
      cases q4
    · obtain ⟨q, o, q1, _, q3, q4⟩ := A2.good.sl j _ _ e1 e2
      cases q1
      rw [h3] at q3
      cases q3
      cases q4
  have A3 := A2.stay h1 h2 h3 nd
  have A4 := A3.trans (Aft.laid (o := xho a (.ref C) (some d)) A3.good ha)
  have hda : d ≠ a := ne_of_none h3 ha
  have r : Rp K (upd (upd G2 d (.xd (ns.zip ws))) a (xho a (.ref C) (some d))) (.ref a) (.exn C ns ds) :=
    .exn upd_same (.inl ⟨d, rfl, by rw [upd_ne hda, upd_same]⟩) ((h5.up (ex_new h2)).up (ex_new (A3.good.ex.free ha))) h4
  have A5 := A4.store (i := i) (s := some (.ref a)) (r := .fz (.exn C ns ds)) ⟨_, rfl, r⟩ (fun p _ z => by rcases z with ⟨m, z⟩ | ⟨m, z⟩ <;> cases z) hn
  refine ⟨_, _, .nx, ρ2, A5.good, eB, fun σ' G' H' A6 => ?_⟩
  exact k (σ'.set i none) G' H' ((A5.trans A6).store (i := i) (s := none) (r := .un) trivial (fun p z _ => by cases z) hn2)
section
variable {X : Cx} {E : XK} {k : Nat} {ps : List Str} {F : FF} {Xf : FX} {x hx n : Str} {c : Value} {i : Nat} {cs : List Addr} {p pos pos2 pos3 np pos' : Pos} {e : Expr} {es : List Expr} {fa : Fa} {b₀ : Stmt} {suite : List Stmt} {B : Fs}
end
def lookD : List Str → List D → Str → Option D
  | n :: ns, d :: ds, f => if f == n then some d else lookD ns ds f
  | _, _, _ => none
def dXf (cs : List Addr) (f : Str) (fe : Fe) : Fe := fun ρ => match fe ρ with
  | some (r, ρ1) => match rd ρ1 r with
    | some (.exn C ns ds) => if C ∈ cs then (match lookD ns ds f with
        | some d => some (.fz d, ρ1)
        | none => none) else none
    | _ => none
  | none => none
theorem lookD_rp {K : PySem.W.Frag} {G : Hp} {f : Str} : ∀ {ns : List Str} {ws : List V} {ds : List D} {d : D}, Rps K G ws ds → ns.length = ws.length → lookD ns ds f = some d → ∃ v, (ns.zip ws).lookup f = some v ∧ Rp K G v d
  | [], _, _, _, _, _, e => by cases e
  | n :: ns, [], _, _, _, hl, _ => by cases hl
  | n :: ns, w :: ws, _, d, .cons h t, hl, e => by
    unfold lookD at e
    rw [List.zip_cons_cons, List.lookup_cons]
    cases q : f == n with
    | true =>
      rw [q] at e
      cases e
      exact ⟨w, rfl, h⟩
    | false =>
      rw [q] at e
      exact lookD_rp t (by simpa using hl) e
def tXk (K : PySem.W.Frag) (n : Str) (te : TE) : TE := fun σ H Q => te σ H fun x H1 => ∃ (a C d : Addr) (fs : List (Str × V)) (v : V), x = .ref a ∧ H1 a = some (xho a (.ref C) (some d)) ∧ XfC K C ∧ PySem.W.findIn K (.ref C) n = some none ∧ H1 d = some (.xd fs) ∧ fs.lookup n = some v ∧ Q v H1
theorem pe_xk {X : Cx} {e : Expr} {te : TE} {pos : Pos} {n : Str} (he : PE X e te) (hb : attributeBase e n X.env (eval e X.env) = eval e X.env := by rfl) : PE X (.Attribute e n pos) (tXk X.K n te) := by
  refine ⟨fun pins s σ H Q I h => ?_⟩
  refine attr_of hb (thn (he.run pins s σ H _ I h) fun u s1 hh => ?_)
  obtain ⟨x, H1, I1, rx, a, C, dd, fs, v, ex, ea, T, hno, ed, l, q⟩ := hh
  subst ex
  obtain rfl : u = Value.ref a := rx
  have ha : ObjOk X.prog X.w H1 s1.heap a (xho a (.ref C) (some dd)) := I1.hok a _ ea
  obtain ⟨⟨oe, vs, ha, hz, hd⟩, _⟩ := ha
  have hx : ObjOk X.prog X.w H1 s1.heap dd (.xd fs) := I1.hok dd _ ed
  obtain ⟨mA, hns, hr⟩ := hx
  obtain ⟨od, ho, hl⟩ := lookIn_ns hns
  obtain ⟨u, hu, ru⟩ := RelO.some_of (v := v) (o := mA n) (by rw [← l]; exact hr n)
  have J : PySem.W.InstAt s1.heap a oe C (some od) := ⟨ha, hz.1, by unfold PySem.W.notCls; rw [hd] <;> rfl, by rw [hz.2]; exact ho⟩
  exact HandSPX.exc_get I1.kIn J T.ga T.gg T.exC (PySem.W.findObj_own T.hdC hno rfl (by rw [hl, hu])) (handed_of ru) ⟨v, H1, I1.tok _, ru, q⟩
theorem de_xf {X : Cx} {cs : List Addr} {f : Str} {e : Expr} {fe : Fe} {pos : Pos} (hc : ∀ C ∈ cs, XfC X.K C ∧ PySem.W.findIn X.K (.ref C) f = some none) (he : DE X e fe) (hb : attributeBase e f X.env (eval e X.env) = eval e X.env := by rfl) : DE X (.Attribute e f pos) (dXf cs f fe) :=
  PE.weak (pe_xk he hb) fun σ H Q ⟨G, ρ, z, ρ', g, q, k⟩ => by
    unfold dXf at q
    cases q1 : fe ρ with
    | none => rw [q1] at q; cases q
    | some y =>
      obtain ⟨r, ρ1⟩ := y
      simp only [q1] at q
      split at q
      · rename_i C ns ds q2
        split at q
        · rename_i hC
          split at q
          · rename_i d q3
            cases q
            refine ⟨G, ρ, r, _, g, q1, fun v G1 H1 A1 R1 => ?_⟩
            rcases rd_ok A1.good R1 q2 with ⟨xs, p, vs, z, _⟩ | h
            · cases z
            · cases h with
              | exn e1 e2 e3 e4 =>
                obtain ⟨v, l1, l2⟩ := lookD_rp e3 e4 q3
                rcases e2 with ⟨dx, rfl, e2⟩ | ⟨_, rfl⟩
                case inr => cases l1
                exact ⟨_, C, _, _, v, rfl, A1.good.ex _ _ e1, (hc C hC).1, (hc C hC).2, A1.good.ex _ _ e2, l1, k v G1 H1 A1 l2⟩
          · cases q
        · cases q
      · cases q
end DL
set_option maxHeartbeats 4000000
namespace DL
open PySem PySem.Spec L2
open PyProof.Rows (envOfC)
section
open PySem.W PySem.Calls PyProof.Rows
variable {prog : Program} {w : World} {A : Around} {E : Value → Shared → Prop} {s : Shared} {K : Frag} {x D : Addr} {ox : Obj} {od : Option Obj}
end
def Kept (H : Hp) (a D : Addr) : Prop := ∃ (o : Option Addr), H a = some (xho a (.ref D) o) ∧ ∀ d, o = some d → ∃ (fs : List (Str × V)), H d = some (.xd fs)
section
variable {X : Cx}
end
theorem Kept.up {G H : Hp} {a C : Addr} (h : Kept G a C) (e : Ex G H) : Kept H a C := by
  obtain ⟨o, e1, e2⟩ := h
  exact ⟨o, e _ _ e1, fun d hd => by obtain ⟨fs, z⟩ := e2 d hd; exact ⟨fs, e _ _ z⟩⟩
end DL
namespace DL
open PySem PySem.Spec L2
open PyProof.Rows (envOfC)
structure SeC (K : PySem.W.Frag) (CS : Addr) : Prop where
  ga : PySem.W.specialIn K (.ref CS) "__getattribute__" = some (some (.builtin "type.__getattribute__"))
  rd : PySem.W.readsIn K CS (.type "type") = true
  fi : PySem.W.findCls K (.ref CS) (.type "type") "__init__" = some (.val (.builtin "ValueError.__init__"))
section
variable {X : Cx} {B f : Str} {CS : Addr} {e : Expr} {es : List Expr} {ta : TA} {p1 p2 pos : Pos}
theorem pe_seinit {pl : Sem Bool} (hg : Gl X B) (hm : X.mg B = some (.ref CS)) (T0 : SeC X.K CS) (ha : PA X (e :: es) ta) (hdb : (B == ("__debug__" : Str)) = false := by decide)
    (hc : eval (.Call (.Attribute (.Name B p1) "__init__" p2) (e :: es) [] pos) X.env = (do
      let ov ← eval (.Name B p1) X.env
      standAt p2.atName
      let (f, first) ← holding [ov] (getMethod ov "__init__" pl)
      callWith pos f first (backTo pos (starEach (e :: es) X.env)) (backToKw pos (keywordEach [] X.env))) := by rfl)
    (he : starEach (e :: es) X.env = (false, eval e X.env) :: starEach es X.env := by rfl) (hpl : (backTo pos (starEach es X.env)).any (·.1) = false := by rfl) :
    PE X (.Call (.Attribute (.Name B p1) "__init__" p2) (e :: es) [] pos) (tVeI X.K ta) := by
  refine ⟨fun pins s σ H Q I h => ?_⟩
  refine PySem.W.methodCall_KW (ld_glob I hg hm ?_ hdb) hc
  refine PySem.W.method_cls I.kIn T0.ga (PySem.W.cls_value I.kIn T0.rd T0.fi rfl ?_)
  show wpAny _ _ (callWith pos (Value.builtin "ValueError.__init__") [] (backTo pos (starEach (e :: es) X.env)) []) _ _ _
  refine PyProof.Rows.callWith_method1 (thn (ha.run pos pins _ σ H _ (I.tok _) h) fun us s1 ⟨vs, H1, I1, r1, a, C, ws, ev, hl, T, ea, q⟩ => ?_) he hpl
  subst ev
  cases r1 with
  | @cons _ u0 _ ur ra rw' =>
    obtain rfl : u0 = Value.ref a := ra
    have hlen : ur.length ≤ sizeLine := by
      rw [← Paired.length rw', sizeLine_eq]
      omega
    exact oinit_ok T I1 ea hlen fun s' J => ⟨.non, H1, J, rfl, q⟩
end
def TxOk (ts : List TE) : Prop := ∀ (σ : L2.St) (H : Hp) (v : V) (Q : Str → Hp → Prop), σ[1]? = some (some v) → okV v → (∀ y, Q y H) → tJs ts Str.empty σ H Q
theorem fmt_of {σ : L2.St} {H : Hp} {v : V} {Q : VK} (h : σ[1]? = some (some v)) (o : okV v) (k : ∀ y : Str, y.length ≤ 2000 → Q (.str y) H) : tFmt (tVar 1) σ H Q := by
  refine ⟨v, h, ?_⟩
  cases v with
  | int i =>
    have o' : i.natAbs.log2 < 1900 := o
    refine .inr ⟨i, rfl, by omega, k _ ?_⟩
    have e := int_text_length_le (k := 1900) (by decide) o'
    rw [ofString_length]; omega
  | str y =>
    have o' : y.length ≤ 1000 := o
    exact .inl ⟨y, rfl, by rw [sizeLine_eq]; omega, k _ (by omega)⟩
  | _ => cases o
theorem txt_pre {s : Str} (hs : s.length ≤ 1000) : TxOk [tC (.str s), tFmt (tVar 1)] := fun σ H v Q h o k => by
  refine ⟨s, rfl, by rw [PySem.Str.length_append, sizeLine_eq]; show 0 + s.length ≤ _; omega, ?_⟩
  refine fmt_of h o fun y hy => ⟨y, rfl, ?_, k _⟩
  rw [PySem.Str.length_append, PySem.Str.length_append, sizeLine_eq]
  show 0 + s.length + y.length ≤ _
  omega
theorem ini_of {P : Program} {w : World} {K : PySem.W.Frag} {mg : Str → Option Value} {base : Heap} {qual fl : Str} {st : Stmt} {fI C : Addr} {fd : FuncData} {ts : List TE} (T : OexC K C) (hno : PySem.W.findIn K (.ref C) fl = some none) (F : FunD K "__init__" qual (defArgs st) (defBody st) (defScope st) [] [] fI fd) (S : FnScope ["self", fl] ["self", fl] (defScope st)) (hts : TxOk ts)
    (hb : ∀ (cdv : Value) (A : Around) (outer : List Env) (s : Shared) (H : Hp) (E : XK), PSs (cxOf (L2.CX P w) P w K mg base ["self", fl] qual (defScope st) fI cdv A outer s H E) (defBody st)
      (tSeq (tDrop (tVeI K (tCons (tVar 0) (tCons (fun σ H Q => tJs ts Str.empty σ H fun out H1 => Q (.str out) H1) tNil)))) (tOst K fl (tVar 0) (tVar 1)))) :
    FnOk P w K mg base (L2.CX P w) 1 fI fd ["self", fl] (spIni C fl) := by
  refine F.ok S (fun vs H Q E h => ?_) fun cdv A outer s H vs Q E hr hsp => ⟨_, hb cdv A outer s H E, ?_⟩
  · obtain ⟨a, v, rfl, _⟩ := h
    rfl
  · obtain ⟨a, v, rfl, ea, o, k⟩ := hsp
    have h0 : (start ["self", fl] [.ref a, v])[0]? = some (some (.ref a)) := rfl
    have h1 : (start ["self", fl] [.ref a, v])[1]? = some (some v) := rfl
    refine ⟨.ref a, h0, hts _ _ v _ h1 o fun y => ⟨a, C, [.str y], rfl, Nat.succ_le_succ (Nat.zero_le _), T, ea, ?_⟩⟩
    exact ⟨v, h1, .ref a, h0, a, C, rfl, T, hno, .inl ⟨ea, fun d hd hne => k d hd hne⟩⟩
end DL
namespace DL
open PySem PySem.Spec L2
open PyProof.Rows (envOfC)
def oexB (K : PySem.W.Frag) (C : Addr) : Bool := (match K.lookup C with
  | some ⟨.type "type", _, .cls cd, sl⟩ => (match cd.mro, sl.toList with
    | .ref C' :: bm, [_, _, _, _, some (.builtin n), _] => C' == C && n == "ValueError.__new__" && !cd.hasDel && cd.hasDict && PySem.HandSPX.refsVE bm
    | _, _ => false)
  | _ => false) && (decide (PySem.W.findIn K (.ref C) "__setattr__" = some (some (.builtin "object.__setattr__"))) && (decide (PySem.W.subIn K (.ref C) (.type "BaseException") = some true) && (decide (PySem.W.typeIn K (.ref C) = some (.type "type")) && PySem.W.keepIn K (.ref C))))
theorem oexB_ok {K : PySem.W.Frag} {C : Addr} (q : oexB K C = true) : OexC K C := by
  obtain ⟨q, h⟩ := Bool.and_eq_true_iff.mp q
  obtain ⟨h1, h⟩ := Bool.and_eq_true_iff.mp h
  obtain ⟨h2, h⟩ := Bool.and_eq_true_iff.mp h
  obtain ⟨h3, h4⟩ := Bool.and_eq_true_iff.mp h
  refine ⟨?_, of_decide_eq_true h1, of_decide_eq_true h2, of_decide_eq_true h3, h4⟩
  split at q
  · rename_i dd cd sl ho
    split at q
    · rename_i C' bm k0 k1 k2 k3 n k5 hm hs
      simp only [Bool.and_eq_true, beq_iff_eq, Bool.not_eq_true'] at q
      obtain ⟨⟨⟨⟨rfl, rfl⟩, hdel⟩, hdc⟩, ht⟩ := q
      obtain ⟨nm, bs, mro, ns, qn, hd, sn, sub, ab, col, del⟩ := cd
      dsimp only at hm hdel hdc
      subst hm hdel hdc
      have hsl : sl = #[k0, k1, k2, k3, some (.builtin "ValueError.__new__"), k5] := by
        obtain ⟨l⟩ := sl
        simp only at hs
        rw [hs]
      subst hsl
      exact ⟨nm, qn, ns, bs, bm, sn, sub, ab, col, dd, k0, k1, k2, k3, k5, ho, ht⟩
    · cases q
  · cases q
def excB (K : PySem.W.Frag) (D : Addr) : Bool := decide (PySem.W.findIn K (.ref D) "__getattribute__" = some (some (.builtin "BaseException.__getattribute__"))) && (decide (PySem.W.findIn K (.ref D) "__getattr__" = some none) && (decide (PySem.W.subIn K (.ref D) (.type "BaseException") = some true) && (PySem.W.hasDictIn K D && (decide (PySem.W.findIn K (.ref D) "__class__" = some (some (.builtin "object.__class__"))) &&
  (decide (PySem.W.specialIn K (.builtin "object.__class__") "__get__" = some (some (.builtin "getset_descriptor.__get__"))) && (decide (PySem.W.takesIn K (.builtin "object.__class__") = some true) && decide (PySem.W.mroIn K D (.type "object") = some true)))))))
theorem excB_ok {K : PySem.W.Frag} {D : Addr} (q : excB K D = true) : ExcC K D := by
  obtain ⟨h1, h⟩ := Bool.and_eq_true_iff.mp q
  obtain ⟨h2, h⟩ := Bool.and_eq_true_iff.mp h
  obtain ⟨h3, h⟩ := Bool.and_eq_true_iff.mp h
  obtain ⟨h4, h⟩ := Bool.and_eq_true_iff.mp h
  obtain ⟨h5, h⟩ := Bool.and_eq_true_iff.mp h
  obtain ⟨h6, h⟩ := Bool.and_eq_true_iff.mp h
  obtain ⟨h7, h8⟩ := Bool.and_eq_true_iff.mp h
  exact ⟨of_decide_eq_true h1, of_decide_eq_true h2, of_decide_eq_true h3, h4, of_decide_eq_true h5, of_decide_eq_true h6, of_decide_eq_true h7, of_decide_eq_true h8⟩
def seB (K : PySem.W.Frag) (CS : Addr) : Bool := decide (PySem.W.specialIn K (.ref CS) "__getattribute__" = some (some (.builtin "type.__getattribute__"))) && (PySem.W.readsIn K CS (.type "type") && (match PySem.W.findCls K (.ref CS) (.type "type") "__init__" with
  | some (.val (.builtin n)) => decide (n = "ValueError.__init__")
  | _ => false))
theorem seB_ok {K : PySem.W.Frag} {CS : Addr} (q : seB K CS = true) : SeC K CS := by
  obtain ⟨h1, h⟩ := Bool.and_eq_true_iff.mp q
  obtain ⟨h2, h3⟩ := Bool.and_eq_true_iff.mp h
  refine ⟨of_decide_eq_true h1, h2, ?_⟩
  split at h3
  · rename_i n e
    rw [e, of_decide_eq_true h3]
  · cases h3
structure ClsK (K : PySem.W.Frag) (C : Addr) (f : Str) : Prop where
  o : OexC K C
  e : ExcC K C
  x : XfC K C
  no : PySem.W.findIn K (.ref C) f = some none
  ini : PySem.W.findIn K (.ref C) "__init__" = some (some (.ref (He.ma K C "__init__")))
  ti : PySem.W.typeIn K (.ref (He.ma K C "__init__")) = some (.type "function")
def clsKB (K : PySem.W.Frag) (C : Addr) (f : Str) : Bool := oexB K C && (excB K C && (xfB K C && (decide (PySem.W.findIn K (.ref C) f = some none) && (decide (PySem.W.findIn K (.ref C) "__init__" = some (some (.ref (He.ma K C "__init__")))) && decide (PySem.W.typeIn K (.ref (He.ma K C "__init__")) = some (.type "function"))))))
theorem clsKB_ok {K : PySem.W.Frag} {C : Addr} {f : Str} (q : clsKB K C f = true) : ClsK K C f := by
  obtain ⟨h1, h⟩ := Bool.and_eq_true_iff.mp q
  obtain ⟨h2, h⟩ := Bool.and_eq_true_iff.mp h
  obtain ⟨h3, h⟩ := Bool.and_eq_true_iff.mp h
  obtain ⟨h4, h⟩ := Bool.and_eq_true_iff.mp h
  obtain ⟨h5, h6⟩ := Bool.and_eq_true_iff.mp h
  exact ⟨oexB_ok h1, excB_ok h2, xfB_ok h3, of_decide_eq_true h4, of_decide_eq_true h5, of_decide_eq_true h6⟩
structure ClsN (K : PySem.W.Frag) (C : Addr) : Prop where
  o : ClsK0 K C
  e : ExcC K C
theorem xclsMk {P : Program} {w : World} {K : PySem.W.Frag} {mg : Str → Option Value} {base : Heap} {x f qual : Str} {st : Stmt} {fd : FuncData} (c : ClsK K (He.ga K x) f) (gl : mg x = some (.ref (He.ga K x))) (F : FunD K "__init__" qual (defArgs st) (defBody st) (defScope st) [] [] (He.fAd K (x, some "__init__")) fd)
    (hbind : ∀ (kV doc pm : Value) (an : Option Addr) (cdv ct : Value) (us : List Value), us.length = 2 → bindArgs (PySem.W.fnOf "__init__" qual (defArgs st) (defBody st) (defScope st) .none kV doc pm an cdv ct) ⟨us, []⟩ = pure (List.zip (["self", f] : List Str) us))
    (i4 : FnOk P w K mg base (L2.CX P w) 1 (He.fAd K (x, some "__init__")) fd ["self", f] (spIni (He.ga K x) f)) : XCls P w K mg base x f (He.ga K x) :=
  ⟨gl, c.o, _, fd, ["self", f], c.ini, c.ti, FunD.bindsN F hbind, i4⟩
section
variable {P : Program} {w : World} {K : PySem.W.Frag} {mg : Str → Option Value} {base : Heap} {N : List Str} {qual : Str} {scope : Scope} {f : Addr} {cd : Value} {A : Around} {outer : List Env} {s : Shared} {H : Hp} {E : XK}
theorem takes_cx : Takes (cxOf (L2.CX P w) P w K mg base N qual scope f cd A outer s H E) (fun cls d _ H' => E cls d H') := takes_of (X := cxOf (L2.CX P w) P w K mg base N qual scope f cd A outer s H E) (E := E) rfl rfl rfl rfl
end
theorem takesE0 {X : Cx} : Takes X (fun cls d _ H => E0 cls d H) := fun _ _ x => by
  obtain ⟨_, _, _, _, _, _, _, _, _, _, _, _, _, _, _, _, z⟩ := x
  exact z.elim
section
variable {P : Program} {w : World} {K : PySem.W.Frag} {mg : Str → Option Value} {base : Heap}
end
def exmB (K : PySem.W.Frag) (x : Str) (u : Value) : Bool := decide (PySem.W.exmOne K (.ref (He.ga K x)) u = some true)
theorem all_at {l : List Bool} (h : (l.all fun b => b) = true) (i : Nat) {b : Bool} (e : l[i]? = some b) : b = true := List.all_eq_true.mp h b (List.mem_of_getElem? e)
def frE (g : Addr → Option Obj) (n : Nat) : PySem.W.Frag := He.frG g (He.asD g n ++ [cStatics])
abbrev AlE : Type := He.AlD × Bool
def obsE (n : Nat) (fa : List He.Fa) (fn : List He.DefD) (ex : PySem.W.Frag → Bool) (g : Addr → Option Obj) : AlE := (He.obsD fa fn (frE g n), ex (frE g n))
def hookE (n : Nat) (fa : List He.Fa) (fn : List He.DefD) (ex : PySem.W.Frag → Bool) : PySem.W.Hook where
  α := AlE
  obs := fun s => obsE n fa fn ex s.heap.get?
  val := fun _ => (He.valD fn, true)
  says := fun _ h => ∃ K : PySem.W.Frag, K.In h ∧ He.SaysD fa fn K ∧ ex K = true
  of := fun _ _ e => ⟨_, He.frG_in, congrArg (fun z : AlE => z.1) e, congrArg (fun z : AlE => z.2) e⟩
  keeps := fun _ _ _ ⟨K, hK, c⟩ k => ⟨K, PySem.W.Frag.In.keeps hK k, c⟩
theorem obsE_eq {n : Nat} {fa : List He.Fa} {fn : List He.DefD} {ex : PySem.W.Frag → Bool} {g : Addr → Option Obj} {s : Shared} (h : ∀ a, g a = s.heap.get? a) : obsE n fa fn ex g = (hookE n fa fn ex).obs s := by
  have e : g = s.heap.get? := funext h
  rw [e] <;> rfl
theorem names_glo {X : Cx} {x : Str} {c : Value} (hg : Gl X x) (hm : X.mg x = some c) (hdb : (x == ("__debug__" : Str)) = false := by decide) : Names X x c := ⟨hg, hdb, .inl hm⟩
end DL
namespace G
open PySem PySem.Spec L2 DL
def top (i : Nat) : Stmt := PySem.Challenge.pw_stridelots_k59_yards_of_many_names.main.body.getD i (.Pass ⟨0, 0, 0, 0⟩)
abbrev s_cells_many : Stmt := top 2
abbrev N_cells_many : List Str := ["board"]
abbrev ps_cells_many : List Str := ["board"]
theorem sc_cells_many : FnScope N_cells_many ps_cells_many (defScope s_cells_many) := ⟨rfl, rfl, rfl, by decide +kernel, rfl, by decide +kernel, by decide +kernel⟩
def df_cells_many : He.DefD := ⟨("cells_many", none), "cells_many", "cells_many", defArgs s_cells_many, defBody s_cells_many, defScope s_cells_many, [], []⟩
abbrev s_first_cells : Stmt := top 10
abbrev N_first_cells : List Str := ["board", "rule", "many", "high", "wide", "rows", "columns", "row", "column"]
abbrev ps_first_cells : List Str := ["board", "rule"]
theorem sc_first_cells : FnScope N_first_cells ps_first_cells (defScope s_first_cells) := ⟨rfl, rfl, rfl, by decide +kernel, rfl, by decide +kernel, by decide +kernel⟩
def df_first_cells : He.DefD := ⟨("first_cells", none), "first_cells", "first_cells", defArgs s_first_cells, defBody s_first_cells, defScope s_first_cells, [], []⟩
abbrev s_is_deed : Stmt := top 11
abbrev N_is_deed : List Str := ["board", "book", "deed", "number", "cell"]
abbrev ps_is_deed : List Str := ["board", "book", "deed"]
theorem sc_is_deed : FnScope N_is_deed ps_is_deed (defScope s_is_deed) := ⟨rfl, rfl, rfl, by decide +kernel, rfl, by decide +kernel, by decide +kernel⟩
def df_is_deed : He.DefD := ⟨("is_deed", none), "is_deed", "is_deed", defArgs s_is_deed, defBody s_is_deed, defScope s_is_deed, [], []⟩
abbrev s_pairs_at : Stmt := top 12
abbrev N_pairs_at : List Str := ["board", "rule", "cell", "many", "wide", "far", "lot", "k", "row", "column", "one"]
abbrev ps_pairs_at : List Str := ["board", "rule", "cell"]
theorem sc_pairs_at : FnScope N_pairs_at ps_pairs_at (defScope s_pairs_at) := ⟨rfl, rfl, rfl, by decide +kernel, rfl, by decide +kernel, by decide +kernel⟩
def df_pairs_at : He.DefD := ⟨("pairs_at", none), "pairs_at", "pairs_at", defArgs s_pairs_at, defBody s_pairs_at, defScope s_pairs_at, [], []⟩
abbrev s_is_bent : Stmt := top 13
abbrev N_is_bent : List Str := ["rule"]
abbrev ps_is_bent : List Str := ["rule"]
theorem sc_is_bent : FnScope N_is_bent ps_is_bent (defScope s_is_bent) := ⟨rfl, rfl, rfl, by decide +kernel, rfl, by decide +kernel, by decide +kernel⟩
def df_is_bent : He.DefD := ⟨("is_bent", none), "is_bent", "is_bent", defArgs s_is_bent, defBody s_is_bent, defScope s_is_bent, [], []⟩
abbrev s_exchange : Stmt := top 15
abbrev N_exchange : List Str := ["things", "pairs", "bent", "one", "other", "first", "second"]
abbrev ps_exchange : List Str := ["things", "pairs", "bent"]
theorem sc_exchange : FnScope N_exchange ps_exchange (defScope s_exchange) := ⟨rfl, rfl, rfl, by decide +kernel, rfl, by decide +kernel, by decide +kernel⟩
def df_exchange : He.DefD := ⟨("exchange", none), "exchange", "exchange", defArgs s_exchange, defBody s_exchange, defScope s_exchange, [], []⟩
abbrev s_need_deeds : Stmt := top 16
abbrev N_need_deeds : List Str := ["board", "book", "deeds", "known", "at", "deed"]
abbrev ps_need_deeds : List Str := ["board", "book", "deeds"]
theorem sc_need_deeds : FnScope N_need_deeds ps_need_deeds (defScope s_need_deeds) := ⟨rfl, rfl, rfl, by decide +kernel, rfl, by decide +kernel, by decide +kernel⟩
def df_need_deeds : He.DefD := ⟨("need_deeds", none), "need_deeds", "need_deeds", defArgs s_need_deeds, defBody s_need_deeds, defScope s_need_deeds, [], []⟩
abbrev s_done : Stmt := top 17
abbrev N_done : List Str := ["board", "book", "standing", "deeds", "back", "things", "number", "cell", "rule"]
abbrev ps_done : List Str := ["board", "book", "standing", "deeds", "back"]
theorem sc_done : FnScope N_done ps_done (defScope s_done) := ⟨rfl, rfl, rfl, by decide +kernel, rfl, by decide +kernel, by decide +kernel⟩
def df_done : He.DefD := ⟨("done", none), "done", "done", defArgs s_done, defBody s_done, defScope s_done, [], [("back", .bl false)]⟩
abbrev s__law_pot : Stmt := top 22
abbrev N__law_pot : List Str := ["script", "at", "cell"]
abbrev ps__law_pot : List Str := ["script", "at"]
theorem sc__law_pot : FnScope N__law_pot ps__law_pot (defScope s__law_pot) := ⟨rfl, rfl, rfl, by decide +kernel, rfl, by decide +kernel, by decide +kernel⟩
def df__law_pot : He.DefD := ⟨("_law_pot", none), "_law_pot", "_law_pot", defArgs s__law_pot, defBody s__law_pot, defScope s__law_pot, [], []⟩
abbrev s__law_dip : Stmt := top 23
abbrev N__law_dip : List Str := ["pot", "size", "digit", "mixed"]
abbrev ps__law_dip : List Str := ["pot", "size"]
theorem sc__law_dip : FnScope N__law_dip ps__law_dip (defScope s__law_dip) := ⟨rfl, rfl, rfl, by decide +kernel, rfl, by decide +kernel, by decide +kernel⟩
def df__law_dip : He.DefD := ⟨("_law_dip", none), "_law_dip", "_law_dip", defArgs s__law_dip, defBody s__law_dip, defScope s__law_dip, [], []⟩
abbrev s__law_board : Stmt := top 24
abbrev N__law_board : List Str := ["pot", "most", "way", "short", "long"]
abbrev ps__law_board : List Str := ["pot", "most"]
theorem sc__law_board : FnScope N__law_board ps__law_board (defScope s__law_board) := ⟨rfl, rfl, rfl, by decide +kernel, rfl, by decide +kernel, by decide +kernel⟩
def df__law_board : He.DefD := ⟨("_law_board", none), "_law_board", "_law_board", defArgs s__law_board, defBody s__law_board, defScope s__law_board, [], []⟩
abbrev s__law_rules : Stmt := top 25
abbrev N__law_rules : List Str := ["board", "found", "k", "sort", "high", "wide", "h", "w"]
abbrev ps__law_rules : List Str := ["board"]
theorem sc__law_rules : FnScope N__law_rules ps__law_rules (defScope s__law_rules) := ⟨rfl, rfl, rfl, by decide +kernel, rfl, by decide +kernel, by decide +kernel⟩
def df__law_rules : He.DefD := ⟨("_law_rules", none), "_law_rules", "_law_rules", defArgs s__law_rules, defBody s__law_rules, defScope s__law_rules, [], []⟩
abbrev s__law_book : Stmt := top 26
abbrev N__law_book : List Str := ["pot", "board", "left", "found", "k"]
abbrev ps__law_book : List Str := ["pot", "board"]
theorem sc__law_book : FnScope N__law_book ps__law_book (defScope s__law_book) := ⟨rfl, rfl, rfl, by decide +kernel, rfl, by decide +kernel, by decide +kernel⟩
def df__law_book : He.DefD := ⟨("_law_book", none), "_law_book", "_law_book", defArgs s__law_book, defBody s__law_book, defScope s__law_book, [], []⟩
abbrev s__law_cells : Stmt := top 27
abbrev N__law_cells : List Str := ["board"]
abbrev ps__law_cells : List Str := ["board"]
theorem sc__law_cells : FnScope N__law_cells ps__law_cells (defScope s__law_cells) := ⟨rfl, rfl, rfl, by decide +kernel, rfl, by decide +kernel, by decide +kernel⟩
def df__law_cells : He.DefD := ⟨("_law_cells", none), "_law_cells", "_law_cells", defArgs s__law_cells, defBody s__law_cells, defScope s__law_cells, [], []⟩
abbrev s__law_places : Stmt := top 28
abbrev N__law_places : List Str := ["board", "rule", "sort", "high", "wide", "found", "r", "c", "down", "right"]
abbrev ps__law_places : List Str := ["board", "rule"]
theorem sc__law_places : FnScope N__law_places ps__law_places (defScope s__law_places) := ⟨rfl, rfl, rfl, by decide +kernel, rfl, by decide +kernel, by decide +kernel⟩
def df__law_places : He.DefD := ⟨("_law_places", none), "_law_places", "_law_places", defArgs s__law_places, defBody s__law_places, defScope s__law_places, [], []⟩
abbrev s__law_deeds : Stmt := top 29
abbrev N__law_deeds : List Str := ["board", "book", "found", "number", "cell"]
abbrev ps__law_deeds : List Str := ["board", "book"]
theorem sc__law_deeds : FnScope N__law_deeds ps__law_deeds (defScope s__law_deeds) := ⟨rfl, rfl, rfl, by decide +kernel, rfl, by decide +kernel, by decide +kernel⟩
def df__law_deeds : He.DefD := ⟨("_law_deeds", none), "_law_deeds", "_law_deeds", defArgs s__law_deeds, defBody s__law_deeds, defScope s__law_deeds, [], []⟩
abbrev s__law_pairs : Stmt := top 30
abbrev N__law_pairs : List Str := ["board", "book", "deed", "rule", "far", "found", "r", "j", "c", "cell"]
abbrev ps__law_pairs : List Str := ["board", "book", "deed"]
theorem sc__law_pairs : FnScope N__law_pairs ps__law_pairs (defScope s__law_pairs) := ⟨rfl, rfl, rfl, by decide +kernel, rfl, by decide +kernel, by decide +kernel⟩
def df__law_pairs : He.DefD := ⟨("_law_pairs", none), "_law_pairs", "_law_pairs", defArgs s__law_pairs, defBody s__law_pairs, defScope s__law_pairs, [], []⟩
abbrev s__law_turned : Stmt := top 31
abbrev N__law_turned : List Str := ["thing", "bent"]
abbrev ps__law_turned : List Str := ["thing", "bent"]
theorem sc__law_turned : FnScope N__law_turned ps__law_turned (defScope s__law_turned) := ⟨rfl, rfl, rfl, by decide +kernel, rfl, by decide +kernel, by decide +kernel⟩
def df__law_turned : He.DefD := ⟨("_law_turned", none), "_law_turned", "_law_turned", defArgs s__law_turned, defBody s__law_turned, defScope s__law_turned, [], []⟩
abbrev s__law_done : Stmt := top 32
abbrev N__law_done : List Str := ["board", "book", "standing", "deeds", "things", "pairs", "deed", "bent", "one", "other", "first"]
abbrev ps__law_done : List Str := ["board", "book", "standing", "deeds"]
theorem sc__law_done : FnScope N__law_done ps__law_done (defScope s__law_done) := ⟨rfl, rfl, rfl, by decide +kernel, rfl, by decide +kernel, by decide +kernel⟩
def df__law_done : He.DefD := ⟨("_law_done", none), "_law_done", "_law_done", defArgs s__law_done, defBody s__law_done, defScope s__law_done, [], []⟩
abbrev s__law_name : Stmt := top 33
abbrev N__law_name : List Str := ["style", "sign", "number", "letters", "one", "more", "sorts"]
abbrev ps__law_name : List Str := ["style", "sign", "number"]
theorem sc__law_name : FnScope N__law_name ps__law_name (defScope s__law_name) := ⟨rfl, rfl, rfl, by decide +kernel, rfl, by decide +kernel, by decide +kernel⟩
def df__law_name : He.DefD := ⟨("_law_name", none), "_law_name", "_law_name", defArgs s__law_name, defBody s__law_name, defScope s__law_name, [], []⟩
abbrev s__law_names : Stmt := top 34
abbrev N__law_names : List Str := ["pot", "size", "style", "sign", "some", "few", "number"]
abbrev ps__law_names : List Str := ["pot", "size"]
theorem sc__law_names : FnScope N__law_names ps__law_names (defScope s__law_names) := ⟨rfl, rfl, rfl, by decide +kernel, rfl, by decide +kernel, by decide +kernel⟩
def df__law_names : He.DefD := ⟨("_law_names", none), "_law_names", "_law_names", defArgs s__law_names, defBody s__law_names, defScope s__law_names, [], []⟩
abbrev s__law_mixed : Stmt := top 35
abbrev N__law_mixed : List Str := ["pot", "things", "left", "k"]
abbrev ps__law_mixed : List Str := ["pot", "things"]
theorem sc__law_mixed : FnScope N__law_mixed ps__law_mixed (defScope s__law_mixed) := ⟨rfl, rfl, rfl, by decide +kernel, rfl, by decide +kernel, by decide +kernel⟩
def df__law_mixed : He.DefD := ⟨("_law_mixed", none), "_law_mixed", "_law_mixed", defArgs s__law_mixed, defBody s__law_mixed, defScope s__law_mixed, [], []⟩
abbrev s__law_standing : Stmt := top 36
abbrev N__law_standing : List Str := ["pot", "size", "names", "name"]
abbrev ps__law_standing : List Str := ["pot", "size"]
theorem sc__law_standing : FnScope N__law_standing ps__law_standing (defScope s__law_standing) := ⟨rfl, rfl, rfl, by decide +kernel, rfl, by decide +kernel, by decide +kernel⟩
def df__law_standing : He.DefD := ⟨("_law_standing", none), "_law_standing", "_law_standing", defArgs s__law_standing, defBody s__law_standing, defScope s__law_standing, [], []⟩
abbrev s__law_many_names : Stmt := top 37
abbrev N__law_many_names : List Str := ["pot", "letters", "left", "one", "k"]
abbrev ps__law_many_names : List Str := ["pot"]
theorem sc__law_many_names : FnScope N__law_many_names ps__law_many_names (defScope s__law_many_names) := ⟨rfl, rfl, rfl, by decide +kernel, rfl, by decide +kernel, by decide +kernel⟩
def df__law_many_names : He.DefD := ⟨("_law_many_names", none), "_law_many_names", "_law_many_names", defArgs s__law_many_names, defBody s__law_many_names, defScope s__law_many_names, [], []⟩
abbrev s_Yard___len__ : Stmt := inClass (top 20) 1
abbrev N_Yard___len__ : List Str := ["self", "#self.kept", "#self.noted"]
abbrev ps_Yard___len__ : List Str := ["self"]
theorem sc_Yard___len__ : FnScope N_Yard___len__ ps_Yard___len__ (defScope s_Yard___len__) := ⟨rfl, rfl, rfl, by decide +kernel, rfl, by decide +kernel, by decide +kernel⟩
def df_Yard___len__ : He.DefD := ⟨("Yard", some "__len__"), "__len__", "Yard.__len__", defArgs s_Yard___len__, defBody s_Yard___len__, defScope s_Yard___len__, [], []⟩
abbrev s_Yard_stands : Stmt := inClass (top 20) 6
abbrev N_Yard_stands : List Str := ["self", "#self.kept", "#self.noted"]
abbrev ps_Yard_stands : List Str := ["self"]
theorem sc_Yard_stands : FnScope N_Yard_stands ps_Yard_stands (defScope s_Yard_stands) := ⟨rfl, rfl, rfl, by decide +kernel, rfl, by decide +kernel, by decide +kernel⟩
def df_Yard_stands : He.DefD := ⟨("Yard", some "stands"), "stands", "Yard.stands", defArgs s_Yard_stands, defBody s_Yard_stands, defScope s_Yard_stands, [], []⟩
abbrev s_Yard_names : Stmt := inClass (top 20) 5
abbrev N_Yard_names : List Str := ["self", "#self.kept", "#self.noted"]
abbrev ps_Yard_names : List Str := ["self"]
theorem sc_Yard_names : FnScope N_Yard_names ps_Yard_names (defScope s_Yard_names) := ⟨rfl, rfl, rfl, by decide +kernel, rfl, by decide +kernel, by decide +kernel⟩
def df_Yard_names : He.DefD := ⟨("Yard", some "names"), "names", "Yard.names", defArgs s_Yard_names, defBody s_Yard_names, defScope s_Yard_names, [], []⟩
abbrev s_Yard_standing : Stmt := inClass (top 20) 3
abbrev N_Yard_standing : List Str := ["self", "name", "#self.kept", "#self.noted"]
abbrev ps_Yard_standing : List Str := ["self", "name"]
theorem sc_Yard_standing : FnScope N_Yard_standing ps_Yard_standing (defScope s_Yard_standing) := ⟨rfl, rfl, rfl, by decide +kernel, rfl, by decide +kernel, by decide +kernel⟩
def df_Yard_standing : He.DefD := ⟨("Yard", some "standing"), "standing", "Yard.standing", defArgs s_Yard_standing, defBody s_Yard_standing, defScope s_Yard_standing, [], []⟩
abbrev s_Yard_log : Stmt := inClass (top 20) 4
abbrev N_Yard_log : List Str := ["self", "name", "#self.kept", "#self.noted"]
abbrev ps_Yard_log : List Str := ["self", "name"]
theorem sc_Yard_log : FnScope N_Yard_log ps_Yard_log (defScope s_Yard_log) := ⟨rfl, rfl, rfl, by decide +kernel, rfl, by decide +kernel, by decide +kernel⟩
def df_Yard_log : He.DefD := ⟨("Yard", some "log"), "log", "Yard.log", defArgs s_Yard_log, defBody s_Yard_log, defScope s_Yard_log, [], []⟩
abbrev s__law_all_right : Stmt := top 38
abbrev N__law_all_right : List Str := ["yard", "kept", "logs", "#yard.kept", "#yard.noted", "name"]
abbrev ps__law_all_right : List Str := ["yard", "kept", "logs"]
theorem sc__law_all_right : FnScope N__law_all_right ps__law_all_right (defScope s__law_all_right) := ⟨rfl, rfl, rfl, by decide +kernel, rfl, by decide +kernel, by decide +kernel⟩
def df__law_all_right : He.DefD := ⟨("_law_all_right", none), "_law_all_right", "_law_all_right", defArgs s__law_all_right, defBody s__law_all_right, defScope s__law_all_right, [], []⟩
abbrev s_Yard_worked : Stmt := inClass (top 20) 7
abbrev N_Yard_worked : List Str := ["self", "name", "deeds", "log", "#self.kept", "#self.noted"]
abbrev ps_Yard_worked : List Str := ["self", "name", "deeds", "log"]
theorem sc_Yard_worked : FnScope N_Yard_worked ps_Yard_worked (defScope s_Yard_worked) := ⟨rfl, rfl, rfl, by decide +kernel, rfl, by decide +kernel, by decide +kernel⟩
def df_Yard_worked : He.DefD := ⟨("Yard", some "worked"), "worked", "Yard.worked", defArgs s_Yard_worked, defBody s_Yard_worked, defScope s_Yard_worked, [], []⟩
abbrev s_Yard_undo : Stmt := inClass (top 20) 10
abbrev N_Yard_undo : List Str := ["self", "name", "many", "#self.kept", "#self.noted", "log", "cut"]
abbrev ps_Yard_undo : List Str := ["self", "name", "many"]
theorem sc_Yard_undo : FnScope N_Yard_undo ps_Yard_undo (defScope s_Yard_undo) := ⟨rfl, rfl, rfl, by decide +kernel, rfl, by decide +kernel, by decide +kernel⟩
def df_Yard_undo : He.DefD := ⟨("Yard", some "undo"), "undo", "Yard.undo", defArgs s_Yard_undo, defBody s_Yard_undo, defScope s_Yard_undo, [], [("many", .int 1)]⟩
abbrev s__law_none_there : Stmt := top 39
abbrev N__law_none_there : List Str := ["yard", "name", "#yard.kept", "#yard.noted", "found", "e"]
abbrev ps__law_none_there : List Str := ["yard", "name"]
theorem sc__law_none_there : FnScope N__law_none_there ps__law_none_there (defScope s__law_none_there) := ⟨rfl, rfl, rfl, by decide +kernel, rfl, by decide +kernel, by decide +kernel⟩
def df__law_none_there : He.DefD := ⟨("_law_none_there", none), "_law_none_there", "_law_none_there", defArgs s__law_none_there, defBody s__law_none_there, defScope s__law_none_there, [], []⟩
abbrev s_Yard_put : Stmt := inClass (top 20) 2
abbrev N_Yard_put : List Str := ["self", "name", "standing", "#self.kept", "#self.noted"]
abbrev ps_Yard_put : List Str := ["self", "name", "standing"]
theorem sc_Yard_put : FnScope N_Yard_put ps_Yard_put (defScope s_Yard_put) := ⟨rfl, rfl, rfl, by decide +kernel, rfl, by decide +kernel, by decide +kernel⟩
def df_Yard_put : He.DefD := ⟨("Yard", some "put"), "put", "Yard.put", defArgs s_Yard_put, defBody s_Yard_put, defScope s_Yard_put, [], []⟩
abbrev s_Yard_need_room : Stmt := inClass (top 20) 8
abbrev N_Yard_need_room : List Str := ["self", "name", "many", "#self.kept", "#self.noted", "over"]
abbrev ps_Yard_need_room : List Str := ["self", "name", "many"]
theorem sc_Yard_need_room : FnScope N_Yard_need_room ps_Yard_need_room (defScope s_Yard_need_room) := ⟨rfl, rfl, rfl, by decide +kernel, rfl, by decide +kernel, by decide +kernel⟩
def df_Yard_need_room : He.DefD := ⟨("Yard", some "need_room"), "need_room", "Yard.need_room", defArgs s_Yard_need_room, defBody s_Yard_need_room, defScope s_Yard_need_room, [], []⟩
abbrev s_Yard_do : Stmt := inClass (top 20) 9
abbrev N_Yard_do : List Str := ["self", "name", "deeds", "back", "#self.kept", "#self.noted", "log", "some"]
abbrev ps_Yard_do : List Str := ["self", "name", "deeds", "back"]
theorem sc_Yard_do : FnScope N_Yard_do ps_Yard_do (defScope s_Yard_do) := ⟨rfl, rfl, rfl, by decide +kernel, rfl, by decide +kernel, by decide +kernel⟩
def df_Yard_do : He.DefD := ⟨("Yard", some "do"), "do", "Yard.do", defArgs s_Yard_do, defBody s_Yard_do, defScope s_Yard_do, [], [("back", .bl false)]⟩
abbrev s_law : Stmt := top 40
abbrev N_law : List Str := ["script", "#yard.kept", "#yard.noted", "at", "pot", "board", "book", "known", "yard", "kept", "logs", "names", "turn", "name", "other", "some", "cut", "gone", "k"]
abbrev ps_law : List Str := ["script"]
theorem sc_law : FnScope N_law ps_law (defScope s_law) := ⟨rfl, rfl, rfl, by decide +kernel, rfl, by decide +kernel, by decide +kernel⟩
def df_law : He.DefD := ⟨("law", none), "law", "law", defArgs s_law, defBody s_law, defScope s_law, [], []⟩
abbrev s_NoName__ : Stmt := inClass (top 7) 0
def df_NoName__ : He.DefD := ⟨("NoName", some "__init__"), "__init__", "NoName.__init__", defArgs s_NoName__, defBody s_NoName__, defScope s_NoName__, [], []⟩
theorem sc_NoName__ : FnScope (["self", "name"] : List Str) ["self", "name"] (defScope s_NoName__) := ⟨rfl, rfl, rfl, by decide +kernel, rfl, by decide +kernel, by decide +kernel⟩
abbrev s_Yard__ : Stmt := inClass (top 20) 0
def df_Yard__ : He.DefD := ⟨("Yard", some "__init__"), "__init__", "Yard.__init__", defArgs s_Yard__, defBody s_Yard__, defScope s_Yard__, [], [("limit", .int 150000)]⟩
theorem sc_Yard__ : FnScope (["self", "board", "book", "limit"] : List Str) ["self", "board", "book", "limit"] (defScope s_Yard__) := ⟨rfl, rfl, rfl, by decide +kernel, rfl, by decide +kernel, by decide +kernel⟩
def fn : List He.DefD := [df_cells_many, df_first_cells, df_is_deed, df_pairs_at, df_is_bent, df_exchange, df_need_deeds, df_done, df__law_pot, df__law_dip, df__law_board, df__law_rules, df__law_book, df__law_cells, df__law_places, df__law_deeds, df__law_pairs, df__law_turned, df__law_done, df__law_name, df__law_names, df__law_mixed, df__law_standing, df__law_many_names, df_Yard___len__, df_Yard_stands, df_Yard_names, df_Yard_standing, df_Yard_log, df__law_all_right, df_Yard_worked, df_Yard_undo, df__law_none_there, df_Yard_put, df_Yard_need_room, df_Yard_do, df_law, df_NoName__, df_Yard__]
def exs (K : PySem.W.Frag) : List Bool := [insB K (He.ga K "Yard") ["board", "book", "limit", "kept", "noted", "busy"],
  exmB K "NoName" (Value.ref (He.ga K "NoName")),
  clsKB K (He.ga K "NoName") "name",
  seB K (He.ga K "StrideError"),
  mthB K (He.ga K "Yard") "__len__",
  mthB K (He.ga K "Yard") "stands",
  mthB K (He.ga K "Yard") "names",
  mthB K (He.ga K "Yard") "standing",
  mthB K (He.ga K "Yard") "log",
  mthB K (He.ga K "Yard") "worked",
  mthB K (He.ga K "Yard") "undo",
  mthB K (He.ga K "Yard") "put",
  mthB K (He.ga K "Yard") "need_room",
  mthB K (He.ga K "Yard") "do"]
abbrev HX (K : PySem.W.Frag) : Prop := ∀ (i : Nat) {b : Bool}, (exs K)[i]? = some b → b = true
theorem ck_NoName {K : PySem.W.Frag} (hx : HX K) : ClsK K (He.ga K "NoName") "name" := clsKB_ok (hx 2 rfl)
def fa : List He.Fa := [.free "list", .free "range", .free "int", .free "len", .free "tuple", .free "enumerate", .free "max", .free "min", .free "dict", .free "sorted", .glo "NoName", .glo "Yard", .glo "cells_many", .glo "first_cells", .glo "is_deed", .glo "pairs_at", .glo "is_bent", .glo "exchange", .glo "need_deeds", .glo "done", .glo "_law_pot", .glo "_law_dip", .glo "_law_board", .glo "_law_rules", .glo "_law_book", .glo "_law_cells", .glo "_law_places", .glo "_law_deeds", .glo "_law_pairs", .glo "_law_turned", .glo "_law_done", .glo "_law_name", .glo "_law_names", .glo "_law_mixed", .glo "_law_standing", .glo "_law_many_names", .glo "_law_all_right", .glo "_law_none_there", .glo "law", .glo "StrideError"]
abbrev R : PySem.W.OpenRow := PySem.W.OpenLaw.row PySem.Challenge.rw_stridelots_k59_yards_of_many_names
def exB (K : PySem.W.Frag) : Bool := (exs K).all fun b => b
abbrev hk : PySem.W.Hook := DL.hookE 5 fa fn exB
def ob (s : PySem.W.SharedT) : DL.AlE := DL.obsE 5 fa fn exB (HandSHeadRun.getT s)
theorem ob_eq (s : PySem.W.SharedT) : ob s = hk.obs s.abs := DL.obsE_eq (HandSHeadRun.getT_eq s)
def loose : List PySem.Str := (["_wall", "cells_many", "StrideError", "NoDeed", "Few", "NoName", "Full", "first_cells", "is_deed", "pairs_at", "is_bent", "exchange"] : List PySem.Str) ++ (["need_deeds", "done", "LIMIT", "Yard", "_law_pot", "_law_dip", "_law_board", "_law_rules", "_law_book", "_law_cells", "_law_places", "_law_deeds"] : List PySem.Str) ++ (["_law_pairs", "_law_turned", "_law_done", "_law_name", "_law_names", "_law_mixed", "_law_standing", "_law_many_names", "_law_all_right", "_law_none_there"] : List PySem.Str)
theorem run (w : World) : HandSHeadRun.RunEq R (PySem.W.view R.prog [40]) hk ob 4000 loose w := by
  intro os
  kernel_rfl
end G
set_option maxHeartbeats 2000000
namespace DL
open PySem PySem.Spec L2
open PyProof.Rows (envOfC)
section
variable {P : Program} {w : World} {K : PySem.W.Frag} {mg : Str → Option Value} {base : Heap}
end
section
variable {X : Cx} {k n : Nat} {f : Addr} {fd : FuncData} {ps ks : List Str} {dvs : List V} {sp : Sp} {x : Str} {p pos : Pos} {e : Expr} {es : List Expr} {kws : List Keyword} {t tk : TA} {E : L2.St → XK}
end
section
variable {X : Cx} {E : XK} {k m : Nat} {ps ks : List Str} {F : FF} {Xf : FX} {dvs : List D} {x hx n : Str} {c : Value} {i : Nat} {cs : List Addr} {p pos pos2 pos3 np pos' : Pos} {e : Expr} {es : List Expr} {kws : List Keyword} {fa fb : Fa} {b₀ : Stmt} {suite : List Stmt} {B : Fs}
end
end DL
namespace DL
open PySem PySem.Spec L2
open PyProof.Rows (envOfC)
structure Gh (X : Cx) (σ σ' : L2.St) : Prop where
  len : σ'.length = σ.length
  same : ∀ (i : Nat) (x : Str), X.N[i]? = some x → Vis X.env.scope x → σ'[i]? = σ[i]?
theorem Inv.gh {X : Cx} {pins : List (Addr × Obj)} {σ σ' : L2.St} {H : Hp} {s : Shared} (I : Inv X pins σ H s) (g : Gh X σ σ') : Inv X pins σ' H s := by
  obtain ⟨m, h1, h2⟩ := I.loc
  exact { I with loc := ⟨m, h1, fun i x v e1 e2 e3 => h2 i x v e1 (by rw [← g.same i x e1 e3]; exact e2) e3⟩, len := g.len.trans I.len }
theorem PSs.gh {X : Cx} {b : List Stmt} {t : TS} (h : PSs X b t) : PSs X b (fun D σ H => ∃ σ', Gh X σ σ' ∧ t D σ' H) := ⟨fun pins s σ H D I ⟨σ', g, q⟩ => h.run pins s σ' H D (Inv.gh I g) q⟩
theorem PS.ghE {X : Cx} {b : Stmt} {t : TS} (h : PS X b t) : PS X b (fun D σ H => t { D with nx := fun σ1 H1 => ∃ σ2, Gh X σ1 σ2 ∧ D.nx σ2 H1 } σ H) := ⟨fun pins s σ H D I q => by
  refine wpAny_mono (h.run pins s σ H _ I q) (fun fl s1 z => ?_) fun _ _ z => z
  cases fl with
  | next =>
    obtain ⟨σ1, H1, I1, σ2, g, q1⟩ := z
    exact ⟨σ2, H1, Inv.gh I1 g, q1⟩
  | brk => exact z
  | cont => exact z
  | ret u => exact z⟩
def lendS (ρ : En) : Sl → Option Sl
  | .fz d => some (.fz d)
  | .bw i => (heldM ρ[i]?).map .rf
  | _ => none
def lendL (ρ : En) : List Sl → Option (List Sl)
  | [] => some []
  | r :: rs => match lendS ρ r with
    | some q => match lendL ρ rs with
      | some qs => some (q :: qs)
      | none => none
    | none => none
def bwL : List Sl → List Nat
  | [] => []
  | .bw i :: rs => i :: bwL rs
  | _ :: rs => bwL rs
def backS (ρ : En) : List Sl → List Sl → Option En
  | [], _ => some ρ
  | .bw i :: rs, .rf m :: es => backS (putS ρ i m) rs es
  | .fz _ :: rs, _ :: es => backS ρ rs es
  | _, _ => none
theorem bwL_mem {i : Nat} : ∀ {rs : List Sl}, i ∈ bwL rs ↔ ∃ j : Nat, rs[j]? = some (.bw i)
  | [] => by simp [bwL]
  | r :: rs => by
    have ih := bwL_mem (i := i) (rs := rs)
    have other : (∀ k, r ≠ .bw k) → (i ∈ bwL (r :: rs) ↔ ∃ j : Nat, (r :: rs)[j]? = some (.bw i)) := fun n => by
      have e : bwL (r :: rs) = bwL rs := by
        cases r with
        | bw k => exact absurd rfl (n k)
        | un => rfl
        | fz d => rfl
        | ow m => rfl
        | rf m => rfl
      rw [e, ih]
      constructor
      · rintro ⟨j, h⟩; exact ⟨j + 1, h⟩
      · rintro ⟨j, h⟩
        cases j with
        | zero => exact absurd (Option.some.inj h) (n i)
        | succ j => exact ⟨j, h⟩
    cases r with
    | bw k =>
      show i ∈ k :: bwL rs ↔ _
      rw [List.mem_cons, ih]
      constructor
      · rintro (rfl | ⟨j, h⟩)
        · exact ⟨0, rfl⟩
        · exact ⟨j + 1, h⟩
      · rintro ⟨j, h⟩
        cases j with
        | zero => cases h; exact .inl rfl
        | succ j => exact .inr ⟨j, h⟩
    | un => exact other fun k h => by cases h
    | fz d => exact other fun k h => by cases h
    | ow m => exact other fun k h => by cases h
    | rf m => exact other fun k h => by cases h
theorem bwL_inj {a : Nat} : ∀ {rs : List Sl} {i j : Nat}, (bwL rs).Nodup → rs[i]? = some (.bw a) → rs[j]? = some (.bw a) → i = j
  | [], _, _, _, h, _ => by simp at h
  | r :: rs, i, j, nd, h1, h2 => by
    have step : (∀ k, r ≠ .bw k) → i = j := fun n => by
      have nd' : (bwL rs).Nodup := by
        cases r with
        | bw k => exact absurd rfl (n k)
        | un => exact nd
        | fz d => exact nd
        | ow m => exact nd
        | rf m => exact nd
      cases i with
      | zero => exact absurd (Option.some.inj h1) (n a)
      | succ i =>
        cases j with
        | zero => exact absurd (Option.some.inj h2) (n a)
        | succ j => rw [bwL_inj nd' (i := i) (j := j) h1 h2]
    cases r with
    | un => exact step fun k h => by cases h
    | fz d => exact step fun k h => by cases h
    | ow m => exact step fun k h => by cases h
    | rf m => exact step fun k h => by cases h
    | bw k =>
      have nd2 : (k :: bwL rs).Nodup := nd
      have n2 := List.nodup_cons.mp nd2
      cases i with
      | zero =>
        cases j with
        | zero => rfl
        | succ j =>
          cases h1
          exact absurd (bwL_mem.mpr ⟨j, h2⟩) n2.1
      | succ i =>
        cases j with
        | zero =>
          cases h2
          exact absurd (bwL_mem.mpr ⟨i, h1⟩) n2.1
        | succ j => rw [bwL_inj n2.2 (i := i) (j := j) h1 h2]
theorem lendL_get {ρ : En} : ∀ {rs qs : List Sl}, lendL ρ rs = some qs → qs.length = rs.length ∧ ∀ (i : Nat) (r : Sl), rs[i]? = some r → ∃ q, qs[i]? = some q ∧ lendS ρ r = some q
  | [], qs, e => by
    cases e
    exact ⟨rfl, fun i r h => by simp at h⟩
  | r :: rs, qs, e => by
    unfold lendL at e
    cases q1 : lendS ρ r with
    | none => rw [q1] at e; cases e
    | some q =>
      rw [q1] at e
      cases q2 : lendL ρ rs with
      | none => simp only [q2] at e; cases e
      | some qs' =>
        simp only [q2] at e
        cases e
        obtain ⟨l, h⟩ := lendL_get q2
        refine ⟨by rw [List.length_cons, List.length_cons, l], fun i r' hr => ?_⟩
        cases i with
        | zero => cases hr; exact ⟨q, rfl, q1⟩
        | succ i => exact h i r' hr
theorem putS_len (ρ : En) (i : Nat) (m : Mu) : (putS ρ i m).length = ρ.length := by
  unfold putS
  split
  · exact List.length_set
  · rfl
theorem putS_ne {ρ : En} {i k : Nat} {m : Mu} (h : k ≠ i) : (putS ρ i m)[k]? = ρ[k]? := by
  unfold putS
  split
  · exact List.getElem?_set_ne (Ne.symm h)
  · rfl
theorem putS_self {ρ : En} {i : Nat} {m : Mu} {r : Sl} (h : ρ[i]? = some r) : (putS ρ i m)[i]? = some (r.put m) := by
  unfold putS
  rw [h]
  exact List.getElem?_set_self (List.getElem?_eq_some_iff.mp h).1
theorem backS_get : ∀ {rs es : List Sl} {ρ ρ2 : En}, backS ρ rs es = some ρ2 → (bwL rs).Nodup → ρ2.length = ρ.length ∧ (∀ k, k ∉ bwL rs → ρ2[k]? = ρ[k]?) ∧
    ∀ (i k : Nat), rs[i]? = some (.bw k) → ∃ m, es[i]? = some (.rf m) ∧ ∀ r0, ρ[k]? = some r0 → ρ2[k]? = some (r0.put m)
  | [], _, _, _, e, _ => by
    unfold backS at e
    cases e
    exact ⟨rfl, fun _ _ => rfl, fun i k h => by simp at h⟩
  | .bw k0 :: rs, .rf m0 :: es, ρ, ρ2, e, nd => by
    have n2 := List.nodup_cons.mp (show (k0 :: bwL rs).Nodup from nd)
    obtain ⟨h1, h2, h3⟩ := backS_get (rs := rs) (es := es) (ρ := putS ρ k0 m0) (ρ2 := ρ2) e n2.2
    refine ⟨h1.trans (putS_len _ _ _), fun k hk => ?_, fun i k hr => ?_⟩
    · have hk2 : ¬ (k ∈ k0 :: bwL rs) := hk
      rw [List.mem_cons] at hk2
      rw [h2 k fun z => hk2 (.inr z), putS_ne fun z => hk2 (.inl z)]
    · cases i with
      | zero =>
        cases hr
        exact ⟨m0, rfl, fun r0 h0 => by rw [h2 _ n2.1]; exact putS_self h0⟩
      | succ i =>
        obtain ⟨m, g1, g2⟩ := h3 i k hr
        refine ⟨m, g1, fun r0 h0 => g2 r0 ?_⟩
        rw [putS_ne fun z => n2.1 (by rw [← z]; exact bwL_mem.mpr ⟨i, hr⟩)]
        exact h0
  | .fz d :: rs, e0 :: es, ρ, ρ2, e, nd => by
    obtain ⟨h1, h2, h3⟩ := backS_get (rs := rs) (es := es) (ρ := ρ) (ρ2 := ρ2) (by cases e0 <;> exact e) nd
    refine ⟨h1, h2, fun i k hr => ?_⟩
    cases i with
    | zero => cases hr
    | succ i => exact h3 i k hr
  | .bw _ :: _, [], _, _, e, _ => by cases e
  | .fz _ :: _, [], _, _, e, _ => by cases e
  | .bw _ :: _, .un :: _, _, _, e, _ => by cases e
  | .bw _ :: _, .fz _ :: _, _, _, e, _ => by cases e
  | .bw _ :: _, .ow _ :: _, _, _, e, _ => by cases e
  | .bw _ :: _, .bw _ :: _, _, _, e, _ => by cases e
  | .un :: _, _, _, _, e, _ => by cases e
  | .ow _ :: _, _, _, _, e, _ => by cases e
  | .rf _ :: _, _, _, _, e, _ => by cases e
def spDG (K : PySem.W.Frag) (n g : Nat) (F : FF) : Sp := fun vs H Q E => vs.length = n ∧ ∃ us : List V, us.length = g ∧ spD K (n + g) F (vs ++ us) H Q E
def fCallM (F : FF) (gs : List Nat) (fa : Fa) : Fe := fun ρ => match fa ρ with
  | some (rs, ρ1) => if (bwL (rs ++ gs.map .bw)).Nodup then (match lendL ρ1 (rs ++ gs.map .bw) with
    | some qs => match F qs with
      | some (z, es) => if isRes z = true then (match backS ρ1 (rs ++ gs.map .bw) es with
        | some ρ2 => some (z, ρ2)
        | none => none) else none
      | none => none
    | none => none) else none
  | none => none
section
variable {K : PySem.W.Frag} {G1 H1 H0 : Hp} {σ : L2.St} {ρ1 ρ2 : En}
theorem lent_all {n : Nat} {vs : List V} {rs qs es : List Sl} (g : Good K G1 H1 σ ρ1) (R : RsOk K H0 G1 H1 σ ρ1 vs rs) (nd : (bwL rs).Nodup) (hl : lendL ρ1 rs = some qs) (hb : backS ρ1 rs es = some ρ2) (hn : rs.length = n) :
    vs.length = n ∧ ArgsOk qs ∧ Good K G1 H1 (vs.map some) qs ∧ ∀ G2 H2, Aft K G1 H1 (vs.map some) qs G2 H2 (vs.map some) es → Aft K G1 H1 σ ρ1 G2 H2 σ ρ2 ∧ ∀ v z, isRes z = true → ROk K H1 G2 H2 (vs.map some) es v z → ROk K H1 G2 H2 σ ρ2 v z := by
  obtain ⟨ql, qg⟩ := lendL_get hl
  obtain ⟨bl, b1, b2⟩ := backS_get hb nd
  have vl : vs.length = rs.length := RsOk.len R
  have at_ : ∀ (i : Nat) (v : V), vs[i]? = some v → ∃ r, rs[i]? = some r ∧ ROk K H0 G1 H1 σ ρ1 v r := by
    have : ∀ {vs : List V} {rs : List Sl}, RsOk K H0 G1 H1 σ ρ1 vs rs → ∀ (i : Nat) (v : V), vs[i]? = some v → ∃ r, rs[i]? = some r ∧ ROk K H0 G1 H1 σ ρ1 v r := by
      intro vs rs R
      induction R with
      | nil => intro i v h; simp at h
      | cons h t ih =>
        intro i v hi
        cases i with
        | zero => cases hi; exact ⟨_, rfl, h⟩
        | succ i => exact ih i v hi
    exact this R
  have own_c : ∀ i p, Own (vs.map some) qs i p → ∃ k, rs[i]? = some (.bw k) ∧ Own σ ρ1 k p := fun i p ⟨h1, h2⟩ => by
    rw [List.getElem?_map] at h1
    obtain ⟨v, e1, e2⟩ := Option.map_eq_some_iff.mp h1
    cases e2
    obtain ⟨r, er, rk⟩ := at_ i _ e1
    obtain ⟨q, eq, el⟩ := qg i r er
    cases r with
    | un => cases el
    | ow m => cases el
    | rf m => cases el
    | fz d =>
      cases el
      rcases h2 with ⟨m, h2⟩ | ⟨m, h2⟩
      · rw [eq] at h2; cases h2
      · rw [eq] at h2; cases h2
    | bw k =>
      obtain ⟨m, hm, em⟩ := Option.map_eq_some_iff.mp (show (heldM ρ1[k]?).map Sl.rf = some q from el)
      obtain ⟨r0, e0, hh⟩ := heldM_ok hm
      exact ⟨k, er, rk, by cases hh with | ow m => exact .inl ⟨m, e0⟩ | rf m => exact .inr ⟨m, e0⟩⟩
  have gc : Good K G1 H1 (vs.map some) qs := by
    refine ⟨g.ex, by rw [List.length_map, vl, ql], fun i s q e1 e2 => ?_, fun i j p o1 o2 => ?_⟩
    · rw [List.getElem?_map] at e1
      obtain ⟨v, e3, e4⟩ := Option.map_eq_some_iff.mp e1
      subst e4
      obtain ⟨r, er, rk⟩ := at_ i v e3
      obtain ⟨q', eq, el⟩ := qg i r er
      rw [e2] at eq
      cases eq
      cases r with
      | un => cases el
      | ow m => cases el
      | rf m => cases el
      | fz d => cases el; exact ⟨v, rfl, rk⟩
      | bw k =>
        obtain ⟨m, hm, em⟩ := Option.map_eq_some_iff.mp (show (heldM ρ1[k]?).map Sl.rf = some q from el)
        obtain ⟨r0, e0, hh⟩ := heldM_ok hm
        subst em
        have sl := g.sl k _ _ rk e0
        cases hh with
        | ow m => exact sl
        | rf m => exact sl
    · obtain ⟨a, a1, a2⟩ := own_c i p o1
      obtain ⟨b, b1', b2'⟩ := own_c j p o2
      have e := g.nd a b p a2 b2'
      subst e
      exact bwL_inj nd a1 b1'
  have aOk : ArgsOk qs := fun i m q => by
    have hi : i < rs.length := by rw [← ql]; exact (List.getElem?_eq_some_iff.mp q).1
    obtain ⟨q', eq, el⟩ := qg i _ (List.getElem?_eq_getElem hi)
    rw [q] at eq
    cases eq
    revert el
    cases rs[i] with
    | un => exact fun el => nomatch el
    | ow m => exact fun el => nomatch el
    | rf m => exact fun el => nomatch el
    | fz d => exact fun el => by cases el
    | bw k =>
      intro el
      obtain ⟨m', hm, em⟩ := Option.map_eq_some_iff.mp (show (heldM ρ1[k]?).map Sl.rf = some (.ow m) from el)
      cases em
  refine ⟨vl.trans hn, aOk, gc, fun G2 H2 A2 => ?_⟩
  have nown : ∀ a, ¬ OwnA σ ρ1 a → ¬ OwnA (vs.map some) qs a := fun a n ⟨i, o⟩ => by
    obtain ⟨k, _, o2⟩ := own_c i a o
    exact n ⟨k, o2⟩
  have slot : ∀ (k : Nat) (r : Sl), ρ1[k]? = some r → ∃ r', ρ2[k]? = some r' ∧ (r' = r ∨ ∃ m m', Held r m ∧ r' = r.put m') := fun k r e => by
    by_cases h : k ∈ bwL rs
    · obtain ⟨i, hi⟩ := bwL_mem.mp h
      obtain ⟨m, e1, e2⟩ := b2 i k hi
      obtain ⟨q, _, el⟩ := qg i _ hi
      obtain ⟨m0, hm, _⟩ := Option.map_eq_some_iff.mp (show (heldM ρ1[k]?).map Sl.rf = some q from el)
      obtain ⟨r0, e0, hh⟩ := heldM_ok hm
      rw [e] at e0
      cases e0
      exact ⟨_, e2 r e, .inr ⟨m0, m, hh, rfl⟩⟩
    · exact ⟨r, by rw [b1 k h]; exact e, .inl rfl⟩
  have ownOld : ∀ j q, Own σ ρ2 j q → Own σ ρ1 j q := fun j q ⟨z1, z2⟩ => by
    have hj : j < ρ1.length := by
      rw [← bl]
      rcases z2 with ⟨m, z2⟩ | ⟨m, z2⟩
      · exact (List.getElem?_eq_some_iff.mp z2).1
      · exact (List.getElem?_eq_some_iff.mp z2).1
    obtain ⟨r', e', h'⟩ := slot j _ (List.getElem?_eq_getElem hj)
    refine ⟨z1, ?_⟩
    rcases h' with h' | ⟨m, m', hh, h'⟩
    · subst h'
      rw [List.getElem?_eq_getElem hj, ← e']
      exact z2
    · have h0 : ρ1[j]? = some ρ1[j] := List.getElem?_eq_getElem hj
      rw [h0]
      revert hh
      generalize ρ1[j] = x
      intro hh
      cases hh with
      | ow m => exact .inl ⟨m, rfl⟩
      | rf m => exact .inr ⟨m, rfl⟩
  have g2 : Good K G2 H2 σ ρ2 := by
    refine ⟨A2.good.ex, by rw [bl]; exact g.len, fun j s r e1 e2 => ?_, fun j1 j2 q o1 o2 => g.nd j1 j2 q (ownOld _ _ o1) (ownOld _ _ o2)⟩
    by_cases hj : j ∈ bwL rs
    · obtain ⟨i, hi⟩ := bwL_mem.mp hj
      obtain ⟨m, e3, e4⟩ := b2 i j hi
      obtain ⟨q, eq, el⟩ := qg i _ hi
      obtain ⟨m0, hm, _⟩ := Option.map_eq_some_iff.mp (show (heldM ρ1[j]?).map Sl.rf = some q from el)
      obtain ⟨r0, e0, hh⟩ := heldM_ok hm
      have er := e4 r0 e0
      rw [e2] at er
      cases er
      have hvi : i < vs.length := by rw [vl]; exact (List.getElem?_eq_some_iff.mp hi).1
      obtain ⟨r1, er1, rk⟩ := at_ i _ (List.getElem?_eq_getElem hvi)
      rw [hi] at er1
      cases er1
      have es_ : σ[j]? = some (some vs[i]) := rk
      rw [e1] at es_
      cases es_
      have sl := A2.good.sl i (some vs[i]) (.rf m) (by rw [List.getElem?_map, List.getElem?_eq_getElem hvi]; rfl) e3
      cases hh with
      | ow m0 => exact sl
      | rf m0 => exact sl
    · have e3 : ρ1[j]? = some r := by rw [← b1 j hj]; exact e2
      have q := g.sl j s r e1 e3
      have kk : ∀ p o, H1 p = some o → Own σ ρ1 j p → H2 p = some o ∧ (G1 p = none → NT o → G2 p = none) := fun p o e oj => A2.keep p o e fun ⟨i, oi⟩ => by
        obtain ⟨k', hk', ok'⟩ := own_c i p oi
        have := g.nd j k' p oj ok'
        subst this
        exact hj (bwL_mem.mpr ⟨i, hk'⟩)
      cases r with
      | un => trivial
      | bw _ => exact q
      | fz d =>
        obtain ⟨v, w1, w2⟩ := q
        exact ⟨v, w1, w2.up A2.ex⟩
      | ow m1 =>
        obtain ⟨p, u, w1, w2, w3, w4⟩ := q
        obtain ⟨k1, k2⟩ := kk p u w3 ⟨by rw [e1, w1], .inl ⟨m1, e3⟩⟩
        exact ⟨p, u, w1, k2 w2 w4.nt, k1, w4.up A2.ex⟩
      | rf m1 =>
        obtain ⟨p, u, w1, w2, w3, w4⟩ := q
        obtain ⟨k1, k2⟩ := kk p u w3 ⟨by rw [e1, w1], .inr ⟨m1, e3⟩⟩
        exact ⟨p, u, w1, k2 w2 w4.nt, k1, w4.up A2.ex⟩
  refine ⟨⟨g2, A2.ex, fun a u q n => A2.keep a u q (nown a n), A2.dom, fun j q oj => .inl ⟨j, ownOld j q oj⟩, fun j m1 q => ⟨rfl, ?_⟩, bl⟩, fun v z hz R2 => ?_⟩
  · obtain ⟨r', e', h'⟩ := slot j _ q
    rcases h' with h' | ⟨m, m', hh, h'⟩
    · subst h'; exact ⟨m1, e'⟩
    · cases hh with
      | rf m => exact ⟨m', by rw [e', h']; rfl⟩
  · cases z with
    | un => exact R2
    | rf m => exact R2
    | fz d => exact R2
    | ow m1 =>
      obtain ⟨q, u, rfl, h0, w1, w2, w3, w4⟩ := R2
      exact ⟨q, u, rfl, h0, w1, w2, w3, fun ⟨j, oj⟩ => g.notOwn h0 ⟨j, ownOld j q oj⟩⟩
    | bw i => cases hz
theorem call_lent {F : FF} {n : Nat} {z : Sl} {vs : List V} {rs qs es : List Sl} {Q : VK} {E : XK} (g : Good K G1 H1 σ ρ1) (R : RsOk K H0 G1 H1 σ ρ1 vs rs) (nd : (bwL rs).Nodup) (hl : lendL ρ1 rs = some qs) (hF : F qs = some (z, es)) (hz : isRes z = true) (hb : backS ρ1 rs es = some ρ2) (hn : rs.length = n)
    (k : ∀ v G2 H2, Aft K G1 H1 σ ρ1 G2 H2 σ ρ2 → ROk K H1 G2 H2 σ ρ2 v z → Q v H2) : spD K n F vs H1 Q E := by
  obtain ⟨h1, h2, h3, h4⟩ := lent_all g R nd hl hb hn
  exact ⟨G1, qs, z, es, h1, h2, h3, hF, fun v G2 H2 A2 R2 => k v G2 H2 (h4 G2 H2 A2).1 ((h4 G2 H2 A2).2 v z hz R2)⟩
theorem gs_ok (g : Good K G1 H1 σ ρ1) : ∀ {gs : List Nat} {qs : List Sl}, lendL ρ1 (gs.map .bw) = some qs → ∃ us, us.length = gs.length ∧ RsOk K H0 G1 H1 σ ρ1 us (gs.map .bw)
  | [], _, _ => ⟨[], rfl, .nil⟩
  | i :: gs, qs, e => by
    obtain ⟨_, qg⟩ := lendL_get e
    obtain ⟨q, _, el⟩ := qg 0 _ rfl
    obtain ⟨m, hm, _⟩ := Option.map_eq_some_iff.mp (show (heldM ρ1[i]?).map Sl.rf = some q from el)
    obtain ⟨p, o, e1, _⟩ := held_atM g hm
    unfold lendL at e
    rw [List.map_cons] at e
    have : ∃ qs', lendL ρ1 (gs.map .bw) = some qs' := by
      simp only [el] at e
      cases q2 : lendL ρ1 (gs.map .bw) with
      | none => simp only [q2] at e; cases e
      | some qs' => exact ⟨qs', rfl⟩
    obtain ⟨qs', e'⟩ := this
    obtain ⟨us, l, r⟩ := gs_ok g e'
    exact ⟨.ref p :: us, congrArg (· + 1) l, .cons e1 r⟩
theorem lendL_app {ρ : En} : ∀ {a b : List Sl} {qs : List Sl}, lendL ρ (a ++ b) = some qs → ∃ q2, lendL ρ b = some q2
  | [], b, qs, e => ⟨qs, e⟩
  | r :: a, b, qs, e => by
    rw [List.cons_append] at e
    unfold lendL at e
    cases q1 : lendS ρ r with
    | none => rw [q1] at e; cases e
    | some q =>
      rw [q1] at e
      cases q2 : lendL ρ (a ++ b) with
      | none => simp only [q2] at e; cases e
      | some qs' => exact lendL_app q2
end
theorem callM_core {K : PySem.W.Frag} {F : FF} {gs : List Nat} {fa : Fa} {n : Nat} {E : XK} {G H : Hp} {σ : L2.St} {ρ ρ' : En} {z : Sl} {Q : VK} (q : fCallM F gs fa ρ = some (z, ρ')) (kk : ∀ v G' H', Aft K G H σ ρ G' H' σ ρ' → ROk K H G' H' σ ρ' v z → Q v H') :
    ∃ rs ρ1, fa ρ = some (rs, ρ1) ∧ (rs.length = n → ∀ vs G1 H1, Aft K G H σ ρ G1 H1 σ ρ1 → RsOk K H G1 H1 σ ρ1 vs rs → spDG K n gs.length F vs H1 Q E) := by
  unfold fCallM at q
  cases q1 : fa ρ with
  | none => rw [q1] at q; cases q
  | some y =>
    obtain ⟨rs, ρ1⟩ := y
    simp only [q1] at q
    refine ⟨rs, ρ1, rfl, fun hn vs G1 H1 A1 R1 => ?_⟩
    split at q
    · rename_i nd
      split at q
      · rename_i qs q2
        split at q
        · rename_i z' es q3
          split at q
          · rename_i hz
            split at q
            · rename_i ρ2 q4
              cases q
              obtain ⟨q5, e5⟩ := lendL_app q2
              obtain ⟨us, ul, ur⟩ := gs_ok (H0 := H) A1.good e5
              refine ⟨(RsOk.len R1).trans hn, us, ul, call_lent (ρ2 := ρ') A1.good (R1.cat ur) nd q2 q3 hz q4 (by rw [List.length_append, List.length_map, hn]) fun v G2 H2 A2 R2 => kk v G2 H2 (A1.trans A2) (R2.start A1.dom)⟩
            · cases q
          · cases q
        · cases q
      · cases q
    · cases q
theorem tCallM_of {K : PySem.W.Frag} {F : FF} {gs : List Nat} {fa : Fa} {n : Nat} {E : XK} (hl : ∀ ρ rs ρ', fa ρ = some (rs, ρ') → rs.length = n) : ∀ σ H Q, teOf K (fCallM F gs fa) σ H Q → tCall (spDG K n gs.length F) [] E (taOf K fa) σ H Q := fun σ H Q ⟨G, ρ, z, ρ', g, q, kk⟩ => by
  obtain ⟨rs, ρ1, q1, h⟩ := callM_core (n := n) (E := E) q kk
  refine ⟨G, ρ, rs, ρ1, g, q1, fun vs G1 H1 A1 R1 => ?_⟩
  show spDG K n gs.length F (vs ++ []) H1 Q E
  rw [List.append_nil]
  exact h (hl ρ rs ρ1 q1) vs G1 H1 A1 R1
section
variable {P : Program} {w : World} {K : PySem.W.Frag} {mg : Str → Option Value} {base : Heap}
theorem vis_no {sc : Scope} {x : Str} (h : sc.names.lookup x = none) : ¬ Vis sc x := by
  rintro (z | z | z) <;> (rw [h] at z; cases z)
theorem gh_start {N ps : List Str} {sc : Scope} {vs us : List V} {X : Cx} (hN : X.N = N) (hs : X.env.scope = sc) (hv : vs.length = ps.length) (hle : ps.length + us.length ≤ N.length) (hg : ∀ x ∈ (N.drop ps.length).take us.length, sc.names.lookup x = none) :
    Gh X (L2.start N vs) ((vs ++ us).map some ++ List.replicate (N.length - ps.length - us.length) none) := by
  refine ⟨?_, fun i x hx v => ?_⟩
  · unfold L2.start
    simp only [List.length_append, List.length_map, List.length_replicate]
    omega
  · unfold L2.start
    rw [hN] at hx
    rw [hs] at v
    by_cases h1 : i < vs.length
    · rw [List.map_append, List.append_assoc, List.getElem?_append_left (by rw [List.length_map]; exact h1), List.getElem?_append_left (by rw [List.length_map]; exact h1)]
    · by_cases h2 : i < vs.length + us.length
      · exfalso
        refine vis_no (hg x ?_) v
        refine List.mem_of_getElem? (i := i - vs.length) ?_
        rw [List.getElem?_take_of_lt (by omega), List.getElem?_drop, show ps.length + (i - vs.length) = i by omega]
        exact hx
      · rw [List.getElem?_append_right (by simp; omega), List.getElem?_append_right (by simp; omega)]
        simp only [List.length_map, List.length_append, List.getElem?_replicate]
        have hi : i < N.length := (List.getElem?_eq_some_iff.mp hx).1
        rw [if_pos (by omega), if_pos (by omega)]
theorem okFGh {x qual : Str} {st : Stmt} {f : Addr} {fd : FuncData} {N ps : List Str} {k g : Nat} {B : Fs} {dvs : List V} {kws : List (Str × V)} (F : FunD K x qual (defArgs st) (defBody st) (defScope st) dvs kws f fd) (S : FnScope N ps (defScope st)) (hle : ps.length + g ≤ N.length) (hg : ∀ z ∈ (N.drop ps.length).take g, (defScope st).names.lookup z = none)
    (hb : ∀ (cdv : Value) (A : Around) (outer : List Env) (s : Shared) (H : Hp), A.guards = some [] → Room k (A.deeper (envOfC qual (defScope st) s.heap.objs.size f cdv)) → DB (cxOf (L2.CX P w) P w K mg base N qual (defScope st) f cdv A outer s H E0).nox E0 (defBody st) B) :
    FnG P w K mg base (k + 1) f fd ps (spDG K ps.length g (runF (N.length - ps.length - g) B)) := by
  obtain ⟨oc, od, dV, kV, doc, pm, an, cdv, ct, osl, rfl, lk, hcd, _, _⟩ := F.ex
  refine fnG_of lk hcd S (fun vs H Q E h => h.1) fun A outer s H vs Q E gd hr hsp => ?_
  obtain ⟨hv, us, hu, G, ρ, r, ρ', h1, hA, g', e, k⟩ := hsp
  have h0 := hb cdv A outer s H gd hr
  refine ⟨fun D σ H1 => ∃ σ', Gh (cxOf (L2.CX P w) P w K mg base N qual (defScope st) f cdv A outer s H E) σ σ' ∧ tsOf K E0 B D σ' H1,
    PSs.gh (PSs.nox (X := cxOf (L2.CX P w) P w K mg base N qual (defScope st) f cdv A outer s H E) (show PSs _ _ (tsOf K E0 B) from ⟨fun pins s1 σ H1 D I q => h0.run pins s1 σ H1 D I q⟩)), _, gh_start rfl rfl hv (by rw [hu]; exact hle) (by rw [hu]; exact hg), ?_⟩
  rw [hu]
  unfold runF at e
  cases q : B (ρ ++ List.replicate (N.length - ps.length - g) .un) with
  | none => rw [q] at e; cases e
  | some y =>
    obtain ⟨fl, ρe⟩ := y
    rw [q] at e
    refine ⟨G, _, fl, ρe, g'.pad, q, fun σ' G' H' A' => ?_⟩
    have Ae := call_end g' A'
    cases fl with
    | nx =>
      cases e
      exact k .non G' H' Ae .non
    | bk => cases e
    | ct => cases e
    | ex C ns ds => cases e
    | rt r1 =>
      intro v R
      replace e : (match resolve ρe r1 with | some z => some (z, fin ρ ρe) | none => none) = some (r, ρ') := e
      cases q2 : resolve ρe r1 with
      | none => rw [q2] at e; cases e
      | some z =>
        rw [q2] at e
        cases e
        exact k v G' H' Ae (res_ok hA g' A' R q2)
end
end DL
namespace DL
open PySem PySem.Spec L2
open PyProof.Rows (envOfC)
def eFldO (C : Addr) (ns : List Str) (f : Str) (i : Nat) : Fe := fun ρ => match heldM ρ[i]? with
  | some (.ob C' ns' ds) => if C' = C ∧ ns' = ns then (match fldD ns' ds f with
    | some d => some (.fz d, ρ)
    | none => none) else none
  | _ => none
theorem ob_ins {K : PySem.W.Frag} {G H : Hp} {σ : L2.St} {ρ : En} {i : Nat} {C : Addr} {ns : List Str} {ds : List D} (g : Good K G H σ ρ) (h : heldM ρ[i]? = some (.ob C ns ds)) : ∃ p dx xs, σ[i]? = some (some (.ref p)) ∧ H p = some (.ins C dx (ns.zip xs)) ∧ Rps K G xs ds ∧ ns.length = xs.length ∧
    (∀ xs' ds', Rps K G xs' ds' → ns.length = xs'.length → Aft K G H σ ρ G (upd H p (.ins C dx (ns.zip xs'))) σ (putS ρ i (.ob C ns ds'))) := by
  obtain ⟨p, o, e1, e2, e3, ch⟩ := held_atM g h
  cases e3 with
  | @ob _ dx _ xs _ r l => exact ⟨p, dx, xs, e1, e2, r, l, fun xs' ds' r' l' => ch _ _ (.ob r' l')⟩
theorem de_fldO {X : Cx} {C : Addr} {ns : List Str} {e : Expr} {i : Nat} {f : Str} {pos : Pos} (c : InsC X.K C ns) (h : PE X e (tVar i)) (hb : attributeBase e f X.env (eval e X.env) = eval e X.env := by rfl) : DE X (.Attribute e f pos) (eFldO C ns f i) :=
  PE.weak (pe_fld h hb) fun σ H Q ⟨G, ρ, z, ρ', g, q, k⟩ => by
    unfold eFldO at q
    split at q
    · rename_i C' ns' ds q0
      split at q
      · rename_i hc
        obtain ⟨rfl, rfl⟩ := hc
        split at q
        · rename_i d q2
          cases q
          obtain ⟨p, dx, xs, e1, e2, r, l, _⟩ := ob_ins g q0
          obtain ⟨w, lk, rw_, hm⟩ := fld_ok r q2
          exact ⟨.ref p, e1, p, _, dx, _, w, rfl, e2, c.cls, c.no f hm, lk, k w G H (Aft.refl g) rw_⟩
        · cases q
      · cases q
    · cases q
def setFD : List Str → List D → Str → D → Option (List D)
  | n :: ns, d :: ds, f, e => if n = f then some (e :: ds) else (setFD ns ds f e).map (d :: ·)
  | _, _, _, _ => none
theorem setF_ok {K : PySem.W.Frag} {G : Hp} {f : Str} {y : V} {e : D} (ry : Rp K G y e) : ∀ {ns : List Str} {xs : List V} {ds ds' : List D}, Rps K G xs ds → setFD ns ds f e = some ds' → ns.length = xs.length → ∃ xs', putF f y (ns.zip xs) = ns.zip xs' ∧ Rps K G xs' ds' ∧ ns.length = xs'.length ∧ f ∈ ns
  | [], _, _, _, _, q, _ => by cases q
  | n :: ns, _, _, _, .nil, q, _ => by cases q
  | n :: ns, _, _, ds', .cons (v := v) (vs := vs) (d := d) (ds := ds) r t, q, l => by
    unfold setFD at q
    by_cases h : n = f
    · rw [if_pos h] at q
      cases q
      refine ⟨y :: vs, ?_, .cons ry t, by simpa using l, by rw [h]; exact List.mem_cons_self ..⟩
      rw [List.zip_cons_cons, List.zip_cons_cons]
      exact if_pos h
    · rw [if_neg h] at q
      obtain ⟨ds2, q2, rfl⟩ := Option.map_eq_some_iff.mp q
      obtain ⟨xs', e1, e2, e3, e4⟩ := setF_ok ry t q2 (by simpa using l)
      refine ⟨v :: xs', ?_, .cons r e2, by simpa using e3, List.mem_cons_of_mem _ e4⟩
      rw [List.zip_cons_cons, List.zip_cons_cons, ← e1]
      exact if_neg h
def bOst (C : Addr) (ns : List Str) (f : Str) (i : Nat) (fv : Fe) : Fs := fun ρ => match dFr fv ρ with
  | some (v, ρ1) => (match heldM ρ1[i]? with
    | some (.ob C' ns' ds) => if (C' = C ∧ ns' = ns) ∧ ns.length ≤ 100 then (match setFD ns' ds f v with
      | some ds' => some (.nx, putS ρ1 i (.ob C' ns' ds'))
      | none => none) else none
    | _ => none)
  | none => none
theorem ds_ostO {X : Cx} {E : XK} {C : Addr} {ns : List Str} {o e : Expr} {i : Nat} {f : Str} {fv : Fe} {pos pos' : Pos} (c : InsC X.K C ns) (ho : PE X o (tVar i)) (hv : DE X e fv) (hs : swapsWith e (some (.Attribute o f pos')) pos.line X.env = pure false := by rfl) : DS X E (.Assign [.Attribute o f pos'] e pos) (bOst C ns f i fv) :=
  PS.weak (ps_fld ho (de_fr hv) hs) fun D σ H ⟨G, ρ, fl, ρ', g, q, k⟩ => by
    unfold bOst at q
    split at q
    · rename_i v ρ1 q1
      split at q
      · rename_i C' ns' ds q2
        split at q
        · rename_i hc
          obtain ⟨⟨rfl, rfl⟩, hl⟩ := hc
          split at q
          · rename_i ds' q3
            cases q
            refine ⟨G, ρ, v, ρ1, g, q1, fun y G1 H1 A1 R1 => ?_⟩
            obtain ⟨p, dx, xs, e1, e2, r, l, ch⟩ := ob_ins A1.good q2
            obtain ⟨xs', f1, f2, f3, f4⟩ := setF_ok R1 r q3 l
            refine ⟨.ref p, e1, p, _, dx, _, rfl, e2, c.cls, c.no f f4, by rw [List.length_zip, ← l]; omega, ?_⟩
            rw [f1]
            exact k σ G1 _ (A1.trans (ch xs' ds' f2 f3))
          · cases q
        · cases q
      · cases q
    · cases q
def ePt (C : Addr) (ns : List Str) (f : Str) (i g : Nat) : Fe := fun ρ => match eFldO C ns f i ρ with
  | some (.fz (.ptr q), ρ1) => (match heldM ρ1[g]? with
    | some (.at q' _) => if q' = q then some (.bw g, ρ1) else none
    | _ => none)
  | _ => none
theorem de_pt {X : Cx} {C : Addr} {ns : List Str} {e : Expr} {i g : Nat} {f : Str} {pos : Pos} (c : InsC X.K C ns) (h : PE X e (tVar i)) (hb : attributeBase e f X.env (eval e X.env) = eval e X.env := by rfl) : DE X (.Attribute e f pos) (ePt C ns f i g) :=
  PE.weak (de_fldO c h hb) fun σ H Q ⟨G, ρ, z, ρ', gd, q, k⟩ => by
    unfold ePt at q
    split at q
    · rename_i a ρ1 q1
      split at q
      · rename_i q' kvs q2
        split at q
        · rename_i hq
          subst hq
          cases q
          refine ⟨G, ρ, _, _, gd, q1, fun v G1 H1 A1 R1 => k v G1 H1 A1 ?_⟩
          obtain ⟨p, o, e1, e2, e3, _⟩ := held_atM A1.good q2
          cases e3
          cases (show Rp X.K G1 v (.ptr _) from R1)
          exact e1
        · cases q
      · cases q
    · cases q
def viaE (fo : Fe) (gn : Nat → Fe) : Fe := fun ρ => match fo ρ with
  | some (.bw n, ρ1) => gn n ρ1
  | _ => none
theorem via_var {K : PySem.W.Frag} {fo : Fe} {gn : Nat → Fe} {rest : V → L2.St → Hp → VK → Prop} (h : ∀ n σ H Q, teOf K (gn n) σ H Q → ∃ v, σ[n]? = some (some v) ∧ rest v σ H Q) : ∀ σ H Q, teOf K (viaE fo gn) σ H Q → teOf K fo σ H (fun v H1 => rest v σ H1 Q) := fun σ H Q ⟨G, ρ, z, ρ', g, q, k⟩ => by
  unfold viaE at q
  split at q
  · rename_i n ρ1 q1
    refine ⟨G, ρ, _, ρ1, g, q1, fun v G1 H1 A1 R1 => ?_⟩
    obtain ⟨v', e1, e2⟩ := h n σ H1 Q ⟨G1, ρ1, z, ρ', A1.good, q, fun v2 G2 H2 A2 R2 => k v2 G2 H2 (A1.trans A2) (R2.start A1.dom)⟩
    have R1' : σ[n]? = some (some v) := R1
    rw [R1'] at e1
    cases e1
    exact e2
  · cases q
theorem dDGet_of {K : PySem.W.Frag} {fk : Fe} {n : Nat} : ∀ σ H Q, teOf K (dDGet n fk) σ H Q → ∃ v, σ[n]? = some (some v) ∧ teOf K fk σ H fun y H1 => ∃ a u, v = .ref a ∧ DGet H1 a y (some u) ∧ Q u H1 := fun σ H Q ⟨G, ρ, z, ρ', g, e, k⟩ => by
  unfold dDGet at e
  split at e
  · cases e
  rename_i m0 q0
  split at e
  · cases e
  rename_i rk ρ1 q1
  split at e
  · rename_i d m q2 q3
    split at e
    · rename_i v q4
      cases e
      obtain ⟨p, o, e1, e2, e3, _⟩ := held_atM g q0
      refine ⟨.ref p, e1, G, ρ, rk, _, g, q1, fun y G1 H1 A1 R1 => ?_⟩
      obtain ⟨p', o', e4, e5, e6, _⟩ := held_atM A1.good q3
      rw [e1] at e4
      cases e4
      obtain ⟨w, dg, _, hv⟩ := mGet_ok A1.good.ex e5 e6 (rd_ok A1.good R1 q2) q4
      obtain ⟨u, rfl, ru⟩ := hv v rfl
      exact ⟨p, u, rfl, dg, k u G1 H1 A1 ru⟩
    · cases e
  · cases e
section
variable {X : Cx} {o i e : Expr} {fo fk fv : Fe} {pos pos' : Pos}
theorem de_dgetE (hu : X.A.units + 65 < cLine) (ho : DE X o fo) (hi : DE X i fk) (hs : NoSl i := by intro _ _; rfl) : DE X (.Subscript o i pos) (viaE fo fun n => dDGet n fk) :=
  PE.weak (pe_dget (by omega) ho hi hs) (via_var (rest := fun v σ H Q => teOf X.K fk σ H fun y H1 => ∃ a u, v = .ref a ∧ DGet H1 a y (some u) ∧ Q u H1) fun n => dDGet_of)
end
def viaIn (neg : Bool) (fk fo : Fe) : Fe := fun ρ => match fk ρ with
  | some (rk, ρ1) => (match fo ρ1 with
    | some (.bw n, ρ2) => (match rd ρ2 rk, heldM ρ2[n]? with
      | some d, some m => (match mGet m d with
        | some o => some (.fz (.bl (neg ^^ o.isSome)), ρ2)
        | none => none)
      | _, _ => none)
    | _ => none)
  | none => none
theorem viaIn_of {K : PySem.W.Frag} {neg : Bool} {fk fo : Fe} : ∀ σ H Q, teOf K (viaIn neg fk fo) σ H Q → (teOf K fk) σ H fun y H1 => teOf K fo σ H1 fun x H2 => ∃ a o, x = .ref a ∧ DGet H2 a y o ∧ Q (.bl (neg ^^ o.isSome)) H2 := fun σ H Q ⟨G, ρ, z, ρ', g, e, k⟩ => by
  unfold viaIn at e
  split at e
  · rename_i rk ρ1 q1
    split at e
    · rename_i n ρ2 q2
      split at e
      · rename_i d m q3 q4
        split at e
        · rename_i r q5
          cases e
          refine ⟨G, ρ, rk, ρ1, g, q1, fun y G1 H1 A1 R1 => ⟨G1, ρ1, _, _, A1.good, q2, fun x G2 H2 A2 R2 => ?_⟩⟩
          obtain ⟨p, o, e1, e2, e3, _⟩ := held_atM A2.good q4
          have R2' : σ[n]? = some (some x) := R2
          rw [e1] at R2'
          cases R2'
          obtain ⟨w, dg, hs, _⟩ := mGet_ok A2.good.ex e2 e3 (rd_ok A2.good (R1.aft A2) q3) q5
          refine ⟨p, w, rfl, dg, ?_⟩
          rw [hs]
          exact k _ G2 H2 (A1.trans A2) (.bl _)
        · cases e
      · cases e
    · cases e
  · cases e
section
variable {X : Cx} {o i e : Expr} {fo fk fv : Fe} {pos pos' : Pos}
theorem dc_notinE (hu : X.A.units + 65 < cLine) (hi : DE X i fk) (ho : DE X o fo) : PC X .NotIn i o (teOf X.K (viaIn true fk fo)) :=
  ⟨fun pins s σ H Q I h => (pc_dnotin (by omega) hi ho).run pins s σ H Q I (by simpa [tDNotIn, Bool.true_xor] using viaIn_of σ H Q h)⟩
theorem dt_dnotinE (hu : X.A.units + 65 < cLine) (hi : DE X i fk) (ho : DE X o fo) (hm : behindInMarks .NotIn o = false := by rfl) : DT X (.Compare i [.NotIn] [o] pos) (dTst (viaIn true fk fo)) := PT.weak (pt_cmp (dc_notinE hu hi ho) hm) fun σ H Q q => tTest_of σ H Q q
end
def bDPutE (fo fk fv : Fe) : Fs := fun ρ => match dFr fv ρ with
  | none => none
  | some (v, ρ1) => match fo ρ1 with
    | some (.bw n, ρ2) => (match fk ρ2 with
      | none => none
      | some (rk, ρ3) => match rd ρ3 rk, heldM ρ3[n]? with
        | some d, some m => (match mPut m d v with
          | some m' => some (.nx, putS ρ3 n m')
          | none => none)
        | _, _ => none)
    | _ => none
theorem ds_dputE {X : Cx} {E : XK} {o i e : Expr} {fo fk fv : Fe} {pos pos' : Pos} (hu : X.A.units + 65 < cLine) (ho : DE X o fo) (hi : DE X i fk) (hv : DE X e fv) (hs : swapsWith e (some (.Subscript o i pos')) pos.line X.env = pure false := by rfl) :
    DS X E (.Assign [.Subscript o i pos'] e pos) (bDPutE fo fk fv) := PS.weak (ps_dput (by omega) ho hi (de_fr hv) hs) fun D σ H ⟨G, ρ, fl, ρ', g, e, k⟩ => by
  unfold bDPutE at e
  split at e
  · cases e
  rename_i v ρ1 q1
  split at e
  · rename_i n ρ2 q2
    split at e
    · cases e
    rename_i rk ρ3 q3
    split at e
    · rename_i d m q4 q5
      split at e
      · rename_i m' q6
        cases e
        refine ⟨G, ρ, v, ρ1, g, q1, fun u G1 H1 A1 R1 => ⟨G1, ρ1, _, ρ2, A1.good, q2, fun x G2 H2 A2 R2 => ?_⟩⟩
        have R2' : σ[n]? = some (some x) := R2
        refine ⟨G2, ρ2, rk, ρ3, A2.good, q3, fun y G3 H3 A3 R3 => ?_⟩
        obtain ⟨p', o', e4, e5, e6, ch⟩ := held_atM A3.good q5
        rw [R2'] at e4
        cases e4
        obtain ⟨o2, dp, ok⟩ := mPut_ok A3.good.ex e5 e6 (rd_ok A3.good R3 q4) (Rp.up R1 (A2.ex.trans A3.ex)) q6
        exact ⟨p', _, rfl, dp, k σ G3 _ (((A1.trans A2).trans A3).trans (ch o2 m' ok))⟩
      · cases e
    · cases e
  · cases e
def DfMG (P : Program) (w : World) (K : PySem.W.Frag) (mg : Str → Option Value) (base : Heap) (k : Nat) (C : Addr) (m : Str) (ps : List Str) (F : FF) (n : Nat) (ks : List Str) (dvs : List D) (g : Nat) : Prop :=
  ∃ fd vs, Meth K C m (He.ma K C m) ∧ BindsK K fd ps n ks vs ∧ (∀ G, Rps K G vs dvs) ∧ FnG P w K mg base k (He.ma K C m) fd ps (spDG K ps.length g F)
section
variable {X : Cx} {k n : Nat} {f C : Addr} {fd : FuncData} {ps ks : List Str} {sp : Sp} {m : Str} {apos pos : Pos} {o e : Expr} {es : List Expr} {kws : List Keyword} {ta : TE} {t tk : TA} {F : XK} {dvs : List V} {ds : List Value}
theorem pe_methGd {pl : Sem Bool} (he : PE X o ta) (c : Cls X.K C) (hm : Meth X.K C m f) (G : FnG X.prog X.w X.K X.mg X.base k f fd ps sp) (gd : X.A.guards = some []) (hr : Room k X.A) (hb : Binds X.K fd ps ds) (hd : Vals dvs ds) (hx : Passes (L2.CX X.prog X.w) X F) (ha : PA X (e :: es) t)
    (hst : starEach (e :: es) X.env = (false, eval e X.env) :: starEach es X.env := by rfl) (hpl : (backTo pos (starEach es X.env)).any (·.1) = false := by rfl)
    (ht : eval (.Call (.Attribute o m apos) (e :: es) [] pos) X.env = (do
      let ov ← eval o X.env
      standAt apos.atName
      let (f, first) ← holding [ov] (getMethod ov m pl)
      callWith pos f first (backTo pos (starEach (e :: es) X.env)) (backToKw pos (keywordEach [] X.env))) := by rfl) :
    PE X (.Call (.Attribute o m apos) (e :: es) [] pos) (tMeth C m sp dvs F ta t) := by
  refine ⟨fun pins s σ H Q I h => ?_⟩
  refine PySem.W.methodCall_KW (pl := pl) (thn (he.run pins s σ H _ I h) fun u s1 ⟨x, H1, I1, rx, a, dx, fs, ex, ea, l, q⟩ => ?_) ht
  subst ex
  obtain rfl : u = Value.ref a := rx
  refine getmeth_ok I1 ea c hm l ?_
  refine PySem.W.callWith_K (first := [.ref a]) (h₀ := X.base) I.ok.mod.kin hm.kp (thn (ha.run pos pins s1 σ H1 _ I1 q) fun us s2 ⟨vs, H2, I2, r, q2⟩ => ⟨I2.kIn, ?_⟩) hst hpl
  have r2 : Vals (V.ref a :: (vs ++ dvs)) (Value.ref a :: us ++ ds) := .cons rfl (r.append hd)
  have ln : (Value.ref a :: us ++ ds).length = ps.length := r2.length.symm.trans (G.len _ _ _ _ q2)
  apply wpAny_call
  apply codeAny_mono (G.go X.A X.stack s2 H2 ⟨Value.ref a :: us, []⟩ (Value.ref a :: us ++ ds) (V.ref a :: (vs ++ dvs)) Q F gd hr I2.env0 (hb s2 (Value.ref a :: us) I2.kIn ln) r2 q2)
  intro res s3 h3
  cases res with
  | error er => exact hx pins σ H2 s2 er s3 I2 h3
  | ok fl =>
    cases fl with
    | next => cases h3
    | brk => cases h3
    | cont => cases h3
    | ret u => exact I2.after h3
theorem pe_meth0Gd {pl : Sem Bool} (he : PE X o ta) (c : Cls X.K C) (hm : Meth X.K C m f) (G : FnG X.prog X.w X.K X.mg X.base k f fd ps sp) (gd : X.A.guards = some []) (hr : Room k X.A) (hb : Binds X.K fd ps ds) (hd : Vals dvs ds) (hx : Passes (L2.CX X.prog X.w) X F)
    (ht : eval (.Call (.Attribute o m apos) [] [] pos) X.env = (do
      let ov ← eval o X.env
      standAt apos.atName
      let (f, first) ← holding [ov] (getMethod ov m pl)
      callWith pos f first (backTo pos (starEach [] X.env)) (backToKw pos (keywordEach [] X.env))) := by rfl) :
    PE X (.Call (.Attribute o m apos) [] [] pos) (tMeth C m sp dvs F ta tNil) := by
  refine ⟨fun pins s σ H Q I h => ?_⟩
  refine PySem.W.methodCall_KW (pl := pl) (thn (he.run pins s σ H _ I h) fun u s1 ⟨x, H1, I1, rx, a, dx, fs, ex, ea, l, q⟩ => ?_) ht
  subst ex
  obtain rfl : u = Value.ref a := rx
  refine getmeth_ok I1 ea c hm l ?_
  refine PySem.W.callWith_K0 (first := [.ref a]) I1.kIn hm.kp ?_
  have r2 : Vals (V.ref a :: ([] ++ dvs)) ([Value.ref a] ++ ds) := .cons rfl hd
  have ln : ([Value.ref a] ++ ds).length = ps.length := r2.length.symm.trans (G.len _ _ _ _ q)
  apply wpAny_call
  apply codeAny_mono (G.go X.A X.stack s1 H1 ⟨[Value.ref a], []⟩ ([Value.ref a] ++ ds) (V.ref a :: ([] ++ dvs)) Q F gd hr I1.env0 (hb s1 [Value.ref a] I1.kIn ln) r2 q)
  intro res s3 h3
  cases res with
  | error er => exact hx pins σ H1 s1 er s3 I1 h3
  | ok fl =>
    cases fl with
    | next => cases h3
    | brk => cases h3
    | cont => cases h3
    | ret u => exact I1.after h3
theorem pe_methGk {pl : Sem Bool} (he : PE X o ta) (c : Cls X.K C) (hm : Meth X.K C m f) (G : FnG X.prog X.w X.K X.mg X.base k f fd ps sp) (gd : X.A.guards = some []) (hr : Room k X.A) (hb : BindsK X.K fd ps n ks dvs) (hx : Passes (L2.CX X.prog X.w) X F) (ha : PA X (e :: es) t) (hkw : PK X kws tk)
    (hall : (backToKw pos (keywordEach kws X.env)).all (·.1.isSome) = true := by rfl) (hks : (backToKw pos (keywordEach kws X.env)).filterMap (·.1) = ks := by rfl)
    (hst : starEach (e :: es) X.env = (false, eval e X.env) :: starEach es X.env := by rfl) (hpl : ((backTo pos (starEach (e :: es) X.env)).any (·.1) || (backToKw pos (keywordEach kws X.env)).any (·.1.isNone)) = false := by rfl)
    (ht : eval (.Call (.Attribute o m apos) (e :: es) kws pos) X.env = (do
      let ov ← eval o X.env
      standAt apos.atName
      let (f, first) ← holding [ov] (getMethod ov m pl)
      callWith pos f first (backTo pos (starEach (e :: es) X.env)) (backToKw pos (keywordEach kws X.env))) := by rfl) :
    PE X (.Call (.Attribute o m apos) (e :: es) kws pos) (fun σ H Q => ta σ H fun x H1 => ∃ a dx fs, x = .ref a ∧ H1 a = some (.ins C dx fs) ∧ fs.lookup m = none ∧ t σ H1 fun vs H2 => tk σ H2 fun zs H3 => vs.length + 1 = n ∧ zs.length = ks.length ∧ sp (x :: (vs ++ zs)) H3 Q F) := by
  refine ⟨fun pins s σ H Q I h => ?_⟩
  refine PySem.W.methodCall_KW (pl := pl) (thn (he.run pins s σ H _ I h) fun u s1 ⟨x, H1, I1, rx, a, dx, fs, ex, ea, l, q⟩ => ?_) ht
  subst ex
  obtain rfl : u = Value.ref a := rx
  refine getmeth_ok I1 ea c hm l ?_
  refine PySem.W.callWith_KW (first := [.ref a]) (h₀ := X.base) I.ok.mod.kin hm.kp hall (thn (ha.run pos pins s1 σ H1 _ I1 q) fun us s2 ⟨vs, H2, I2, r, q2⟩ => ?_) hpl hst
  refine thn (hkw.run pos pins s2 σ H2 _ I2 q2) fun ws s3 ⟨zs, H3, I3, rz, l1, l2, q3⟩ => ⟨I3.kIn, ?_⟩
  rw [hks]
  have r2 : Vals (V.ref a :: (vs ++ zs)) (Value.ref a :: us ++ ws) := .cons rfl (r.append rz)
  apply wpAny_call
  apply codeAny_mono (G.go X.A X.stack s3 H3 ⟨Value.ref a :: us, ks.zip ws⟩ (Value.ref a :: us ++ ws) (V.ref a :: (vs ++ zs)) Q F gd hr I3.env0 (hb.all s3 (Value.ref a :: us) ws I3.kIn (by rw [List.length_cons, ← r.length]; exact l1) (rz.length.symm.trans l2)) r2 q3)
  intro res s4 h4
  cases res with
  | error er => exact hx pins σ H3 s3 er s4 I3 h4
  | ok fl =>
    cases fl with
    | next => cases h4
    | brk => cases h4
    | cont => cases h4
    | ret u => exact I3.after h4
end
def fMethO (C : Addr) (ns : List Str) (F : FF) (gs : List Nat) (i : Nat) (fa : Fa) : Fe := fun ρ => match heldM ρ[i]? with
  | some (.ob C' ns' _) => if C' = C ∧ ns' = ns then fCallM F gs (aCons (eVar i) fa) ρ else none
  | _ => none
theorem held_var {ρ : En} {i : Nat} {m : Mu} (h : heldM ρ[i]? = some m) : eVar i ρ = some (.bw i, ρ) := by
  obtain ⟨r, e, hh⟩ := heldM_ok h
  unfold eVar
  rw [e]
  cases hh <;> rfl
theorem fMethO_of {K : PySem.W.Frag} {C : Addr} {ns : List Str} {m : Str} {F : FF} {gs : List Nat} {i n : Nat} {fa : Fa} {E : XK} (hm : m ∉ ns) (hc : ∀ ρ rs ρ', fa ρ = some (rs, ρ') → rs.length + 1 = n) : ∀ σ H Q, teOf K (fMethO C ns F gs i fa) σ H Q →
    tVar i σ H fun x H1 => ∃ a dx fs, x = .ref a ∧ H1 a = some (.ins C dx fs) ∧ fs.lookup m = none ∧ taOf K fa σ H1 fun vs H2 => spDG K n gs.length F (x :: vs) H2 Q E := fun σ H Q ⟨G, ρ, z, ρ', g, q, k⟩ => by
  unfold fMethO at q
  split at q
  · rename_i C' ns' ds q0
    split at q
    · rename_i hcn
      obtain ⟨rfl, rfl⟩ := hcn
      obtain ⟨p, dx, xs, e1, e2, r, l, _⟩ := ob_ins g q0
      obtain ⟨rs, ρ1, q1, h⟩ := callM_core (n := n) (E := E) q k
      unfold aCons at q1
      rw [held_var q0] at q1
      cases q2 : fa ρ with
      | none => simp only [q2] at q1; cases q1
      | some y =>
        obtain ⟨rs', ρ2⟩ := y
        simp only [q2] at q1
        cases q1
        exact ⟨.ref p, e1, p, dx, _, rfl, e2, lookup_none hm, G, ρ, rs', _, g, q2, fun vs G1 H1 A1 R1 => h (hc _ _ _ q2) (.ref p :: vs) G1 H1 A1 (.cons e1 R1)⟩
    · cases q
  · cases q
section
variable {X : Cx} {k n g i : Nat} {C : Addr} {ns ps ks : List Str} {m : Str} {apos pos : Pos} {o e : Expr} {es : List Expr} {kws : List Keyword} {F : FF} {dvs : List D} {gs : List Nat} {fa fb : Fa}
theorem de_methO {pl : Sem Bool} (c : InsC X.K C ns) (D : DfMG X.prog X.w X.K X.mg X.base k C m ps F n ks dvs gs.length) (gd : X.A.guards = some []) (hr : Room k X.A) (ho : PE X o (tVar i)) (ha : DA X (e :: es) fa) (hc : Cnt fa (n - 1)) (hl : n + dvs.length = ps.length := by rfl) (h1 : 1 ≤ n := by decide) (hm : m ∉ ns := by decide)
    (hst : starEach (e :: es) X.env = (false, eval e X.env) :: starEach es X.env := by rfl) (hpl : (backTo pos (starEach es X.env)).any (·.1) = false := by rfl)
    (ht : eval (.Call (.Attribute o m apos) (e :: es) [] pos) X.env = (do
      let ov ← eval o X.env
      standAt apos.atName
      let (f, first) ← holding [ov] (getMethod ov m pl)
      callWith pos f first (backTo pos (starEach (e :: es) X.env)) (backToKw pos (keywordEach [] X.env))) := by rfl) :
    DE X (.Call (.Attribute o m apos) (e :: es) [] pos) (fMethO C ns F gs i (aCat fa (aKon dvs))) := by
  obtain ⟨fd, vs, h1', h2, h3, h4⟩ := D
  obtain ⟨ds, v1, v2⟩ := h2.less
  refine PE.weak (pe_methGd (F := E0) ho c.cls h1' h4 gd hr v2 v1 passL' ha hst hpl ht) fun σ H Q q => ?_
  obtain ⟨x, e1, a, dx, fs, ex, ea, lk, q2⟩ := fMethO_of (n := ps.length) (E := E0) hm (fun ρ rs ρ' q => by have := Cnt.cat hc.len (kon_len dvs) ρ rs ρ' q; omega) σ H Q q
  exact ⟨x, e1, a, dx, fs, ex, ea, lk, taKon h3 (R := fun vs H2 => spDG X.K ps.length gs.length F (x :: vs) H2 Q E0) q2⟩
theorem de_methO0 {pl : Sem Bool} (c : InsC X.K C ns) (D : DfMG X.prog X.w X.K X.mg X.base k C m ps F n ks dvs gs.length) (gd : X.A.guards = some []) (hr : Room k X.A) (ho : PE X o (tVar i)) (hl : 1 + dvs.length = ps.length := by rfl) (hm : m ∉ ns := by decide)
    (ht : eval (.Call (.Attribute o m apos) [] [] pos) X.env = (do
      let ov ← eval o X.env
      standAt apos.atName
      let (f, first) ← holding [ov] (getMethod ov m pl)
      callWith pos f first (backTo pos (starEach [] X.env)) (backToKw pos (keywordEach [] X.env))) := by rfl) :
    DE X (.Call (.Attribute o m apos) [] [] pos) (fMethO C ns F gs i (aKon dvs)) := by
  obtain ⟨fd, vs, h1', h2, h3, h4⟩ := D
  obtain ⟨ds, v1, v2⟩ := h2.less
  refine PE.weak (pe_meth0Gd (F := E0) ho c.cls h1' h4 gd hr v2 v1 passL' ht) fun σ H Q q => ?_
  obtain ⟨x, e1, a, dx, fs, ex, ea, lk, q2⟩ := fMethO_of (n := ps.length) (E := E0) hm (fun ρ rs ρ' q => by have := kon_len dvs ρ rs ρ' q; omega) σ H Q q
  obtain ⟨G2, ρ2, rs, ρ3, g2, q3, k2⟩ := q2
  cases q3
  refine ⟨x, e1, a, dx, fs, ex, ea, lk, ?_⟩
  have := k2 vs G2 H (Aft.refl g2) (RsOk.kon (h3 G2))
  exact this
theorem de_methOk {pl : Sem Bool} (c : InsC X.K C ns) (D : DfMG X.prog X.w X.K X.mg X.base k C m ps F n ks dvs gs.length) (gd : X.A.guards = some []) (hr : Room k X.A) (ho : PE X o (tVar i)) (ha : DA X (e :: es) fa) (hc : Cnt fa (n - 1)) (hb : DK X kws fb) (hcb : Cnt fb ks.length) (hl : n + ks.length = ps.length := by rfl) (h1 : 1 ≤ n := by decide) (hm : m ∉ ns := by decide)
    (hall : (backToKw pos (keywordEach kws X.env)).all (·.1.isSome) = true := by rfl) (hks : (backToKw pos (keywordEach kws X.env)).filterMap (·.1) = ks := by rfl)
    (hst : starEach (e :: es) X.env = (false, eval e X.env) :: starEach es X.env := by rfl) (hpl : ((backTo pos (starEach (e :: es) X.env)).any (·.1) || (backToKw pos (keywordEach kws X.env)).any (·.1.isNone)) = false := by rfl)
    (ht : eval (.Call (.Attribute o m apos) (e :: es) kws pos) X.env = (do
      let ov ← eval o X.env
      standAt apos.atName
      let (f, first) ← holding [ov] (getMethod ov m pl)
      callWith pos f first (backTo pos (starEach (e :: es) X.env)) (backToKw pos (keywordEach kws X.env))) := by rfl) :
    DE X (.Call (.Attribute o m apos) (e :: es) kws pos) (fMethO C ns F gs i (aCat fa fb)) := by
  obtain ⟨fd, vs, h1', h2, h3, h4⟩ := D
  refine PE.weak (pe_methGk (F := E0) ho c.cls h1' h4 gd hr h2 passL' ha hb hall hks hst hpl ht) fun σ H Q q => ?_
  obtain ⟨x, e1, a, dx, fs, ex, ea, lk, q2⟩ := fMethO_of (n := ps.length) (E := E0) hm (fun ρ rs ρ' q => by have := Cnt.cat hc.len hcb.len ρ rs ρ' q; omega) σ H Q q
  refine ⟨x, e1, a, dx, fs, ex, ea, lk, ?_⟩
  obtain ⟨G, ρ, rs, ρ1, gd2, q3, k3⟩ := taCat q2
  refine ⟨G, ρ, rs, ρ1, gd2, q3, fun vs2 G1 H1 A1 R1 => ?_⟩
  obtain ⟨G2, ρ2, qs, ρ3, g2, q4, k4⟩ := k3 vs2 G1 H1 A1 R1
  refine ⟨G2, ρ2, qs, ρ3, g2, q4, fun zs G3 H3 A3 R3 => ⟨?_, ?_, k4 zs G3 H3 A3 R3⟩⟩
  · have a1 := hc.len _ _ _ q3
    have a2 := RsOk.len R1
    omega
  · have a1 := hcb.len _ _ _ q4
    have a2 := RsOk.len R3
    omega
end
end DL
namespace DL
open PySem PySem.Spec L2
open PyProof.Rows (envOfC)
inductive Src where
  | a (j : Nat) | d (j : Nat) | n
def mkV (us qs : List V) : List Src → List V
  | [] => []
  | .a j :: r => us.getD j .non :: mkV us qs r
  | .d j :: r => qs.getD j .non :: mkV us qs r
  | .n :: r => .non :: mkV us qs r
def mkD (us qs : List D) : List Src → List D
  | [] => []
  | .a j :: r => us.getD j .non :: mkD us qs r
  | .d j :: r => qs.getD j .non :: mkD us qs r
  | .n :: r => .non :: mkD us qs r
theorem rps_getD {K : PySem.W.Frag} {G : Hp} : ∀ {vs : List V} {ds : List D} (j : Nat), Rps K G vs ds → Rp K G (vs.getD j .non) (ds.getD j .non)
  | _, _, _, .nil => .non
  | _, _, 0, .cons h _ => h
  | _, _, j + 1, .cons _ t => by
    have := rps_getD j t
    simpa using this
theorem mk_ok {K : PySem.W.Frag} {G : Hp} {us qs : List V} {ds es : List D} (h1 : Rps K G us ds) (h2 : Rps K G qs es) : ∀ src : List Src, Rps K G (mkV us qs src) (mkD ds es src)
  | [] => .nil
  | .a j :: r => .cons (rps_getD j h1) (mk_ok h1 h2 r)
  | .d j :: r => .cons (rps_getD j h2) (mk_ok h1 h2 r)
  | .n :: r => .cons .non (mk_ok h1 h2 r)
theorem mkV_len (us qs : List V) : ∀ src : List Src, (mkV us qs src).length = src.length
  | [] => rfl
  | .a _ :: r => congrArg (· + 1) (mkV_len us qs r)
  | .d _ :: r => congrArg (· + 1) (mkV_len us qs r)
  | .n :: r => congrArg (· + 1) (mkV_len us qs r)
def addD (H : Hp) : List Addr → Hp
  | [] => H
  | q :: qs => addD (upd H q (.dK [])) qs
theorem addD_ne {a : Addr} : ∀ {qs : List Addr} {H : Hp}, a ∉ qs → addD H qs a = H a
  | [], _, _ => rfl
  | q :: qs, H, h => by
    rw [List.mem_cons] at h
    show addD (upd H q (.dK [])) qs a = _
    rw [addD_ne (fun z => h (.inr z)), upd_ne fun z => h (.inl z)]
theorem addD_in {a : Addr} : ∀ {qs : List Addr} {H : Hp}, a ∈ qs → addD H qs a = some (.dK [])
  | q :: qs, H, h => by
    show addD (upd H q (.dK [])) qs a = _
    by_cases m : a ∈ qs
    · exact addD_in m
    · rw [addD_ne m]
      rcases List.mem_cons.mp h with e | e
      · subst e; exact upd_same
      · exact absurd e m
def spIniO (C : Addr) (n g : Nat) (ns : List Str) (src : List Src) : Sp := fun vs H Q _ => ∃ x dx us, vs = .ref x :: us ∧ us.length = n ∧ H x = some (.ins C dx []) ∧ ∀ qs : List Addr, qs.length = g → qs.Nodup → (∀ q ∈ qs, H q = none) → Q .non (upd (addD H qs) x (.ins C dx (ns.zip (mkV us (qs.map V.ref) src))))
structure MkO (P : Program) (w : World) (K : PySem.W.Frag) (mg : Str → Option Value) (base : Heap) (x : Str) (C : Addr) (ns : List Str) (src : List Src) (n g : Nat) (dvs : List D) : Prop where
  gl : mg x = some (.ref C)
  c : InsC K C ns
  ini : ∃ (fd : FuncData) (ps : List Str) (vs : List V) (ds : List Value), Vals vs ds ∧ Binds K fd ps ds ∧ (∀ G, Rps K G vs dvs) ∧ FnOk P w K mg base (L2.CX P w) 1 (He.ma K C "__init__") fd ps (spIniO C n g ns src)
def setGV (σ : L2.St) : List (Nat × Addr) → L2.St
  | [] => σ
  | (g, q) :: r => setGV (σ.set g (some (.ref q))) r
def setGE (ρ : En) : List (Nat × Addr) → En
  | [] => ρ
  | (g, q) :: r => setGE (ρ.set g (.ow (.at q []))) r
theorem setGV_len : ∀ {l : List (Nat × Addr)} {σ : L2.St}, (setGV σ l).length = σ.length
  | [], _ => rfl
  | (g, q) :: r, σ => by
    show (setGV (σ.set g (some (.ref q))) r).length = _
    rw [setGV_len, List.length_set]
theorem setGV_ne {i : Nat} : ∀ {l : List (Nat × Addr)} {σ : L2.St}, (∀ x ∈ l, x.1 ≠ i) → (setGV σ l)[i]? = σ[i]?
  | [], _, _ => rfl
  | (g, q) :: r, σ, h => by
    show (setGV (σ.set g (some (.ref q))) r)[i]? = _
    rw [setGV_ne fun x hx => h x (List.mem_cons_of_mem _ hx), List.getElem?_set_ne (h (g, q) List.mem_cons_self)]
section
variable {K : PySem.W.Frag} {G H G1 H1 : Hp} {σ σ1 : L2.St} {ρ ρ1 : En}
theorem own_set {i j : Nat} {p q : Addr} {r : Sl} {σ : L2.St} {ρ : En} (o : Own (σ.set i (some (.ref q))) (ρ.set i r) j p) : p = q ∨ OwnA σ ρ p := by
  obtain ⟨z1, z2⟩ := o
  by_cases e : j = i
  · subst e
    rcases getElem?_set_cases z1 with ⟨_, y⟩ | ⟨y, _⟩
    · cases y; exact .inl rfl
    · exact absurd rfl y
  · rw [List.getElem?_set_ne (Ne.symm e)] at z1 z2
    exact .inr ⟨j, z1, z2⟩
theorem store_gs : ∀ (gq : List (Nat × Addr)) {σ1 : L2.St} {ρ1 : En}, Aft K G H σ ρ G1 H1 σ1 ρ1 → (∀ x ∈ gq, H1 x.2 = some (.dK []) ∧ G1 x.2 = none ∧ H x.2 = none ∧ ¬ OwnA σ1 ρ1 x.2) → (gq.map (·.2)).Nodup → (∀ x ∈ gq, notRf ρ1 x.1 = true) → Aft K G H σ ρ G1 H1 (setGV σ1 gq) (setGE ρ1 gq)
  | [], _, _, a, _, _, _ => a
  | (g, q) :: r, σ1, ρ1, a, h, nd, nr => by
    obtain ⟨h1, h2, h3, h4⟩ := h (g, q) List.mem_cons_self
    have n2 := List.nodup_cons.mp nd
    have A := a.store (i := g) (s := some (.ref q)) (r := .ow (.at q [])) ⟨q, _, rfl, h2, h1, .at .nil⟩ (fun p e _ => by cases e; exact ⟨h4, h3⟩) (nr (g, q) List.mem_cons_self)
    refine store_gs r A (fun x hx => ?_) n2.2 fun x hx => ?_
    · obtain ⟨k1, k2, k3, k4⟩ := h x (List.mem_cons_of_mem _ hx)
      refine ⟨k1, k2, k3, fun ⟨j, o⟩ => ?_⟩
      rcases own_set o with e | o
      · exact n2.1 (List.mem_map.mpr ⟨x, hx, e⟩)
      · exact k4 o
    · unfold notRf
      by_cases e : x.1 = g
      · have := nr (g, q) List.mem_cons_self
        unfold notRf at this
        cases z : ρ1[g]? with
        | none => rw [z] at this; cases this
        | some r0 => rw [e, List.getElem?_set_self (List.getElem?_eq_some_iff.mp z).1]
      · rw [List.getElem?_set_ne (Ne.symm e)]
        exact nr x (List.mem_cons_of_mem _ hx)
theorem addD_aft : ∀ {qs : List Addr} {H1 : Hp}, Aft K G H σ ρ G1 H1 σ1 ρ1 → qs.Nodup → (∀ q ∈ qs, H1 q = none) → Aft K G H σ ρ G1 (addD H1 qs) σ1 ρ1
  | [], _, a, _, _ => a
  | q :: qs, H1, a, nd, h => by
    have n2 := List.nodup_cons.mp nd
    have hq := h q List.mem_cons_self
    show Aft K G H σ ρ G1 (addD (upd H1 q (.dK [])) qs) σ1 ρ1
    refine addD_aft (a.mut (o := .dK []) (a.back hq) (a.good.ex.free hq) (a.good.notOwn hq)) n2.2 fun x hx => ?_
    rw [upd_ne fun (z : x = q) => n2.1 (by rw [← z]; exact hx)]
    exact h x (List.mem_cons_of_mem _ hx)
def fgt (ρ : En) : List Nat → En
  | [] => ρ
  | i :: r => fgt (ρ.set i .un) r
def fgOk (ρ : En) : List Nat → Bool
  | [] => true
  | i :: r => notRf ρ i && fgOk (ρ.set i .un) r
theorem own_un {i j : Nat} {p : Addr} (o : Own σ (ρ.set i .un) j p) : Own σ ρ j p := by
  obtain ⟨z1, z2⟩ := o
  refine ⟨z1, ?_⟩
  rcases z2 with ⟨m, z2⟩ | ⟨m, z2⟩
  · rcases getElem?_set_cases z2 with ⟨_, y⟩ | ⟨_, y⟩
    · cases y
    · exact .inl ⟨m, y⟩
  · rcases getElem?_set_cases z2 with ⟨_, y⟩ | ⟨_, y⟩
    · cases y
    · exact .inr ⟨m, y⟩
theorem set_self {i : Nat} {s : Option V} (h : σ[i]? = some s) : σ.set i s = σ := by
  apply List.ext_getElem?
  intro j
  by_cases z : i = j
  · subst z
    rw [h, List.getElem?_set_self (List.getElem?_eq_some_iff.mp h).1]
  · rw [List.getElem?_set_ne z]
theorem aft_fgt1 {i : Nat} (a : Aft K G H σ ρ G1 H1 σ1 ρ1) (n : notRf ρ1 i = true) : Aft K G H σ ρ G1 H1 σ1 (ρ1.set i .un) := by
  have hi : i < σ1.length := by
    rw [a.good.len]
    unfold notRf at n
    cases z : ρ1[i]? with
    | none => rw [z] at n; cases n
    | some r => exact (List.getElem?_eq_some_iff.mp z).1
  have A := a.store (i := i) (s := σ1[i]) (r := .un) trivial (fun p _ z => by rcases z with ⟨m, z⟩ | ⟨m, z⟩ <;> cases z) n
  rw [set_self (List.getElem?_eq_getElem hi)] at A
  exact A
theorem aft_fgt : ∀ {l : List Nat} {ρ1 : En}, Aft K G H σ ρ G1 H1 σ1 ρ1 → fgOk ρ1 l = true → Aft K G H σ ρ G1 H1 σ1 (fgt ρ1 l)
  | [], _, a, _ => a
  | i :: l, ρ1, a, n => by
    have n2 := Bool.and_eq_true_iff.mp (show (notRf ρ1 i && fgOk (ρ1.set i .un) l) = true from n)
    show Aft K G H σ ρ G1 H1 σ1 (fgt (ρ1.set i .un) l)
    exact aft_fgt (aft_fgt1 a n2.1) n2.2
theorem own_fgt {j : Nat} {p : Addr} : ∀ {l : List Nat} {ρ : En}, Own σ (fgt ρ l) j p → Own σ ρ j p
  | [], _, o => o
  | i :: l, ρ, o => own_un (own_fgt (l := l) (ρ := ρ.set i .un) o)
theorem rok_fgt {l : List Nat} {H0 : Hp} {v : V} {r : Sl} (h : ROk K H0 G H σ ρ v r) : ROk K H0 G H σ (fgt ρ l) v r := by
  cases r with
  | un => exact h
  | rf m => exact h
  | fz d => exact h
  | bw i => exact h
  | ow m =>
    obtain ⟨p, o, rfl, h0, h1, h2, h3, h4⟩ := h
    exact ⟨p, o, rfl, h0, h1, h2, h3, fun ⟨j, o⟩ => h4 ⟨j, own_fgt o⟩⟩
theorem ends_fgt {l : List Nat} {E : XK} {D : Ends} {H0 G' H' : Hp} {σ' : L2.St} {ρ' : En} {fl : Fl} (k : EndsOk K E D H0 G' H' σ' (fgt ρ' l) fl) : EndsOk K E D H0 G' H' σ' ρ' fl := by
  cases fl with
  | nx => exact k
  | bk => exact k
  | ct => exact k
  | rt r => exact fun v h => k v (rok_fgt h)
  | ex C ns ds => exact k
end
def newE (ρ : En) (i : Nat) (gs : List Nat) (C : Addr) (ns : List Str) (ds : List D) (qs : List Addr) : En := setGE (ρ.set i (.ow (.ob C ns ds))) (gs.zip qs)
def lettg (l : List Nat) (y : Fl × En) : Option (Fl × En) := if fgOk y.2 l = true then some (y.1, fgt y.2 l) else none
noncomputable def bNew (i : Nat) (gs L : List Nat) (C : Addr) (ns : List Str) (src : List Src) (fa : Fa) (B : Fs) : Fs := fun ρ => match fa ρ with
  | some (rs, ρ1) => match dsOf rs with
    | some ds => open Classical in if (notRf ρ1 i = true ∧ ∀ g ∈ gs, notRf ρ1 g = true ∧ g ≠ i) ∧ ns.length = src.length then
        (if h : ∃ y, ∀ qs : List Addr, qs.length = gs.length → (B (newE ρ1 i gs C ns (mkD ds (qs.map .ptr) src) qs)).bind (lettg L) = some y then some h.choose else none)
      else none
    | none => none
  | none => none
theorem rps_ptr {K : PySem.W.Frag} {G : Hp} : ∀ qs : List Addr, Rps K G (qs.map V.ref) (qs.map D.ptr)
  | [] => .nil
  | q :: qs => .cons (.ptr q) (rps_ptr qs)
theorem zip_snd {α β : Type} : ∀ {a : List α} {b : List β}, b.length ≤ a.length → (a.zip b).map (·.2) = b
  | _, [], _ => by simp
  | [], _ :: _, h => by simp at h
  | x :: a, y :: b, h => by
    rw [List.zip_cons_cons, List.map_cons, zip_snd (by simpa using h)]
theorem db_new {X : Cx} {E : XK} {i n : Nat} {gs L : List Nat} {x y : Str} {C : Addr} {ns : List Str} {src : List Src} {dvs : List D} {e : Expr} {es : List Expr} {fa : Fa} {B : Fs} {rest : List Stmt} {p pos pos' pos2 : Pos} (M : MkO X.prog X.w X.K X.mg X.base y C ns src n gs.length dvs) (hr : Room 2 X.A) (hg : Gl X y) (ha : DA X (e :: es) fa) (hc : Cnt fa (n - dvs.length)) (hnl : dvs.length ≤ n)
    (hN : X.N.Nodup) (hi : X.N[i]? = some x) (hx : Loc X.env.scope x) (hgs : ∀ g ∈ gs, ∀ z, X.N[g]? = some z → X.env.scope.names.lookup z = none) (hb : DB X E rest B)
    (hdb : (y == ("__debug__" : Str)) = false := by decide) (he : starEach (e :: es) X.env = (false, eval e X.env) :: starEach es X.env := by rfl) (hpl : (backTo pos (starEach es X.env)).any (·.1) = false := by rfl)
    (hs : swapsWith (.Call (.Name y p) (e :: es) [] pos) (some (.Name x pos')) pos2.line X.env = pure false := by rfl) (hf : X.fn x = true ∨ X.env.scope.names.lookup x = some .local := by first | exact .inl rfl | exact .inr rfl | assumption) :
    DB X E (.Assign [.Name x pos'] (.Call (.Name y p) (e :: es) [] pos) pos2 :: rest) (bNew i gs L C ns src (aCat fa (aKon dvs)) B) := by
  obtain ⟨fd, ps, vs0, ds0, i1, i2, i3, i4⟩ := M.ini
  refine PSs.weak (pss_cons (PS.ghE (ps_set hN hi hx (pe_make (E := E0) (dvs := vs0) M.c.made i4 hr hg M.gl i2 i1 passL' ha hdb he hpl) hs hf)) hb) fun D σ H ⟨G, ρ, fl, ρ', g, q, k⟩ => ?_
  unfold bNew at q
  split at q
  · rename_i rs ρ1 q1
    split at q
    · rename_i ds q2
      split at q
      · rename_i hc1
        obtain ⟨⟨ni, ng⟩, ln⟩ := hc1
        split at q
        · rename_i hex
          have spec := hex.choose_spec
          have hy : hex.choose = (fl, ρ') := Option.some.inj q
          rw [hy] at spec
          have key : taOf X.K (aCat fa (aKon dvs)) σ H fun ws H1 => ∀ p dx, H1 p = none → H1 dx = none → dx ≠ p → spIniO C n gs.length ns src (.ref p :: ws) (upd (upd H1 dx (.own p)) p (.ins C dx [])) (fun v H2 => v = .non ∧ ∃ σ2, Gh X (σ.set i (some (.ref p))) σ2 ∧ tsOf X.K E B D σ2 H2) E0 := by
            refine ⟨G, ρ, rs, ρ1, g, q1, fun ws G1 H1 A1 R1 p dx hp hdx hne => ?_⟩
            have wl : ws.length = n := by
              have := RsOk.len R1
              have z := Cnt.cat hc.len (kon_len dvs) ρ rs ρ1 q1
              omega
            refine ⟨p, dx, ws, rfl, wl, upd_same, fun qs ql qnd qf => ⟨rfl, ?_⟩⟩
            have rp := dsOf_ok R1 q2
            have A2 := A1.trans (Aft.laid (o := .own p) A1.good hdx)
            have hp2 : upd H1 dx (.own p) p = none := by rw [upd_ne (Ne.symm hne)]; exact hp
            have A3 := A2.mut (o := .ins C dx []) (A1.back hp) (A2.good.ex.free hp2) (A2.good.notOwn hp2)
            have A4 := addD_aft (qs := qs) A3 qnd qf
            have pq : p ∉ qs := fun m => by
              have := qf p m
              rw [upd_same] at this
              cases this
            have nop : ¬ OwnA σ ρ1 p := A2.good.notOwn hp2
            have gp : upd G1 dx (.own p) p = none := A2.good.ex.free hp2
            have A5 := A4.mut (o := .ins C dx (ns.zip (mkV ws (qs.map V.ref) src))) (A1.back hp) gp nop
            have rx : Ex G1 (upd G1 dx (.own p)) := ex_new (A1.good.ex.free hdx)
            have A6 := A5.store (i := i) (s := some (.ref p)) (r := .ow (.ob C ns (mkD ds (qs.map .ptr) src))) ⟨p, _, rfl, gp, upd_same, .ob (mk_ok (rp.up rx) (rps_ptr qs) src) (by rw [mkV_len]; exact ln)⟩ (fun z e1 _ => by cases e1; exact ⟨nop, A1.back hp⟩) ni
            have A7 := store_gs (gs.zip qs) A6 (fun z hz => ?_) (by rw [zip_snd (by omega)]; exact qnd) fun z hz => ?_
            · refine ⟨setGV (σ.set i (some (.ref p))) (gs.zip qs), ⟨setGV_len, fun j y hy v => ?_⟩, ?_⟩
              · refine setGV_ne fun z hz => fun e => ?_
                have := hgs z.1 (List.of_mem_zip hz).1 y (by rw [e]; exact hy)
                exact vis_no this v
              · have sp := spec qs ql
                cases hB : B (newE ρ1 i gs C ns (mkD ds (qs.map .ptr) src) qs) with
                | none => rw [hB] at sp; cases sp
                | some y =>
                  obtain ⟨fl2, ρ2⟩ := y
                  rw [hB] at sp
                  replace sp : lettg L (fl2, ρ2) = some (fl, ρ') := sp
                  unfold lettg at sp
                  split at sp
                  · rename_i ok
                    cases sp
                    refine ⟨_, _, _, ρ2, A7.good, hB, fun σ' G' H' A8 => ?_⟩
                    exact ends_fgt ((k σ' G' H' (aft_fgt (A7.trans A8) ok)).start A7.dom)
                  · cases sp
            · have mq := (List.of_mem_zip hz).2
              have hz0 := qf z.2 mq
              have zp : z.2 ≠ p := fun e => pq (by rw [← e]; exact mq)
              have hz1 : upd H1 dx (.own p) z.2 = none := by rwa [upd_ne zp] at hz0
              refine ⟨by rw [upd_ne zp]; exact addD_in mq, A2.good.ex.free hz1, A2.back hz1, fun ⟨j, o⟩ => ?_⟩
              rcases own_set o with e | o
              · exact zp e
              · exact A2.good.notOwn hz1 o
            · obtain ⟨n1, n2⟩ := ng z.1 (List.of_mem_zip hz).1
              unfold notRf
              rw [List.getElem?_set_ne (Ne.symm n2)]
              exact n1
          exact taKon i3 (R := fun ws H1 => ∀ p dx, H1 p = none → H1 dx = none → dx ≠ p → spIniO C n gs.length ns src (.ref p :: ws) (upd (upd H1 dx (.own p)) p (.ins C dx [])) (fun v H2 => v = .non ∧ ∃ σ2, Gh X (σ.set i (some (.ref p))) σ2 ∧ tsOf X.K E B D σ2 H2) E0) key
        · cases q
      · cases q
    · cases q
  · cases q
end DL
namespace DL
open PySem PySem.Spec L2
open PyProof.Rows (envOfC)
def kvOf (ρ : En) : Sl → Option (List (Key × D))
  | .fz (.dk ks ds) => if ks.length = ds.length then some (ks.zip ds) else none
  | .ow (.k kvs) => some kvs
  | .bw i => match heldM ρ[i]? with
    | some (.k kvs) => some kvs
    | some (.at _ kvs) => some kvs
    | _ => none
  | _ => none
theorem zip_rpkv {κ : Type} {K : PySem.W.Frag} {G : Hp} : ∀ {ks : List κ} {vs : List V} {ds : List D}, Rps K G vs ds → RpKV K G (ks.zip vs) (ks.zip ds)
  | [], _, _, _ => by simp; exact .nil
  | _ :: _, _, _, .nil => by simp; exact .nil
  | _ :: ks, _, _, .cons h t => .cons h (zip_rpkv t)
section
variable {K : PySem.W.Frag} {H0 G H : Hp} {σ : L2.St} {ρ : En} {v : V} {r : Sl}
theorem kvOf_ok {kvs : List (Key × D)} (g : Good K G H σ ρ) (k : ROk K H0 G H σ ρ v r) (e : kvOf ρ r = some kvs) : ∃ p vs, v = .ref p ∧ Rd H p (.dK vs) ∧ RpKV K G vs kvs := by
  cases r with
  | un => cases e
  | rf m => cases e
  | fz d =>
    cases d with
    | dk ks ds =>
      replace e : (if ks.length = ds.length then some (ks.zip ds) else none) = some kvs := e
      split at e
      · cases e
        cases (show Rp K G v (.dk ks ds) from k) with
        | dk h1 h2 h3 => exact ⟨_, _, rfl, .inr ⟨_, g.ex _ _ h1⟩, zip_rpkv h2⟩
      · cases e
    | _ => cases e
  | ow m =>
    cases m with
    | k xs =>
      cases e
      obtain ⟨p, o, rfl, h0, h1, h2, h3, h4⟩ := k
      cases h3 with
      | k h3 => exact ⟨p, _, rfl, .inl h2, h3⟩
    | _ => cases e
  | bw i =>
    have e' : (match heldM ρ[i]? with | some (.k kvs) => some kvs | some (.at _ kvs) => some kvs | _ => none) = some kvs := e
    have k' : σ[i]? = some (some v) := k
    split at e'
    · rename_i xs q
      cases e'
      obtain ⟨p, o, e1, e2, e3, _⟩ := held_atM g q
      rw [k'] at e1
      cases e1
      cases e3 with
      | k h3 => exact ⟨p, _, rfl, .inl e2, h3⟩
    · rename_i xs q
      cases e'
      obtain ⟨p, o, e1, e2, e3, _⟩ := held_atM g q
      rw [k'] at e1
      cases e1
      cases e3 with
      | «at» h3 => exact ⟨_, _, rfl, .inl e2, h3⟩
    · cases e'
end
theorem rpkv_keys' {κ : Type} {K : PySem.W.Frag} {G : Hp} : ∀ {vs : List (κ × V)} {ds : List (κ × D)}, RpKV K G vs ds → vs.map (·.1) = ds.map (·.1)
  | _, _, .nil => rfl
  | _, _, .cons h t => by rw [List.map_cons, List.map_cons, rpkv_keys' t]
def rLenRd (xs : List V) (H : Hp) (Q : VK) : Prop := ∃ a kvs, xs = [V.ref a] ∧ Rd H a (.dK kvs) ∧ Q (.int kvs.length) H
theorem call_lenRd {X : Cx} : CallR X (.builtin "len") rLenRd := by
  intro pins s σ H xs us Q I r h
  obtain ⟨a, kvs, rfl, ha, q⟩ := h
  obtain ⟨u, rfl, ru⟩ := vals1 r
  cases ru
  exact d_len I ha fun t s' I' => ⟨.int kvs.length, H, I', ⟨t, rfl⟩, q⟩
def dLenD (f : Fe) : Fe := fun ρ => match f ρ with
  | some (r, ρ1) => match kvOf ρ1 r with
    | some kvs => some (.fz (.int kvs.length), ρ1)
    | none => none
  | none => none
def dDictD (f : Fe) : Fe := fun ρ => match f ρ with
  | some (r, ρ1) => match kvOf ρ1 r with
    | some kvs => some (.ow (.k kvs), ρ1)
    | none => none
  | none => none
def leS (a b : Str) : Bool := !decide (b.cps.toList < a.cps.toList)
noncomputable def sortS (ks : List Str) : List Str := ks.mergeSort leS
def ktxt : List Key → Option (List Str)
  | [] => some []
  | .inr s :: r => (ktxt r).map (s :: ·)
  | _ => none
theorem ktxt_ok : ∀ {ks : List Key} {xs : List Str}, ktxt ks = some xs → ks = xs.map Sum.inr
  | [], _, e => by cases e; rfl
  | .inr s :: r, xs, e => by
    obtain ⟨ys, e1, rfl⟩ := Option.map_eq_some_iff.mp (show (ktxt r).map (s :: ·) = some xs from e)
    rw [ktxt_ok e1]
    rfl
  | .inl _ :: _, _, e => by cases e
theorem leS_trans (a b c : Str) (h1 : leS a b = true) (h2 : leS b c = true) : leS a c = true := by
  unfold leS at *
  simp only [Bool.not_eq_true', decide_eq_false_iff_not] at *
  exact List.le_trans (show a.cps.toList ≤ b.cps.toList from h1) (show b.cps.toList ≤ c.cps.toList from h2)
theorem leS_total (a b : Str) : (leS a b || leS b a) = true := by
  unfold leS
  rcases List.le_total a.cps.toList b.cps.toList with q | q
  · rw [decide_eq_false (show ¬ b.cps.toList < a.cps.toList from q)]; rfl
  · rw [decide_eq_false (show ¬ a.cps.toList < b.cps.toList from q), Bool.not_false, Bool.or_true]
theorem leS_antisymm {a b : Str} (h1 : leS a b = true) (h2 : leS b a = true) : a = b := by
  unfold leS at *
  simp only [Bool.not_eq_true', decide_eq_false_iff_not] at *
  have e : a.cps.toList = b.cps.toList := List.le_antisymm h1 h2
  obtain ⟨x⟩ := a
  obtain ⟨y⟩ := b
  simp only at e
  congr 1
  exact Array.toList_inj.mp e
theorem rising_pw : ∀ (l : List Str) (p : Str), PyProof.Rows.risingS p l = true → (p :: l).Pairwise fun a b => leS a b = true
  | [], p, _ => List.pairwise_singleton _ _
  | x :: r, p, h => by
    unfold PyProof.Rows.risingS at h
    obtain ⟨h1, h2⟩ := Bool.and_eq_true_iff.mp h
    rw [PyProof.Rows.ltCps_eq] at h1
    have ih := rising_pw r x h2
    refine List.pairwise_cons.mpr ⟨fun y hy => ?_, ih⟩
    rcases List.mem_cons.mp hy with e | e
    · rw [e]; exact h1
    · exact leS_trans p x y h1 (List.rel_of_pairwise_cons ih e)
theorem sorted_is {ys ks : List Str} (p : ys.Perm ks) (s : PyProof.Rows.sortedS ys = true) : ys = sortS ks := by
  have pw : ys.Pairwise fun a b => leS a b = true := by
    cases ys with
    | nil => exact .nil
    | cons x r => exact rising_pw r x s
  exact List.Perm.eq_of_pairwise (le := fun a b => leS a b = true) (fun a b _ _ h1 h2 => leS_antisymm h1 h2) pw (List.pairwise_mergeSort leS_trans leS_total ks) (p.trans (List.mergeSort_perm ks leS).symm)
noncomputable def dSortK (f : Fe) : Fe := fun ρ => match f ρ with
  | some (r, ρ1) => match kvOf ρ1 r with
    | some kvs => match ktxt (kvs.map (·.1)) with
      | some ks => if ks.length < 64 then some (.ow (.l ((sortS ks).map .str)), ρ1) else none
      | none => none
    | none => none
  | none => none
section
variable {X : Cx} {x : Str} {p pos : Pos} {e : Expr} {f : Fe}
theorem de_lenD (hx : Gl X x) (hm : X.mg x = none) (hv : bootBuiltins x = some (.builtin "len")) (he : DE X e f) (hn : x ≠ "__name__" := by decide) (hdb : (x == ("__debug__" : Str)) = false := by decide)
    (hs : starEach [e] X.env = (false, eval e X.env) :: starEach [] X.env := by rfl) (hpl : (backTo pos (starEach [] X.env)).any (·.1) = false := by rfl) : DE X (.Call (.Name x p) [e] [] pos) (dLenD f) :=
  PE.weak (pe_callB call_lenRd hx hm hv (pa_cons he pa_nil hs) hn hdb hs hpl) fun σ H Q ⟨G, ρ, z, ρ', g, q, k⟩ => by
    unfold dLenD at q
    split at q
    · rename_i r ρ1 q1
      split at q
      · rename_i kvs q2
        cases q
        refine ⟨G, ρ, r, _, g, q1, fun v G1 H1 A1 R1 => ?_⟩
        obtain ⟨a, vs, rfl, rd_, rk⟩ := kvOf_ok A1.good R1 q2
        exact ⟨a, vs, rfl, rd_, k _ G1 H1 A1 (by rw [RpKV.len rk]; exact .int _)⟩
      · cases q
    · cases q
theorem de_dictD (hx : Gl X x) (hm : X.mg x = none) (hv : bootBuiltins x = some (.type "dict")) (he : DE X e f) (hn : x ≠ "__name__" := by decide) (hdb : (x == ("__debug__" : Str)) = false := by decide)
    (hs : starEach [e] X.env = (false, eval e X.env) :: starEach [] X.env := by rfl) (hpl : (backTo pos (starEach [] X.env)).any (·.1) = false := by rfl) : DE X (.Call (.Name x p) [e] [] pos) (dDictD f) :=
  PE.weak (pe_callTy call_dictD hx hm hv (pa_cons he pa_nil hs) hn hdb hs hpl) fun σ H Q ⟨G, ρ, z, ρ', g, q, k⟩ => by
    unfold dDictD at q
    split at q
    · rename_i r ρ1 q1
      split at q
      · rename_i kvs q2
        cases q
        refine ⟨G, ρ, r, _, g, q1, fun v G1 H1 A1 R1 => ?_⟩
        obtain ⟨a, vs, rfl, rd_, rk⟩ := kvOf_ok A1.good R1 q2
        exact ⟨a, vs, rfl, rd_, giveM A1.good (fun _ => .k rk) fun v G' H' A R => k v G' H' (A1.trans A) (R.start A1.dom)⟩
      · cases q
    · cases q
theorem de_sortK (hcalm : X.calm = true) (hx : Gl X x) (hm : X.mg x = none) (hv : bootBuiltins x = some (.builtin "sorted")) (he : DE X e f) (hn : x ≠ "__name__" := by decide) (hdb : (x == ("__debug__" : Str)) = false := by decide)
    (hs : starEach [e] X.env = (false, eval e X.env) :: starEach [] X.env := by rfl) (hpl : (backTo pos (starEach [] X.env)).any (·.1) = false := by rfl) : DE X (.Call (.Name x p) [e] [] pos) (dSortK f) :=
  PE.weak (pe_callB (call_sortedD hcalm) hx hm hv (pa_cons he pa_nil hs) hn hdb hs hpl) fun σ H Q ⟨G, ρ, z, ρ', g, q, k⟩ => by
    unfold dSortK at q
    split at q
    · rename_i r ρ1 q1
      split at q
      · rename_i kvs q2
        split at q
        · rename_i ks q3
          split at q
          · rename_i hl
            cases q
            refine ⟨G, ρ, r, _, g, q1, fun v G1 H1 A1 R1 => ?_⟩
            obtain ⟨a, vs, rfl, rd_, rk⟩ := kvOf_ok A1.good R1 q2
            refine ⟨a, vs, ks, rfl, rd_, by rw [rpkv_keys' rk]; exact ktxt_ok q3, hl, fun ys p pm so hp => ?_⟩
            have e := sorted_is pm so
            have key := giveL A1.good (vs := ys.map V.str) (ds := ys.map D.str) (rps_map (fun s => .str s) ys) (fun v G' H' A R => k v G' H' (A1.trans A) (by rw [← e]; exact R.start A1.dom)) p hp
            exact key
          · cases q
        · cases q
      · cases q
    · cases q
end
def kvHit (b : List (Key × D)) (p : Key × D) : Bool := match valD b p.1 with
  | some d => p.2.ok && (d.ok && p.2.eqv d)
  | none => false
theorem kvHit_inv {b : List (Key × D)} {p : Key × D} (h : kvHit b p = true) : ∃ d, valD b p.1 = some d ∧ p.2.ok = true ∧ d.ok = true ∧ p.2.eqv d = true := by
  unfold kvHit at h
  cases e : valD b p.1 with
  | none => rw [e] at h; cases h
  | some d =>
    rw [e] at h
    have h : (p.2.ok && (d.ok && p.2.eqv d)) = true := h
    obtain ⟨o1, o2⟩ := Bool.and_eq_true_iff.mp h
    obtain ⟨o2, o3⟩ := Bool.and_eq_true_iff.mp o2
    exact ⟨d, rfl, o1, o2, o3⟩
def eqKVs (a b : List (Key × D)) : Bool := decide (a.length = b.length) && a.all (kvHit b)
def dCmpD (neg : Bool) (fa fb : Fe) : Fe := fun ρ => match fa ρ with
  | some (ra, ρ1) => match fb ρ1 with
    | some (rb, ρ2) => match kvOf ρ2 ra, kvOf ρ2 rb with
      | some a, some b => if eqKVs a b = true then some (.fz (.bl (!neg)), ρ2) else none
      | _, _ => none
    | none => none
  | none => none
def rEqKV (K : PySem.W.Frag) (neg : Bool) : R2 := fun x y H Q => ∃ a b ks ls xs ys, x = .ref a ∧ y = .ref b ∧ Rd H a (.dK ks) ∧ Rd H b (.dK ls) ∧ RpKV K H ks xs ∧ RpKV K H ls ys ∧ eqKVs xs ys = true ∧ Q (.bl (!neg)) H
theorem hits_kv {X : Cx} {pins : List (Addr × Obj)} {σ : L2.St} {H : Hp} {s : Shared} {A : Around} (I : Inv X pins σ H s) (hu : A.in1.units + 64 < cLine) {ls : List (Key × V)} {vb : List (Key × Value)} {ys : List (Key × D)} (rb : KV ls vb) (rl : RpKV X.K H ls ys) : ∀ {ks : List (Key × V)} {va : List (Key × Value)} {xs : List (Key × D)}, KV ks va → RpKV X.K H ks xs →
    xs.all (kvHit ys) = true → PySem.W.KeqHits A.in1 s vb va true := by
  intro ks va xs ra
  unfold KV at ra
  induction ra generalizing xs with
  | nil => intro _ _; exact .nil
  | @cons p q ps qs h t ih =>
    intro rk hall
    cases rk with
    | @cons k v d _ ds rv rt =>
      rw [List.all_cons, Bool.and_eq_true] at hall
      obtain ⟨h1, h2⟩ := h
      obtain ⟨key, w⟩ := q
      have h1' : k = key := h1
      subst h1'
      obtain ⟨d', e', o1, o2, e3⟩ := kvHit_inv hall.1
      obtain ⟨u, eu, ru⟩ := RpKV.val rl e'
      have rr : RelO (some u) (valueAt vb k) := by rw [← eu]; exact rb.val k
      obtain ⟨y, hy, ry⟩ := rr.some_of
      obtain ⟨p1, s1⟩ := ok_parts o1
      obtain ⟨p2, s2⟩ := ok_parts o2
      obtain ⟨as, r1⟩ := Dp.reads I _ v w (Rp.dp _ v p1 rv) h2
      obtain ⟨bs, r2⟩ := Dp.reads I _ u y (Rp.dp _ u p2 ru) ry
      have eq1 := PySem.W.keq_at (A := A) r1 r2 s1 s2 hu
      have e4 : PyData.eqv d.py d'.py = true := e3
      rw [e4] at eq1
      exact .hit hy eq1 (ih rt hall.2)
theorem op_neKV {X : Cx} (hu : X.A.units + 66 < cLine) : OpR X (compareOp .NotEq) (rEqKV X.K true) := by
  intro pins s σ H x y v u Q I rx ry h
  obtain ⟨a, b, ks, ls, xs, ys, rfl, rfl, ea, eb, ra, rb, e, q⟩ := h
  obtain rfl : v = Value.ref a := rx
  obtain rfl : u = Value.ref b := ry
  obtain ⟨_, ya, va, ka, da⟩ := dk_rd I.hok ea
  obtain ⟨_, yb, vb, kb, db⟩ := dk_rd I.hok eb
  obtain ⟨e1, e2⟩ := Bool.and_eq_true_iff.mp e
  have hl : va.length = vb.length := by rw [← ka.length, ← kb.length, RpKV.len ra, RpKV.len rb]; exact of_decide_eq_true e1
  exact PySem.W.keq_ne (knd := mixKind X.prog X.w) (r := true) ya yb da db (by omega) (fun _ => hits_kv I (A := X.A) (by show X.A.units + 1 + 64 < _; omega) kb rb ka ra e2) (fin_bl I q (by simp [hl]))
theorem dCmpD_of {K : PySem.W.Frag} {neg : Bool} {fa fb : Fe} : ∀ σ H Q, teOf K (dCmpD neg fa fb) σ H Q → tOp (rEqKV K neg) (teOf K fa) (teOf K fb) σ H Q := fun σ H Q ⟨G, ρ, z, ρ', g, q, k⟩ => by
  unfold dCmpD at q
  split at q
  · rename_i ra ρ1 q1
    split at q
    · rename_i rb ρ2 q2
      split at q
      · rename_i a b q3 q4
        split at q
        · rename_i he
          cases q
          refine ⟨G, ρ, ra, ρ1, g, q1, fun x G1 H1 A1 R1 => ⟨G1, ρ1, rb, _, A1.good, q2, fun y G2 H2 A2 R2 => ?_⟩⟩
          obtain ⟨p1, v1, rfl, d1, k1⟩ := kvOf_ok A2.good (R1.aft A2) q3
          obtain ⟨p2, v2, rfl, d2, k2⟩ := kvOf_ok A2.good R2 q4
          exact ⟨p1, p2, v1, v2, a, b, rfl, rfl, d1, d2, k1.up A2.good.ex, k2.up A2.good.ex, he, k _ G2 H2 (A1.trans A2) (.bl _)⟩
        · cases q
      · cases q
    · cases q
  · cases q
section
variable {X : Cx} {a b : Expr} {fa fb : Fe} {pos : Pos}
theorem dt_neKV (hu : X.A.units + 66 < cLine) (ha : DE X a fa) (hb : DE X b fb) (hm : behindInMarks .NotEq b = false := by rfl) : DT X (.Compare a [.NotEq] [b] pos) (dTst (dCmpD true fa fb)) :=
  PT.weak (pt_cmpR (op_neKV hu) ha hb hm) fun σ H Q q => tTest_mono dCmpD_of (tTest_of σ H Q q)
end
end DL
set_option maxHeartbeats 4000000
namespace DL
open PySem PySem.Spec L2
open PyProof.Rows (envOfC)
def okPV (K : PySem.W.Frag) (H : Hp) (v : V) : Prop := ∃ b y xs, v = .ref b ∧ SqT K H b (.str y :: xs) ∧ y.length ≤ 1000
def spIniP (K : PySem.W.Frag) (C : Addr) (f : Str) : Sp := fun vs H Q _ => ∃ a v, vs = [.ref a, v] ∧ H a = some (exo a C none) ∧ okPV K H v ∧ ∀ d, H d = none → d ≠ a → Q .non (upd (upd H d (exd d [(f, v)])) a (exo a C (some d)))
structure XClsP (P : Program) (w : World) (K : PySem.W.Frag) (mg : Str → Option Value) (base : Heap) (x f : Str) (C : Addr) : Prop where
  gl : mg x = some (.ref C)
  o : OexC K C
  ini : ∃ (fI : Addr) (fd : FuncData) (ps : List Str), PySem.W.findIn K (.ref C) "__init__" = some (some (.ref fI)) ∧ PySem.W.typeIn K (.ref fI) = some (.type "function") ∧ Binds K fd ps [] ∧ FnOk P w K mg base (L2.CX P w) 1 fI fd ps (spIniP K C f)
section
variable {X : Cx} {k : Nat} {f : Addr} {fd : FuncData} {ps : List Str} {dvs : List V} {ds : List Value} {sp : Sp} {x : Str} {p pos : Pos} {e : Expr} {es : List Expr} {t : TA} {E : L2.St → XK}
end
section
variable {X : Cx} {E : XK} {k m : Nat} {ps ks : List Str} {F : FF} {Xf : FX} {dvs : List D} {x hx n : Str} {c : Value} {i : Nat} {cs : List Addr} {p p' pos pos2 posb posb2 posc pos3 np pos' : Pos} {tst e e' : Expr} {es es' : List Expr} {kws : List Keyword} {ft : Ft} {fa fa' fb : Fa} {b₀ : Stmt} {suite : List Stmt} {B : Fs}
end
end DL
set_option maxHeartbeats 2000000
namespace DL
open PySem PySem.Spec L2
open PyProof.Rows (envOfC)
mutual
def D.nk : D → Bool
  | .non => true
  | .bl _ => true
  | .int _ => true
  | .str _ => true
  | .tup xs => D.nks xs
  | .lst xs => D.nks xs
  | .ins _ _ xs => D.nks xs
  | .scr _ => true
  | .exn _ _ xs => false
  | .dk _ _ => false
  | .dt _ _ => false
  | .row _ => true
  | .ptr _ => true
def D.nks : List D → Bool
  | [] => true
  | d :: ds => d.nk && D.nks ds
end
def delH (G : Hp) (p : Addr) : Hp := fun a => if a = p then none else G a
theorem delH_ne {G : Hp} {p a : Addr} (h : a ≠ p) : delH G p a = G a := if_neg h
theorem delH_self {G : Hp} {p : Addr} : delH G p p = none := if_pos rfl
section
variable {K : PySem.W.Frag} {G : Hp} {p : Addr} {od : Obj} {ws : List (Key × V)}
mutual
theorem Rp.del (hp : G p = some (.frz od (.dK ws))) : ∀ (d : D) (v : V), d.nk = true → Rp K G v d → Rp K (delH G p) v d
  | .non, _, _, h => by cases h; exact .non
  | .bl b, _, _, h => by cases h; exact .bl b
  | .int i, _, _, h => by cases h; exact .int i
  | .str x, _, _, h => by cases h; exact .str x
  | .tup ds, _, n, h => by
    cases h with
    | @tup a _ _ h1 h2 =>
      have ne : a ≠ p := fun e => by subst e; rw [hp] at h1; cases h1
      exact .tup (by rw [delH_ne ne]; exact h1) (Rps.del hp ds _ (by rw [D.nk] at n; exact n) h2)
  | .lst ds, _, n, h => by
    cases h with
    | @lst a _ _ h1 h2 =>
      have ne : a ≠ p := fun e => by subst e; rw [hp] at h1; cases h1
      exact .lst (by rw [delH_ne ne]; exact h1) (Rps.del hp ds _ (by rw [D.nk] at n; exact n) h2)
  | .ins C ns ds, _, n, h => by
    cases h with
    | @ins a _ _ _ _ _ h1 h2 h3 =>
      have ne : a ≠ p := fun e => by subst e; rw [hp] at h1; cases h1
      exact .ins (by rw [delH_ne ne]; exact h1) (Rps.del hp ds _ (by rw [D.nk] at n; exact n) h2) h3
  | .scr ns, _, _, h => by
    cases h with
    | @scr a _ h1 =>
      refine .scr ?_
      rcases h1 with (h1 | ⟨o, h1⟩) | h1
      · have ne : a ≠ p := fun e => by subst e; rw [hp] at h1; cases h1
        exact .inl (.inl (by rw [delH_ne ne]; exact h1))
      · have ne : a ≠ p := fun e => by subst e; rw [hp] at h1; cases h1
        exact .inl (.inr ⟨o, by rw [delH_ne ne]; exact h1⟩)
      · exact .inr h1
  | .row ns, _, _, h => by
    cases h with
    | @row a _ _ h1 h2 h3 =>
      have ne : a ≠ p := fun e => by subst e; rw [hp] at h1; cases h1
      exact .row (by rw [delH_ne ne]; exact h1) h2 h3
  | .ptr a, _, _, h => by cases h; exact .ptr a
  | .exn _ _ _, _, n, _ => by rw [D.nk] at n; cases n
  | .dk _ _, _, n, _ => by rw [D.nk] at n; cases n
  | .dt _ _, _, n, _ => by rw [D.nk] at n; cases n
theorem Rps.del (hp : G p = some (.frz od (.dK ws))) : ∀ (ds : List D) (vs : List V), D.nks ds = true → Rps K G vs ds → Rps K (delH G p) vs ds
  | [], _, _, h => by cases h; exact .nil
  | d :: ds, _, n, h => by
    cases h with
    | cons h1 h2 =>
      rw [D.nks, Bool.and_eq_true] at n
      exact .cons (Rp.del hp d _ n.1 h1) (Rps.del hp ds _ n.2 h2)
end
def nkKV {κ : Type} : List (κ × D) → Bool
  | [] => true
  | x :: r => x.2.nk && nkKV r
theorem RpKV.del {κ : Type} (hp : G p = some (.frz od (.dK ws))) : ∀ {vs : List (κ × V)} {ds : List (κ × D)}, nkKV ds = true → RpKV K G vs ds → RpKV K (delH G p) vs ds
  | _, _, _, .nil => .nil
  | _, _, n, .cons h t => by
    have n2 := Bool.and_eq_true_iff.mp (show (_ && nkKV _) = true from n)
    exact .cons (Rp.del hp _ _ n2.1 h) (RpKV.del hp n2.2 t)
def Mu.nk : Mu → Bool
  | .l xs => D.nks xs
  | .k kvs => nkKV kvs
  | .t kvs => nkKV kvs
  | .w _ => false
  | .ob _ _ ds => D.nks ds
  | .at _ kvs => nkKV kvs
theorem MuOk.del {q : Addr} {o : HO} {m : Mu} (hp : G p = some (.frz od (.dK ws))) (n : m.nk = true) (h : MuOk K G q o m) : MuOk K (delH G p) q o m := by
  cases h with
  | l h => exact .l (Rps.del hp _ _ n h)
  | k h => exact .k (RpKV.del hp n h)
  | t h => exact .t (RpKV.del hp n h)
  | w _ _ => cases n
  | w0 => exact .w0
  | ob h1 h2 => exact .ob (Rps.del hp _ _ n h1) h2
  | «at» h => exact .at (RpKV.del hp n h)
end
def Sl.nk : Sl → Bool
  | .un => true
  | .fz d => d.nk
  | .ow m => m.nk
  | .rf m => m.nk
  | .bw _ => true
def kvSl : Sl → Option (List (Key × D))
  | .ow (.k kvs) => some kvs
  | .rf (.k kvs) => some kvs
  | _ => none
def dkvSl (kvs : List (Key × D)) : Sl := .fz (.dk (kvs.map (·.1)) (kvs.map (·.2)))
def isDkN : Sl → Bool
  | .fz (.dk _ ds) => D.nks ds
  | _ => false
def wasDk : Sl → Bool
  | .fz (.dk _ _) => true
  | _ => false
def nkO (r r' : Sl) : Bool := r'.nk || (wasDk r && isDkN r')
def nkL : En → En → Bool
  | r :: ρ, r' :: ρ' => nkO r r' && nkL ρ ρ'
  | _, ρ' => ρ'.all Sl.nk
def nkE2 : En → En → Nat → Bool
  | _ :: ρ, _ :: ρ', 0 => nkL ρ ρ'
  | r :: ρ, r' :: ρ', i + 1 => nkO r r' && nkE2 ρ ρ' i
  | _, ρ', _ => ρ'.all Sl.nk
theorem nkO_or {r r' : Sl} (h : nkO r r' = true) : r'.nk = true ∨ (∃ ks ds, r = .fz (.dk ks ds)) ∧ ∃ ks ds, r' = .fz (.dk ks ds) ∧ D.nks ds = true := by
  unfold nkO at h
  rcases Bool.or_eq_true_iff.mp h with h | h
  · exact .inl h
  · obtain ⟨h1, h2⟩ := Bool.and_eq_true_iff.mp h
    refine .inr ⟨?_, ?_⟩
    · cases r with
      | fz d =>
        cases d with
        | dk ks ds => exact ⟨ks, ds, rfl⟩
        | _ => cases h1
      | _ => cases h1
    · cases r' with
      | fz d =>
        cases d with
        | dk ks ds => exact ⟨ks, ds, rfl, h2⟩
        | _ => cases h2
      | _ => cases h2
theorem nkL_at : ∀ {ρ ρ' : En} {j : Nat} {r' : Sl}, nkL ρ ρ' = true → ρ'[j]? = some r' → r'.nk = true ∨ (∃ ks ds, ρ[j]? = some (.fz (.dk ks ds))) ∧ ∃ ks ds, r' = .fz (.dk ks ds) ∧ D.nks ds = true
  | [], ρ', j, r', h, e => .inl (List.all_eq_true.mp (show ρ'.all Sl.nk = true by cases ρ' <;> exact h) r' (List.mem_of_getElem? e))
  | x :: ρ, [], j, r', h, e => by simp at e
  | x :: ρ, y :: ρ', 0, r', h, e => by
    cases e
    rcases nkO_or (Bool.and_eq_true_iff.mp (show (_ && _) = true from h)).1 with q | ⟨⟨ks, ds, rfl⟩, q⟩
    · exact .inl q
    · exact .inr ⟨⟨ks, ds, rfl⟩, q⟩
  | x :: ρ, y :: ρ', j + 1, r', h, e => nkL_at (ρ := ρ) (Bool.and_eq_true_iff.mp (show (_ && _) = true from h)).2 (show ρ'[j]? = some r' from e)
theorem nkE2_at : ∀ {ρ ρ' : En} {i j : Nat} {r' : Sl}, nkE2 ρ ρ' i = true → j ≠ i → ρ'[j]? = some r' → r'.nk = true ∨ (∃ ks ds, ρ[j]? = some (.fz (.dk ks ds))) ∧ ∃ ks ds, r' = .fz (.dk ks ds) ∧ D.nks ds = true
  | [], ρ', i, j, r', h, _, e => .inl (List.all_eq_true.mp (show ρ'.all Sl.nk = true by cases ρ' <;> cases i <;> exact h) r' (List.mem_of_getElem? e))
  | x :: ρ, [], i, j, r', h, _, e => by simp at e
  | x :: ρ, y :: ρ', 0, 0, r', h, n, _ => absurd rfl n
  | x :: ρ, y :: ρ', 0, j + 1, r', h, _, e => nkL_at (ρ := ρ) (show nkL ρ ρ' = true from h) (show ρ'[j]? = some r' from e)
  | x :: ρ, y :: ρ', i + 1, 0, r', h, n, e => by
    cases e
    rcases nkO_or (Bool.and_eq_true_iff.mp (show (_ && _) = true from h)).1 with q | ⟨⟨ks, ds, rfl⟩, q⟩
    · exact .inl q
    · exact .inr ⟨⟨ks, ds, rfl⟩, q⟩
  | x :: ρ, y :: ρ', i + 1, j + 1, r', h, n, e => nkE2_at (ρ := ρ) (Bool.and_eq_true_iff.mp (show (_ && _) = true from h)).2 (by omega) (show ρ'[j]? = some r' from e)
def resNk : Sl → Bool
  | .fz d => d.nk
  | _ => false
def dStill (i : Nat) (f : Fe) : Fe := fun ρ => match ρ[i]? with
  | some r => match kvSl r with
    | some kvs => match f (ρ.set i (dkvSl kvs)) with
      | some (z, ρ') => if resNk z = true ∧ nkE2 ρ ρ' i = true then some (z, ρ'.set i r) else none
      | none => none
    | none => none
  | none => none
theorem pe_still {X : Cx} {e : Expr} {t : TE} {i : Nat} (h : PE X e t) : PE X e (fun σ H Q => ∃ p vs, σ[i]? = some (some (V.ref p)) ∧ H p = some (.dK vs) ∧ ∀ od, t σ (upd H p (.frz od (.dK vs))) fun v H' => H' p = some (.frz od (.dK vs)) ∧ Q v (upd H' p (.dK vs))) := ⟨fun pins s σ H Q I ⟨p, vs, e1, hp, q⟩ => by
  have hn : ∀ o' u', X.H_0 p ≠ some (.frz o' u') := fun o' u' z => by
    have := I.base.frzs p o' u' z
    rw [hp] at this
    cases this
  obtain ⟨od, I2⟩ := I.lock hp trivial
  refine wpAny_mono (h.run pins s σ _ _ I2 (q od)) (fun v s1 ⟨x, H1, I1, rx, hf, hq⟩ => ?_) fun _ _ z => z
  exact ⟨x, _, I1.unlock hf hn, rx, hq⟩⟩
theorem de_still {X : Cx} {e : Expr} {f : Fe} {i : Nat} (h : DE X e f) : DE X e (dStill i f) := PE.weak (pe_still (i := i) h) fun σ H Q ⟨G, ρ, z, ρ', g, q, k⟩ => by
  unfold dStill at q
  cases e0 : ρ[i]? with
  | none => rw [e0] at q; cases q
  | some r =>
    simp only [e0] at q
    cases e1 : kvSl r with
    | none => simp only [e1] at q; cases q
    | some kvs =>
      simp only [e1] at q
      cases e2 : f (ρ.set i (dkvSl kvs)) with
      | none => simp only [e2] at q; cases q
      | some y =>
        obtain ⟨z2, ρ2⟩ := y
        simp only [e2] at q
        split at q
        · rename_i hc
          cases q
          have hi : i < ρ.length := (List.getElem?_eq_some_iff.mp e0).1
          have hiσ : i < σ.length := by rw [g.len]; exact hi
          have eσ : σ[i]? = some σ[i] := List.getElem?_eq_getElem hiσ
          have held : (∃ m, r = .ow m) ∨ ∃ m, r = .rf m := by
            cases r with
            | ow m => exact .inl ⟨m, rfl⟩
            | rf m => exact .inr ⟨m, rfl⟩
            | _ => cases e1
          have sl0 : ∃ p vs, σ[i] = some (.ref p) ∧ G p = none ∧ H p = some (.dK vs) ∧ RpKV X.K G vs kvs := by
            have s := g.sl i _ _ eσ e0
            cases r with
            | ow m =>
              cases m with
              | k xs =>
                cases e1
                obtain ⟨p, o, a1, a2, a3, a4⟩ := s
                cases a4 with
                | k h => exact ⟨p, _, a1, a2, a3, h⟩
              | _ => cases e1
            | rf m =>
              cases m with
              | k xs =>
                cases e1
                obtain ⟨p, o, a1, a2, a3, a4⟩ := s
                cases a4 with
                | k h => exact ⟨p, _, a1, a2, a3, h⟩
              | _ => cases e1
            | _ => cases e1
          obtain ⟨p, vs, eσ2, gp, hp, rk⟩ := sl0
          rw [eσ2] at eσ
          have ownp : Own σ ρ i p := ⟨eσ, by rcases held with ⟨m, rfl⟩ | ⟨m, rfl⟩; exact .inl ⟨m, e0⟩; exact .inr ⟨m, e0⟩⟩
          refine ⟨p, vs, eσ, hp, fun od => ?_⟩
          obtain ⟨z1, z2', z3⟩ := rk.parts
          have rdk : Rp X.K (upd G p (.frz od (.dK vs))) (.ref p) (.dk (kvs.map (·.1)) (kvs.map (·.2))) := .dk (od := od) (by rw [upd_same, ← z1]) (z2'.up (ex_new gp)) z3
          have ownF : ∀ j a, Own σ (ρ.set i (dkvSl kvs)) j a → Own σ ρ j a ∧ j ≠ i := fun j a ⟨o1, o2⟩ => by
            have ne : j ≠ i := fun y => by
              subst y
              rcases o2 with ⟨m, o2⟩ | ⟨m, o2⟩
              · rcases getElem?_set_cases o2 with ⟨_, y⟩ | ⟨y, _⟩
                · cases y
                · exact y rfl
              · rcases getElem?_set_cases o2 with ⟨_, y⟩ | ⟨y, _⟩
                · cases y
                · exact y rfl
            rw [List.getElem?_set_ne (Ne.symm ne)] at o2
            exact ⟨⟨o1, o2⟩, ne⟩
          have g1 : Good X.K (upd G p (.frz od (.dK vs))) (upd H p (.frz od (.dK vs))) σ (ρ.set i (dkvSl kvs)) := by
            refine ⟨fun a u ea => ?_, by simpa using g.len, fun j s r' a1 a2 => ?_, fun j k' a o1 o2 => g.nd j k' a (ownF j a o1).1 (ownF k' a o2).1⟩
            · by_cases y : a = p
              · subst y
                rw [upd_same] at ea ⊢
                exact ea
              · rw [upd_ne y] at ea ⊢
                exact g.ex a u ea
            · rcases getElem?_set_cases a2 with ⟨y1, y2⟩ | ⟨y1, y2⟩
              · subst y1
                subst y2
                rw [eσ] at a1
                cases a1
                exact ⟨_, rfl, rdk⟩
              · have s' := g.sl j s r' a1 y2
                cases r' with
                | un => trivial
                | bw _ => exact s'
                | fz d =>
                  obtain ⟨v, b1, b2⟩ := s'
                  exact ⟨v, b1, b2.up (ex_new gp)⟩
                | ow m =>
                  obtain ⟨a', o, b1, b2, b3, b4⟩ := s'
                  have ne : a' ≠ p := fun y => y1 (g.nd j i p ⟨by rw [a1, b1, y], .inl ⟨m, y2⟩⟩ ownp)
                  exact ⟨a', o, b1, by rw [upd_ne ne]; exact b2, by rw [upd_ne ne]; exact b3, b4.up (ex_new gp)⟩
                | rf m =>
                  obtain ⟨a', o, b1, b2, b3, b4⟩ := s'
                  have ne : a' ≠ p := fun y => y1 (g.nd j i p ⟨by rw [a1, b1, y], .inr ⟨m, y2⟩⟩ ownp)
                  exact ⟨a', o, b1, by rw [upd_ne ne]; exact b2, by rw [upd_ne ne]; exact b3, b4.up (ex_new gp)⟩
          refine ⟨_, _, _, _, g1, e2, fun v G2 H2 A2 R2 => ?_⟩
          have gp2 : G2 p = some (.frz od (.dK vs)) := A2.ex _ _ upd_same
          have hp2 : H2 p = some (.frz od (.dK vs)) := A2.good.ex _ _ gp2
          refine ⟨hp2, k v (delH G2 p) _ ?_ ?_⟩
          · -- back again
            have ex3 : Ex G (delH G2 p) := fun a u ea => by
              have ne : a ≠ p := fun y => by rw [y, gp] at ea; cases ea
              rw [delH_ne ne]
              exact A2.ex _ _ (by rw [upd_ne ne]; exact ea)
            have own3 : ∀ j a, Own σ (ρ2.set i r) j a → (j = i ∧ a = p) ∨ (j ≠ i ∧ Own σ ρ2 j a) := fun j a ⟨o1, o2⟩ => by
              by_cases y : j = i
              · subst y
                rw [eσ] at o1
                cases o1
                exact .inl ⟨rfl, rfl⟩
              · rw [List.getElem?_set_ne (Ne.symm y)] at o2
                exact .inr ⟨y, o1, o2⟩
            have notp : ∀ j a, Own σ ρ2 j a → a ≠ p := fun j a o y => by
              obtain ⟨n1, _⟩ := Own.there A2.good o
              rw [y, gp2] at n1
              cases n1
            have l2 : ρ2.length = ρ.length := by rw [A2.len]; exact List.length_set
            refine ⟨⟨fun a u ea => ?_, by rw [List.length_set, l2]; exact g.len, fun j s r' a1 a2 => ?_, fun j k' a o1 o2 => ?_⟩, ex3, fun a o ea n => ?_, fun a o ea => ?_, fun j a o => ?_, fun j m ej => ⟨rfl, ?_⟩, by rw [List.length_set, l2]⟩
            · by_cases y : a = p
              · rw [y, delH_self] at ea; cases ea
              · rw [delH_ne y] at ea
                rw [upd_ne y]
                exact A2.good.ex _ _ ea
            · rcases getElem?_set_cases a2 with ⟨y1, y2⟩ | ⟨y1, y2⟩
              · subst y1
                subst y2
                rw [eσ] at a1
                cases a1
                have r3 : RpKV X.K (delH G2 p) vs kvs := rk.up ex3
                cases r' with
                | ow m =>
                  cases m with
                  | k xs => cases e1; exact ⟨p, _, rfl, delH_self, upd_same, .k r3⟩
                  | _ => cases e1
                | rf m =>
                  cases m with
                  | k xs => cases e1; exact ⟨p, _, rfl, delH_self, upd_same, .k r3⟩
                  | _ => cases e1
                | _ => cases e1
              · have s' := A2.good.sl j s r' a1 y2
                rcases nkE2_at hc.2 y1 y2 with nk | ⟨⟨ks0, ds0, er⟩, ks1, ds1, rfl, nk⟩
                · cases r' with
                  | un => trivial
                  | bw _ => exact s'
                  | fz d =>
                    obtain ⟨v', b1, b2⟩ := s'
                    exact ⟨v', b1, Rp.del gp2 d v' nk b2⟩
                  | ow m =>
                    obtain ⟨a', o, b1, b2, b3, b4⟩ := s'
                    have ne : a' ≠ p := fun y => by rw [y, gp2] at b2; cases b2
                    exact ⟨a', o, b1, by rw [delH_ne ne]; exact b2, by rw [upd_ne ne]; exact b3, b4.del gp2 nk⟩
                  | rf m =>
                    obtain ⟨a', o, b1, b2, b3, b4⟩ := s'
                    have ne : a' ≠ p := fun y => by rw [y, gp2] at b2; cases b2
                    exact ⟨a', o, b1, by rw [delH_ne ne]; exact b2, by rw [upd_ne ne]; exact b3, b4.del gp2 nk⟩
                · obtain ⟨v', b1, b2⟩ := s'
                  obtain ⟨v0, c1, c2⟩ := g.sl j s _ a1 er
                  rw [c1] at b1
                  cases b1
                  cases c2 with
                  | dk e1' e2' e3' =>
                    cases b2 with
                    | dk f1 f2 f3 =>
                      refine ⟨_, c1, .dk ((delH_ne fun y => ?_).trans f1) (Rps.del gp2 ds1 _ nk f2) f3⟩
                      rw [y, gp] at e1'
                      cases e1'
            · rcases own3 j a o1 with ⟨y1, y2⟩ | ⟨y1, y2⟩
              · rcases own3 k' a o2 with ⟨x1, _⟩ | ⟨x1, x2⟩
                · rw [y1, x1]
                · exact absurd y2 (notp k' a x2)
              · rcases own3 k' a o2 with ⟨x1, x2⟩ | ⟨x1, x2⟩
                · exact absurd x2 (notp j a y2)
                · exact A2.good.nd j k' a y2 x2
            · have ne : a ≠ p := fun y => n ⟨i, by rw [y]; exact ownp⟩
              obtain ⟨k1, k2⟩ := A2.keep a o (by rw [upd_ne ne]; exact ea) fun ⟨j, o'⟩ => n ⟨j, (ownF j a o').1⟩
              exact ⟨by rw [upd_ne ne]; exact k1, fun y nt => by rw [delH_ne ne]; exact k2 (by rw [upd_ne ne]; exact y) nt⟩
            · by_cases y : a = p
              · subst y; exact ⟨_, upd_same⟩
              · obtain ⟨o', eo⟩ := A2.dom a o (by rw [upd_ne y]; exact ea)
                exact ⟨o', by rw [upd_ne y]; exact eo⟩
            · rcases own3 j a o with ⟨y1, y2⟩ | ⟨y1, y2⟩
              · subst y2; exact .inl ⟨i, ownp⟩
              · rcases A2.own j a y2 with ⟨j', o'⟩ | z
                · exact .inl ⟨j', (ownF j' a o').1⟩
                · refine .inr ?_
                  rw [upd_ne (notp j a y2)] at z
                  exact z
            · by_cases y : j = i
              · subst y
                rw [e0] at ej
                cases ej
                exact ⟨m, List.getElem?_set_self (by rw [l2]; exact hi)⟩
              · obtain ⟨_, m', em⟩ := A2.rf j m (by rw [List.getElem?_set_ne (Ne.symm y)]; exact ej)
                exact ⟨m', by rw [List.getElem?_set_ne (Ne.symm y)]; exact em⟩
          · cases z with
            | fz d => exact Rp.del gp2 d v hc.1 R2
            | _ => cases hc.1
        · cases q
end DL
namespace DL
open PySem PySem.Spec L2
open PyProof.Rows (envOfC)
structure InsO (K : PySem.W.Frag) (C : Addr) : Prop where
  cls : Cls K C
  ca : PySem.W.findIn K (.ref C) "__class__" = some (some (.builtin "object.__class__"))
  cn : PySem.W.specialIn K (.builtin "object.__class__") "__get__" = some (some (.builtin "getset_descriptor.__get__"))
  ct : PySem.W.takesIn K (.builtin "object.__class__") = some true
  mo : PySem.W.mroIn K C (.type "object") = some true
  ne : PySem.W.findIn K (.ref C) "__ne__" = some (some (.builtin "object.__ne__"))
  st : PySem.W.findIn K (.ref C) "__str__" = some (some (.builtin "object.__str__"))
  fm : PySem.W.findIn K (.ref C) "__format__" = some (some (.builtin "object.__format__"))
  nf : PySem.W.notFirst K C (.ref C) = true ∧ PySem.W.notFirst K C (.type "tuple") = true ∧ PySem.W.notFirst K C (.type "str") = true ∧ PySem.W.notFirst K C (.type "int") = true
  me : PySem.W.kitOne K (.ref C) (.ref C) = some true
  ot : PySem.W.kitOne K (.type "tuple") (.ref C) = some false ∧ PySem.W.kitOne K (.type "str") (.ref C) = some false ∧ PySem.W.kitOne K (.type "int") (.ref C) = some false
theorem Vw.nl {K : PySem.W.Frag} {G H : Hp} {v : V} {d : D} (h : Vw K G H v d) (n : ∀ xs, d ≠ .lst xs) : Rp K G v d := by
  rcases h with ⟨ys, p, vs, e, _, h1, h2⟩ | h
  · exact absurd e (n _)
  · exact h
section
variable {prog : Program} {w : World} {A : Around} {E : Value → Shared → Prop} {s : Shared} {K : PySem.W.Frag} {x C f : Addr} {ox : Obj} {od : Option Obj} {b tb : Value}
end
section
variable {X : Cx} {k : Nat} {C : Addr} {fd : FuncData} {ps : List Str} {sp : Sp}
end
section
variable {X : Cx} {k : Nat} {C : Addr} {fd : FuncData} {ps : List Str} {sp : Sp}
theorem call_lenO (m : Meth X.K C "__len__" (He.ma X.K C "__len__")) (G : FnG X.prog X.w X.K X.mg X.base k (He.ma X.K C "__len__") fd ps sp) (gd : X.A.guards = some []) (hr : Room (k + 1) X.A) (hb : Binds X.K fd ps []) :
    CallR X (.builtin "len") (fun xs H Q => ∃ a dx fs, xs = [.ref a] ∧ H a = some (.ins C dx fs) ∧ sp [.ref a] H (fun v H' => ∃ n : Int, v = .int n ∧ 0 ≤ n ∧ n < 2 ^ 63 ∧ Q (.int n) H') E0) := by
  intro pins s σ H xs us Q I r ⟨a, dx, fs, ex, ha, q⟩
  subst ex
  obtain ⟨u, rfl, rx⟩ := vals1 r
  obtain rfl : u = Value.ref a := rx
  obtain ⟨mA, O, _⟩ := ins_get I.hok ha
  obtain ⟨od, J, _⟩ := O.look
  obtain ⟨m', hF⟩ := I.fr
  refine PySem.W.len_K hF I.ok.mod.kin J m.at_ m.fn ?_
  refine wpAny_mono (run_fnG (us := [.ref a]) (vs := [.ref a]) (A := X.A.in1) G gd hr.in1 rfl hb passL' I (.cons rfl .nil) q) (fun r s' z => ?_) fun _ _ e => e
  obtain ⟨w, H', I', rw', n, ew, h0, h1, qq⟩ := z
  subst ew
  obtain ⟨t, rfl⟩ := (show ∃ t, r = Value.int n t from rw')
  exact ⟨⟨h0, h1⟩, .int n, H', I'.tok _, ⟨_, rfl⟩, qq⟩
end
end DL
namespace DL
open PySem PySem.Spec L2
open PyProof.Rows (envOfC)
def dLenOb (C : Addr) (ns : List Str) (F : FF) (gs : List Nat) (i : Nat) : Fe := fun ρ => match fMethO C ns F gs i aNil ρ with
  | some (.fz (.int n), ρ') => if 0 ≤ n ∧ n < 2 ^ 63 then some (.fz (.int n), ρ') else none
  | _ => none
theorem de_lenOb {X : Cx} {k i : Nat} {C : Addr} {ns : List Str} {F : FF} {gs : List Nat} {x : Str} {o : Expr} {p pos : Pos} (D : DfMG X.prog X.w X.K X.mg X.base k C "__len__" ["self"] F 1 [] [] gs.length) (gd : X.A.guards = some []) (hr : Room (k + 1) X.A) (ho : PE X o (tVar i))
    (hx : Gl X x) (hm : X.mg x = none) (hv : bootBuiltins x = some (.builtin "len")) (hl : ("__len__" : Str) ∉ ns := by decide) (hn : x ≠ "__name__" := by decide) (hdb : (x == ("__debug__" : Str)) = false := by decide)
    (hs : starEach [o] X.env = (false, eval o X.env) :: starEach [] X.env := by rfl) (hpl : (backTo pos (starEach [] X.env)).any (·.1) = false := by rfl) :
    DE X (.Call (.Name x p) [o] [] pos) (dLenOb C ns F gs i) := by
  obtain ⟨fd, vs, h1, h2, h3, h4⟩ := D
  obtain ⟨ds, v1, v2⟩ := h2.less
  have e0 : vs = [] := by
    have := h3 (fun _ => none)
    cases this
    rfl
  subst e0
  cases v1
  refine PE.weak (pe_callB (call_lenO h1 h4 gd hr v2) hx hm hv (pa_cons ho pa_nil hs) hn hdb hs hpl) fun σ H Q ⟨G, ρ, z, ρ', g, q, k⟩ => ?_
  unfold dLenOb at q
  split at q
  · rename_i n ρ1 q1
    split at q
    · rename_i hb
      cases q
      obtain ⟨v, e1, a, dx, fs, ex, ea, lk, q2⟩ := fMethO_of (n := 1) (E := E0) hl (fun ρ rs ρ' q => by cases q; rfl) σ H (fun v H' => ∃ n : Int, v = .int n ∧ 0 ≤ n ∧ n < 2 ^ 63 ∧ Q (.int n) H') ⟨G, ρ, _, _, g, q1, fun v G1 H1 A1 R1 => ⟨n, Rp.of_int R1, hb.1, hb.2, k _ G1 H1 A1 (.int _)⟩⟩
      subst ex
      obtain ⟨G2, ρ2, rs, ρ3, g2, q3, k3⟩ := q2
      cases q3
      exact ⟨.ref a, e1, a, dx, fs, rfl, ea, k3 [] G2 H (Aft.refl g2) .nil⟩
    · cases q
  · cases q
def tFin (tb tf : TS) : TS := fun D σ H => tb { nx := fun σ1 H1 => tf D σ1 H1, rt := fun _ _ => False } σ H
theorem ps_fin {X : Cx} {b₀ f₀ : Stmt} {bs fs : List Stmt} {pos : Pos} {tb tf : TS} (hb : PSs X.nox (b₀ :: bs) tb) (hf : PSs X.nox (f₀ :: fs) tf) : PS X (.Try (b₀ :: bs) [] [] (f₀ :: fs) pos) (tFin tb tf) := by
  refine ⟨fun pins s σ H D I h => ?_⟩
  refine wpAny_Try_finally (wpAny_mono (hb.run pins s σ H _ (I.wish _) h) (fun f s1 z => ?_) fun _ _ z => False.elim z)
  have z' : SP X pins { nx := fun σ1 H1 => tf D σ1 H1, rt := fun _ _ => False } f s1 := z.unwish
  cases f with
  | next =>
    obtain ⟨σ1, H1, I1, q1⟩ := z'
    refine wpAny_execs_nil ?_
    refine wpAny_mono (hf.run pins s1 σ1 H1 D (I1.wish _) q1) (fun g s2 q => ?_) fun _ _ z => False.elim z
    have q' : SP X pins D g s2 := q.unwish
    cases g with
    | next => exact q'
    | ret w2 => exact q'
    | brk => exact q'
    | cont => exact q'
  | brk => obtain ⟨_, _, _, q⟩ := z'; exact q.elim
  | cont => obtain ⟨_, _, _, q⟩ := z'; exact q.elim
  | ret u => obtain ⟨_, _, _, _, _, q⟩ := z'; exact q.elim
def bFin (A B : Fs) : Fs := fun ρ => match A ρ with
  | some (.nx, ρ1) => B ρ1
  | _ => none
theorem ds_fin {X : Cx} {E : XK} {b₀ f₀ : Stmt} {bs fs : List Stmt} {pos : Pos} {A B : Fs} (hb : DB X.nox E0 (b₀ :: bs) A) (hf : DB X.nox E (f₀ :: fs) B) : DS X E (.Try (b₀ :: bs) [] [] (f₀ :: fs) pos) (bFin A B) :=
  PS.weak (ps_fin hb hf) fun D σ H ⟨G, ρ, fl, ρ', g, q, k⟩ => by
    unfold bFin at q
    split at q
    · rename_i ρ1 q1
      refine ⟨G, ρ, .nx, ρ1, g, q1, fun σ1 G1 H1 A1 => ?_⟩
      exact ⟨G1, ρ1, fl, ρ', A1.good, q, fun σ2 G2 H2 A2 => (k σ2 G2 H2 (A1.trans A2)).start A1.dom⟩
    · cases q
end DL
namespace DL
open PySem PySem.Spec L2
open PyProof.Rows (envOfC)
section
variable {P : Program} {w : World} {K : PySem.W.Frag} {mg : Str → Option Value} {base : Heap}
end
end DL
namespace DL
open PySem PySem.Spec L2
open PyProof.Rows (envOfC)
def srcT : Src → TE
  | .a j => tVar (j + 1)
  | .d _ => tDNewK
  | .n => tC .non
def iniT (K : PySem.W.Frag) : List (Str × Src) → TS
  | [] => tNext
  | (f, s) :: r => tSeq (sFld K (tVar 0) (srcT s) f) (iniT K r)
def iniOk : List (Str × Src) → Nat → Nat → Nat → Bool
  | [], _, g, k => g == k
  | (_, .a j) :: r, n, g, k => decide (j < n) && iniOk r n g k
  | (_, .d j) :: r, n, g, k => (j == k) && iniOk r n g (k + 1)
  | (_, .n) :: r, n, g, k => iniOk r n g k
theorem putF_new {f : Str} {v : V} : ∀ {fs : List (Str × V)}, f ∉ fs.map (·.1) → putF f v fs = fs ++ [(f, v)]
  | [], _ => rfl
  | (g, x) :: r, h => by
    rw [List.map_cons, List.mem_cons] at h
    show (if g = f then _ else _) = _
    rw [if_neg fun e => h (.inl e.symm), putF_new fun z => h (.inr z)]
    rfl
theorem addD_snoc : ∀ (qs : List Addr) (H : Hp) (q : Addr), addD H (qs ++ [q]) = upd (addD H qs) q (.dK [])
  | [], _, _ => rfl
  | x :: qs, H, q => addD_snoc qs (upd H x (.dK [])) q
theorem addD_none {H : Hp} {qs : List Addr} {a : Addr} (h : addD H qs a = none) : a ∉ qs ∧ H a = none := by
  by_cases m : a ∈ qs
  · rw [addD_in m] at h; cases h
  · exact ⟨m, by rwa [addD_ne m] at h⟩
theorem iniT_run {K : PySem.W.Frag} {C dx x : Addr} {H0 : Hp} {us : List V} {ns : List Str} {src : List Src} {g : Nat} {D : Ends} {σ : L2.St} (c : InsC K C ns) (hn : ns.Nodup) (hl : ns.length ≤ 900) (h0 : σ[0]? = some (some (.ref x))) (hs : ∀ j < us.length, σ[j + 1]? = some (some (us.getD j .non)))
    (fin : ∀ qs : List Addr, qs.length = g → qs.Nodup → (∀ q ∈ qs, H0 q = none) → D.nx σ (upd (addD H0 qs) x (.ins C dx (ns.zip (mkV us (qs.map V.ref) src))))) (hx0 : (H0 x).isSome) :
    ∀ (r : List (Str × Src)) (dn : List (Str × Src)) (vals : List V) (qs : List Addr), (dn ++ r).map (·.1) = ns → (dn ++ r).map (·.2) = src → vals.length = dn.length → iniOk r us.length g qs.length = true → qs.Nodup → (∀ q ∈ qs, H0 q = none) →
      (∀ qt : List Addr, mkV us ((qs ++ qt).map V.ref) (dn.map (·.2)) = vals) → iniT K r D σ (upd (addD H0 qs) x (.ins C dx ((dn.map (·.1)).zip vals)))
  | [], dn, vals, qs, e1, e2, lv, ok, nd, fr_, hv => by
    rw [List.append_nil] at e1 e2
    have hg : g = qs.length := by
      have : (g == qs.length) = true := ok
      exact beq_iff_eq.mp this
    show D.nx σ _
    have := fin qs hg.symm nd fr_
    have h2 := hv []
    rw [List.append_nil, e2] at h2
    rw [h2] at this
    rw [e1]
    exact this
  | (f, s) :: r, dn, vals, qs, e1, e2, lv, ok, nd, fr_, hv => by
    have e1' : (dn ++ [(f, s)] ++ r).map (·.1) = ns := by rw [List.append_assoc]; exact e1
    have e2' : (dn ++ [(f, s)] ++ r).map (·.2) = src := by rw [List.append_assoc]; exact e2
    have fm : f ∈ ns := by rw [← e1]; simp
    have fnew : f ∉ (dn.map (·.1)) := by
      rw [← e1, List.map_append, List.map_cons] at hn
      have := (List.nodup_append.mp hn).2.2
      exact fun m => this f m f List.mem_cons_self rfl
    have keys : ((dn.map (·.1)).zip vals).map (·.1) = dn.map (·.1) := by
      rw [List.map_fst_zip (by rw [List.length_map]; omega)]
    have lz : ((dn.map (·.1)).zip vals).length < 1000 := by
      rw [List.length_zip, List.length_map, lv, Nat.min_self]
      have := congrArg List.length e1
      rw [List.length_map, List.length_append, List.length_cons] at this
      omega
    have step : ∀ (v : V) (qs' : List Addr), qs'.Nodup → (∀ q ∈ qs', H0 q = none) → iniOk r us.length g qs'.length = true → (∀ qt : List Addr, mkV us ((qs' ++ qt).map V.ref) ((dn ++ [(f, s)]).map (·.2)) = vals ++ [v]) →
        iniT K r D σ (upd (upd (addD H0 qs') x (.ins C dx ((dn.map (·.1)).zip vals))) x (.ins C dx (putF f v ((dn.map (·.1)).zip vals)))) := fun v qs' nd' fr' ok' hv' => by
      rw [upd_upd, putF_new (by rw [keys]; exact fnew)]
      have ez : (dn.map (·.1)).zip vals ++ [(f, v)] = ((dn ++ [(f, s)]).map (·.1)).zip (vals ++ [v]) := by
        rw [List.map_append, List.zip_append (by rw [List.length_map]; omega)]
        rfl
      rw [ez]
      exact iniT_run c hn hl h0 hs fin hx0 r (dn ++ [(f, s)]) (vals ++ [v]) qs' e1' e2' (by simp [lv]) ok' nd' fr' hv'
    have mkSnoc : ∀ (us' qv : List V) (l : List Src) (s : Src), mkV us' qv (l ++ [s]) = mkV us' qv l ++ mkV us' qv [s] := fun us' qv l s => by
      induction l with
      | nil => rfl
      | cons a l ih => cases a <;> (show _ :: mkV us' qv (l ++ [s]) = _ :: (mkV us' qv l ++ _); rw [ih])
    cases s with
    | a j =>
      obtain ⟨o1, o2⟩ := Bool.and_eq_true_iff.mp (show (decide (j < us.length) && iniOk r us.length g qs.length) = true from ok)
      have hj := of_decide_eq_true o1
      refine ⟨us.getD j .non, hs j hj, .ref x, h0, x, C, dx, _, rfl, upd_same, c.cls, c.no f fm, lz, ?_⟩
      refine step _ qs nd fr_ o2 fun qt => ?_
      rw [show (dn ++ [(f, Src.a j)]).map (·.2) = dn.map (·.2) ++ [Src.a j] by rw [List.map_append]; rfl, mkSnoc, hv qt]
      rfl
    | n =>
      refine ⟨.ref x, h0, x, C, dx, _, rfl, upd_same, c.cls, c.no f fm, lz, ?_⟩
      refine step .non qs nd fr_ ok fun qt => ?_
      rw [show (dn ++ [(f, Src.n)]).map (·.2) = dn.map (·.2) ++ [Src.n] by rw [List.map_append]; rfl, mkSnoc, hv qt]
      rfl
    | d j =>
      obtain ⟨o1, o2⟩ := Bool.and_eq_true_iff.mp (show ((j == qs.length) && iniOk r us.length g (qs.length + 1)) = true from ok)
      have hj : j = qs.length := beq_iff_eq.mp o1
      intro p hp
      have pne : p ≠ x := fun e => by rw [e, upd_same] at hp; cases hp
      rw [upd_ne pne] at hp
      obtain ⟨pq, p0⟩ := addD_none hp
      refine ⟨.ref x, h0, x, C, dx, (dn.map (·.1)).zip vals, rfl, by rw [upd_ne (Ne.symm pne), upd_same], c.cls, c.no f fm, lz, ?_⟩
      have comm : upd (upd (addD H0 qs) x (.ins C dx ((dn.map (·.1)).zip vals))) p (.dK []) = upd (addD H0 (qs ++ [p])) x (.ins C dx ((dn.map (·.1)).zip vals)) := by
        rw [addD_snoc]
        funext b
        by_cases hb : b = p
        · subst hb
          rw [upd_same, upd_ne pne, upd_same]
        · rw [upd_ne hb]
          by_cases hx : b = x
          · subst hx; rw [upd_same, upd_same]
          · rw [upd_ne hx, upd_ne hx, upd_ne hb]
      rw [comm]
      refine step (.ref p) (qs ++ [p]) ?_ (fun q hq => ?_) (by rw [List.length_append]; exact o2) fun qt => ?_
      · refine List.nodup_append.mpr ⟨nd, List.nodup_cons.mpr ⟨fun h => (nomatch h), List.nodup_nil⟩, fun a ha b hb => ?_⟩
        rw [List.mem_singleton.mp hb]
        exact fun e => pq (by rw [← e]; exact ha)
      · rcases List.mem_append.mp hq with m | m
        · exact fr_ q m
        · rw [List.mem_singleton.mp m]; exact p0
      · rw [show (dn ++ [(f, Src.d j)]).map (·.2) = dn.map (·.2) ++ [Src.d j] by rw [List.map_append]; rfl, mkSnoc, List.append_assoc, hv ([p] ++ qt)]
        show vals ++ [((qs ++ ([p] ++ qt)).map V.ref).getD j .non] = _
        rw [hj]
        simp
section
variable {P : Program} {w : World} {K : PySem.W.Frag} {mg : Str → Option Value} {base : Heap}
theorem mkO {x qual : Str} {st : Stmt} {fd : FuncData} {N ps : List Str} {ns : List Str} {src : List Src} {n g : Nat} {kws : List (Str × V)} {dvs : List D} (c : InsC K (He.ga K x) ns) (gl : mg x = some (.ref (He.ga K x))) (F : FunD K "__init__" qual (defArgs st) (defBody st) (defScope st) [] kws (He.ma K (He.ga K x) "__init__") fd) (S : FnScope N ps (defScope st)) (hps : ps.length = n + 1) (hN : N.length = ps.length)
    (hbd : ∃ ds, Vals (kws.map (·.2)) ds ∧ Binds K fd ps ds) (hd : ∀ G, Rps K G (kws.map (·.2)) dvs) (hn : ns.Nodup) (hl : ns.length ≤ 900) (hln : ns.length = src.length) (ok : iniOk (ns.zip src) n g 0 = true)
    (hb : ∀ (cdv : Value) (A : Around) (outer : List Env) (s : Shared) (H : Hp) (E : XK), PSs (cxOf (L2.CX P w) P w K mg base N qual (defScope st) (He.ma K (He.ga K x) "__init__") cdv A outer s H E) (defBody st) (iniT K (ns.zip src))) :
    MkO P w K mg base x (He.ga K x) ns src n g dvs := by
  obtain ⟨ds, v1, v2⟩ := hbd
  refine ⟨gl, c, fd, ps, kws.map (·.2), ds, v1, v2, hd, FunD.ok (k := 0) F S (fun vs H Q E h => ?_) fun cdv A outer s H vs Q E hr hsp => ⟨_, hb cdv A outer s H E, ?_⟩⟩
  · obtain ⟨x', dx, us, rfl, hu, _⟩ := h
    rw [List.length_cons, hu, hps]
  · obtain ⟨x', dx, us, rfl, hu, hx, q⟩ := hsp
    have est : start N (V.ref x' :: us) = (V.ref x' :: us).map some := by
      unfold L2.start
      have : N.length - (V.ref x' :: us).length = 0 := by rw [List.length_cons, hu, hN, hps]; omega
      rw [this]
      simp
    have hH : upd H x' (.ins (He.ga K x) dx ((([] : List (Str × Src)).map (·.1)).zip [])) = H := by
      funext b
      by_cases hb' : b = x'
      · subst hb'; rw [upd_same, hx]; rfl
      · rw [upd_ne hb']
    have key := iniT_run (K := K) (C := He.ga K x) (dx := dx) (x := x') (H0 := H) (us := us) (ns := ns) (src := src) (g := g) (D := { nx := fun _ H' => Q .non H', rt := Q }) (σ := start N (V.ref x' :: us)) c hn hl (by rw [est]; rfl) (fun j hj => by
      rw [est, List.map_cons, List.getElem?_cons_succ, List.getElem?_map, List.getD_eq_getElem?_getD, List.getElem?_eq_getElem hj]
      rfl) (fun qs a b c => q qs a b c) (by rw [hx]; rfl) (ns.zip src) [] [] [] (by rw [List.nil_append, List.map_fst_zip (by omega)]) (by rw [List.nil_append, List.map_snd_zip (by omega)]) rfl (by rw [hu]; exact ok) List.nodup_nil (fun _ h => nomatch h) (fun qt => rfl)
    rw [show addD H [] = H from rfl, hH] at key
    exact key
theorem dfMkMG {x m qual : Str} {st : Stmt} {fd : FuncData} {N ps : List Str} {k g n : Nat} {B : Fs} {kws : List (Str × V)} {dvs : List D} (F : FunD K m qual (defArgs st) (defBody st) (defScope st) [] kws (He.ma K (He.ga K x) m) fd) (me : Meth K (He.ga K x) m (He.ma K (He.ga K x) m)) (S : FnScope N ps (defScope st)) (hle : ps.length + g ≤ N.length) (hg : ∀ z ∈ (N.drop ps.length).take g, (defScope st).names.lookup z = none)
    (hbd : BindsK K fd ps n (kws.map (·.1)) (kws.map (·.2))) (hd : ∀ G, Rps K G (kws.map (·.2)) dvs)
    (hb : ∀ (cdv : Value) (A : Around) (outer : List Env) (s : Shared) (H : Hp), A.guards = some [] → Room k (A.deeper (envOfC qual (defScope st) s.heap.objs.size (He.ma K (He.ga K x) m) cdv)) → DB (cxOf (L2.CX P w) P w K mg base N qual (defScope st) (He.ma K (He.ga K x) m) cdv A outer s H E0).nox E0 (defBody st) B) :
    DfMG P w K mg base (k + 1) (He.ga K x) m ps (runF (N.length - ps.length - g) B) n (kws.map (·.1)) dvs g := ⟨fd, _, me, hbd, hd, okFGh F S hle hg hb⟩
theorem bindsK0 {y qual : Str} {st : Stmt} {fd : FuncData} {f : Addr} {ps : List Str} (F : FunD K y qual (defArgs st) (defBody st) (defScope st) [] [] f fd)
    (hbind : ∀ (kV doc pm : Value) (an : Option Addr) (cdv ct : Value) (us : List Value), us.length = ps.length → bindArgs (PySem.W.fnOf y qual (defArgs st) (defBody st) (defScope st) .none kV doc pm an cdv ct) ⟨us, []⟩ = pure (ps.zip us)) : BindsK K fd ps ps.length [] [] := by
  have b0 := FunD.bindsN F hbind
  refine ⟨⟨[], .nil, b0⟩, fun s us ws hK l1 l2 => ?_⟩
  have : ws = [] := List.eq_nil_of_length_eq_zero l2
  subst this
  exact b0 s us hK (by rw [List.append_nil]; exact l1)
theorem bindsKk {y qual : Str} {st : Stmt} {fd : FuncData} {f : Addr} {ps : List Str} {kws : List (Str × V)} (n : Nat) (F : FunD K y qual (defArgs st) (defBody st) (defScope st) [] kws f fd) (hk : kws ≠ []) (hn : n + kws.length = ps.length)
    (hless : ∀ (D : Addr) (doc pm : Value) (an : Option Addr) (cdv ct : Value) (us ks : List Value), us.length = n → ks.length = kws.length →
      KwChain D ((kws.map (·.1)).zip ks) (bindArgs (PySem.W.fnOf y qual (defArgs st) (defBody st) (defScope st) .none (.ref D) doc pm an cdv ct) ⟨us, []⟩) (ps.zip (us ++ ks)))
    (hall : ∀ (kV doc pm : Value) (an : Option Addr) (cdv ct : Value) (us ws : List Value), us.length = n → ws.length = kws.length → bindArgs (PySem.W.fnOf y qual (defArgs st) (defBody st) (defScope st) .none kV doc pm an cdv ct) ⟨us, (kws.map (·.1)).zip ws⟩ = pure (ps.zip (us ++ ws))) :
    BindsK K fd ps n (kws.map (·.1)) (kws.map (·.2)) := by
  obtain ⟨ds, v1, v2⟩ := FunD.binds0 F n hk hn hless
  refine ⟨⟨ds, v1, v2⟩, fun s us ws _ l1 l2 => ?_⟩
  obtain ⟨oc, od, dV, kV, doc, pm, an, cdv, ct, osl, rfl, lk, hcd, hD, hK⟩ := F.ex
  rw [List.length_map] at l2
  rcases hD with ⟨_, rfl⟩ | ⟨e, _⟩
  · exact .of_eq (hall kV doc pm an cdv ct us ws l1 l2)
  · exact absurd rfl e
def DfL (P : Program) (w : World) (K : PySem.W.Frag) (mg : Str → Option Value) (base : Heap) (k : Nat) (x : Str) (ps : List Str) (F : FF) (g : Nat) : Prop :=
  ∃ f fd, mg x = some (.ref f) ∧ PySem.W.keepIn K (.ref f) = true ∧ Binds K fd ps [] ∧ FnG P w K mg base k f fd ps (spDG K ps.length g F)
theorem dfMkL {x : Str} {st : Stmt} {fd : FuncData} {N ps : List Str} {k g : Nat} {B : Fs} (F : FunD K x x (defArgs st) (defBody st) (defScope st) [] [] (He.fAd K (x, none)) fd) (gl : mg x = some (.ref (He.ga K x))) (S : FnScope N ps (defScope st)) (hle : ps.length + g ≤ N.length) (hg : ∀ z ∈ (N.drop ps.length).take g, (defScope st).names.lookup z = none)
    (hbind : ∀ (kV doc pm : Value) (an : Option Addr) (cdv ct : Value) (us : List Value), us.length = ps.length → bindArgs (PySem.W.fnOf x x (defArgs st) (defBody st) (defScope st) .none kV doc pm an cdv ct) ⟨us, []⟩ = pure (ps.zip us))
    (hb : ∀ (cdv : Value) (A : Around) (outer : List Env) (s : Shared) (H : Hp), A.guards = some [] → Room k (A.deeper (envOfC x (defScope st) s.heap.objs.size (He.fAd K (x, none)) cdv)) → DB (cxOf (L2.CX P w) P w K mg base N x (defScope st) (He.fAd K (x, none)) cdv A outer s H E0).nox E0 (defBody st) B) :
    DfL P w K mg base (k + 1) x ps (runF (N.length - ps.length - g) B) g := ⟨_, fd, gl, F.kp, FunD.bindsN F hbind, okFGh F S hle hg hb⟩
end
theorem de_callL {X : Cx} {k : Nat} {ps : List Str} {F : FF} {gs : List Nat} {x : Str} {p pos : Pos} {e : Expr} {es : List Expr} {fa : Fa} (D : DfL X.prog X.w X.K X.mg X.base k x ps F gs.length) (gd : X.A.guards = some []) (hr : Room k X.A) (hg : Gl X x) (ha : DA X (e :: es) fa) (hc : Cnt fa ps.length)
    (hdb : (x == ("__debug__" : Str)) = false := by decide) (he : starEach (e :: es) X.env = (false, eval e X.env) :: starEach es X.env := by rfl) (hpl : (backTo pos (starEach es X.env)).any (·.1) = false := by rfl) :
    DE X (.Call (.Name x p) (e :: es) [] pos) (fCallM F gs fa) := by
  obtain ⟨f, fd, h1, h2, h3, h4⟩ := D
  exact PE.weak (pe_callG (F := E0) h4 gd hr hg h1 h2 h3 passL' ha hdb he hpl) (tCallM_of hc.len)
end DL
namespace DL
open PySem PySem.Spec L2
theorem hu66 {k : Nat} {A : Around} (h : Room k A) : A.units + 66 < cLine := by have := h.un; omega
theorem ghs_ok {N : List Str} (sc : Scope) {gs : List Nat} (h : (gs.all fun g => match N[g]? with | some z => (sc.names.lookup z).isNone | none => true) = true) : ∀ g ∈ gs, ∀ z, N[g]? = some z → sc.names.lookup z = none := fun g m z e => by
  have := List.all_eq_true.mp h g m
  rw [e] at this
  exact Option.isNone_iff_eq_none.mp this
end DL
namespace DL
open PySem PySem.Spec L2
def RetE (z : Sl) (es ρ : En) : Fl → En → Prop := fun fl ρe => (match fl with
  | .rt x => resolve ρe x = some z
  | .nx => z = .fz .non
  | _ => False) ∧ fin ρ ρe = es
theorem fn_eq {B : Fs} {k : Nat} {ρ es : En} {z : Sl} (h : Run B (ρ ++ List.replicate k .un) (RetE z es ρ)) : runF k B ρ = some (z, es) := by
  obtain ⟨fl, ρe, e, q, q0⟩ := h
  unfold runF
  rw [e]
  cases fl with
  | rt x =>
    have q' : resolve ρe x = some _ := q
    unfold endF
    simp only [q', q0]
  | nx =>
    have q' : _ = Sl.fz .non := q
    unfold endF
    simp only [q', q0]
  | bk => exact q.elim
  | ct => exact q.elim
  | ex _ _ _ => exact q.elim
section
variable {A B C : Fs} {f fo fk fv fa' fb : Fe} {t : Ft} {fa : Fa} {ρ ρ1 ρ2 ρ3 es : En} {i g : Nat} {d v : D} {r z : Sl} {Q : Fl → En → Prop} {F : FF} {gs : List Nat} {rs qs : List Sl} {Ca : Addr} {ns : List Str} {ds ds' : List D} {q : Addr} {kvs : List (Key × D)} {fld : Str}
theorem run_rtE {ρ0 : En} (h : f ρ = some (r, ρ1)) (q1 : resolve ρ1 r = some z) (q2 : fin ρ0 ρ1 = es) : Run (bSeq (bRet f) C) ρ (RetE z es ρ0) :=
  run_out (fl := .rt r) (by unfold bRet; simp only [h]) (by intro h; cases h) ⟨q1, q2⟩
theorem run_nxE {ρ0 : En} (q2 : fin ρ0 ρ = es) : Run bNext ρ (RetE (.fz .non) es ρ0) := ⟨.nx, ρ, rfl, rfl, q2⟩
theorem ev_ob (h : heldM ρ[i]? = some (.ob Ca ns ds)) (hf : fldD ns ds fld = some d) : eFldO Ca ns fld i ρ = some (.fz d, ρ) := by
  unfold eFldO
  simp only [h, hf]
  rw [if_pos ⟨trivial, trivial⟩]
theorem ev_pt (h : heldM ρ[i]? = some (.ob Ca ns ds)) (hf : fldD ns ds fld = some (.ptr q)) (hg : heldM ρ[g]? = some (.at q kvs)) : ePt Ca ns fld i g ρ = some (.bw g, ρ) := by
  unfold ePt
  rw [ev_ob h hf]
  show (match heldM ρ[g]? with | some (.at q' _) => if q' = q then some (Sl.bw g, ρ) else none | _ => none) = _
  rw [hg]
  exact if_pos rfl
theorem ev_viaGet (ho : fo ρ = some (.bw g, ρ)) (hh : heldM ρ[g]? = some (.at q kvs)) (hk : fk ρ = some (.fz d, ρ)) (hg : mGet (.at q kvs) d = some (some v)) : viaE fo (fun n => dDGet n fk) ρ = some (.fz v, ρ) := by
  unfold viaE
  rw [ho]
  show dDGet g fk ρ = _
  exact ev_dget (by rw [hh]; rfl) hk rfl hh hg
theorem ev_viaIn {neg : Bool} {o : Option D} (hk : fk ρ = some (.fz d, ρ)) (ho : fo ρ = some (.bw g, ρ)) (hh : heldM ρ[g]? = some (.at q kvs)) (hg : mGet (.at q kvs) d = some o) : viaIn neg fk fo ρ = some (.fz (.bl (neg ^^ o.isSome)), ρ) := by
  unfold viaIn
  simp only [hk, ho, hh, hg, rd]
theorem run_ost (hv : fv ρ = some (r, ρ1)) (hq : fr ρ1 r = some (v, ρ2)) (h : heldM ρ2[i]? = some (.ob Ca ns ds)) (hs : setFD ns ds fld v = some ds') (hl : decide (ns.length ≤ 100) = true) (k : Run B (putS ρ2 i (.ob Ca ns ds')) Q) : Run (bSeq (bOst Ca ns fld i fv) B) ρ Q :=
  run_seq (by
    unfold bOst
    rw [ev_fr hv hq]
    simp only [h, hs]
    rw [if_pos ⟨⟨trivial, trivial⟩, of_decide_eq_true hl⟩]) k
theorem run_dputE {m' : Mu} (hv : fv ρ = some (r, ρ1)) (hq : fr ρ1 r = some (v, ρ2)) (ho : fo ρ2 = some (.bw g, ρ2)) (hk : fk ρ2 = some (.fz d, ρ2)) (hh : heldM ρ2[g]? = some (.at q kvs)) (hp : mPut (.at q kvs) d v = some m') (k : Run B (putS ρ2 g m') Q) : Run (bSeq (bDPutE fo fk fv) B) ρ Q :=
  run_seq (by
    unfold bDPutE
    rw [ev_fr hv hq]
    simp only [ho, hk, hh, hp, rd]) k
theorem run_fin (ha : A ρ = some (.nx, ρ1)) (hb : B ρ1 = some (.nx, ρ2)) (k : Run C ρ2 Q) : Run (bSeq (bFin A B) C) ρ Q :=
  run_seq (by unfold bFin; rw [ha]; exact hb) k
theorem run_nx (h : Run A ρ fun fl ρ' => fl = .nx ∧ ρ' = ρ1) : A ρ = some (.nx, ρ1) := by
  obtain ⟨fl, ρ', e, rfl, rfl⟩ := h
  exact e
theorem ev_callM (ha : fa ρ = some (rs, ρ1)) (hn : (bwL (rs ++ gs.map .bw)).Nodup) (hl : lendL ρ1 (rs ++ gs.map .bw) = some qs) (hF : F qs = some (z, es)) (hb : backS ρ1 (rs ++ gs.map .bw) es = some ρ2) (hr : isRes z = true) : fCallM F gs fa ρ = some (z, ρ2) := by
  unfold fCallM
  simp only [ha, hl, hF, hr, hb]
  rw [if_pos hn, if_pos trivial]
theorem ev_methO (hi : heldM ρ[i]? = some (.ob Ca ns ds)) (ha : fa ρ = some (rs, ρ1)) (hn : (bwL (.bw i :: rs ++ gs.map .bw)).Nodup) (hl : lendL ρ1 (.bw i :: rs ++ gs.map .bw) = some qs) (hF : F qs = some (z, es)) (hb : backS ρ1 (.bw i :: rs ++ gs.map .bw) es = some ρ2) (hr : isRes z = true) : fMethO Ca ns F gs i fa ρ = some (z, ρ2) := by
  unfold fMethO
  rw [hi]
  show (if Ca = Ca ∧ ns = ns then _ else _) = _
  rw [if_pos ⟨rfl, rfl⟩]
  exact ev_callM (ar_cons (held_var hi) ha) hn hl hF hb hr
theorem ev_lenOb {n : Int} (h : fMethO Ca ns F gs i aNil ρ = some (.fz (.int n), ρ1)) (h0 : 0 ≤ n) (h1 : n < 2 ^ 63) : dLenOb Ca ns F gs i ρ = some (.fz (.int n), ρ1) := by
  unfold dLenOb
  rw [h]
  exact if_pos ⟨h0, h1⟩
theorem ev_lenD (h : f ρ = some (r, ρ1)) (hk : kvOf ρ1 r = some kvs) : dLenD f ρ = some (.fz (.int kvs.length), ρ1) := by
  unfold dLenD
  simp only [h, hk]
theorem ev_dictD (h : f ρ = some (r, ρ1)) (hk : kvOf ρ1 r = some kvs) : dDictD f ρ = some (.ow (.k kvs), ρ1) := by
  unfold dDictD
  simp only [h, hk]
theorem ev_sortK {ks : List Str} (h : f ρ = some (r, ρ1)) (hk : kvOf ρ1 r = some kvs) (ht : ktxt (kvs.map (·.1)) = some ks) (hl : ks.length < 64) : dSortK f ρ = some (.ow (.l ((sortS ks).map .str)), ρ1) := by
  unfold dSortK
  simp only [h, hk, ht]
  exact if_pos hl
theorem ev_cmpD {neg : Bool} {ra rb : Sl} {a b : List (Key × D)} (ha : fa' ρ = some (ra, ρ1)) (hb : fb ρ1 = some (rb, ρ2)) (h1 : kvOf ρ2 ra = some a) (h2 : kvOf ρ2 rb = some b) (he : eqKVs a b = true) : dCmpD neg fa' fb ρ = some (.fz (.bl (!neg)), ρ2) := by
  unfold dCmpD
  simp only [ha, hb, h1, h2]
  exact if_pos he
theorem ev_still {kvs' : List (Key × D)} (h : ρ[i]? = some r) (hk : kvSl r = some kvs') (hf : f (ρ.set i (dkvSl kvs')) = some (z, ρ1)) (hz : resNk z = true) (hn : nkE2 ρ ρ1 i = true) : dStill i f ρ = some (z, ρ1.set i r) := by
  unfold dStill
  simp only [h, hk, hf]
  rw [if_pos ⟨hz, hn⟩]
end
section
variable {κ ν : Type} [DecidableEq κ] {ek : κ → Key} {ev : ν → D} {q : Addr}
theorem mget_at {f : κ → D} (hf : ∀ k, kOf (f k) = some (ek k)) (hi : ∀ a b, ek a = ek b → a = b) (kvs : List (κ × ν)) (k : κ) : mGet (.at q (mapKV ek ev kvs)) (f k) = some ((getK kvs k).map ev) := by
  show (kOf (f k)).map _ = _
  rw [hf, Option.map_some, valD_map hi]
theorem mput_at {f : κ → D} (hf : ∀ k, kOf (f k) = some (ek k)) (hi : ∀ a b, ek a = ek b → a = b) {kvs : List (κ × ν)} {k : κ} {v : ν} (hl : kvs.length ≤ lim) : mPut (.at q (mapKV ek ev kvs)) (f k) (ev v) = some (.at q (mapKV ek ev (putK' kvs k v))) := by
  show (if (mapKV ek ev kvs).length ≤ lim then _ else _) = _
  rw [if_pos (by unfold mapKV; rw [List.length_map]; exact hl), hf, Option.map_some, putD_map hi]
theorem mput_k' {f : κ → D} (hf : ∀ k, kOf (f k) = some (ek k)) (hi : ∀ a b, ek a = ek b → a = b) {kvs : List (κ × ν)} {k : κ} {v : ν} (hl : kvs.length ≤ lim) : mPut (.k (mapKV ek ev kvs)) (f k) (ev v) = some (.k (mapKV ek ev (putK' kvs k v))) := by
  show (if (mapKV ek ev kvs).length ≤ lim then _ else _) = _
  rw [if_pos (by unfold mapKV; rw [List.length_map]; exact hl), hf, Option.map_some, putD_map hi]
theorem ktxt_map (kvs : List (Str × ν)) : ktxt ((mapKV kS ev kvs).map (·.1)) = some (kvs.map (·.1)) := by
  induction kvs with
  | nil => rfl
  | cons p kvs ih =>
    show (ktxt ((mapKV kS ev kvs).map (·.1))).map _ = _
    rw [ih]
    rfl
theorem dkv_map (kvs : List (κ × ν)) : dkvSl (mapKV ek ev kvs) = .fz (dkOf ek ev kvs) := by
  unfold dkvSl
  rw [dkOf_map]
theorem kvOf_dk {ρ : En} (kvs : List (κ × ν)) : kvOf ρ (.fz (dkOf ek ev kvs)) = some (mapKV ek ev kvs) := by
  unfold dkOf
  show (if _ then _ else _) = _
  rw [if_pos (by rw [List.length_map, List.length_map]), zip_maps]
  rfl
theorem len_mapKV (kvs : List (κ × ν)) : (mapKV ek ev kvs).length = kvs.length := List.length_map ..
theorem eqKV_self (hi : ∀ a b, ek a = ek b → a = b) {kvs : List (κ × ν)} (nd : (kvs.map (·.1)).Nodup) (ho : ∀ p ∈ kvs, eqO (ev p.2) (ev p.2) = some true) : eqKVs (mapKV ek ev kvs) (mapKV ek ev kvs) = true := by
  unfold eqKVs
  rw [decide_eq_true rfl, Bool.true_and, List.all_eq_true]
  intro x hx
  obtain ⟨p, hp, rfl⟩ := List.mem_map.mp (show x ∈ kvs.map (fun p => (ek p.1, ev p.2)) from hx)
  have gk : getK kvs p.1 = some p.2 := by
    clear ho hx
    induction kvs with
    | nil => cases hp
    | cons y kvs ih =>
      rw [List.map_cons, List.nodup_cons] at nd
      unfold getK
      rw [List.find?_cons]
      rcases List.mem_cons.mp hp with rfl | hp
      · rw [decide_eq_true rfl]; rfl
      · have ne : y.1 ≠ p.1 := fun e => nd.1 (by rw [e]; exact List.mem_map_of_mem hp)
        rw [decide_eq_false ne]
        exact ih nd.2 hp
  have e := ho p hp
  unfold eqO at e
  split at e
  · rename_i hk
    unfold kvHit
    show (match valD (mapKV ek ev kvs) (ek p.1) with | some d => _ | none => _) = true
    rw [valD_map hi, gk]
    show ((ev p.2).ok && ((ev p.2).ok && (ev p.2).eqv (ev p.2))) = true
    rw [hk.1, Option.some.inj e]
    rfl
  · cases e
end
end DL
namespace DL
open PySem PySem.Spec L2
structure Er where
  c : Str
  f : Str
  i : Int
inductive Rs (α : Type) where
  | ok (a : α)
  | er (e : Er)
section
variable {α β R : Type}
section
variable {F : FF} {Xf : FX} {fa : Fa} {C : Fs} {ρ ρ1 : En} {rs : List Sl} {z : Sl} {i : Nat} {Q : Fl → En → Prop} {A : Str → Addr} {zf : α → Sl}
end
section
variable {F : FF} {Xf : FX} {fa : Fa} {B C : Fs} {f : Fe} {cs : List Addr} {c : Addr} {ns : List Str} {ds : List D} {i j t : Nat} {ρ ρ1 ρ2 ρ3 : En} {rs : List Sl} {z r : Sl} {Q : Fl → En → Prop}
end
section
variable {A : Str → Addr} {fe : Fe} {ρ ρ1 : En} {r : Sl} {e : Er}
end
end
inductive Rdg where
  | st (s : List (Str × Int))
  | at_ (i : Int)
def Rdg.d : Rdg → D
  | .st s => .tup (s.map (eP D.str D.int))
  | .at_ i => .int i
end DL
namespace DL
open PySem PySem.Spec L2
theorem callR_or {X : Cx} {f : Value} {r r' : List V → Hp → VK → Prop} (h : CallR X f r) (h' : CallR X f r') : CallR X f (fun xs H Q => r xs H Q ∨ r' xs H Q) := fun pins s σ H xs us Q I v q => q.elim (h pins s σ H xs us Q I v) (h' pins s σ H xs us Q I v)
def signsV (z : Str) : List V := z.cps.toList.map fun c => V.str ⟨#[c]⟩
theorem call_list_S {X : Cx} (hc : X.calm = true) : CallR X (.type "list") (fun xs H Q => ∃ z : Str, xs = [.str z] ∧ z.length ≤ sizeLine ∧ ∀ q, H q = none → Q (.ref q) (upd H q (.lst (signsV z)))) := by
  intro pins s σ H xs us Q I r h
  obtain ⟨z, rfl, hz, q⟩ := h
  obtain ⟨u, rfl, ru⟩ := vals1 r
  obtain ⟨t, rfl⟩ := ru
  have hz' : z.cps.size ≤ sizeLine := hz
  refine call_list_str (hn := hz') (I.ok.hd hc) z t fun h' tk acc c' hk e hi => ?_
  have ln : (signsV z).length = z.cps.size := by unfold signsV; rw [List.length_map, Array.length_toList]
  refine ⟨.ref s.heap.objs.size, upd H s.heap.objs.size (.lst (signsV z)), I.laid hk (Nat.le_refl _) ⟨by rw [ln]; exact hz, acc.toList, c', ?_, by rw [Array.toArray_toList]; exact e⟩, rfl, q _ (I.hok.fresh (Nat.le_refl _))⟩
  refine vals_of_idx _ _ (by rw [ln, Array.length_toList]; exact hi.1) fun j u hj => ?_
  obtain ⟨c, t', hc, rfl⟩ := hi.2 j u (by rw [← Array.getElem?_toList]; exact hj)
  refine ⟨.str ⟨#[c]⟩, ?_, ⟨_, rfl⟩⟩
  unfold signsV
  rw [List.getElem?_map, Array.getElem?_toList, hc]
  rfl
theorem signs_rps {K : PySem.W.Frag} {G : Hp} {z : Str} : Rps K G (signsV z) (signsD z) := by
  unfold signsV signsD
  generalize z.cps.toList = l
  induction l with
  | nil => exact .nil
  | cons c l ih => exact .cons (.str _) ih
def gListU : List D → Option Sl
  | [.str z] => if z.length ≤ lim then some (.ow (.l (signsD z))) else none
  | ds => gList ds
theorem c_listU {K : PySem.W.Frag} : Cl K (fun xs H Q => (∃ p ys, xs = [.ref p] ∧ (SqL K H p ys ∨ SqT K H p ys) ∧ ∀ l, H l = none → Q (.ref l) (upd H l (.lst ys))) ∨ (∃ z : Str, xs = [.str z] ∧ z.length ≤ sizeLine ∧ ∀ q, H q = none → Q (.ref q) (upd H q (.lst (signsV z))))) gListU := fun {G H σ ρ xs ds z Q} g hx he k => by
  unfold gListU at he
  split at he
  · split at he
    · rename_i hz
      cases he
      obtain ⟨v, rfl, h⟩ := hx.one
      cases h.rp g.ex
      exact .inr ⟨_, rfl, lim_le hz, giveL g signs_rps k⟩
    · cases he
  · exact .inl (c_list g hx he k)
end DL
namespace DL
open PySem PySem.Spec L2
def signsO (z : Str) : Option (List Str) := if z.length ≤ lim then some (signs z) else none
theorem d_listS {z : Str} {v : List Str} (h : signsO z = some v) : gListU [.str z] = some (.ow (.l (v.map D.str))) := by
  unfold signsO at h
  split at h
  · rename_i hz
    cases h
    show (if z.length ≤ lim then some (Sl.ow (.l (signsD z))) else none) = _
    rw [if_pos hz]
    unfold signsD signs
    rw [List.map_map]
    rfl
  · cases h
end DL
namespace DL
open PySem PySem.Spec L2
abbrev Tur : Type := List Int × List Int
section
variable {A : Str → Addr} {t u : Tur} {f fa fb fo : Fe} {ga : Fa} {ρ ρ1 ρ2 : En} {F : FF} {rs : List Sl} {z r : Sl} {b : Bool} {e d : D} {m : Str}
end
theorem ev_e0 {ρ : En} : eLst aNil ρ = some (.ow (.l []), ρ) := ev_lst ar_nil rfl rfl
end DL
namespace DL
open PySem PySem.Spec L2
open PyProof.Rows (envOfC)
def spDGX (K : PySem.W.Frag) (n g : Nat) (F : FF) (Xf : FX) : Sp := fun vs H Q E => vs.length = n ∧ ∃ us : List V, us.length = g ∧ spDX K (n + g) F Xf (vs ++ us) H Q E
abbrev Raised := Addr × List Str × List D
def mX (C : Addr) (ns : List Str) (F : FF) (Xf : FX) (gs : List Nat) (i : Nat) (fa : Fa) : En → Option ((Sl ⊕ Raised) × En) := fun ρ => match heldM ρ[i]? with
  | some (.ob C' ns' _) => if C' = C ∧ ns' = ns then (match fa ρ with
    | some (rs, ρ1) => if (bwL (.bw i :: rs ++ gs.map .bw)).Nodup then (match lendL ρ1 (.bw i :: rs ++ gs.map .bw) with
      | some qs => (match F qs with
        | some (z, es) => if isRes z = true then (match backS ρ1 (.bw i :: rs ++ gs.map .bw) es with
          | some ρ2 => some (.inl z, ρ2)
          | none => none) else none
        | none => (match Xf qs with
          | some (y, es) => (match backS ρ1 (.bw i :: rs ++ gs.map .bw) es with
            | some ρ2 => some (.inr y, ρ2)
            | none => none)
          | none => none))
      | none => none) else none
    | none => none) else none
  | _ => none
theorem mX_of {K : PySem.W.Frag} {C : Addr} {ns : List Str} {m : Str} {F : FF} {Xf : FX} {gs : List Nat} {i n : Nat} {fa : Fa} {E : XK} {G H : Hp} {σ : L2.St} {ρ ρ2 : En} {out : Sl ⊕ Raised} {Q : VK} (hm : m ∉ ns) (hc : ∀ ρ rs ρ', fa ρ = some (rs, ρ') → rs.length + 1 = n) (g : Good K G H σ ρ) (q : mX C ns F Xf gs i fa ρ = some (out, ρ2))
    (kl : ∀ z, out = .inl z → isRes z = true → ∀ v G' H', Aft K G H σ ρ G' H' σ ρ2 → ROk K H G' H' σ ρ2 v z → Q v H')
    (kr : ∀ C ns ds, out = .inr (C, ns, ds) → ∀ (o : Option Addr) (ws : List V) (G2 H2 : Hp), Aft K G H σ ρ G2 H2 σ ρ2 → XdN H G2 H2 ns ws o → ns.length = ws.length → Rps K G2 ws ds → E (.ref C) o H2) :
    tVar i σ H fun x H1 => ∃ a dx fs, x = .ref a ∧ H1 a = some (.ins C dx fs) ∧ fs.lookup m = none ∧ taOf K fa σ H1 fun vs H2 => spDGX K n gs.length F Xf (x :: vs) H2 Q E := by
  unfold mX at q
  split at q
  · rename_i C' ns' ds q0
    split at q
    · rename_i hcn
      obtain ⟨rfl, rfl⟩ := hcn
      obtain ⟨p, dx, xs, e1, e2, r, l, _⟩ := ob_ins g q0
      cases q1 : fa ρ with
      | none => simp only [q1] at q; cases q
      | some y =>
        obtain ⟨rs, ρ1⟩ := y
        simp only [q1] at q
        refine ⟨.ref p, e1, p, dx, _, rfl, e2, lookup_none hm, G, ρ, rs, ρ1, g, q1, fun vs G1 H1 A1 R1 => ?_⟩
        have hn : rs.length + 1 = n := hc _ _ _ q1
        split at q
        · rename_i nd
          cases q2 : lendL ρ1 (.bw i :: rs ++ gs.map .bw) with
          | none => simp only [q2] at q; cases q
          | some qs =>
            simp only [q2] at q
            obtain ⟨q5, e5⟩ := lendL_app q2
            obtain ⟨us, ul, ur⟩ := gs_ok (H0 := H) A1.good e5
            have R : RsOk K H G1 H1 σ ρ1 (.ref p :: vs ++ us) (.bw i :: rs ++ gs.map .bw) := RsOk.cat (rs := .bw i :: rs) (.cons e1 R1) ur
            have hl : (Sl.bw i :: rs ++ gs.map Sl.bw).length = n + gs.length := by
              rw [List.length_append, List.length_map, List.length_cons, hn]
            refine ⟨?_, us, ul, ?_⟩
            · have := RsOk.len R1
              rw [List.length_cons]
              omega
            cases q3 : F qs with
            | some y =>
              obtain ⟨z, es⟩ := y
              simp only [q3] at q
              split at q
              · rename_i hz
                cases q4 : backS ρ1 (.bw i :: rs ++ gs.map .bw) es with
                | none => simp only [q4] at q; cases q
                | some ρ3 =>
                  simp only [q4] at q
                  cases q
                  exact .inl (call_lent A1.good R nd q2 q3 hz q4 hl fun v G2 H2 A2 R2 => kl z rfl hz v G2 H2 (A1.trans A2) (R2.start A1.dom))
              · cases q
            | none =>
              simp only [q3] at q
              cases q6 : Xf qs with
              | none => simp only [q6] at q; cases q
              | some y =>
                obtain ⟨⟨Cx, nx, dsx⟩, es⟩ := y
                simp only [q6] at q
                cases q4 : backS ρ1 (.bw i :: rs ++ gs.map .bw) es with
                | none => simp only [q4] at q; cases q
                | some ρ3 =>
                  simp only [q4] at q
                  cases q
                  obtain ⟨h1, h2, h3, h4⟩ := lent_all A1.good R nd q2 q4 hl
                  exact .inr ⟨G1, qs, Cx, nx, dsx, es, h1, h2, h3, q6, fun o ws G2 H2 A2 x h5 h6 => kr Cx nx dsx rfl o ws G2 H2 (A1.trans (h4 G2 H2 A2).1) (x.imp (fun ⟨d, z1, z2, z3, z4⟩ => ⟨d, z1, A1.back z2, z3, z4⟩) id) h5 h6⟩
        · cases q
    · cases q
  · cases q
section
variable {X : Cx} {k n : Nat} {f C : Addr} {fd : FuncData} {ps ks : List Str} {sp : Sp} {m : Str} {apos pos : Pos} {o e : Expr} {es : List Expr} {kws : List Keyword} {ta : TE} {t tk : TA} {E : L2.St → XK} {dvs : List V} {ds : List Value}
theorem pe_methGdS {pl : Sem Bool} (he : PE X o ta) (c : Cls X.K C) (hm : Meth X.K C m f) (G : FnG X.prog X.w X.K X.mg X.base k f fd ps sp) (gd : X.A.guards = some []) (hr : Room k X.A) (hb : Binds X.K fd ps ds) (hd : Vals dvs ds) (hx : ∀ σ, PassesAt (L2.CX X.prog X.w) X σ (E σ)) (ha : PA X (e :: es) t)
    (hst : starEach (e :: es) X.env = (false, eval e X.env) :: starEach es X.env := by rfl) (hpl : (backTo pos (starEach es X.env)).any (·.1) = false := by rfl)
    (ht : eval (.Call (.Attribute o m apos) (e :: es) [] pos) X.env = (do
      let ov ← eval o X.env
      standAt apos.atName
      let (f, first) ← holding [ov] (getMethod ov m pl)
      callWith pos f first (backTo pos (starEach (e :: es) X.env)) (backToKw pos (keywordEach [] X.env))) := by rfl) :
    PE X (.Call (.Attribute o m apos) (e :: es) [] pos) (fun σ H Q => ta σ H fun x H1 => ∃ a dx fs, x = .ref a ∧ H1 a = some (.ins C dx fs) ∧ fs.lookup m = none ∧ t σ H1 fun vs H2 => sp (x :: (vs ++ dvs)) H2 Q (E σ)) := by
  refine ⟨fun pins s σ H Q I h => ?_⟩
  refine PySem.W.methodCall_KW (pl := pl) (thn (he.run pins s σ H _ I h) fun u s1 ⟨x, H1, I1, rx, a, dx, fs, ex, ea, l, q⟩ => ?_) ht
  subst ex
  obtain rfl : u = Value.ref a := rx
  refine getmeth_ok I1 ea c hm l ?_
  refine PySem.W.callWith_K (first := [.ref a]) (h₀ := X.base) I.ok.mod.kin hm.kp (thn (ha.run pos pins s1 σ H1 _ I1 q) fun us s2 ⟨vs, H2, I2, r, q2⟩ => ⟨I2.kIn, ?_⟩) hst hpl
  have r2 : Vals (V.ref a :: (vs ++ dvs)) (Value.ref a :: us ++ ds) := .cons rfl (r.append hd)
  have ln : (Value.ref a :: us ++ ds).length = ps.length := r2.length.symm.trans (G.len _ _ _ _ q2)
  apply wpAny_call
  apply codeAny_mono (G.go X.A X.stack s2 H2 ⟨Value.ref a :: us, []⟩ (Value.ref a :: us ++ ds) (V.ref a :: (vs ++ dvs)) Q (E σ) gd hr I2.env0 (hb s2 (Value.ref a :: us) I2.kIn ln) r2 q2)
  intro res s3 h3
  cases res with
  | error er => exact hx σ pins H2 s2 er s3 I2 h3
  | ok fl =>
    cases fl with
    | next => cases h3
    | brk => cases h3
    | cont => cases h3
    | ret u => exact I2.after h3
theorem pe_methGkS {pl : Sem Bool} (he : PE X o ta) (c : Cls X.K C) (hm : Meth X.K C m f) (G : FnG X.prog X.w X.K X.mg X.base k f fd ps sp) (gd : X.A.guards = some []) (hr : Room k X.A) (hb : BindsK X.K fd ps n ks dvs) (hx : ∀ σ, PassesAt (L2.CX X.prog X.w) X σ (E σ)) (ha : PA X (e :: es) t) (hkw : PK X kws tk)
    (hall : (backToKw pos (keywordEach kws X.env)).all (·.1.isSome) = true := by rfl) (hks : (backToKw pos (keywordEach kws X.env)).filterMap (·.1) = ks := by rfl)
    (hst : starEach (e :: es) X.env = (false, eval e X.env) :: starEach es X.env := by rfl) (hpl : ((backTo pos (starEach (e :: es) X.env)).any (·.1) || (backToKw pos (keywordEach kws X.env)).any (·.1.isNone)) = false := by rfl)
    (ht : eval (.Call (.Attribute o m apos) (e :: es) kws pos) X.env = (do
      let ov ← eval o X.env
      standAt apos.atName
      let (f, first) ← holding [ov] (getMethod ov m pl)
      callWith pos f first (backTo pos (starEach (e :: es) X.env)) (backToKw pos (keywordEach kws X.env))) := by rfl) :
    PE X (.Call (.Attribute o m apos) (e :: es) kws pos) (fun σ H Q => ta σ H fun x H1 => ∃ a dx fs, x = .ref a ∧ H1 a = some (.ins C dx fs) ∧ fs.lookup m = none ∧ t σ H1 fun vs H2 => tk σ H2 fun zs H3 => vs.length + 1 = n ∧ zs.length = ks.length ∧ sp (x :: (vs ++ zs)) H3 Q (E σ)) := by
  refine ⟨fun pins s σ H Q I h => ?_⟩
  refine PySem.W.methodCall_KW (pl := pl) (thn (he.run pins s σ H _ I h) fun u s1 ⟨x, H1, I1, rx, a, dx, fs, ex, ea, l, q⟩ => ?_) ht
  subst ex
  obtain rfl : u = Value.ref a := rx
  refine getmeth_ok I1 ea c hm l ?_
  refine PySem.W.callWith_KW (first := [.ref a]) (h₀ := X.base) I.ok.mod.kin hm.kp hall (thn (ha.run pos pins s1 σ H1 _ I1 q) fun us s2 ⟨vs, H2, I2, r, q2⟩ => ?_) hpl hst
  refine thn (hkw.run pos pins s2 σ H2 _ I2 q2) fun ws s3 ⟨zs, H3, I3, rz, l1, l2, q3⟩ => ⟨I3.kIn, ?_⟩
  rw [hks]
  have r2 : Vals (V.ref a :: (vs ++ zs)) (Value.ref a :: us ++ ws) := .cons rfl (r.append rz)
  apply wpAny_call
  apply codeAny_mono (G.go X.A X.stack s3 H3 ⟨Value.ref a :: us, ks.zip ws⟩ (Value.ref a :: us ++ ws) (V.ref a :: (vs ++ zs)) Q (E σ) gd hr I3.env0 (hb.all s3 (Value.ref a :: us) ws I3.kIn (by rw [List.length_cons, ← r.length]; exact l1) (rz.length.symm.trans l2)) r2 q3)
  intro res s4 h4
  cases res with
  | error er => exact hx σ pins H3 s3 er s4 I3 h4
  | ok fl =>
    cases fl with
    | next => cases h4
    | brk => cases h4
    | cont => cases h4
    | ret u => exact I3.after h4
end
section
variable {P : Program} {w : World} {K : PySem.W.Frag} {mg : Str → Option Value} {base : Heap}
theorem okFGhX {x qual : Str} {st : Stmt} {f : Addr} {fd : FuncData} {N ps : List Str} {k g : Nat} {B : Fs} {dvs : List V} {kws : List (Str × V)} (F : FunD K x qual (defArgs st) (defBody st) (defScope st) dvs kws f fd) (S : FnScope N ps (defScope st)) (hle : ps.length + g ≤ N.length) (hg : ∀ z ∈ (N.drop ps.length).take g, (defScope st).names.lookup z = none)
    (hb : ∀ (cdv : Value) (A : Around) (outer : List Env) (s : Shared) (H : Hp) (E : XK), A.guards = some [] → Room k (A.deeper (envOfC qual (defScope st) s.heap.objs.size f cdv)) → DB (cxOf (L2.CX P w) P w K mg base N qual (defScope st) f cdv A outer s H E) E (defBody st) B) :
    FnG P w K mg base (k + 1) f fd ps (spDGX K ps.length g (runF (N.length - ps.length - g) B) (runX (N.length - ps.length - g) B)) := by
  obtain ⟨oc, od, dV, kV, doc, pm, an, cdv, ct, osl, rfl, lk, hcd, _, _⟩ := F.ex
  refine fnG_of lk hcd S (fun vs H Q E h => h.1) fun A outer s H vs Q E gd hr hsp => ?_
  obtain ⟨hv, us, hu, hsp⟩ := hsp
  have h0 := hb cdv A outer s H E gd hr
  refine ⟨fun D σ H1 => ∃ σ', Gh (cxOf (L2.CX P w) P w K mg base N qual (defScope st) f cdv A outer s H E) σ σ' ∧ tsOf K E B D σ' H1,
    PSs.gh (show PSs _ _ (tsOf K E B) from h0), _, gh_start rfl rfl hv (by rw [hu]; exact hle) (by rw [hu]; exact hg), ?_⟩
  rw [hu]
  rcases hsp with ⟨G, ρ, r, ρ', h1, hA, g', e, k⟩ | ⟨G, ρ, C, ns, ds, ρ', h1, hA, g', e, k⟩
  · unfold runF at e
    cases q : B (ρ ++ List.replicate (N.length - ps.length - g) .un) with
    | none => rw [q] at e; cases e
    | some y =>
      obtain ⟨fl, ρe⟩ := y
      rw [q] at e
      refine ⟨G, _, fl, ρe, g'.pad, q, fun σ' G' H' A' => ?_⟩
      have Ae := call_end g' A'
      cases fl with
      | nx =>
        cases e
        exact k .non G' H' Ae .non
      | bk => cases e
      | ct => cases e
      | ex C ns ds => cases e
      | rt r1 =>
        intro v R
        replace e : (match resolve ρe r1 with | some z => some (z, fin ρ ρe) | none => none) = some (r, ρ') := e
        cases q2 : resolve ρe r1 with
        | none => rw [q2] at e; cases e
        | some z =>
          rw [q2] at e
          cases e
          exact k v G' H' Ae (res_ok hA g' A' R q2)
  · unfold runX at e
    cases q : B (ρ ++ List.replicate (N.length - ps.length - g) .un) with
    | none => rw [q] at e; cases e
    | some y =>
      obtain ⟨fl, ρe⟩ := y
      rw [q] at e
      cases fl with
      | ex C' ns' ds' =>
        cases e
        exact ⟨G, _, .ex C ns ds, ρe, g'.pad, q, fun σ' G' H' A' o ws h0 h3 h4 => k o ws G' H' (call_end g' A') h0 h3 h4⟩
      | nx => cases e
      | bk => cases e
      | ct => cases e
      | rt r1 => cases e
def DfMGX (P : Program) (w : World) (K : PySem.W.Frag) (mg : Str → Option Value) (base : Heap) (k : Nat) (C : Addr) (m : Str) (ps : List Str) (F : FF) (Xf : FX) (n : Nat) (ks : List Str) (dvs : List D) (g : Nat) : Prop :=
  ∃ fd vs, Meth K C m (He.ma K C m) ∧ BindsK K fd ps n ks vs ∧ (∀ G, Rps K G vs dvs) ∧ FnG P w K mg base k (He.ma K C m) fd ps (spDGX K ps.length g F Xf)
theorem DfMGX.dmg {k : Nat} {C : Addr} {m : Str} {ps : List Str} {F : FF} {Xf : FX} {n : Nat} {ks : List Str} {dvs : List D} {g : Nat} (h : DfMGX P w K mg base k C m ps F Xf n ks dvs g) : DfMG P w K mg base k C m ps F n ks dvs g := by
  obtain ⟨fd, vs, h1, h2, h3, h4⟩ := h
  exact ⟨fd, vs, h1, h2, h3, h4.imp fun _ _ _ _ ⟨q1, us, q2, q3⟩ => ⟨q1, us, q2, .inl q3⟩⟩
theorem dfMkMGX {x m qual : Str} {st : Stmt} {fd : FuncData} {N ps : List Str} {k g n : Nat} {B : Fs} {kws : List (Str × V)} {dvs : List D} (F : FunD K m qual (defArgs st) (defBody st) (defScope st) [] kws (He.ma K (He.ga K x) m) fd) (me : Meth K (He.ga K x) m (He.ma K (He.ga K x) m)) (S : FnScope N ps (defScope st)) (hle : ps.length + g ≤ N.length) (hg : ∀ z ∈ (N.drop ps.length).take g, (defScope st).names.lookup z = none)
    (hbd : BindsK K fd ps n (kws.map (·.1)) (kws.map (·.2))) (hd : ∀ G, Rps K G (kws.map (·.2)) dvs)
    (hb : ∀ (cdv : Value) (A : Around) (outer : List Env) (s : Shared) (H : Hp) (E : XK), A.guards = some [] → Room k (A.deeper (envOfC qual (defScope st) s.heap.objs.size (He.ma K (He.ga K x) m) cdv)) → DB (cxOf (L2.CX P w) P w K mg base N qual (defScope st) (He.ma K (He.ga K x) m) cdv A outer s H E) E (defBody st) B) :
    DfMGX P w K mg base (k + 1) (He.ga K x) m ps (runF (N.length - ps.length - g) B) (runX (N.length - ps.length - g) B) n (kws.map (·.1)) dvs g := ⟨fd, _, me, hbd, hd, okFGhX F S hle hg hb⟩
end
def bAsg2 (j : Nat) (f : En → Option ((Sl ⊕ Raised) × En)) : Fs := fun ρ => match f ρ with
  | some (.inl z, ρ1) => if notRf ρ1 j = true then some (.nx, ρ1.set j z) else none
  | some (.inr y, ρ1) => some (.ex y.1 y.2.1 y.2.2, ρ1)
  | none => none
def bTry2 (i : Nat) (cs : List Addr) (f : En → Option ((Sl ⊕ Raised) × En)) (B : Fs) : Fs := fun ρ => match f ρ with
  | some (.inl _, ρ1) => some (.nx, ρ1)
  | some (.inr y, ρ1) => if y.1 ∈ cs ∧ notRf ρ1 i = true then (match B (ρ1.set i (.fz (.exn y.1 y.2.1 y.2.2))) with
      | some (.nx, ρ2) => if notRf ρ2 i = true then some (.nx, ρ2.set i .un) else none
      | _ => none) else none
  | none => none
section
variable {X : Cx} {E : XK} {k n i j : Nat} {C : Addr} {ns ps ks : List Str} {m : Str} {apos pos pos2 : Pos} {o e : Expr} {es : List Expr} {kws : List Keyword} {F : FF} {Xf : FX} {dvs : List D} {gs : List Nat} {fa fb : Fa}
theorem ds_asgMX {pl : Sem Bool} {y : Str} {py : Pos} (hN : X.N.Nodup) (hj : X.N[j]? = some y) (hy : Loc X.env.scope y) (c : InsC X.K C ns) (D : DfMGX X.prog X.w X.K X.mg X.base k C m ps F Xf n ks dvs gs.length) (tk : Takes X (fun cls d _ H => E cls d H)) (gd : X.A.guards = some []) (hr : Room k X.A) (ho : PE X o (tVar i)) (ha : DA X (e :: es) fa) (hc : Cnt fa (n - 1)) (hl : n + dvs.length = ps.length := by rfl) (h1 : 1 ≤ n := by decide) (hm : m ∉ ns := by decide)
    (hst : starEach (e :: es) X.env = (false, eval e X.env) :: starEach es X.env := by rfl) (hpl : (backTo pos (starEach es X.env)).any (·.1) = false := by rfl)
    (ht : eval (.Call (.Attribute o m apos) (e :: es) [] pos) X.env = (do
      let ov ← eval o X.env
      standAt apos.atName
      let (f, first) ← holding [ov] (getMethod ov m pl)
      callWith pos f first (backTo pos (starEach (e :: es) X.env)) (backToKw pos (keywordEach [] X.env))) := by rfl)
    (hs : swapsWith (.Call (.Attribute o m apos) (e :: es) [] pos) (some (.Name y py)) pos2.line X.env = pure false := by rfl) (hf : X.fn y = true ∨ X.env.scope.names.lookup y = some .local := by first | exact .inl rfl | exact .inr rfl | assumption) :
    DS X E (.Assign [.Name y py] (.Call (.Attribute o m apos) (e :: es) [] pos) pos2) (bAsg2 j (mX C ns F Xf gs i (aCat fa (aKon dvs)))) := by
  obtain ⟨fd, vs, h1', h2, h3, h4⟩ := D
  obtain ⟨ds, v1, v2⟩ := h2.less
  refine PS.weak (ps_set hN hj hy (pe_methGdS (E := fun _ => E) ho c.cls h1' h4 gd hr v2 v1 (fun σ pins H s e s' I q => passes_call tk (fun _ _ _ _ h => h) pins σ H s e s' I q) ha hst hpl ht) hs hf) fun D σ H ⟨G, ρ, fl, ρ', g, q, kk⟩ => ?_
  unfold bAsg2 at q
  cases q1 : mX C ns F Xf gs i (aCat fa (aKon dvs)) ρ with
  | none => simp only [q1] at q; cases q
  | some y2 =>
    obtain ⟨out, ρ2⟩ := y2
    simp only [q1] at q
    obtain ⟨x, e1, a, dx, fs, ex, ea, lk, q2⟩ := mX_of (n := ps.length) (E := E) (Q := fun x H1 => gName j x σ H1 D.nx) hm (fun ρ rs ρ' q => by have := Cnt.cat hc.len (kon_len dvs) ρ rs ρ' q; omega) g q1 (fun z ez hz v G' H' A' R => by
      subst ez
      simp only at q
      split at q
      · rename_i hn
        cases q
        obtain ⟨G3, A3⟩ := asg_ok A' R (toSlot_res hz) hn
        exact kk _ G3 H' A3
      · cases q) (fun C2 ns2 ds2 ez o ws G2 H2 A2 x1 x2 x3 => by
      subst ez
      simp only at q
      cases q
      exact kk σ G2 H2 A2 o ws x1 x2 x3)
    exact ⟨x, e1, a, dx, fs, ex, ea, lk, taKon h3 (R := fun vs H2 => spDGX X.K ps.length gs.length F Xf (x :: vs) H2 _ E) q2⟩
theorem ds_tryMk {pl : Sem Bool} {hx nm : Str} {c : Value} {cs : List Addr} {np pos' pos3 : Pos} {b₀ : Stmt} {suite : List Stmt} {B : Fs} (ci : InsC X.K C ns) (D : DfMGX X.prog X.w X.K X.mg X.base k C m ps F Xf n ks dvs gs.length) (hex : X.ex = []) (hs : X.stack = X.env :: X.outer) (hf : X.env.frame = some X.env.locals) (hN : X.N.Nodup) (hi : X.N[j]? = some nm) (hln : X.env.kindOf nm = some .local) (hc : Names X hx c) (tk : Takes X (fun cls d _ H => E cls d H))
    (hmm : ∀ C ∈ cs, PySem.W.exmOne X.K (.ref C) c = some true) (gd : X.A.guards = some []) (hr : Room k X.A) (ho : ∀ pn xe, PE (X.tr pn xe) o (tVar i)) (ha : ∀ pn xe, DA (X.tr pn xe) (e :: es) fa) (hcn : Cnt fa (n - 1)) (hb : ∀ pn xe, DK (X.tr pn xe) kws fb) (hcb : Cnt fb ks.length) (hsu : ∀ (a : Addr) (pn : List (Addr × Obj)), DB (X.suite a pn) E0 (b₀ :: suite) B)
    (hl : n + ks.length = ps.length := by rfl) (h1 : 1 ≤ n := by decide) (hm : m ∉ ns := by decide)
    (hall : (backToKw pos (keywordEach kws X.env)).all (·.1.isSome) = true := by rfl) (hks : (backToKw pos (keywordEach kws X.env)).filterMap (·.1) = ks := by rfl)
    (hst : starEach (e :: es) X.env = (false, eval e X.env) :: starEach es X.env := by rfl) (hpl : ((backTo pos (starEach (e :: es) X.env)).any (·.1) || (backToKw pos (keywordEach kws X.env)).any (·.1.isNone)) = false := by rfl)
    (ht : eval (.Call (.Attribute o m apos) (e :: es) kws pos) X.env = (do
      let ov ← eval o X.env
      standAt apos.atName
      let (f, first) ← holding [ov] (getMethod ov m pl)
      callWith pos f first (backTo pos (starEach (e :: es) X.env)) (backToKw pos (keywordEach kws X.env))) := by rfl)
    (hsw : swapsWith (.Call (.Attribute o m apos) (e :: es) kws pos) none pos2.line X.env = pure false := by rfl) :
    DS X E (.Try [.Expr (.Call (.Attribute o m apos) (e :: es) kws pos) pos2] [.ExceptHandler (some (.Name hx np)) (some nm) (b₀ :: suite) pos'] [] [] pos3) (bTry2 j cs (mX C ns F Xf gs i (aCat fa fb)) B) := by
  obtain ⟨fd, vs, h1', h2, h3, h4⟩ := D
  refine PS.weak (ps_try_asT (tb := fun W => tDrop (fun σ H Q => tVar i σ H fun x H1 => ∃ a dx fs, x = .ref a ∧ H1 a = some (.ins C dx fs) ∧ fs.lookup m = none ∧ taOf X.K fa σ H1 fun vs H2 => taOf X.K fb σ H2 fun zs H3 => vs.length + 1 = n ∧ zs.length = ks.length ∧ spDGX X.K ps.length gs.length F Xf (x :: (vs ++ zs)) H3 Q (WE W σ))) (ts := fun _ => tsOf X.K E0 B) hex hs hf hN hi hln hc tk
    (fun W pn xe tk' _ => pss_one (ps_expr (pe_methGkS (X := X.tr pn xe) (E := WE W) (ho pn xe) ci.cls h1' h4 gd hr h2 (fun σ => passAt tk' σ) (ha pn xe) (hb pn xe) hall hks hst hpl ht) hsw)) hsu) fun D σ H ⟨G, ρ, fl, ρ', g, q, kk⟩ => ?_
  unfold bTry2 at q
  cases q1 : mX C ns F Xf gs i (aCat fa fb) ρ with
  | none => simp only [q1] at q; cases q
  | some y2 =>
    obtain ⟨out, ρ2⟩ := y2
    simp only [q1] at q
    obtain ⟨x, e1, a, dx, fs, ex, ea, lk, q2⟩ := mX_of (n := ps.length) (E := WE (wAsT X.K c j (fun _ => tsOf X.K E0 B) (fun cls d _ H => E cls d H) D) σ) (Q := fun _ H1 => D.nx σ H1) hm (fun ρ rs ρ' q => by have := Cnt.cat hcn.len hcb.len ρ rs ρ' q; omega) g q1 (fun z ez hz v G' H' A' R => by
      subst ez
      cases q
      exact kk σ G' H' A') (fun C2 ns2 ds2 ez o ws G2 H2 A2 x1 x2 x3 => by
      subst ez
      simp only at q
      split at q
      · rename_i hC
        split at q
        · rename_i ρ3 hB
          split at q
          · rename_i hn2
            cases q
            exact caught_ok hmm hC.1 hC.2 hB hn2 kk A2 x1 x2 x3
          · cases q
        · cases q
      · cases q)
    refine ⟨x, e1, a, dx, fs, ex, ea, lk, ?_⟩
    obtain ⟨G5, ρ5, rs, ρ1, gd2, q3, k3⟩ := taCat q2
    refine ⟨G5, ρ5, rs, ρ1, gd2, q3, fun vs2 G1 H1 A1 R1 => ?_⟩
    obtain ⟨G2, ρ2, qs, ρ3, g2, q4, k4⟩ := k3 vs2 G1 H1 A1 R1
    refine ⟨G2, ρ2, qs, ρ3, g2, q4, fun zs G3 H3 A3 R3 => ⟨?_, ?_, k4 zs G3 H3 A3 R3⟩⟩
    · have a1 := hcn.len _ _ _ q3
      have a2 := RsOk.len R1
      omega
    · have a1 := hcb.len _ _ _ q4
      have a2 := RsOk.len R3
      omega
end
end DL
namespace G
open PySem PySem.Spec L2 DL
noncomputable def d_cells_many (A : Str → Addr) : Fs :=
  (bSeq (bIf (dTst (dOp2 gEq (dOp2 gIx (eVar 0) (eC (.int 0))) (eC (.str "floor")))) (bRet (dOp2 gMul (dOp2 gIx (eVar 0) (eC (.int 1))) (dOp2 gIx (eVar 0) (eC (.int 2))))) bNext)
  (bRet (dOp2 gIx (eVar 0) (eC (.int 1)))))
noncomputable def F_cells_many (A : Str → Addr) : FF := runF 0 (d_cells_many A)
noncomputable def d_first_cells (A : Str → Addr) : Fs :=
  (bSeq (bAsg 2 (fCall (F_cells_many A) (aFr (eVar 0) aNil)))
  (bSeq (bIf (dTst (dOp2 gEq (dOp2 gIx (eVar 0) (eC (.int 0))) (eC (.str "row")))) (bRet (dLRg1 (dOp2 gAdd (dOp2 DL.gSub (eVar 2) (dOp2 gMul (eC (.int 2)) (dOp2 gIx (eVar 1) (eC (.int 1))))) (eC (.int 1))))) bNext)
  (bSeq (bIf (dTst (dOp2 gEq (dOp2 gIx (eVar 0) (eC (.int 0))) (eC (.str "ring")))) (bRet (dLRg1 (eVar 2))) bNext)
  (bSeq (bUnp (gTp 2 (gsCons (gNm 3) (gsCons (gNm 4) gsNil))) (dSl (eVar 0) (oSome (eC (.int 1))) oNo))
  (bSeq (bAsg 5 (dOp2 gAdd (dOp2 DL.gSub (eVar 3) (dOp2 gMul (dOp2 gIx (eVar 1) (eC (.int 1))) (dOp2 gAdd (eC (.int 1)) (dCall gInt (aCons (dOp2 gEq (dOp2 gIx (eVar 1) (eC (.int 0))) (eC (.str "under"))) aNil))))) (eC (.int 1))))
  (bSeq (bAsg 6 (dOp2 gAdd (dOp2 DL.gSub (eVar 4) (dOp2 gMul (dOp2 gIx (eVar 1) (eC (.int 2))) (dOp2 gAdd (eC (.int 1)) (dCall gInt (aCons (dOp2 gEq (dOp2 gIx (eVar 1) (eC (.int 0))) (eC (.str "over"))) aNil))))) (eC (.int 1))))
  (bRet (dLc2 (iRange1 (aFr (eVar 5) aNil)) (gNm 7) dYes (iRange1 (aFr (eVar 6) aNil)) (gNm 8) dYes (dOp2 gAdd (dOp2 gMul (eVar 7) (eVar 4)) (eVar 8)) [7, 8] [8]))))))))
noncomputable def F_first_cells (A : Str → Addr) : FF := runF 7 (d_first_cells A)
noncomputable def d_is_deed (A : Str → Addr) : Fs :=
  (bSeq (bUnp (gTp 2 (gsCons (gNm 3) (gsCons (gNm 4) gsNil))) (eVar 2))
  (bRet (dAndV (dChain gLe gLt (eC (.int 0)) (eVar 3) (dCall gLen (aCons (eVar 1) aNil))) (dOp2 gIn (eVar 4) (fCall (F_first_cells A) (aFr (eVar 0) (aFr (dOp2 gIx (eVar 1) (eVar 3)) aNil)))))))
noncomputable def F_is_deed (A : Str → Addr) : FF := runF 2 (d_is_deed A)
noncomputable def d_pairs_at (A : Str → Addr) : Fs :=
  (bSeq (bAsg 3 (fCall (F_cells_many A) (aFr (eVar 0) aNil)))
  (bSeq (bIf (dTst (dOp2 gEq (dOp2 gIx (eVar 1) (eC (.int 0))) (eC (.str "swap")))) (bRet (dCall gTuple (aCons (dLc (iRange1 (aFr (dOp2 gIx (eVar 1) (eC (.int 1))) aNil)) (gNm 7) dYes (eTup (aFr (dOp2 gMod (dOp2 gAdd (eVar 2) (eVar 7)) (eVar 3)) (aFr (dOp2 gMod (dOp2 gAdd (dOp2 gAdd (eVar 2) (eVar 7)) (dOp2 gIx (eVar 1) (eC (.int 1)))) (eVar 3)) aNil))) [7]) aNil))) bNext)
  (bSeq (bAsg 4 (dOp2 gIx (eVar 0) (eC (.int 2))))
  (bSeq (bAsg 5 (dOp2 gIx (eVar 1) (eC (.int 2))))
  (bSeq (bIf (dTst (dOp2 gEq (dOp2 gIx (eVar 1) (eC (.int 0))) (eC (.str "under")))) (bAsg 5 (dOp2 gMul (dOp2 gIx (eVar 1) (eC (.int 1))) (eVar 4))) bNext)
  (bSeq (bAsg 6 (dLc2 (iRange1 (aFr (dOp2 gIx (eVar 1) (eC (.int 1))) aNil)) (gNm 8) dYes (iRange1 (aFr (dOp2 gIx (eVar 1) (eC (.int 2))) aNil)) (gNm 9) dYes (dOp2 gAdd (dOp2 gAdd (eVar 2) (dOp2 gMul (eVar 8) (eVar 4))) (eVar 9)) [8, 9] [9]))
  (bRet (dCall gTuple (aCons (dLc (iAny (eVar 6)) (gNm 10) dYes (eTup (aFr (eVar 10) (aFr (dOp2 gAdd (eVar 10) (eVar 5)) aNil))) [10]) aNil)))))))))
noncomputable def F_pairs_at (A : Str → Addr) : FF := runF 8 (d_pairs_at A)
noncomputable def d_is_bent (A : Str → Addr) : Fs :=
  (bRet (dOp2 gEq (dOp2 gIx (eVar 0) (dNeg (eC (.int 1)))) (eC (.int 1))))
noncomputable def F_is_bent (A : Str → Addr) : FF := runF 0 (d_is_bent A)
noncomputable def d_exchange (A : Str → Addr) : Fs :=
  (bFor (iAny (eVar 1)) (gTp 2 (gsCons (gNm 3) (gsCons (gNm 4) gsNil)))
  (bSeq (bPar 5 6 (aFr (dOp2 gIx (eVar 0) (eVar 3)) (aFr (dOp2 gIx (eVar 0) (eVar 4)) aNil)))
  (bSeq (bIf (dTst (eVar 2)) (bPar 5 6 (aFr (eTup (aFr (dOp2 gIx (eVar 5) (eC (.int 0))) (aFr (dOp2 DL.gSub (eC (.int 1)) (dOp2 gIx (eVar 5) (eC (.int 1)))) aNil))) (aFr (eTup (aFr (dOp2 gIx (eVar 6) (eC (.int 0))) (aFr (dOp2 DL.gSub (eC (.int 1)) (dOp2 gIx (eVar 6) (eC (.int 1)))) aNil))) aNil))) bNext)
  (bSet2 0 (eVar 3) (eVar 4) (eTup (aFr (eVar 6) (aFr (eVar 5) aNil)))))))
noncomputable def F_exchange (A : Str → Addr) : FF := runF 4 (d_exchange A)
noncomputable def d_need_deeds (A : Str → Addr) : Fs :=
  (bSeq (bAsg 3 (eDict (.t [])))
  (bFor (iEnumD (aFr (eVar 2) aNil)) (gTp 2 (gsCons (gNm 4) (gsCons (gNm 5) gsNil)))
  (bIf (dTst (dDIn true 3 (eVar 5))) (bSeq (bIf (dNot (dTst (fCall (F_is_deed A) (aFr (eVar 0) (aFr (eVar 1) (aFr (eVar 5) aNil)))))) bNever bNext)
  (bDPut 3 (eVar 5) (eC (.bl true)))) bNext)))
noncomputable def F_need_deeds (A : Str → Addr) : FF := runF 3 (d_need_deeds A)
noncomputable def d_done (A : Str → Addr) : Fs :=
  (bSeq (bDrop (fCall (F_need_deeds A) (aFr (eVar 0) (aFr (eVar 1) (aFr (eVar 3) aNil)))))
  (bSeq (bAsg 5 (dCall gList (aCons (eVar 2) aNil)))
  (bSeq (bFor (iAny (dIfE (dTst (eVar 4)) (dRevL (dCall gList (aCons (eVar 3) aNil))) (eVar 3))) (gTp 2 (gsCons (gNm 6) (gsCons (gNm 7) gsNil)))
  (bSeq (bAsg 8 (dOp2 gIx (eVar 1) (eVar 6)))
  (bDrop (fCall (F_exchange A) (aCons (eVar 5) (aFr (fCall (F_pairs_at A) (aFr (eVar 0) (aFr (eVar 8) (aFr (eVar 7) aNil)))) (aFr (fCall (F_is_bent A) (aFr (eVar 8) aNil)) aNil)))))))
  (bRet (dCall gTuple (aCons (eVar 5) aNil))))))
noncomputable def F_done (A : Str → Addr) : FF := runF 4 (d_done A)
noncomputable def d__law_pot (A : Str → Addr) : Fs :=
  (bSeq (bAsg 2 (eC (.int 0)))
  (bSeq (bIf (dTst (dOp2 gLt (eVar 1) (dCall gLen (aCons (eVar 0) aNil)))) (bAsg 2 (dOp2 gIx (eVar 0) (eVar 1))) bNext)
  (bRet (eLst (aFr (dCall gMax (aCons (eC (.int 0)) (aCons (dOp2 DL.gSub (eVar 2) (dOp2 gPow (eC (.int 10)) (eC (.int 18)))) aNil))) (aFr (dOp2 gAdd (dOp2 gMod (eVar 2) (dOp2 gAdd (dOp2 gPow (eC (.int 10)) (eC (.int 37))) (eC (.int 43)))) (dOp2 gMul (eC (.int 104729)) (eVar 1))) (aFr (eC (.int 0)) aNil)))))))
noncomputable def F__law_pot (A : Str → Addr) : FF := runF 1 (d__law_pot A)
noncomputable def d__law_dip (A : Str → Addr) : Fs :=
  (bSeq (bIf (dTst (dOp2 gGt (dOp2 gIx (eVar 0) (eC (.int 0))) (eC (.int 0)))) (bSeq (bAsg 2 (dOp2 gMod (dOp2 gIx (eVar 0) (eC (.int 0))) (eVar 1)))
  (bSeq (bSetIx 0 (eC (.int 0)) (dOp2 gDiv (dOp2 gIx (eVar 0) (eC (.int 0))) (eVar 1)))
  (bRet (eVar 2)))) bNext)
  (bSeq (bSetIx 0 (eC (.int 2)) (dOp2 gAdd (dOp2 gIx (eVar 0) (eC (.int 2))) (eC (.int 1))))
  (bSeq (bAsg 3 (dOp2 gMod (dOp2 gPow (dOp2 gAdd (dOp2 gIx (eVar 0) (eC (.int 1))) (dOp2 gMul (eC (.int 9999991)) (dOp2 gIx (eVar 0) (eC (.int 2))))) (eC (.int 3))) (dOp2 gAdd (dOp2 gPow (eC (.int 10)) (eC (.int 36))) (eC (.int 67)))))
  (bSeq (bAsg 3 (dOp2 gMod (dOp2 gPow (dOp2 gAdd (eVar 3) (dOp2 gMul (eC (.int 7919)) (dOp2 gIx (eVar 0) (eC (.int 2))))) (eC (.int 3))) (dOp2 gAdd (dOp2 gPow (eC (.int 10)) (eC (.int 33))) (eC (.int 61)))))
  (bRet (dOp2 gMod (dOp2 gDiv (eVar 3) (eC (.int 4096))) (eVar 1)))))))
noncomputable def F__law_dip (A : Str → Addr) : FF := runF 2 (d__law_dip A)
noncomputable def d__law_board (A : Str → Addr) : Fs :=
  (bSeq (bAsg 2 (fCall (F__law_dip A) (aCons (eVar 0) (aFr (eC (.int 4)) aNil))))
  (bSeq (bIf (dTst (dOp2 gLt (eVar 2) (eC (.int 2)))) (bRet (eTup (aFr (eC (.str "row")) (aFr (dOp2 gAdd (eC (.int 3)) (fCall (F__law_dip A) (aCons (eVar 0) (aFr (dOp2 DL.gSub (eVar 1) (eC (.int 2))) aNil)))) aNil)))) bNext)
  (bSeq (bIf (dTst (dOp2 gEq (eVar 2) (eC (.int 2)))) (bRet (eTup (aFr (eC (.str "ring")) (aFr (dOp2 gAdd (eC (.int 5)) (fCall (F__law_dip A) (aCons (eVar 0) (aFr (dOp2 DL.gSub (eVar 1) (eC (.int 4))) aNil)))) aNil)))) bNext)
  (bSeq (bAsg 3 (dOp2 gAdd (eC (.int 1)) (fCall (F__law_dip A) (aCons (eVar 0) (aFr (eC (.int 6)) aNil)))))
  (bSeq (bIf (dTst (dOp2 gGt (dOp2 gMul (eC (.int 3)) (eVar 3)) (eVar 1))) (bAsg 3 (dOp2 gDiv (eVar 1) (eC (.int 3)))) bNext)
  (bSeq (bAsg 4 (dOp2 gAdd (eC (.int 3)) (fCall (F__law_dip A) (aCons (eVar 0) (aFr (dOp2 DL.gSub (dOp2 gDiv (eVar 1) (eVar 3)) (eC (.int 2))) aNil)))))
  (bRet (dOp2 gIx (eLst (aFr (eTup (aFr (eC (.str "floor")) (aFr (eVar 3) (aFr (eVar 4) aNil)))) (aFr (eTup (aFr (eC (.str "floor")) (aFr (eVar 4) (aFr (eVar 3) aNil)))) aNil))) (fCall (F__law_dip A) (aCons (eVar 0) (aFr (eC (.int 2)) aNil)))))))))))
noncomputable def F__law_board (A : Str → Addr) : FF := runF 3 (d__law_board A)
noncomputable def d__law_rules (A : Str → Addr) : Fs :=
  (bSeq (bAsg 1 (eLst aNil))
  (bSeq (bIf (dTst (dOp2 gNe (dOp2 gIx (eVar 0) (eC (.int 0))) (eC (.str "floor")))) (bSeq (bFor (iRange2 (aFr (eC (.int 1)) (aFr (dOp2 gAdd (dOp2 gDiv (dOp2 gIx (eVar 0) (eC (.int 1))) (dOp2 gIx (eLst (aFr (eC (.int 3)) (aFr (eC (.int 5)) aNil))) (dCall gInt (aCons (dOp2 gEq (dOp2 gIx (eVar 0) (eC (.int 0))) (eC (.str "ring"))) aNil)))) (eC (.int 1))) aNil))) (gNm 2)
  (bAsg 1 (dOp2 gAdd (eVar 1) (eLst (aFr (eTup (aFr (eC (.str "swap")) (aFr (eVar 2) (aFr (eC (.int 0)) aNil)))) (aFr (eTup (aFr (eC (.str "swap")) (aFr (eVar 2) (aFr (eC (.int 1)) aNil)))) aNil))))))
  (bRet (eVar 1))) bNext)
  (bSeq (bUnp (gTp 3 (gsCons (gNm 3) (gsCons (gNm 4) (gsCons (gNm 5) gsNil)))) (eVar 0))
  (bSeq (bFor (iRange2 (aFr (eC (.int 1)) (aFr (dOp2 gAdd (eVar 4) (eC (.int 1))) aNil))) (gNm 6)
  (bFor (iRange2 (aFr (eC (.int 1)) (aFr (dOp2 gAdd (eVar 5) (eC (.int 1))) aNil))) (gNm 7)
  (bSeq (bIf (dAnd (dTst (dOp2 gLe (dOp2 gMul (eC (.int 3)) (eVar 7)) (eVar 5))) (dTst (dOp2 gLe (dOp2 DL.gSub (dOp2 gMul (eC (.int 2)) (eVar 6)) (eC (.int 1))) (eVar 4)))) (bAsg 1 (dOp2 gAdd (eVar 1) (eLst (aFr (eTup (aFr (eC (.str "over")) (aFr (eVar 6) (aFr (eVar 7) (aFr (eC (.int 0)) aNil))))) (aFr (eTup (aFr (eC (.str "over")) (aFr (eVar 6) (aFr (eVar 7) (aFr (eC (.int 1)) aNil))))) aNil))))) bNext)
  (bIf (dAnd (dTst (dOp2 gLe (dOp2 gMul (eC (.int 3)) (eVar 6)) (eVar 4))) (dTst (dOp2 gLe (dOp2 DL.gSub (dOp2 gMul (eC (.int 2)) (eVar 7)) (eC (.int 1))) (eVar 5)))) (bAsg 1 (dOp2 gAdd (eVar 1) (eLst (aFr (eTup (aFr (eC (.str "under")) (aFr (eVar 6) (aFr (eVar 7) (aFr (eC (.int 0)) aNil))))) (aFr (eTup (aFr (eC (.str "under")) (aFr (eVar 6) (aFr (eVar 7) (aFr (eC (.int 1)) aNil))))) aNil))))) bNext))))
  (bRet (eVar 1))))))
noncomputable def F__law_rules (A : Str → Addr) : FF := runF 7 (d__law_rules A)
noncomputable def d__law_book (A : Str → Addr) : Fs :=
  (bSeq (bAsg 2 (fCall (F__law_rules A) (aFr (eVar 1) aNil)))
  (bSeq (bAsg 3 (eLst aNil))
  (bSeq (bFor (iRange1 (aFr (dCall gMin (aCons (dCall gLen (aCons (eVar 2) aNil)) (aCons (dOp2 gAdd (eC (.int 1)) (fCall (F__law_dip A) (aCons (eVar 0) (aFr (eC (.int 4)) aNil)))) aNil))) aNil)) (gNm 4)
  (bDrop (dMt 3 (aFr (dMt 2 (aFr (fCall (F__law_dip A) (aCons (eVar 0) (aFr (dCall gLen (aCons (eVar 2) aNil)) aNil))) aNil) gPopAt) aNil) gApp)))
  (bRet (dCall gTuple (aCons (eVar 3) aNil))))))
noncomputable def F__law_book (A : Str → Addr) : FF := runF 3 (d__law_book A)
noncomputable def d__law_cells (A : Str → Addr) : Fs :=
  (bRet (dIfE (dTst (dOp2 gEq (dOp2 gIx (eVar 0) (eC (.int 0))) (eC (.str "floor")))) (dOp2 gMul (dOp2 gIx (eVar 0) (eC (.int 1))) (dOp2 gIx (eVar 0) (eC (.int 2)))) (dOp2 gIx (eVar 0) (eC (.int 1)))))
noncomputable def F__law_cells (A : Str → Addr) : FF := runF 0 (d__law_cells A)
noncomputable def d__law_places (A : Str → Addr) : Fs :=
  (bSeq (bIf (dTst (dOp2 gEq (dOp2 gIx (eVar 0) (eC (.int 0))) (eC (.str "ring")))) (bRet (dLRg1 (dOp2 gIx (eVar 0) (eC (.int 1))))) bNext)
  (bSeq (bIf (dTst (dOp2 gEq (dOp2 gIx (eVar 0) (eC (.int 0))) (eC (.str "row")))) (bRet (dLRg1 (dOp2 gAdd (dOp2 DL.gSub (dOp2 gIx (eVar 0) (eC (.int 1))) (dOp2 gMul (eC (.int 2)) (dOp2 gIx (eVar 1) (eC (.int 1))))) (eC (.int 1))))) bNext)
  (bSeq (bUnp (gTp 3 (gsCons (gNm 2) (gsCons (gNm 3) (gsCons (gNm 4) gsNil)))) (eVar 0))
  (bSeq (bAsg 5 (eLst aNil))
  (bSeq (bFor (iRange1 (aFr (eVar 3) aNil)) (gNm 6)
  (bFor (iRange1 (aFr (eVar 4) aNil)) (gNm 7)
  (bSeq (bAsg 8 (dOp2 gAdd (eVar 6) (dOp2 gMul (dOp2 gIx (eVar 1) (eC (.int 1))) (dOp2 gIx (eLst (aFr (eC (.int 1)) (aFr (eC (.int 2)) aNil))) (dCall gInt (aCons (dOp2 gEq (dOp2 gIx (eVar 1) (eC (.int 0))) (eC (.str "under"))) aNil))))))
  (bSeq (bAsg 9 (dOp2 gAdd (eVar 7) (dOp2 gMul (dOp2 gIx (eVar 1) (eC (.int 2))) (dOp2 gIx (eLst (aFr (eC (.int 1)) (aFr (eC (.int 2)) aNil))) (dCall gInt (aCons (dOp2 gEq (dOp2 gIx (eVar 1) (eC (.int 0))) (eC (.str "over"))) aNil))))))
  (bIf (dAnd (dTst (dOp2 gLe (eVar 8) (eVar 3))) (dTst (dOp2 gLe (eVar 9) (eVar 4)))) (bDrop (dMt 5 (aFr (dOp2 gAdd (dOp2 gMul (eVar 6) (eVar 4)) (eVar 7)) aNil) gApp)) bNext)))))
  (bRet (eVar 5)))))))
noncomputable def F__law_places (A : Str → Addr) : FF := runF 8 (d__law_places A)
noncomputable def d__law_deeds (A : Str → Addr) : Fs :=
  (bSeq (bAsg 2 (eLst aNil))
  (bSeq (bFor (iRange1 (aFr (dCall gLen (aCons (eVar 1) aNil)) aNil)) (gNm 3)
  (bAsg 2 (dOp2 gAdd (eVar 2) (dLc (iAny (fCall (F__law_places A) (aFr (eVar 0) (aFr (dOp2 gIx (eVar 1) (eVar 3)) aNil)))) (gNm 4) dYes (eTup (aFr (eVar 3) (aFr (eVar 4) aNil))) [4]))))
  (bRet (eVar 2))))
noncomputable def F__law_deeds (A : Str → Addr) : FF := runF 3 (d__law_deeds A)
noncomputable def d__law_pairs (A : Str → Addr) : Fs :=
  (bSeq (bAsg 3 (dOp2 gIx (eVar 1) (dOp2 gIx (eVar 2) (eC (.int 0)))))
  (bSeq (bIf (dTst (dOp2 gEq (dOp2 gIx (eVar 3) (eC (.int 0))) (eC (.str "swap")))) (bRet (dLc (iRange1 (aFr (dOp2 gIx (eVar 3) (eC (.int 1))) aNil)) (gNm 7) dYes (eTup (aFr (dOp2 gMod (dOp2 gAdd (dOp2 gIx (eVar 2) (eC (.int 1))) (eVar 7)) (dOp2 gIx (eVar 0) (eC (.int 1)))) (aFr (dOp2 gMod (dOp2 gAdd (dOp2 gAdd (dOp2 gIx (eVar 2) (eC (.int 1))) (eVar 7)) (dOp2 gIx (eVar 3) (eC (.int 1)))) (dOp2 gIx (eVar 0) (eC (.int 1)))) aNil))) [7])) bNext)
  (bSeq (bAsg 4 (dIfE (dTst (dOp2 gEq (dOp2 gIx (eVar 3) (eC (.int 0))) (eC (.str "over")))) (dOp2 gIx (eVar 3) (eC (.int 2))) (dOp2 gMul (dOp2 gIx (eVar 3) (eC (.int 1))) (dOp2 gIx (eVar 0) (eC (.int 2))))))
  (bSeq (bAsg 5 (eLst aNil))
  (bSeq (bFor (iRange1 (aFr (dOp2 gIx (eVar 3) (eC (.int 1))) aNil)) (gNm 6)
  (bAsg 5 (dOp2 gAdd (eVar 5) (dLc (iRange1 (aFr (dOp2 gIx (eVar 3) (eC (.int 2))) aNil)) (gNm 8) dYes (dOp2 gAdd (dOp2 gAdd (dOp2 gIx (eVar 2) (eC (.int 1))) (dOp2 gMul (eVar 6) (dOp2 gIx (eVar 0) (eC (.int 2))))) (eVar 8)) [8]))))
  (bRet (dLc (iAny (eVar 5)) (gNm 9) dYes (eTup (aFr (eVar 9) (aFr (dOp2 gAdd (eVar 9) (eVar 4)) aNil))) [9])))))))
noncomputable def F__law_pairs (A : Str → Addr) : FF := runF 7 (d__law_pairs A)
noncomputable def d__law_turned (A : Str → Addr) : Fs :=
  (bRet (eTup (aFr (dOp2 gIx (eVar 0) (eC (.int 0))) (aFr (dOp2 gMod (dOp2 gAdd (dOp2 gIx (eVar 0) (eC (.int 1))) (eVar 1)) (eC (.int 2))) aNil))))
noncomputable def F__law_turned (A : Str → Addr) : FF := runF 0 (d__law_turned A)
noncomputable def d__law_done (A : Str → Addr) : Fs :=
  (bSeq (bAsg 4 (dCall gList (aCons (eVar 2) aNil)))
  (bSeq (bAsg 5 (eDict (.t [])))
  (bSeq (bFor (iAny (eVar 3)) (gNm 6)
  (bSeq (bIf (dTst (dDIn true 5 (eVar 6))) (bDPut 5 (eVar 6) (fCall (F__law_pairs A) (aFr (eVar 0) (aFr (eVar 1) (aFr (eVar 6) aNil))))) bNext)
  (bSeq (bAsg 7 (dOp2 gIx (dOp2 gIx (eVar 1) (dOp2 gIx (eVar 6) (eC (.int 0)))) (dNeg (eC (.int 1)))))
  (bFor (iAny (dDGet 5 (eVar 6))) (gTp 2 (gsCons (gNm 8) (gsCons (gNm 9) gsNil)))
  (bSeq (bAsg 10 (fCall (F__law_turned A) (aFr (dOp2 gIx (eVar 4) (eVar 8)) (aFr (eVar 7) aNil))))
  (bSeq (bSetIx 4 (eVar 8) (fCall (F__law_turned A) (aFr (dOp2 gIx (eVar 4) (eVar 9)) (aFr (eVar 7) aNil))))
  (bSetIx 4 (eVar 9) (eVar 10))))))))
  (bRet (dCall gTuple (aCons (eVar 4) aNil))))))
noncomputable def F__law_done (A : Str → Addr) : FF := runF 7 (d__law_done A)
noncomputable def d__law_name (A : Str → Addr) : Fs :=
  (bSeq (bAsg 3 (eC (.str "abcdefghijklmnopqrstuvwxyz")))
  (bSeq (bAsg 4 (dOp2 gIx (eVar 3) (dOp2 gMod (dOp2 gAdd (eVar 2) (eVar 1)) (eC (.int 26)))))
  (bSeq (bAsg 5 (dOp2 gIx (eVar 3) (dOp2 gMod (dOp2 gAdd (dOp2 gMul (dOp2 gDiv (eVar 2) (eC (.int 26))) (eC (.int 5))) (eVar 1)) (eC (.int 26)))))
  (bSeq (bAsg 6 (eLst (aFr (dOp2 gAdd (eVar 4) (dOp2 gMul (eVar 5) (dCall gInt (aCons (dOp2 gGt (eVar 2) (eC (.int 25))) aNil)))) (aFr (dOp2 gAdd (eVar 5) (eVar 4)) (aFr (dOp2 gAdd (dOp2 gAdd (dOp2 gMul (dOp2 gIx (eVar 3) (eVar 1)) (eC (.int 2))) (eVar 4)) (eVar 5)) (aFr (dOp2 gAdd (dOp2 gAdd (eVar 4) (eVar 5)) (dOp2 gMul (dOp2 gIx (eVar 3) (eVar 1)) (eC (.int 2)))) aNil))))))
  (bSeq (bAsg 6 (dOp2 gAdd (eVar 6) (eLst (aFr (dOp2 gAdd (dOp2 gAdd (eVar 5) (dOp2 gMul (dOp2 gIx (eVar 3) (eVar 1)) (eC (.int 2)))) (eVar 4)) (aFr (dOp2 gAdd (dOp2 gAdd (dSl (eVar 3) (oSome (eVar 1)) (oSome (dOp2 gAdd (eVar 1) (eC (.int 1))))) (eVar 5)) (dOp2 gMul (eVar 4) (dOp2 gAdd (eC (.int 1)) (dOp2 gMod (eVar 2) (eC (.int 2)))))) aNil)))))
  (bRet (dOp2 gIx (eVar 6) (eVar 0))))))))
noncomputable def F__law_name (A : Str → Addr) : FF := runF 4 (d__law_name A)
noncomputable def d__law_names (A : Str → Addr) : Fs :=
  (bSeq (bAsg 2 (fCall (F__law_dip A) (aCons (eVar 0) (aFr (eC (.int 6)) aNil))))
  (bSeq (bAsg 3 (fCall (F__law_dip A) (aCons (eVar 0) (aFr (eC (.int 26)) aNil))))
  (bSeq (bAsg 4 (dCall gMax (aCons (eC (.int 1)) (aCons (dOp2 DL.gSub (dOp2 DL.gSub (eVar 1) (eC (.int 1))) (fCall (F__law_dip A) (aCons (eVar 0) (aFr (eC (.int 3)) aNil)))) aNil))))
  (bSeq (bAsg 5 (dOp2 gIx (eLst (aFr (eC (.int 36)) (aFr (eC (.int 36)) (aFr (dOp2 gAdd (eC (.int 1)) (fCall (F__law_dip A) (aCons (eVar 0) (aFr (eC (.int 4)) aNil)))) (aFr (eVar 4) aNil))))) (fCall (F__law_dip A) (aCons (eVar 0) (aFr (eC (.int 4)) aNil)))))
  (bRet (dLc (iRange1 (aFr (eVar 1) aNil)) (gNm 6) dYes (fCall (F__law_name A) (aFr (eVar 2) (aFr (eVar 3) (aFr (dOp2 gMod (eVar 6) (eVar 5)) aNil)))) [6]))))))
noncomputable def F__law_names (A : Str → Addr) : FF := runF 5 (d__law_names A)
noncomputable def d__law_mixed (A : Str → Addr) : Fs :=
  (bSeq (bAsg 2 (dCall gList (aCons (eVar 1) aNil)))
  (bRet (dLc (iRange1 (aFr (dCall gLen (aCons (eVar 2) aNil)) aNil)) (gNm 3) dYes (dMt 2 (aFr (fCall (F__law_dip A) (aCons (eVar 0) (aFr (dCall gLen (aCons (eVar 2) aNil)) aNil))) aNil) gPopAt) [3])))
noncomputable def F__law_mixed (A : Str → Addr) : FF := runF 2 (d__law_mixed A)
noncomputable def d__law_standing (A : Str → Addr) : Fs :=
  (bSeq (bAsg 2 (fCall (F__law_mixed A) (aCons (eVar 0) (aFr (fCall (F__law_names A) (aCons (eVar 0) (aFr (eVar 1) aNil))) aNil))))
  (bRet (dCall gTuple (aCons (dLc (iAny (eVar 2)) (gNm 3) dYes (eTup (aFr (eVar 3) (aFr (fCall (F__law_dip A) (aCons (eVar 0) (aFr (eC (.int 2)) aNil))) aNil))) [3]) aNil))))
noncomputable def F__law_standing (A : Str → Addr) : FF := runF 2 (d__law_standing A)
noncomputable def d__law_many_names (A : Str → Addr) : Fs :=
  (bSeq (bAsg 1 (eC (.str "abcdefghijklmnopqrstuvwxyz")))
  (bSeq (bAsg 2 (dOp2 gAdd (dOp2 gAdd (dLc (iAny (eVar 1)) (gNm 3) dYes (dOp2 gAdd (eVar 3) (eC (.str "zz"))) [3]) (dCall gListU (aCons (eVar 1) aNil))) (dLc (iAny (eVar 1)) (gNm 3) dYes (dOp2 gAdd (dOp2 gAdd (eC (.str "q")) (eVar 3)) (eC (.str "ab"))) [3])))
  (bRet (dLc (iRange1 (aFr (dOp2 gAdd (eC (.int 1)) (fCall (F__law_dip A) (aCons (eVar 0) (aFr (eC (.int 40)) aNil)))) aNil)) (gNm 4) dYes (dMt 2 (aFr (fCall (F__law_dip A) (aCons (eVar 0) (aFr (dCall gLen (aCons (eVar 2) aNil)) aNil))) aNil) gPopAt) [4]))))
noncomputable def F__law_many_names (A : Str → Addr) : FF := runF 4 (d__law_many_names A)
noncomputable def d_Yard___len__ (A : Str → Addr) : Fs :=
  (bRet (dLenD (ePt (A "Yard") ["board", "book", "limit", "kept", "noted", "busy"] "kept" 0 1)))
noncomputable def F_Yard___len__ (A : Str → Addr) : FF := runF 0 (d_Yard___len__ A)
noncomputable def d_Yard_stands (A : Str → Addr) : Fs :=
  (bRet (dDictD (ePt (A "Yard") ["board", "book", "limit", "kept", "noted", "busy"] "kept" 0 1)))
noncomputable def F_Yard_stands (A : Str → Addr) : FF := runF 0 (d_Yard_stands A)
noncomputable def d_Yard_names (A : Str → Addr) : Fs :=
  (bRet (dSortK (ePt (A "Yard") ["board", "book", "limit", "kept", "noted", "busy"] "kept" 0 1)))
noncomputable def F_Yard_names (A : Str → Addr) : FF := runF 0 (d_Yard_names A)
noncomputable def d_Yard_standing (A : Str → Addr) : Fs :=
  (bSeq (bIf (dTst (viaIn true (eVar 1) (ePt (A "Yard") ["board", "book", "limit", "kept", "noted", "busy"] "kept" 0 2))) (bRaise (A "NoName") "name" (eVar 1)) bNext)
  (bRet (viaE (ePt (A "Yard") ["board", "book", "limit", "kept", "noted", "busy"] "kept" 0 2) fun n => dDGet n (eVar 1))))
noncomputable def F_Yard_standing (A : Str → Addr) : FF := runF 0 (d_Yard_standing A)
noncomputable def X_Yard_standing (A : Str → Addr) : FX := runX 0 (d_Yard_standing A)
noncomputable def d_Yard_log (A : Str → Addr) : Fs :=
  (bSeq (bIf (dTst (viaIn true (eVar 1) (ePt (A "Yard") ["board", "book", "limit", "kept", "noted", "busy"] "kept" 0 2))) (bRaise (A "NoName") "name" (eVar 1)) bNext)
  (bRet (viaE (ePt (A "Yard") ["board", "book", "limit", "kept", "noted", "busy"] "noted" 0 3) fun n => dDGet n (eVar 1))))
noncomputable def F_Yard_log (A : Str → Addr) : FF := runF 0 (d_Yard_log A)
noncomputable def X_Yard_log (A : Str → Addr) : FX := runX 0 (d_Yard_log A)
noncomputable def d__law_all_right (A : Str → Addr) : Fs :=
  (bSeq (bIf (dOr (dTst (dOp2 gNe (fMethO (A "Yard") ["board", "book", "limit", "kept", "noted", "busy"] (F_Yard_names A) [3, 4] 0 (aKon [])) (dSortK (eVar 1)))) (dOr (dTst (dOp2 gNe (dLenOb (A "Yard") ["board", "book", "limit", "kept", "noted", "busy"] (F_Yard___len__ A) [3, 4] 0) (dLenD (eVar 1)))) (dTst (dOp2 gIsNot (eFldO (A "Yard") ["board", "book", "limit", "kept", "noted", "busy"] "busy" 0) (eC .non))))) (bRet (eC (.bl false))) bNext)
  (bSeq (bIf (dTst (dCmpD true (fMethO (A "Yard") ["board", "book", "limit", "kept", "noted", "busy"] (F_Yard_stands A) [3, 4] 0 (aKon [])) (eVar 1))) (bRet (eC (.bl false))) bNext)
  (bRet (dOp2 gEq (dLc (iKeysF (eVar 1)) (gNm 5) (dOr (dTst (dOp2 gNe (fMethO (A "Yard") ["board", "book", "limit", "kept", "noted", "busy"] (F_Yard_standing A) [3, 4] 0 (aCat (aFr (eVar 5) aNil) (aKon []))) (dDgF (eVar 1) (eVar 5)))) (dTst (dOp2 gNe (fMethO (A "Yard") ["board", "book", "limit", "kept", "noted", "busy"] (F_Yard_log A) [3, 4] 0 (aCat (aFr (eVar 5) aNil) (aKon []))) (dDgF (eVar 2) (eVar 5))))) (eC (.int 1)) [5]) (eLst aNil)))))
noncomputable def F__law_all_right (A : Str → Addr) : FF := runF 1 (d__law_all_right A)
noncomputable def d_Yard_worked (A : Str → Addr) : Fs :=
  (bSeq (bFin (bSeq (bOst (A "Yard") ["board", "book", "limit", "kept", "noted", "busy"] "busy" 0 (eVar 1))
  (bSeq (bDPutE (ePt (A "Yard") ["board", "book", "limit", "kept", "noted", "busy"] "kept" 0 4) (eVar 1) (fCall (F_done A) (aCat (aFr (eFldO (A "Yard") ["board", "book", "limit", "kept", "noted", "busy"] "board" 0) (aFr (eFldO (A "Yard") ["board", "book", "limit", "kept", "noted", "busy"] "book" 0) (aFr (viaE (ePt (A "Yard") ["board", "book", "limit", "kept", "noted", "busy"] "kept" 0 4) fun n => dDGet n (eVar 1)) (aFr (eVar 2) aNil)))) (aKon [.bl false]))))
  (bDPutE (ePt (A "Yard") ["board", "book", "limit", "kept", "noted", "busy"] "noted" 0 5) (eVar 1) (eVar 3))))
  (bOst (A "Yard") ["board", "book", "limit", "kept", "noted", "busy"] "busy" 0 (eC .non)))
  (bRet (viaE (ePt (A "Yard") ["board", "book", "limit", "kept", "noted", "busy"] "kept" 0 4) fun n => dDGet n (eVar 1))))
noncomputable def F_Yard_worked (A : Str → Addr) : FF := runF 0 (d_Yard_worked A)
noncomputable def d_Yard_undo (A : Str → Addr) : Fs :=
  (bSeq (bAsg2 5 (mX (A "Yard") ["board", "book", "limit", "kept", "noted", "busy"] (F_Yard_log A) (X_Yard_log A) [3, 4] 0 (aCat (aFr (eVar 1) aNil) (aKon []))))
  (bSeq (bIf (dTst (dOp2 gGt (eVar 2) (dCall gLen (aCons (eVar 5) aNil)))) bNever bNext)
  (bSeq (bAsg 6 (dOp2 DL.gSub (dCall gLen (aCons (eVar 5) aNil)) (eVar 2)))
  (bRet (fMethO (A "Yard") ["board", "book", "limit", "kept", "noted", "busy"] (F_Yard_worked A) [3, 4] 0 (aCat (aFr (eVar 1) (aFr (dBack (dSl (eVar 5) (oSome (eVar 6)) oNo)) (aFr (dSl (eVar 5) oNo (oSome (eVar 6))) aNil))) (aKon [])))))))
noncomputable def F_Yard_undo (A : Str → Addr) : FF := runF 2 (d_Yard_undo A)
noncomputable def X_Yard_undo (A : Str → Addr) : FX := runX 2 (d_Yard_undo A)
noncomputable def d__law_none_there (A : Str → Addr) : Fs :=
  (bSeq (bAsg 4 (eC .non))
  (bSeq (bTry2 5 [A "NoName"] (mX (A "Yard") ["board", "book", "limit", "kept", "noted", "busy"] (F_Yard_undo A) (X_Yard_undo A) [2, 3] 0 (aCat (aFr (eVar 1) aNil) (aFr (eC (.int 0)) aNil))) (bAsg 4 (dXf [A "NoName"] "name" (eVar 5))))
  (bRet (dOp2 gEq (eVar 4) (eVar 1)))))
noncomputable def F__law_none_there (A : Str → Addr) : FF := runF 2 (d__law_none_there A)
noncomputable def d_Yard_put (A : Str → Addr) : Fs :=
  (bSeq (bDPutE (ePt (A "Yard") ["board", "book", "limit", "kept", "noted", "busy"] "kept" 0 3) (eVar 1) (eVar 2))
  (bDPutE (ePt (A "Yard") ["board", "book", "limit", "kept", "noted", "busy"] "noted" 0 4) (eVar 1) (eTup aNil)))
noncomputable def F_Yard_put (A : Str → Addr) : FF := runF 0 (d_Yard_put A)
noncomputable def d_Yard_need_room (A : Str → Addr) : Fs :=
  (bSeq (bAsg 5 (dOp2 DL.gSub (dOp2 gAdd (dCall gLen (aCons (viaE (ePt (A "Yard") ["board", "book", "limit", "kept", "noted", "busy"] "noted" 0 4) fun n => dDGet n (eVar 1)) aNil)) (eVar 2)) (eFldO (A "Yard") ["board", "book", "limit", "kept", "noted", "busy"] "limit" 0)))
  (bIf (dTst (dOp2 gGt (eVar 5) (eC (.int 0)))) bNever bNext))
noncomputable def F_Yard_need_room (A : Str → Addr) : FF := runF 1 (d_Yard_need_room A)
noncomputable def d_Yard_do (A : Str → Addr) : Fs :=
  (bSeq (bAsg 6 (fMethO (A "Yard") ["board", "book", "limit", "kept", "noted", "busy"] (F_Yard_log A) [4, 5] 0 (aCat (aFr (eVar 1) aNil) (aKon []))))
  (bSeq (bDrop (fCall (F_need_deeds A) (aFr (eFldO (A "Yard") ["board", "book", "limit", "kept", "noted", "busy"] "board" 0) (aFr (eFldO (A "Yard") ["board", "book", "limit", "kept", "noted", "busy"] "book" 0) (aFr (eVar 2) aNil)))))
  (bSeq (bDrop (fMethO (A "Yard") ["board", "book", "limit", "kept", "noted", "busy"] (F_Yard_need_room A) [4, 5] 0 (aCat (aFr (eVar 1) (aFr (dCall gLen (aCons (eVar 2) aNil)) aNil)) (aKon []))))
  (bSeq (bAsg 7 (dIfE (dTst (eVar 3)) (dBack (dCall gTuple (aCons (eVar 2) aNil))) (dCall gTuple (aCons (eVar 2) aNil))))
  (bRet (fMethO (A "Yard") ["board", "book", "limit", "kept", "noted", "busy"] (F_Yard_worked A) [4, 5] 0 (aCat (aFr (eVar 1) (aFr (eVar 7) (aFr (dOp2 gAdd (eVar 6) (eVar 7)) aNil))) (aKon []))))))))
noncomputable def F_Yard_do (A : Str → Addr) : FF := runF 2 (d_Yard_do A)
noncomputable def d_law (A : Str → Addr) : Fs :=
  (bSeq (bFor (iRange1 (aFr (dCall gMax (aCons (eC (.int 1)) (aCons (dCall gMin (aCons (eC (.int 2)) (aCons (dCall gLen (aCons (eVar 0) aNil)) aNil))) aNil))) aNil)) (gNm 3)
  (bSeq (bAsg 4 (fCall (F__law_pot A) (aFr (eVar 0) (aFr (eVar 3) aNil))))
  (bSeq (bAsg 5 (fCall (F__law_board A) (aCons (eVar 4) (aFr (eC (.int 12)) aNil))))
  (bSeq (bAsg 6 (fCall (F__law_book A) (aCons (eVar 4) (aFr (eVar 5) aNil))))
  (bSeq (bAsg 7 (fCall (F__law_deeds A) (aFr (eVar 5) (aFr (eVar 6) aNil))))
  (bNew 8 [1, 2] [1, 2, 3, 4, 5, 6, 7, 8, 9, 10, 11, 12, 13, 14, 15, 16, 17, 18] (A "Yard") ["board", "book", "limit", "kept", "noted", "busy"] [.a 0, .a 1, .a 2, .d 0, .d 1, .n] (aCat (aFr (eVar 5) (aFr (eVar 6) aNil)) (aKon [.int 150000]))
  (bSeq (bAsg 9 (eDict (.k [])))
  (bSeq (bAsg 10 (eDict (.k [])))
  (bSeq (bAsg 11 (fCall (F__law_many_names A) (aCons (eVar 4) aNil)))
  (bFor (iRange1 (aFr (dOp2 gMul (eC (.int 2)) (dCall gLen (aCons (eVar 11) aNil))) aNil)) (gNm 12)
  (bSeq (bAsg 13 (dOp2 gIx (eVar 11) (dOp2 gMod (eVar 12) (dCall gLen (aCons (eVar 11) aNil)))))
  (bSeq (bIf (dOr (dTst (dOp2 gLt (eVar 12) (dCall gLen (aCons (eVar 11) aNil)))) (dTst (dOp2 gEq (fCall (F__law_dip A) (aCons (eVar 4) (aFr (eC (.int 8)) aNil))) (eC (.int 0))))) (bSeq (bDPut 9 (eVar 13) (fCall (F__law_standing A) (aCons (eVar 4) (aFr (fCall (F__law_cells A) (aFr (eVar 5) aNil)) aNil))))
  (bSeq (bDPut 10 (eVar 13) (eTup aNil))
  (bDrop (fMethO (A "Yard") ["board", "book", "limit", "kept", "noted", "busy"] (F_Yard_put A) [1, 2] 8 (aCat (aFr (eVar 13) (aFr (dDGet 9 (eVar 13)) aNil)) (aKon [])))))) bNext)
  (bSeq (bAsg 14 (dOp2 gIx (dSortK (eVar 9)) (fCall (F__law_dip A) (aCons (eVar 4) (aFr (dLenD (eVar 9)) aNil)))))
  (bSeq (bAsg 15 (dCall gTuple (aCons (dLc (iRange1 (aFr (fCall (F__law_dip A) (aCons (eVar 4) (aFr (eC (.int 7)) aNil))) aNil)) (gNm 18) dYes (dOp2 gIx (eVar 7) (fCall (F__law_dip A) (aCons (eVar 4) (aFr (dCall gLen (aCons (eVar 7) aNil)) aNil)))) [18]) aNil)))
  (bSeq (bDPut 9 (eVar 14) (fCall (F__law_done A) (aFr (eVar 5) (aFr (eVar 6) (aFr (dDGet 9 (eVar 14)) (aFr (eVar 15) aNil))))))
  (bSeq (bDPut 10 (eVar 14) (dOp2 gAdd (dDGet 10 (eVar 14)) (eVar 15)))
  (bSeq (bIf (dOr (dTst (dOp2 gNe (fMethO (A "Yard") ["board", "book", "limit", "kept", "noted", "busy"] (F_Yard_do A) [1, 2] 8 (aCat (aFr (eVar 14) (aFr (eVar 15) aNil)) (aKon [.bl false]))) (dDGet 9 (eVar 14)))) (dNot (dTst (fCallM (F__law_none_there A) [1, 2] (aCons (eVar 8) (aFr (eC (.str "aaaa")) aNil)))))) (bRet (eC (.bl false))) bNext)
  (bSeq (bAsg 16 (fCall (F__law_dip A) (aCons (eVar 4) (aFr (dOp2 gAdd (dCall gLen (aCons (dDGet 10 (eVar 13)) aNil)) (eC (.int 1))) aNil))))
  (bSeq (bAsg 17 (dSl (dDGet 10 (eVar 13)) (oSome (eVar 16)) oNo))
  (bSeq (bDPut 9 (eVar 13) (fCall (F__law_done A) (aFr (eVar 5) (aFr (eVar 6) (aFr (dDGet 9 (eVar 13)) (aFr (dBack (eVar 17)) aNil))))))
  (bSeq (bDPut 10 (eVar 13) (dSl (dDGet 10 (eVar 13)) oNo (oSome (eVar 16))))
  (bIf (dOr (dTst (dOp2 gNe (fMethO (A "Yard") ["board", "book", "limit", "kept", "noted", "busy"] (F_Yard_undo A) [1, 2] 8 (aCat (aFr (eVar 13) aNil) (aFr (dCall gLen (aCons (eVar 17) aNil)) aNil))) (dDGet 9 (eVar 13)))) (dNot (dTst (dStill 10 (dStill 9 (fCallM (F__law_all_right A) [1, 2] (aCons (eVar 8) (aFr (eVar 9) (aFr (eVar 10) aNil))))))))) (bRet (eC (.bl false))) bNext))))))))))))))))))))))
  (bRet (eC (.bl true))))
noncomputable def F_law (A : Str → Addr) : FF := runF 18 (d_law A)
section
variable {P : Program} {w : World} {K : PySem.W.Frag} {mg : Str → Option Value} {base : Heap}
theorem xc_NoName (T : Tx fa fn K mg) (hx : HX K) : XCls P w K mg base "NoName" "name" (He.ga K "NoName") := by
  obtain ⟨fd, Fd⟩ := T.c.def_ 37 (d := df_NoName__) rfl
  refine xclsMk (st := s_NoName__) (ck_NoName hx) (T.gl 10 rfl) Fd (fun _ _ _ _ _ _ us hl => match us, hl with | [_, _], _ => rfl) (ini_of (st := s_NoName__) (ck_NoName hx).o (ck_NoName hx).no Fd sc_NoName__ (txt_pre (s := "nothing under ") (by decide +kernel)) fun cdv A outer s H E => ?_)
  exact pss_cons (ps_expr (pe_seinit rfl (T.gl 39 rfl) (seB_ok (hx 3 rfl)) (pa_cons (pe_var rfl (.inl rfl)) (pa_cons (pe_joined (.cons pe_str (.cons (pe_fmt (pe_var rfl (.inl rfl))) .nil))) pa_nil)))) (pss_one (ps_ost (pe_var rfl (.inl rfl)) (pe_var rfl (.inl rfl))))
theorem mk_Yard (T : Tx fa fn K mg) (hx : HX K) : MkO P w K mg base "Yard" (He.ga K "Yard") ["board", "book", "limit", "kept", "noted", "busy"] [.a 0, .a 1, .a 2, .d 0, .d 1, .n] 3 2 [.int 150000] := by
  obtain ⟨fd, Fd⟩ := T.c.def_ 38 (d := df_Yard__) rfl
  refine mkO (st := s_Yard__) (insB_ok (hx 0 rfl)) (T.gl 11 rfl) Fd sc_Yard__ rfl rfl (bindsKk (ps := ["self", "board", "book", "limit"]) (st := s_Yard__) 3 Fd (List.cons_ne_nil _ _) rfl (fun _ _ _ _ _ _ us ks h1 h2 => match us, h1, ks, h2 with | [_, _, _], _, [_], _ => ⟨_, _, _, _, _, _, rfl, rfl, rfl⟩) (fun _ _ _ _ _ _ us ws h1 h2 => match us, h1, ws, h2 with | [_, _, _], _, [_], _ => rfl)).less (fun _ => .cons (.int _) (.nil)) (by decide) (by decide) rfl rfl fun cdv A outer s H E => ?_
  exact (pss_cons (ps_fld (pe_var rfl (.inl rfl)) (pe_var rfl (.inl rfl)) rfl) (pss_cons (ps_fld (pe_var rfl (.inl rfl)) (pe_var rfl (.inl rfl)) rfl) (pss_cons (ps_fld (pe_var rfl (.inl rfl)) (pe_var rfl (.inl rfl)) rfl) (pss_cons (ps_fld (pe_var rfl (.inl rfl)) pe_dnewK rfl) (pss_cons (ps_fld (pe_var rfl (.inl rfl)) pe_dnewK rfl) (pss_cons (ps_fld (pe_var rfl (.inl rfl)) pe_non rfl) pss_nil))))))
theorem ok_cells_many (T : Tx fa fn K mg)  (hx : HX K)  : Df P w K mg base 1 "cells_many" ps_cells_many (F_cells_many (He.ga K)) := by
  obtain ⟨fd, Fd⟩ := T.c.def_ 0 (d := df_cells_many) rfl
  refine dfMk (st := s_cells_many) (N := N_cells_many) Fd (T.gl 12 rfl) sc_cells_many (fun _ _ _ _ _ _ us hl => match us, hl with | [_], _ => rfl) fun cdv A outer s H gd hr => ?_
  have nd := sc_cells_many.nd
  exact (db_cons (ds_if (dt_cmp (OpR.or op_eq (op_eqD (hu64 hr))) g_eq (de_ix (dv 0) de_int) de_str (nomark _)) (db_one (ds_ret (de_op op_mulU g_mul (de_ix (dv 0) de_int) (de_ix (dv 0) de_int)))) db_nil)
    (db_one (ds_ret (de_ix (dv 0) de_int))))
theorem ok_first_cells (T : Tx fa fn K mg)  (hx : HX K) (D_cells_many : Df P w K mg base 1 "cells_many" ps_cells_many (F_cells_many (He.ga K))) : Df P w K mg base 2 "first_cells" ps_first_cells (F_first_cells (He.ga K)) := by
  obtain ⟨fd, Fd⟩ := T.c.def_ 1 (d := df_first_cells) rfl
  refine dfMk (st := s_first_cells) (N := N_first_cells) Fd (T.gl 13 rfl) sc_first_cells (fun _ _ _ _ _ _ us hl => match us, hl with | [_, _], _ => rfl) fun cdv A outer s H gd hr => ?_
  have nd := sc_first_cells.nd
  have hr_cells_many := hr.mono (show 1 ≤ 1 by decide)
  exact (db_cons (sset 2 nd (de_callD D_cells_many gd hr_cells_many rfl (da_fr (dv 0) da_nil) (.fr .nil)))
    (db_cons (ds_if (dt_cmp (OpR.or op_eq (op_eqD (hu64 hr))) g_eq (de_ix (dv 0) de_int) de_str (nomark _)) (db_one (ds_ret (de_lrg1 rfl rfl (T.fr 0 rfl) rfl (T.fr 1 rfl) (de_op op_addU g_add (de_op op_sub g_sub (dv 2) (de_op op_mulU g_mul de_int (de_ix (dv 1) de_int))) de_int)))) db_nil)
    (db_cons (ds_if (dt_cmp (OpR.or op_eq (op_eqD (hu64 hr))) g_eq (de_ix (dv 0) de_int) de_str (nomark _)) (db_one (ds_ret (de_lrg1 rfl rfl (T.fr 0 rfl) rfl (T.fr 1 rfl) (dv 2)))) db_nil)
    (db_cons (ds_unp (de_sl (dv 0) (do_some de_int) do_no) (dg_tup rfl (dgs_cons (gnm 3 nd) (dgs_cons (gnm 4 nd) dgs_nil))))
    (db_cons (sset 5 nd (de_op op_addU g_add (de_op op_sub g_sub (dv 3) (de_op op_mulU g_mul (de_ix (dv 1) de_int) (de_op op_addU g_add de_int (de_callTy call_int1 c_int rfl (T.fr 2 rfl) (by decide +kernel) (da_cons (de_cmp (OpR.or op_eq (op_eqD (hu64 hr))) g_eq (de_ix (dv 1) de_int) de_str (nomark _)) da_nil))))) de_int))
    (db_cons (sset 6 nd (de_op op_addU g_add (de_op op_sub g_sub (dv 4) (de_op op_mulU g_mul (de_ix (dv 1) de_int) (de_op op_addU g_add de_int (de_callTy call_int1 c_int rfl (T.fr 2 rfl) (by decide +kernel) (da_cons (de_cmp (OpR.or op_eq (op_eqD (hu64 hr))) g_eq (de_ix (dv 1) de_int) de_str (nomark _)) da_nil))))) de_int))
    (db_one (ds_ret (de_lc2 (own := [("row", 7), ("column", 8)]) (vs1 := [8]) rfl nd (di_range1 rfl (T.fr 1 rfl) (da_fr (dv 5) da_nil)) (blkOk_by (own := [("row", 7), ("column", 8)]) (N := N_first_cells) (sc := defScope s_first_cells) (by decide +kernel)) (fun _ _ _ _ _ => (gnm 7 nd)) (fun _ _ _ _ _ => dts_nil) (fun _ _ _ _ _ => (di_range1 rfl (T.fr 1 rfl) (da_fr (dv 6) da_nil))) (fun _ _ _ _ _ => (gnm 8 nd)) (fun _ _ _ _ _ => dts_nil) (fun _ _ _ _ _ => (de_op op_addU g_add (de_op op_mulU g_mul (dv 7) (dv 4)) (dv 8))))))))))))
theorem ok_is_deed (T : Tx fa fn K mg)  (hx : HX K) (D_first_cells : Df P w K mg base 2 "first_cells" ps_first_cells (F_first_cells (He.ga K))) : Df P w K mg base 3 "is_deed" ps_is_deed (F_is_deed (He.ga K)) := by
  obtain ⟨fd, Fd⟩ := T.c.def_ 2 (d := df_is_deed) rfl
  refine dfMk (st := s_is_deed) (N := N_is_deed) Fd (T.gl 14 rfl) sc_is_deed (fun _ _ _ _ _ _ us hl => match us, hl with | [_, _, _], _ => rfl) fun cdv A outer s H gd hr => ?_
  have nd := sc_is_deed.nd
  have hr_first_cells := hr.mono (show 2 ≤ 2 by decide)
  exact (db_cons (ds_unp (dv 2) (dg_tup rfl (dgs_cons (gnm 3 nd) (dgs_cons (gnm 4 nd) dgs_nil))))
    (db_one (ds_ret (de_and (de_chain op_le (g_cmp _) op_lt (g_cmp _) de_int (dv 3) (de_callB call_len c_len rfl (T.fr 3 rfl) PySem.boot_len (da_cons (dv 1) da_nil))) (de_one (de_cmp (op_inU (hu65 hr)) g_in (dv 4) (de_callD D_first_cells gd hr_first_cells rfl (da_fr (dv 0) (da_fr (de_ix (dv 1) (dv 3)) da_nil)) (.fr (.fr .nil))) (by rfl)))))))
theorem ok_pairs_at (T : Tx fa fn K mg)  (hx : HX K) (D_cells_many : Df P w K mg base 1 "cells_many" ps_cells_many (F_cells_many (He.ga K))) : Df P w K mg base 2 "pairs_at" ps_pairs_at (F_pairs_at (He.ga K)) := by
  obtain ⟨fd, Fd⟩ := T.c.def_ 3 (d := df_pairs_at) rfl
  refine dfMk (st := s_pairs_at) (N := N_pairs_at) Fd (T.gl 15 rfl) sc_pairs_at (fun _ _ _ _ _ _ us hl => match us, hl with | [_, _, _], _ => rfl) fun cdv A outer s H gd hr => ?_
  have nd := sc_pairs_at.nd
  have hr_cells_many := hr.mono (show 1 ≤ 1 by decide)
  exact (db_cons (sset 3 nd (de_callD D_cells_many gd hr_cells_many rfl (da_fr (dv 0) da_nil) (.fr .nil)))
    (db_cons (ds_if (dt_cmp (OpR.or op_eq (op_eqD (hu64 hr))) g_eq (de_ix (dv 1) de_int) de_str (nomark _)) (db_one (ds_ret (de_callTy call_tuple_of c_tuple rfl (T.fr 4 rfl) (by decide +kernel) (da_cons (de_lc (own := [("k", 7)]) rfl nd (di_range1 rfl (T.fr 1 rfl) (da_fr (de_ix (dv 1) de_int) da_nil)) (blkOk_by (own := [("k", 7)]) (N := N_pairs_at) (sc := defScope s_pairs_at) (by decide +kernel)) (fun _ _ _ _ _ => (gnm 7 nd)) (fun _ _ _ _ _ => dts_nil) (fun _ _ _ _ _ => (de_tup (da_fr (de_op op_mod g_mod (de_op op_addU g_add (dv 2) (dv 7)) (dv 3)) (da_fr (de_op op_mod g_mod (de_op op_addU g_add (de_op op_addU g_add (dv 2) (dv 7)) (de_ix (dv 1) de_int)) (dv 3)) da_nil))))) da_nil)))) db_nil)
    (db_cons (sset 4 nd (de_ix (dv 0) de_int))
    (db_cons (sset 5 nd (de_ix (dv 1) de_int))
    (db_cons (ds_if (dt_cmp (OpR.or op_eq (op_eqD (hu64 hr))) g_eq (de_ix (dv 1) de_int) de_str (nomark _)) (db_one (sset 5 nd (de_op op_mulU g_mul (de_ix (dv 1) de_int) (dv 4)))) db_nil)
    (db_cons (ds_setLc2 (i := 6) (own := [("row", 8), ("column", 9)]) (vs1 := [9]) rfl nd rfl rfl (sw_true rfl rfl rfl (by decide +kernel)) (di_range1 rfl (T.fr 1 rfl) (da_fr (de_ix (dv 1) de_int) da_nil)) (blkOk_by (own := [("row", 8), ("column", 9)]) (N := N_pairs_at) (sc := defScope s_pairs_at) (by decide +kernel)) (fun _ _ _ _ _ => (gnm 8 nd)) (fun _ _ _ _ _ => dts_nil) (fun _ _ _ _ _ => (di_range1 rfl (T.fr 1 rfl) (da_fr (de_ix (dv 1) de_int) da_nil))) (fun _ _ _ _ _ => (gnm 9 nd)) (fun _ _ _ _ _ => dts_nil) (fun _ _ _ _ _ => (de_op op_addU g_add (de_op op_addU g_add (dv 2) (de_op op_mulU g_mul (dv 8) (dv 4))) (dv 9))))
    (db_one (ds_ret (de_callTy call_tuple_of c_tuple rfl (T.fr 4 rfl) (by decide +kernel) (da_cons (de_lc (own := [("one", 10)]) rfl nd (di_any (dv 6)) (blkOk_by (own := [("one", 10)]) (N := N_pairs_at) (sc := defScope s_pairs_at) (by decide +kernel)) (fun _ _ _ _ _ => (gnm 10 nd)) (fun _ _ _ _ _ => dts_nil) (fun _ _ _ _ _ => (de_tup (da_fr (dv 10) (da_fr (de_op op_addU g_add (dv 10) (dv 5)) da_nil))))) da_nil))))))))))
theorem ok_is_bent (T : Tx fa fn K mg)  (hx : HX K)  : Df P w K mg base 1 "is_bent" ps_is_bent (F_is_bent (He.ga K)) := by
  obtain ⟨fd, Fd⟩ := T.c.def_ 4 (d := df_is_bent) rfl
  refine dfMk (st := s_is_bent) (N := N_is_bent) Fd (T.gl 16 rfl) sc_is_bent (fun _ _ _ _ _ _ us hl => match us, hl with | [_], _ => rfl) fun cdv A outer s H gd hr => ?_
  have nd := sc_is_bent.nd
  exact (db_one (ds_ret (de_cmp (OpR.or op_eq (op_eqD (hu64 hr))) g_eq (de_ix (dv 0) (de_neg de_int)) de_int (nomark _))))
theorem ok_exchange (T : Tx fa fn K mg)  (hx : HX K)  : Df P w K mg base 1 "exchange" ps_exchange (F_exchange (He.ga K)) := by
  obtain ⟨fd, Fd⟩ := T.c.def_ 5 (d := df_exchange) rfl
  refine dfMk (st := s_exchange) (N := N_exchange) Fd (T.gl 17 rfl) sc_exchange (fun _ _ _ _ _ _ us hl => match us, hl with | [_, _, _], _ => rfl) fun cdv A outer s H gd hr => ?_
  have nd := sc_exchange.nd
  exact (db_one (ds_for PassesOwn.never rfl (di_any (dv 1)) (dg_tup rfl (dgs_cons (gnm 3 nd) (dgs_cons (gnm 4 nd) dgs_nil)))
    (db_cons (ds_par (i := 5) (j := 6) rfl nd (da_fr (de_ix (dv 0) (dv 3)) (da_fr (de_ix (dv 0) (dv 4)) da_nil)))
    (db_cons (ds_if (dt_val (dv 2)) (db_one (ds_par (i := 5) (j := 6) rfl nd (da_fr (de_tup (da_fr (de_ix (dv 5) de_int) (da_fr (de_op op_sub g_sub de_int (de_ix (dv 5) de_int)) da_nil))) (da_fr (de_tup (da_fr (de_ix (dv 6) de_int) (da_fr (de_op op_sub g_sub de_int (de_ix (dv 6) de_int)) da_nil))) da_nil)))) db_nil)
    (db_one (ds_set2 (i := 0) rfl (de_tup (da_fr (dv 6) (da_fr (dv 5) da_nil))) (pv 0) (pv 0) (dv 3) (dv 4)))))))
theorem ok_need_deeds (T : Tx fa fn K mg)  (hx : HX K) (D_is_deed : Df P w K mg base 3 "is_deed" ps_is_deed (F_is_deed (He.ga K))) : Df P w K mg base 4 "need_deeds" ps_need_deeds (F_need_deeds (He.ga K)) := by
  obtain ⟨fd, Fd⟩ := T.c.def_ 6 (d := df_need_deeds) rfl
  refine dfMk (st := s_need_deeds) (N := N_need_deeds) Fd (T.gl 18 rfl) sc_need_deeds (fun _ _ _ _ _ _ us hl => match us, hl with | [_, _, _], _ => rfl) fun cdv A outer s H gd hr => ?_
  have nd := sc_need_deeds.nd
  have hr_is_deed := hr.mono (show 3 ≤ 3 by decide)
  exact (db_cons (sset 3 nd de_dnewT)
    (db_one (ds_for PassesOwn.never rfl (di_enum rfl (T.fr 5 rfl) (da_fr (dv 2) da_nil)) (dg_tup rfl (dgs_cons (gnm 4 nd) (dgs_cons (gnm 5 nd) dgs_nil)))
    (db_one (ds_if (dt_dnotin (hu65 hr) (dv 5) (pv 3)) (db_cons (ds_if (dt_not (dt_val (de_callD D_is_deed gd hr_is_deed rfl (da_fr (dv 0) (da_fr (dv 1) (da_fr (dv 5) da_nil))) (.fr (.fr (.fr .nil)))))) (db_one ds_never) db_nil)
    (db_one (ds_dput (hu65 hr) (pv 3) (dv 5) de_bl))) db_nil)))))
theorem ok_done (T : Tx fa fn K mg)  (hx : HX K) (D_need_deeds : Df P w K mg base 4 "need_deeds" ps_need_deeds (F_need_deeds (He.ga K))) (D_exchange : Df P w K mg base 1 "exchange" ps_exchange (F_exchange (He.ga K))) (D_is_bent : Df P w K mg base 1 "is_bent" ps_is_bent (F_is_bent (He.ga K))) (D_pairs_at : Df P w K mg base 2 "pairs_at" ps_pairs_at (F_pairs_at (He.ga K))) : DfD P w K mg base 5 "done" ps_done (F_done (He.ga K)) 4 ["back"] [.bl false] := by
  obtain ⟨fd, Fd⟩ := T.c.def_ 7 (d := df_done) rfl
  refine dfMkD (st := s_done) (N := N_done) 4 [.bl false] Fd (T.gl 19 rfl) sc_done (List.cons_ne_nil _ _) rfl (fun _ _ _ _ _ _ us ks h1 h2 => match us, h1, ks, h2 with | [_, _, _, _], _, [_], _ => ⟨_, _, _, _, _, _, rfl, rfl, rfl⟩) (fun _ _ _ _ _ _ us ws h1 h2 => match us, h1, ws, h2 with | [_, _, _, _], _, [_], _ => rfl) (fun _ => .cons (.bl _) (.nil)) fun cdv A outer s H gd hr => ?_
  have nd := sc_done.nd
  have hr_need_deeds := hr.mono (show 4 ≤ 4 by decide)
  have hr_exchange := hr.mono (show 1 ≤ 4 by decide)
  have hr_is_bent := hr.mono (show 1 ≤ 4 by decide)
  have hr_pairs_at := hr.mono (show 2 ≤ 4 by decide)
  exact (db_cons (ds_expr (de_callD D_need_deeds gd hr_need_deeds rfl (da_fr (dv 0) (da_fr (dv 1) (da_fr (dv 3) da_nil))) (.fr (.fr (.fr .nil)))))
    (db_cons (sset 5 nd (de_callTy call_list_of c_list rfl (T.fr 0 rfl) (by decide +kernel) (da_cons (dv 2) da_nil)))
    (db_cons (ds_for PassesOwn.never rfl (di_any (de_if (dt_val (dv 4)) (de_revL (de_callTy call_list_of c_list rfl (T.fr 0 rfl) (by decide +kernel) (da_cons (dv 3) da_nil))) (dv 3))) (dg_tup rfl (dgs_cons (gnm 6 nd) (dgs_cons (gnm 7 nd) dgs_nil)))
    (db_cons (sset 8 nd (de_ix (dv 1) (dv 6)))
    (db_one (ds_expr (de_callD D_exchange gd hr_exchange rfl (da_cons (dv 5) (da_fr (de_callD D_pairs_at gd hr_pairs_at rfl (da_fr (dv 0) (da_fr (dv 8) (da_fr (dv 7) da_nil))) (.fr (.fr (.fr .nil)))) (da_fr (de_callD D_is_bent gd hr_is_bent rfl (da_fr (dv 8) da_nil) (.fr .nil)) da_nil))) (.cons (.fr (.fr .nil))))))))
    (db_one (ds_ret (de_callTy call_tuple_of c_tuple rfl (T.fr 4 rfl) (by decide +kernel) (da_cons (dv 5) da_nil)))))))
theorem ok__law_pot (T : Tx fa fn K mg)  (hx : HX K)  : Df P w K mg base 1 "_law_pot" ps__law_pot (F__law_pot (He.ga K)) := by
  obtain ⟨fd, Fd⟩ := T.c.def_ 8 (d := df__law_pot) rfl
  refine dfMk (st := s__law_pot) (N := N__law_pot) Fd (T.gl 20 rfl) sc__law_pot (fun _ _ _ _ _ _ us hl => match us, hl with | [_, _], _ => rfl) fun cdv A outer s H gd hr => ?_
  have nd := sc__law_pot.nd
  exact (db_cons (sset 2 nd de_int)
    (db_cons (ds_if (dt_cmp op_lt (g_cmp _) (dv 1) (de_callB call_len c_len rfl (T.fr 3 rfl) PySem.boot_len (da_cons (dv 0) da_nil)) (nomark _)) (db_one (sset 2 nd (de_ix (dv 0) (dv 1)))) db_nil)
    (db_one (ds_ret (de_lst (da_fr (de_callB (call_max2 rfl) c_max rfl (T.fr 6 rfl) (by decide +kernel) (da_cons de_int (da_cons (de_op op_sub g_sub (dv 2) (de_op op_powW g_pow de_int de_int)) da_nil))) (da_fr (de_op op_addU g_add (de_op op_mod g_mod (dv 2) (de_op op_addU g_add (de_op op_powW g_pow de_int de_int) de_int)) (de_op op_mulU g_mul de_int (dv 1))) (da_fr de_int da_nil))))))))
theorem ok__law_dip (T : Tx fa fn K mg)  (hx : HX K)  : Df P w K mg base 1 "_law_dip" ps__law_dip (F__law_dip (He.ga K)) := by
  obtain ⟨fd, Fd⟩ := T.c.def_ 9 (d := df__law_dip) rfl
  refine dfMk (st := s__law_dip) (N := N__law_dip) Fd (T.gl 21 rfl) sc__law_dip (fun _ _ _ _ _ _ us hl => match us, hl with | [_, _], _ => rfl) fun cdv A outer s H gd hr => ?_
  have nd := sc__law_dip.nd
  exact (db_cons (ds_if (dt_cmp op_gt (g_cmp _) (de_ix (dv 0) de_int) de_int (nomark _)) (db_cons (sset 2 nd (de_op op_mod g_mod (de_ix (dv 0) de_int) (dv 1)))
    (db_cons (ds_setIx (i := 0) (de_op op_fdivW g_div (de_ix (dv 0) de_int) (dv 1)) (pv 0) de_int)
    (db_one (ds_ret (dv 2))))) db_nil)
    (db_cons (ds_setIx (i := 0) (de_op op_addU g_add (de_ix (dv 0) de_int) de_int) (pv 0) de_int)
    (db_cons (sset 3 nd (de_op op_mod g_mod (de_op op_powW g_pow (de_op op_addU g_add (de_ix (dv 0) de_int) (de_op op_mulU g_mul de_int (de_ix (dv 0) de_int))) de_int) (de_op op_addU g_add (de_op op_powW g_pow de_int de_int) de_int)))
    (db_cons (sset 3 nd (de_op op_mod g_mod (de_op op_powW g_pow (de_op op_addU g_add (dv 3) (de_op op_mulU g_mul de_int (de_ix (dv 0) de_int))) de_int) (de_op op_addU g_add (de_op op_powW g_pow de_int de_int) de_int)))
    (db_one (ds_ret (de_op op_mod g_mod (de_op op_fdivW g_div (dv 3) de_int) (dv 1))))))))
theorem ok__law_board (T : Tx fa fn K mg)  (hx : HX K) (D__law_dip : Df P w K mg base 1 "_law_dip" ps__law_dip (F__law_dip (He.ga K))) : Df P w K mg base 2 "_law_board" ps__law_board (F__law_board (He.ga K)) := by
  obtain ⟨fd, Fd⟩ := T.c.def_ 10 (d := df__law_board) rfl
  refine dfMk (st := s__law_board) (N := N__law_board) Fd (T.gl 22 rfl) sc__law_board (fun _ _ _ _ _ _ us hl => match us, hl with | [_, _], _ => rfl) fun cdv A outer s H gd hr => ?_
  have nd := sc__law_board.nd
  have hr__law_dip := hr.mono (show 1 ≤ 1 by decide)
  exact (db_cons (sset 2 nd (de_callD D__law_dip gd hr__law_dip rfl (da_cons (dv 0) (da_fr de_int da_nil)) (.cons (.fr .nil))))
    (db_cons (ds_if (dt_cmp op_lt (g_cmp _) (dv 2) de_int (nomark _)) (db_one (ds_ret (de_tup (da_fr de_str (da_fr (de_op op_addU g_add de_int (de_callD D__law_dip gd hr__law_dip rfl (da_cons (dv 0) (da_fr (de_op op_sub g_sub (dv 1) de_int) da_nil)) (.cons (.fr .nil)))) da_nil))))) db_nil)
    (db_cons (ds_if (dt_cmp (OpR.or op_eq (op_eqD (hu64 hr))) g_eq (dv 2) de_int (nomark _)) (db_one (ds_ret (de_tup (da_fr de_str (da_fr (de_op op_addU g_add de_int (de_callD D__law_dip gd hr__law_dip rfl (da_cons (dv 0) (da_fr (de_op op_sub g_sub (dv 1) de_int) da_nil)) (.cons (.fr .nil)))) da_nil))))) db_nil)
    (db_cons (sset 3 nd (de_op op_addU g_add de_int (de_callD D__law_dip gd hr__law_dip rfl (da_cons (dv 0) (da_fr de_int da_nil)) (.cons (.fr .nil)))))
    (db_cons (ds_if (dt_cmp op_gt (g_cmp _) (de_op op_mulU g_mul de_int (dv 3)) (dv 1) (nomark _)) (db_one (sset 3 nd (de_op op_fdivW g_div (dv 1) de_int))) db_nil)
    (db_cons (sset 4 nd (de_op op_addU g_add de_int (de_callD D__law_dip gd hr__law_dip rfl (da_cons (dv 0) (da_fr (de_op op_sub g_sub (de_op op_fdivW g_div (dv 1) (dv 3)) de_int) da_nil)) (.cons (.fr .nil)))))
    (db_one (ds_ret (de_ix (de_lst (da_fr (de_tup (da_fr de_str (da_fr (dv 3) (da_fr (dv 4) da_nil)))) (da_fr (de_tup (da_fr de_str (da_fr (dv 4) (da_fr (dv 3) da_nil)))) da_nil))) (de_callD D__law_dip gd hr__law_dip rfl (da_cons (dv 0) (da_fr de_int da_nil)) (.cons (.fr .nil))))))))))))
theorem ok__law_rules (T : Tx fa fn K mg)  (hx : HX K)  : Df P w K mg base 1 "_law_rules" ps__law_rules (F__law_rules (He.ga K)) := by
  obtain ⟨fd, Fd⟩ := T.c.def_ 11 (d := df__law_rules) rfl
  refine dfMk (st := s__law_rules) (N := N__law_rules) Fd (T.gl 23 rfl) sc__law_rules (fun _ _ _ _ _ _ us hl => match us, hl with | [_], _ => rfl) fun cdv A outer s H gd hr => ?_
  have nd := sc__law_rules.nd
  exact (db_cons (sset 1 nd (de_lst da_nil))
    (db_cons (ds_if (dt_cmp (OpR.or op_ne (op_neD (hu64 hr))) g_ne (de_ix (dv 0) de_int) de_str (nomark _)) (db_cons (ds_for PassesOwn.never rfl (di_range2 rfl (T.fr 1 rfl) (da_fr de_int (da_fr (de_op op_addU g_add (de_op op_fdivW g_div (de_ix (dv 0) de_int) (de_ix (de_lst (da_fr de_int (da_fr de_int da_nil))) (de_callTy call_int1 c_int rfl (T.fr 2 rfl) (by decide +kernel) (da_cons (de_cmp (OpR.or op_eq (op_eqD (hu64 hr))) g_eq (de_ix (dv 0) de_int) de_str (nomark _)) da_nil)))) de_int) da_nil))) (gnm 2 nd)
    (db_one (sset 1 nd (de_op op_addU g_add (dv 1) (de_lst (da_fr (de_tup (da_fr de_str (da_fr (dv 2) (da_fr de_int da_nil)))) (da_fr (de_tup (da_fr de_str (da_fr (dv 2) (da_fr de_int da_nil)))) da_nil)))))))
    (db_one (ds_ret (dv 1)))) db_nil)
    (db_cons (ds_unp (dv 0) (dg_tup rfl (dgs_cons (gnm 3 nd) (dgs_cons (gnm 4 nd) (dgs_cons (gnm 5 nd) dgs_nil)))))
    (db_cons (ds_for PassesOwn.never rfl (di_range2 rfl (T.fr 1 rfl) (da_fr de_int (da_fr (de_op op_addU g_add (dv 4) de_int) da_nil))) (gnm 6 nd)
    (db_one (ds_for PassesOwn.never rfl (di_range2 rfl (T.fr 1 rfl) (da_fr de_int (da_fr (de_op op_addU g_add (dv 5) de_int) da_nil))) (gnm 7 nd)
    (db_cons (ds_if (dt_bool (dw_and (dt_cmp op_le (g_cmp _) (de_op op_mulU g_mul de_int (dv 7)) (dv 5) (nomark _)) (dw_and1 (dt_cmp op_le (g_cmp _) (de_op op_sub g_sub (de_op op_mulU g_mul de_int (dv 6)) de_int) (dv 4) (nomark _))))) (db_one (sset 1 nd (de_op op_addU g_add (dv 1) (de_lst (da_fr (de_tup (da_fr de_str (da_fr (dv 6) (da_fr (dv 7) (da_fr de_int da_nil))))) (da_fr (de_tup (da_fr de_str (da_fr (dv 6) (da_fr (dv 7) (da_fr de_int da_nil))))) da_nil)))))) db_nil)
    (db_one (ds_if (dt_bool (dw_and (dt_cmp op_le (g_cmp _) (de_op op_mulU g_mul de_int (dv 6)) (dv 4) (nomark _)) (dw_and1 (dt_cmp op_le (g_cmp _) (de_op op_sub g_sub (de_op op_mulU g_mul de_int (dv 7)) de_int) (dv 5) (nomark _))))) (db_one (sset 1 nd (de_op op_addU g_add (dv 1) (de_lst (da_fr (de_tup (da_fr de_str (da_fr (dv 6) (da_fr (dv 7) (da_fr de_int da_nil))))) (da_fr (de_tup (da_fr de_str (da_fr (dv 6) (da_fr (dv 7) (da_fr de_int da_nil))))) da_nil)))))) db_nil))))))
    (db_one (ds_ret (dv 1)))))))
theorem ok__law_book (T : Tx fa fn K mg)  (hx : HX K) (D__law_rules : Df P w K mg base 1 "_law_rules" ps__law_rules (F__law_rules (He.ga K))) (D__law_dip : Df P w K mg base 1 "_law_dip" ps__law_dip (F__law_dip (He.ga K))) : Df P w K mg base 2 "_law_book" ps__law_book (F__law_book (He.ga K)) := by
  obtain ⟨fd, Fd⟩ := T.c.def_ 12 (d := df__law_book) rfl
  refine dfMk (st := s__law_book) (N := N__law_book) Fd (T.gl 24 rfl) sc__law_book (fun _ _ _ _ _ _ us hl => match us, hl with | [_, _], _ => rfl) fun cdv A outer s H gd hr => ?_
  have nd := sc__law_book.nd
  have hr__law_rules := hr.mono (show 1 ≤ 1 by decide)
  have hr__law_dip := hr.mono (show 1 ≤ 1 by decide)
  exact (db_cons (sset 2 nd (de_callD D__law_rules gd hr__law_rules rfl (da_fr (dv 1) da_nil) (.fr .nil)))
    (db_cons (sset 3 nd (de_lst da_nil))
    (db_cons (ds_for PassesOwn.never rfl (di_range1 rfl (T.fr 1 rfl) (da_fr (de_callB (call_min2 rfl) c_min rfl (T.fr 7 rfl) (by decide +kernel) (da_cons (de_callB call_len c_len rfl (T.fr 3 rfl) PySem.boot_len (da_cons (dv 2) da_nil)) (da_cons (de_op op_addU g_add de_int (de_callD D__law_dip gd hr__law_dip rfl (da_cons (dv 0) (da_fr de_int da_nil)) (.cons (.fr .nil)))) da_nil))) da_nil)) (gnm 4 nd)
    (db_one (ds_expr (de_mt PySem.F.slot_list_append PySem.F.type_list_append mt_append m_app (pv 3) (da_fr (de_mt PySem.F.slot_list_pop PySem.F.type_list_pop mt_popAt m_popAt (pv 2) (da_fr (de_callD D__law_dip gd hr__law_dip rfl (da_cons (dv 0) (da_fr (de_callB call_len c_len rfl (T.fr 3 rfl) PySem.boot_len (da_cons (dv 2) da_nil)) da_nil)) (.cons (.fr .nil))) da_nil)) da_nil)))))
    (db_one (ds_ret (de_callTy call_tuple_of c_tuple rfl (T.fr 4 rfl) (by decide +kernel) (da_cons (dv 3) da_nil)))))))
theorem ok__law_cells (T : Tx fa fn K mg)  (hx : HX K)  : Df P w K mg base 1 "_law_cells" ps__law_cells (F__law_cells (He.ga K)) := by
  obtain ⟨fd, Fd⟩ := T.c.def_ 13 (d := df__law_cells) rfl
  refine dfMk (st := s__law_cells) (N := N__law_cells) Fd (T.gl 25 rfl) sc__law_cells (fun _ _ _ _ _ _ us hl => match us, hl with | [_], _ => rfl) fun cdv A outer s H gd hr => ?_
  have nd := sc__law_cells.nd
  exact (db_one (ds_ret (de_if (dt_cmp (OpR.or op_eq (op_eqD (hu64 hr))) g_eq (de_ix (dv 0) de_int) de_str (nomark _)) (de_op op_mulU g_mul (de_ix (dv 0) de_int) (de_ix (dv 0) de_int)) (de_ix (dv 0) de_int))))
theorem ok__law_places (T : Tx fa fn K mg)  (hx : HX K)  : Df P w K mg base 1 "_law_places" ps__law_places (F__law_places (He.ga K)) := by
  obtain ⟨fd, Fd⟩ := T.c.def_ 14 (d := df__law_places) rfl
  refine dfMk (st := s__law_places) (N := N__law_places) Fd (T.gl 26 rfl) sc__law_places (fun _ _ _ _ _ _ us hl => match us, hl with | [_, _], _ => rfl) fun cdv A outer s H gd hr => ?_
  have nd := sc__law_places.nd
  exact (db_cons (ds_if (dt_cmp (OpR.or op_eq (op_eqD (hu64 hr))) g_eq (de_ix (dv 0) de_int) de_str (nomark _)) (db_one (ds_ret (de_lrg1 rfl rfl (T.fr 0 rfl) rfl (T.fr 1 rfl) (de_ix (dv 0) de_int)))) db_nil)
    (db_cons (ds_if (dt_cmp (OpR.or op_eq (op_eqD (hu64 hr))) g_eq (de_ix (dv 0) de_int) de_str (nomark _)) (db_one (ds_ret (de_lrg1 rfl rfl (T.fr 0 rfl) rfl (T.fr 1 rfl) (de_op op_addU g_add (de_op op_sub g_sub (de_ix (dv 0) de_int) (de_op op_mulU g_mul de_int (de_ix (dv 1) de_int))) de_int)))) db_nil)
    (db_cons (ds_unp (dv 0) (dg_tup rfl (dgs_cons (gnm 2 nd) (dgs_cons (gnm 3 nd) (dgs_cons (gnm 4 nd) dgs_nil)))))
    (db_cons (sset 5 nd (de_lst da_nil))
    (db_cons (ds_for PassesOwn.never rfl (di_range1 rfl (T.fr 1 rfl) (da_fr (dv 3) da_nil)) (gnm 6 nd)
    (db_one (ds_for PassesOwn.never rfl (di_range1 rfl (T.fr 1 rfl) (da_fr (dv 4) da_nil)) (gnm 7 nd)
    (db_cons (sset 8 nd (de_op op_addU g_add (dv 6) (de_op op_mulU g_mul (de_ix (dv 1) de_int) (de_ix (de_lst (da_fr de_int (da_fr de_int da_nil))) (de_callTy call_int1 c_int rfl (T.fr 2 rfl) (by decide +kernel) (da_cons (de_cmp (OpR.or op_eq (op_eqD (hu64 hr))) g_eq (de_ix (dv 1) de_int) de_str (nomark _)) da_nil))))))
    (db_cons (sset 9 nd (de_op op_addU g_add (dv 7) (de_op op_mulU g_mul (de_ix (dv 1) de_int) (de_ix (de_lst (da_fr de_int (da_fr de_int da_nil))) (de_callTy call_int1 c_int rfl (T.fr 2 rfl) (by decide +kernel) (da_cons (de_cmp (OpR.or op_eq (op_eqD (hu64 hr))) g_eq (de_ix (dv 1) de_int) de_str (nomark _)) da_nil))))))
    (db_one (ds_if (dt_bool (dw_and (dt_cmp op_le (g_cmp _) (dv 8) (dv 3) (nomark _)) (dw_and1 (dt_cmp op_le (g_cmp _) (dv 9) (dv 4) (nomark _))))) (db_one (ds_expr (de_mt PySem.F.slot_list_append PySem.F.type_list_append mt_append m_app (pv 5) (da_fr (de_op op_addU g_add (de_op op_mulU g_mul (dv 6) (dv 4)) (dv 7)) da_nil)))) db_nil)))))))
    (db_one (ds_ret (dv 5))))))))
theorem ok__law_deeds (T : Tx fa fn K mg)  (hx : HX K) (D__law_places : Df P w K mg base 1 "_law_places" ps__law_places (F__law_places (He.ga K))) : Df P w K mg base 2 "_law_deeds" ps__law_deeds (F__law_deeds (He.ga K)) := by
  obtain ⟨fd, Fd⟩ := T.c.def_ 15 (d := df__law_deeds) rfl
  refine dfMk (st := s__law_deeds) (N := N__law_deeds) Fd (T.gl 27 rfl) sc__law_deeds (fun _ _ _ _ _ _ us hl => match us, hl with | [_, _], _ => rfl) fun cdv A outer s H gd hr => ?_
  have nd := sc__law_deeds.nd
  have hr__law_places := hr.mono (show 1 ≤ 1 by decide)
  exact (db_cons (sset 2 nd (de_lst da_nil))
    (db_cons (ds_for PassesOwn.never rfl (di_range1 rfl (T.fr 1 rfl) (da_fr (de_callB call_len c_len rfl (T.fr 3 rfl) PySem.boot_len (da_cons (dv 1) da_nil)) da_nil)) (gnm 3 nd)
    (db_one (sset 2 nd (de_op op_addU g_add (dv 2) (de_lc (own := [("cell", 4)]) rfl nd (di_any (de_callD D__law_places gd hr__law_places rfl (da_fr (dv 0) (da_fr (de_ix (dv 1) (dv 3)) da_nil)) (.fr (.fr .nil)))) (blkOk_by (own := [("cell", 4)]) (N := N__law_deeds) (sc := defScope s__law_deeds) (by decide +kernel)) (fun _ _ _ _ _ => (gnm 4 nd)) (fun _ _ _ _ _ => dts_nil) (fun _ _ _ _ _ => (de_tup (da_fr (dv 3) (da_fr (dv 4) da_nil)))))))))
    (db_one (ds_ret (dv 2)))))
theorem ok__law_pairs (T : Tx fa fn K mg)  (hx : HX K)  : Df P w K mg base 1 "_law_pairs" ps__law_pairs (F__law_pairs (He.ga K)) := by
  obtain ⟨fd, Fd⟩ := T.c.def_ 16 (d := df__law_pairs) rfl
  refine dfMk (st := s__law_pairs) (N := N__law_pairs) Fd (T.gl 28 rfl) sc__law_pairs (fun _ _ _ _ _ _ us hl => match us, hl with | [_, _, _], _ => rfl) fun cdv A outer s H gd hr => ?_
  have nd := sc__law_pairs.nd
  exact (db_cons (sset 3 nd (de_ix (dv 1) (de_ix (dv 2) de_int)))
    (db_cons (ds_if (dt_cmp (OpR.or op_eq (op_eqD (hu64 hr))) g_eq (de_ix (dv 3) de_int) de_str (nomark _)) (db_one (ds_ret (de_lc (own := [("j", 7)]) rfl nd (di_range1 rfl (T.fr 1 rfl) (da_fr (de_ix (dv 3) de_int) da_nil)) (blkOk_by (own := [("j", 7)]) (N := N__law_pairs) (sc := defScope s__law_pairs) (by decide +kernel)) (fun _ _ _ _ _ => (gnm 7 nd)) (fun _ _ _ _ _ => dts_nil) (fun _ _ _ _ _ => (de_tup (da_fr (de_op op_mod g_mod (de_op op_addU g_add (de_ix (dv 2) de_int) (dv 7)) (de_ix (dv 0) de_int)) (da_fr (de_op op_mod g_mod (de_op op_addU g_add (de_op op_addU g_add (de_ix (dv 2) de_int) (dv 7)) (de_ix (dv 3) de_int)) (de_ix (dv 0) de_int)) da_nil))))))) db_nil)
    (db_cons (sset 4 nd (de_if (dt_cmp (OpR.or op_eq (op_eqD (hu64 hr))) g_eq (de_ix (dv 3) de_int) de_str (nomark _)) (de_ix (dv 3) de_int) (de_op op_mulU g_mul (de_ix (dv 3) de_int) (de_ix (dv 0) de_int))))
    (db_cons (sset 5 nd (de_lst da_nil))
    (db_cons (ds_for PassesOwn.never rfl (di_range1 rfl (T.fr 1 rfl) (da_fr (de_ix (dv 3) de_int) da_nil)) (gnm 6 nd)
    (db_one (sset 5 nd (de_op op_addU g_add (dv 5) (de_lc (own := [("c", 8)]) rfl nd (di_range1 rfl (T.fr 1 rfl) (da_fr (de_ix (dv 3) de_int) da_nil)) (blkOk_by (own := [("c", 8)]) (N := N__law_pairs) (sc := defScope s__law_pairs) (by decide +kernel)) (fun _ _ _ _ _ => (gnm 8 nd)) (fun _ _ _ _ _ => dts_nil) (fun _ _ _ _ _ => (de_op op_addU g_add (de_op op_addU g_add (de_ix (dv 2) de_int) (de_op op_mulU g_mul (dv 6) (de_ix (dv 0) de_int))) (dv 8))))))))
    (db_one (ds_ret (de_lc (own := [("cell", 9)]) rfl nd (di_any (dv 5)) (blkOk_by (own := [("cell", 9)]) (N := N__law_pairs) (sc := defScope s__law_pairs) (by decide +kernel)) (fun _ _ _ _ _ => (gnm 9 nd)) (fun _ _ _ _ _ => dts_nil) (fun _ _ _ _ _ => (de_tup (da_fr (dv 9) (da_fr (de_op op_addU g_add (dv 9) (dv 4)) da_nil))))))))))))
theorem ok__law_turned (T : Tx fa fn K mg)  (hx : HX K)  : Df P w K mg base 1 "_law_turned" ps__law_turned (F__law_turned (He.ga K)) := by
  obtain ⟨fd, Fd⟩ := T.c.def_ 17 (d := df__law_turned) rfl
  refine dfMk (st := s__law_turned) (N := N__law_turned) Fd (T.gl 29 rfl) sc__law_turned (fun _ _ _ _ _ _ us hl => match us, hl with | [_, _], _ => rfl) fun cdv A outer s H gd hr => ?_
  have nd := sc__law_turned.nd
  exact (db_one (ds_ret (de_tup (da_fr (de_ix (dv 0) de_int) (da_fr (de_op op_mod g_mod (de_op op_addU g_add (de_ix (dv 0) de_int) (dv 1)) de_int) da_nil)))))
theorem ok__law_done (T : Tx fa fn K mg)  (hx : HX K) (D__law_pairs : Df P w K mg base 1 "_law_pairs" ps__law_pairs (F__law_pairs (He.ga K))) (D__law_turned : Df P w K mg base 1 "_law_turned" ps__law_turned (F__law_turned (He.ga K))) : Df P w K mg base 2 "_law_done" ps__law_done (F__law_done (He.ga K)) := by
  obtain ⟨fd, Fd⟩ := T.c.def_ 18 (d := df__law_done) rfl
  refine dfMk (st := s__law_done) (N := N__law_done) Fd (T.gl 30 rfl) sc__law_done (fun _ _ _ _ _ _ us hl => match us, hl with | [_, _, _, _], _ => rfl) fun cdv A outer s H gd hr => ?_
  have nd := sc__law_done.nd
  have hr__law_pairs := hr.mono (show 1 ≤ 1 by decide)
  have hr__law_turned := hr.mono (show 1 ≤ 1 by decide)
  exact (db_cons (sset 4 nd (de_callTy call_list_of c_list rfl (T.fr 0 rfl) (by decide +kernel) (da_cons (dv 2) da_nil)))
    (db_cons (sset 5 nd de_dnewT)
    (db_cons (ds_for PassesOwn.never rfl (di_any (dv 3)) (gnm 6 nd)
    (db_cons (ds_if (dt_dnotin (hu65 hr) (dv 6) (pv 5)) (db_one (ds_dput (hu65 hr) (pv 5) (dv 6) (de_callD D__law_pairs gd hr__law_pairs rfl (da_fr (dv 0) (da_fr (dv 1) (da_fr (dv 6) da_nil))) (.fr (.fr (.fr .nil)))))) db_nil)
    (db_cons (sset 7 nd (de_ix (de_ix (dv 1) (de_ix (dv 6) de_int)) (de_neg de_int)))
    (db_one (ds_for PassesOwn.never rfl (di_any (de_dget (hu65 hr) (pv 5) (dv 6))) (dg_tup rfl (dgs_cons (gnm 8 nd) (dgs_cons (gnm 9 nd) dgs_nil)))
    (db_cons (sset 10 nd (de_callD D__law_turned gd hr__law_turned rfl (da_fr (de_ix (dv 4) (dv 8)) (da_fr (dv 7) da_nil)) (.fr (.fr .nil))))
    (db_cons (ds_setIx (i := 4) (de_callD D__law_turned gd hr__law_turned rfl (da_fr (de_ix (dv 4) (dv 9)) (da_fr (dv 7) da_nil)) (.fr (.fr .nil))) (pv 4) (dv 8))
    (db_one (ds_setIx (i := 4) (dv 10) (pv 4) (dv 9))))))))))
    (db_one (ds_ret (de_callTy call_tuple_of c_tuple rfl (T.fr 4 rfl) (by decide +kernel) (da_cons (dv 4) da_nil)))))))
theorem ok__law_name (T : Tx fa fn K mg)  (hx : HX K)  : Df P w K mg base 1 "_law_name" ps__law_name (F__law_name (He.ga K)) := by
  obtain ⟨fd, Fd⟩ := T.c.def_ 19 (d := df__law_name) rfl
  refine dfMk (st := s__law_name) (N := N__law_name) Fd (T.gl 31 rfl) sc__law_name (fun _ _ _ _ _ _ us hl => match us, hl with | [_, _, _], _ => rfl) fun cdv A outer s H gd hr => ?_
  have nd := sc__law_name.nd
  exact (db_cons (sset 3 nd de_str)
    (db_cons (sset 4 nd (de_ix (dv 3) (de_op op_mod g_mod (de_op op_addU g_add (dv 2) (dv 1)) de_int)))
    (db_cons (sset 5 nd (de_ix (dv 3) (de_op op_mod g_mod (de_op op_addU g_add (de_op op_mulU g_mul (de_op op_fdivW g_div (dv 2) de_int) de_int) (dv 1)) de_int)))
    (db_cons (sset 6 nd (de_lst (da_fr (de_op op_addU g_add (dv 4) (de_op op_mulU g_mul (dv 5) (de_callTy call_int1 c_int rfl (T.fr 2 rfl) (by decide +kernel) (da_cons (de_cmp op_gt (g_cmp _) (dv 2) de_int (nomark _)) da_nil)))) (da_fr (de_op op_addU g_add (dv 5) (dv 4)) (da_fr (de_op op_addU g_add (de_op op_addU g_add (de_op op_mulU g_mul (de_ix (dv 3) (dv 1)) de_int) (dv 4)) (dv 5)) (da_fr (de_op op_addU g_add (de_op op_addU g_add (dv 4) (dv 5)) (de_op op_mulU g_mul (de_ix (dv 3) (dv 1)) de_int)) da_nil))))))
    (db_cons (sset 6 nd (de_op op_addU g_add (dv 6) (de_lst (da_fr (de_op op_addU g_add (de_op op_addU g_add (dv 5) (de_op op_mulU g_mul (de_ix (dv 3) (dv 1)) de_int)) (dv 4)) (da_fr (de_op op_addU g_add (de_op op_addU g_add (de_sl (dv 3) (do_some (dv 1)) (do_some (de_op op_addU g_add (dv 1) de_int))) (dv 5)) (de_op op_mulU g_mul (dv 4) (de_op op_addU g_add de_int (de_op op_mod g_mod (dv 2) de_int)))) da_nil)))))
    (db_one (ds_ret (de_ix (dv 6) (dv 0)))))))))
theorem ok__law_names (T : Tx fa fn K mg)  (hx : HX K) (D__law_dip : Df P w K mg base 1 "_law_dip" ps__law_dip (F__law_dip (He.ga K))) (D__law_name : Df P w K mg base 1 "_law_name" ps__law_name (F__law_name (He.ga K))) : Df P w K mg base 2 "_law_names" ps__law_names (F__law_names (He.ga K)) := by
  obtain ⟨fd, Fd⟩ := T.c.def_ 20 (d := df__law_names) rfl
  refine dfMk (st := s__law_names) (N := N__law_names) Fd (T.gl 32 rfl) sc__law_names (fun _ _ _ _ _ _ us hl => match us, hl with | [_, _], _ => rfl) fun cdv A outer s H gd hr => ?_
  have nd := sc__law_names.nd
  have hr__law_dip := hr.mono (show 1 ≤ 1 by decide)
  have hr__law_name := hr.mono (show 1 ≤ 1 by decide)
  exact (db_cons (sset 2 nd (de_callD D__law_dip gd hr__law_dip rfl (da_cons (dv 0) (da_fr de_int da_nil)) (.cons (.fr .nil))))
    (db_cons (sset 3 nd (de_callD D__law_dip gd hr__law_dip rfl (da_cons (dv 0) (da_fr de_int da_nil)) (.cons (.fr .nil))))
    (db_cons (sset 4 nd (de_callB (call_max2 rfl) c_max rfl (T.fr 6 rfl) (by decide +kernel) (da_cons de_int (da_cons (de_op op_sub g_sub (de_op op_sub g_sub (dv 1) de_int) (de_callD D__law_dip gd hr__law_dip rfl (da_cons (dv 0) (da_fr de_int da_nil)) (.cons (.fr .nil)))) da_nil))))
    (db_cons (sset 5 nd (de_ix (de_lst (da_fr de_int (da_fr de_int (da_fr (de_op op_addU g_add de_int (de_callD D__law_dip gd hr__law_dip rfl (da_cons (dv 0) (da_fr de_int da_nil)) (.cons (.fr .nil)))) (da_fr (dv 4) da_nil))))) (de_callD D__law_dip gd hr__law_dip rfl (da_cons (dv 0) (da_fr de_int da_nil)) (.cons (.fr .nil)))))
    (db_one (ds_ret (de_lc (own := [("number", 6)]) rfl nd (di_range1 rfl (T.fr 1 rfl) (da_fr (dv 1) da_nil)) (blkOk_by (own := [("number", 6)]) (N := N__law_names) (sc := defScope s__law_names) (by decide +kernel)) (fun _ _ _ _ _ => (gnm 6 nd)) (fun _ _ _ _ _ => dts_nil) (fun _ _ _ _ _ => (de_callD D__law_name gd hr__law_name rfl (da_fr (dv 2) (da_fr (dv 3) (da_fr (de_op op_mod g_mod (dv 6) (dv 5)) da_nil))) (.fr (.fr (.fr .nil))))))))))))
theorem ok__law_mixed (T : Tx fa fn K mg)  (hx : HX K) (D__law_dip : Df P w K mg base 1 "_law_dip" ps__law_dip (F__law_dip (He.ga K))) : Df P w K mg base 2 "_law_mixed" ps__law_mixed (F__law_mixed (He.ga K)) := by
  obtain ⟨fd, Fd⟩ := T.c.def_ 21 (d := df__law_mixed) rfl
  refine dfMk (st := s__law_mixed) (N := N__law_mixed) Fd (T.gl 33 rfl) sc__law_mixed (fun _ _ _ _ _ _ us hl => match us, hl with | [_, _], _ => rfl) fun cdv A outer s H gd hr => ?_
  have nd := sc__law_mixed.nd
  have hr__law_dip := hr.mono (show 1 ≤ 1 by decide)
  exact (db_cons (sset 2 nd (de_callTy call_list_of c_list rfl (T.fr 0 rfl) (by decide +kernel) (da_cons (dv 1) da_nil)))
    (db_one (ds_ret (de_lc (own := [("k", 3)]) rfl nd (di_range1 rfl (T.fr 1 rfl) (da_fr (de_callB call_len c_len rfl (T.fr 3 rfl) PySem.boot_len (da_cons (dv 2) da_nil)) da_nil)) (blkOk_by (own := [("k", 3)]) (N := N__law_mixed) (sc := defScope s__law_mixed) (by decide +kernel)) (fun _ _ _ _ _ => (gnm 3 nd)) (fun _ _ _ _ _ => dts_nil) (fun _ _ _ _ _ => (de_mt PySem.F.slot_list_pop PySem.F.type_list_pop mt_popAt m_popAt (pv 2) (da_fr (de_callD D__law_dip gd hr__law_dip rfl (da_cons (dv 0) (da_fr (de_callB call_len c_len rfl (T.fr 3 rfl) PySem.boot_len (da_cons (dv 2) da_nil)) da_nil)) (.cons (.fr .nil))) da_nil)))))))
theorem ok__law_standing (T : Tx fa fn K mg)  (hx : HX K) (D__law_mixed : Df P w K mg base 2 "_law_mixed" ps__law_mixed (F__law_mixed (He.ga K))) (D__law_names : Df P w K mg base 2 "_law_names" ps__law_names (F__law_names (He.ga K))) (D__law_dip : Df P w K mg base 1 "_law_dip" ps__law_dip (F__law_dip (He.ga K))) : Df P w K mg base 3 "_law_standing" ps__law_standing (F__law_standing (He.ga K)) := by
  obtain ⟨fd, Fd⟩ := T.c.def_ 22 (d := df__law_standing) rfl
  refine dfMk (st := s__law_standing) (N := N__law_standing) Fd (T.gl 34 rfl) sc__law_standing (fun _ _ _ _ _ _ us hl => match us, hl with | [_, _], _ => rfl) fun cdv A outer s H gd hr => ?_
  have nd := sc__law_standing.nd
  have hr__law_mixed := hr.mono (show 2 ≤ 2 by decide)
  have hr__law_names := hr.mono (show 2 ≤ 2 by decide)
  have hr__law_dip := hr.mono (show 1 ≤ 2 by decide)
  exact (db_cons (sset 2 nd (de_callD D__law_mixed gd hr__law_mixed rfl (da_cons (dv 0) (da_fr (de_callD D__law_names gd hr__law_names rfl (da_cons (dv 0) (da_fr (dv 1) da_nil)) (.cons (.fr .nil))) da_nil)) (.cons (.fr .nil))))
    (db_one (ds_ret (de_callTy call_tuple_of c_tuple rfl (T.fr 4 rfl) (by decide +kernel) (da_cons (de_lc (own := [("name", 3)]) rfl nd (di_any (dv 2)) (blkOk_by (own := [("name", 3)]) (N := N__law_standing) (sc := defScope s__law_standing) (by decide +kernel)) (fun _ _ _ _ _ => (gnm 3 nd)) (fun _ _ _ _ _ => dts_nil) (fun _ _ _ _ _ => (de_tup (da_fr (dv 3) (da_fr (de_callD D__law_dip gd hr__law_dip rfl (da_cons (dv 0) (da_fr de_int da_nil)) (.cons (.fr .nil))) da_nil))))) da_nil)))))
theorem ok__law_many_names (T : Tx fa fn K mg)  (hx : HX K) (D__law_dip : Df P w K mg base 1 "_law_dip" ps__law_dip (F__law_dip (He.ga K))) : Df P w K mg base 2 "_law_many_names" ps__law_many_names (F__law_many_names (He.ga K)) := by
  obtain ⟨fd, Fd⟩ := T.c.def_ 23 (d := df__law_many_names) rfl
  refine dfMk (st := s__law_many_names) (N := N__law_many_names) Fd (T.gl 35 rfl) sc__law_many_names (fun _ _ _ _ _ _ us hl => match us, hl with | [_], _ => rfl) fun cdv A outer s H gd hr => ?_
  have nd := sc__law_many_names.nd
  have hr__law_dip := hr.mono (show 1 ≤ 1 by decide)
  exact (db_cons (sset 1 nd de_str)
    (db_cons (sset 2 nd (de_op op_addU g_add (de_op op_addU g_add (de_lc (own := [("one", 3)]) rfl nd (di_any (dv 1)) (blkOk_by (own := [("one", 3)]) (N := N__law_many_names) (sc := defScope s__law_many_names) (by decide +kernel)) (fun _ _ _ _ _ => (gnm 3 nd)) (fun _ _ _ _ _ => dts_nil) (fun _ _ _ _ _ => (de_op op_addU g_add (dv 3) de_str))) (de_callTy (callR_or call_list_of (call_list_S rfl)) c_listU rfl (T.fr 0 rfl) (by decide +kernel) (da_cons (dv 1) da_nil))) (de_lc (own := [("one", 3)]) rfl nd (di_any (dv 1)) (blkOk_by (own := [("one", 3)]) (N := N__law_many_names) (sc := defScope s__law_many_names) (by decide +kernel)) (fun _ _ _ _ _ => (gnm 3 nd)) (fun _ _ _ _ _ => dts_nil) (fun _ _ _ _ _ => (de_op op_addU g_add (de_op op_addU g_add de_str (dv 3)) de_str)))))
    (db_one (ds_ret (de_lc (own := [("k", 4)]) rfl nd (di_range1 rfl (T.fr 1 rfl) (da_fr (de_op op_addU g_add de_int (de_callD D__law_dip gd hr__law_dip rfl (da_cons (dv 0) (da_fr de_int da_nil)) (.cons (.fr .nil)))) da_nil)) (blkOk_by (own := [("k", 4)]) (N := N__law_many_names) (sc := defScope s__law_many_names) (by decide +kernel)) (fun _ _ _ _ _ => (gnm 4 nd)) (fun _ _ _ _ _ => dts_nil) (fun _ _ _ _ _ => (de_mt PySem.F.slot_list_pop PySem.F.type_list_pop mt_popAt m_popAt (pv 2) (da_fr (de_callD D__law_dip gd hr__law_dip rfl (da_cons (dv 0) (da_fr (de_callB call_len c_len rfl (T.fr 3 rfl) PySem.boot_len (da_cons (dv 2) da_nil)) da_nil)) (.cons (.fr .nil))) da_nil))))))))
theorem ok_Yard___len__ (T : Tx fa fn K mg)  (hx : HX K)  : DfMG P w K mg base 1 (He.ga K "Yard") "__len__" ps_Yard___len__ (F_Yard___len__ (He.ga K)) 1 [] [] 2 := by
  obtain ⟨fd, Fd⟩ := T.c.def_ 24 (d := df_Yard___len__) rfl
  refine dfMkMG (st := s_Yard___len__) (N := N_Yard___len__) Fd (mthB_ok (hx 4 rfl)) sc_Yard___len__ (by decide) (by decide +kernel) (bindsK0 (st := s_Yard___len__) Fd fun _ _ _ _ _ _ us hl => match us, hl with | [_], _ => rfl) (fun _ => .nil) fun cdv A outer s H gd hr => ?_
  have nd := sc_Yard___len__.nd
  exact (db_one (ds_ret (de_lenD rfl (T.fr 3 rfl) PySem.boot_len (de_pt (g := 1) (insB_ok (hx 0 rfl)) (pv 0)))))
theorem ok_Yard_stands (T : Tx fa fn K mg)  (hx : HX K)  : DfMG P w K mg base 1 (He.ga K "Yard") "stands" ps_Yard_stands (F_Yard_stands (He.ga K)) 1 [] [] 2 := by
  obtain ⟨fd, Fd⟩ := T.c.def_ 25 (d := df_Yard_stands) rfl
  refine dfMkMG (st := s_Yard_stands) (N := N_Yard_stands) Fd (mthB_ok (hx 5 rfl)) sc_Yard_stands (by decide) (by decide +kernel) (bindsK0 (st := s_Yard_stands) Fd fun _ _ _ _ _ _ us hl => match us, hl with | [_], _ => rfl) (fun _ => .nil) fun cdv A outer s H gd hr => ?_
  have nd := sc_Yard_stands.nd
  exact (db_one (ds_ret (de_dictD rfl (T.fr 8 rfl) (by decide +kernel) (de_pt (g := 1) (insB_ok (hx 0 rfl)) (pv 0)))))
theorem ok_Yard_names (T : Tx fa fn K mg)  (hx : HX K)  : DfMG P w K mg base 1 (He.ga K "Yard") "names" ps_Yard_names (F_Yard_names (He.ga K)) 1 [] [] 2 := by
  obtain ⟨fd, Fd⟩ := T.c.def_ 26 (d := df_Yard_names) rfl
  refine dfMkMG (st := s_Yard_names) (N := N_Yard_names) Fd (mthB_ok (hx 6 rfl)) sc_Yard_names (by decide) (by decide +kernel) (bindsK0 (st := s_Yard_names) Fd fun _ _ _ _ _ _ us hl => match us, hl with | [_], _ => rfl) (fun _ => .nil) fun cdv A outer s H gd hr => ?_
  have nd := sc_Yard_names.nd
  exact (db_one (ds_ret (de_sortK rfl rfl (T.fr 9 rfl) (by decide +kernel) (de_pt (g := 1) (insB_ok (hx 0 rfl)) (pv 0)))))
theorem ok_Yard_standing (T : Tx fa fn K mg)  (hx : HX K) (XC_NoName : XCls P w K mg base "NoName" "name" (He.ga K "NoName")) : DfMGX P w K mg base 3 (He.ga K "Yard") "standing" ps_Yard_standing (F_Yard_standing (He.ga K)) (X_Yard_standing (He.ga K)) 2 [] [] 2 := by
  obtain ⟨fd, Fd⟩ := T.c.def_ 27 (d := df_Yard_standing) rfl
  refine dfMkMGX (st := s_Yard_standing) (N := N_Yard_standing) Fd (mthB_ok (hx 7 rfl)) sc_Yard_standing (by decide) (by decide +kernel) (bindsK0 (st := s_Yard_standing) Fd fun _ _ _ _ _ _ us hl => match us, hl with | [_, _], _ => rfl) (fun _ => .nil) fun cdv A outer s H E gd hr => ?_
  have nd := sc_Yard_standing.nd
  have hr_R := hr.mono (show 2 ≤ 2 by decide)
  exact (db_cons (ds_if (dt_dnotinE (hu65 hr) (dv 1) (de_pt (g := 2) (insB_ok (hx 0 rfl)) (pv 0))) (db_one (ds_raise rfl takes_cx XC_NoName hr_R rfl (dv 1))) db_nil)
    (db_one (ds_ret (de_dgetE (hu65 hr) (de_pt (g := 2) (insB_ok (hx 0 rfl)) (pv 0)) (dv 1)))))
theorem ok_Yard_log (T : Tx fa fn K mg)  (hx : HX K) (XC_NoName : XCls P w K mg base "NoName" "name" (He.ga K "NoName")) : DfMGX P w K mg base 3 (He.ga K "Yard") "log" ps_Yard_log (F_Yard_log (He.ga K)) (X_Yard_log (He.ga K)) 2 [] [] 2 := by
  obtain ⟨fd, Fd⟩ := T.c.def_ 28 (d := df_Yard_log) rfl
  refine dfMkMGX (st := s_Yard_log) (N := N_Yard_log) Fd (mthB_ok (hx 8 rfl)) sc_Yard_log (by decide) (by decide +kernel) (bindsK0 (st := s_Yard_log) Fd fun _ _ _ _ _ _ us hl => match us, hl with | [_, _], _ => rfl) (fun _ => .nil) fun cdv A outer s H E gd hr => ?_
  have nd := sc_Yard_log.nd
  have hr_R := hr.mono (show 2 ≤ 2 by decide)
  exact (db_cons (ds_if (dt_dnotinE (hu65 hr) (dv 1) (de_pt (g := 2) (insB_ok (hx 0 rfl)) (pv 0))) (db_one (ds_raise rfl takes_cx XC_NoName hr_R rfl (dv 1))) db_nil)
    (db_one (ds_ret (de_dgetE (hu65 hr) (de_pt (g := 3) (insB_ok (hx 0 rfl)) (pv 0)) (dv 1)))))
theorem ok__law_all_right (T : Tx fa fn K mg)  (hx : HX K) (D_Yard_names : DfMG P w K mg base 1 (He.ga K "Yard") "names" ps_Yard_names (F_Yard_names (He.ga K)) 1 [] [] 2) (D_Yard___len__ : DfMG P w K mg base 1 (He.ga K "Yard") "__len__" ps_Yard___len__ (F_Yard___len__ (He.ga K)) 1 [] [] 2) (D_Yard_stands : DfMG P w K mg base 1 (He.ga K "Yard") "stands" ps_Yard_stands (F_Yard_stands (He.ga K)) 1 [] [] 2) (D_Yard_standing : DfMGX P w K mg base 3 (He.ga K "Yard") "standing" ps_Yard_standing (F_Yard_standing (He.ga K)) (X_Yard_standing (He.ga K)) 2 [] [] 2) (D_Yard_log : DfMGX P w K mg base 3 (He.ga K "Yard") "log" ps_Yard_log (F_Yard_log (He.ga K)) (X_Yard_log (He.ga K)) 2 [] [] 2) : DfL P w K mg base 4 "_law_all_right" ps__law_all_right (F__law_all_right (He.ga K)) 2 := by
  obtain ⟨fd, Fd⟩ := T.c.def_ 29 (d := df__law_all_right) rfl
  refine dfMkL (st := s__law_all_right) (N := N__law_all_right) Fd (T.gl 36 rfl) sc__law_all_right (by decide) (by decide +kernel) (fun _ _ _ _ _ _ us hl => match us, hl with | [_, _, _], _ => rfl) fun cdv A outer s H gd hr => ?_
  have nd := sc__law_all_right.nd
  have hr_Yard_names := hr.mono (show 1 ≤ 3 by decide)
  have hr_Yard___len__ := hr.mono (show 1 ≤ 3 by decide)
  have hr1_Yard___len__ := hr.mono (show 2 ≤ 3 by decide)
  have hr_Yard_stands := hr.mono (show 1 ≤ 3 by decide)
  have hr_Yard_standing := hr.mono (show 3 ≤ 3 by decide)
  have hr_Yard_log := hr.mono (show 3 ≤ 3 by decide)
  exact (db_cons (ds_if (dt_bool (dw_or (dt_cmp (OpR.or op_ne (op_neD (hu64 hr))) g_ne (de_methO0 (gs := [3, 4]) (i := 0) (insB_ok (hx 0 rfl)) D_Yard_names gd hr_Yard_names (pv 0)) (de_sortK rfl rfl (T.fr 9 rfl) (by decide +kernel) (dv 1)) (nomark _)) (dw_or (dt_cmp (OpR.or op_ne (op_neD (hu64 hr))) g_ne (de_lenOb (gs := [3, 4]) (i := 0) D_Yard___len__ gd hr1_Yard___len__ (pv 0) rfl (T.fr 3 rfl) PySem.boot_len) (de_lenD rfl (T.fr 3 rfl) PySem.boot_len (dv 1)) (nomark _)) (dw_or1 (dt_cmp op_notN g_isnot (de_fldO (insB_ok (hx 0 rfl)) (pv 0)) de_non (nomark _)))))) (db_one (ds_ret de_bl)) db_nil)
    (db_cons (ds_if (dt_neKV (hu66 hr) (de_methO0 (gs := [3, 4]) (i := 0) (insB_ok (hx 0 rfl)) D_Yard_stands gd hr_Yard_stands (pv 0)) (dv 1)) (db_one (ds_ret de_bl)) db_nil)
    (db_one (ds_ret (de_cmp (OpR.or op_eq (op_eqD (hu64 hr))) g_eq (de_lc (own := [("name", 5)]) rfl nd (di_keysF (dv 1)) (blkOk_by (own := [("name", 5)]) (N := N__law_all_right) (sc := defScope s__law_all_right) (by decide +kernel)) (fun _ _ _ _ _ => (gnm 5 nd)) (fun _ _ _ _ _ => (dts_one (dt_bool (dw_or (dt_cmp (OpR.or op_ne (op_neD (hu64 hr))) g_ne (de_methO (gs := [3, 4]) (i := 0) (insB_ok (hx 0 rfl)) D_Yard_standing.dmg gd hr_Yard_standing (pv 0) (da_fr (dv 5) da_nil) (.fr .nil)) (de_dgF (hu65 hr) (dv 1) (dv 5)) (nomark _)) (dw_or1 (dt_cmp (OpR.or op_ne (op_neD (hu64 hr))) g_ne (de_methO (gs := [3, 4]) (i := 0) (insB_ok (hx 0 rfl)) D_Yard_log.dmg gd hr_Yard_log (pv 0) (da_fr (dv 5) da_nil) (.fr .nil)) (de_dgF (hu65 hr) (dv 2) (dv 5)) (nomark _))))))) (fun _ _ _ _ _ => de_int)) (de_lst da_nil) (nomark _))))))
theorem ok_Yard_worked (T : Tx fa fn K mg)  (hx : HX K) (D_done : DfD P w K mg base 5 "done" ps_done (F_done (He.ga K)) 4 ["back"] [.bl false]) : DfMG P w K mg base 6 (He.ga K "Yard") "worked" ps_Yard_worked (F_Yard_worked (He.ga K)) 4 [] [] 2 := by
  obtain ⟨fd, Fd⟩ := T.c.def_ 30 (d := df_Yard_worked) rfl
  refine dfMkMG (st := s_Yard_worked) (N := N_Yard_worked) Fd (mthB_ok (hx 9 rfl)) sc_Yard_worked (by decide) (by decide +kernel) (bindsK0 (st := s_Yard_worked) Fd fun _ _ _ _ _ _ us hl => match us, hl with | [_, _, _, _], _ => rfl) (fun _ => .nil) fun cdv A outer s H gd hr => ?_
  have nd := sc_Yard_worked.nd
  have hr_done := hr.mono (show 5 ≤ 5 by decide)
  exact (db_cons (ds_fin (db_cons (ds_ostO (i := 0) (insB_ok (hx 0 rfl)) (pv 0) (dv 1))
    (db_cons (ds_dputE (hu65 hr) (de_pt (g := 4) (insB_ok (hx 0 rfl)) (pv 0)) (dv 1) (de_callDd D_done gd hr_done rfl (da_fr (de_fldO (insB_ok (hx 0 rfl)) (pv 0)) (da_fr (de_fldO (insB_ok (hx 0 rfl)) (pv 0)) (da_fr (de_dgetE (hu65 hr) (de_pt (g := 4) (insB_ok (hx 0 rfl)) (pv 0)) (dv 1)) (da_fr (dv 2) da_nil)))) (.fr (.fr (.fr (.fr .nil))))))
    (db_one (ds_dputE (hu65 hr) (de_pt (g := 5) (insB_ok (hx 0 rfl)) (pv 0)) (dv 1) (dv 3))))) (db_one (ds_ostO (i := 0) (insB_ok (hx 0 rfl)) (pv 0) de_non)))
    (db_one (ds_ret (de_dgetE (hu65 hr) (de_pt (g := 4) (insB_ok (hx 0 rfl)) (pv 0)) (dv 1)))))
theorem ok_Yard_undo (T : Tx fa fn K mg)  (hx : HX K) (D_Yard_log : DfMGX P w K mg base 3 (He.ga K "Yard") "log" ps_Yard_log (F_Yard_log (He.ga K)) (X_Yard_log (He.ga K)) 2 [] [] 2) (D_Yard_worked : DfMG P w K mg base 6 (He.ga K "Yard") "worked" ps_Yard_worked (F_Yard_worked (He.ga K)) 4 [] [] 2) : DfMGX P w K mg base 7 (He.ga K "Yard") "undo" ps_Yard_undo (F_Yard_undo (He.ga K)) (X_Yard_undo (He.ga K)) 2 ["many"] [.int 1] 2 := by
  obtain ⟨fd, Fd⟩ := T.c.def_ 31 (d := df_Yard_undo) rfl
  refine dfMkMGX (st := s_Yard_undo) (N := N_Yard_undo) Fd (mthB_ok (hx 10 rfl)) sc_Yard_undo (by decide) (by decide +kernel) (bindsKk (st := s_Yard_undo) 2 Fd (List.cons_ne_nil _ _) rfl (fun _ _ _ _ _ _ us ks h1 h2 => match us, h1, ks, h2 with | [_, _], _, [_], _ => ⟨_, _, _, _, _, _, rfl, rfl, rfl⟩) (fun _ _ _ _ _ _ us ws h1 h2 => match us, h1, ws, h2 with | [_, _], _, [_], _ => rfl)) (fun _ => .cons (.int _) (.nil)) fun cdv A outer s H E gd hr => ?_
  have nd := sc_Yard_undo.nd
  have hr_Yard_log := hr.mono (show 3 ≤ 6 by decide)
  have hr_Yard_worked := hr.mono (show 6 ≤ 6 by decide)
  exact (db_cons (ds_asgMX (gs := [3, 4]) (i := 0) (j := 5) nd rfl (by first | exact .inl rfl | exact .inr rfl) (insB_ok (hx 0 rfl)) D_Yard_log takes_cx gd hr_Yard_log (pv 0) (da_fr (dv 1) da_nil) (.fr .nil))
    (db_cons (ds_if (dt_cmp op_gt (g_cmp _) (dv 2) (de_callB call_len c_len rfl (T.fr 3 rfl) PySem.boot_len (da_cons (dv 5) da_nil)) (nomark _)) (db_one ds_never) db_nil)
    (db_cons (sset 6 nd (de_op op_sub g_sub (de_callB call_len c_len rfl (T.fr 3 rfl) PySem.boot_len (da_cons (dv 5) da_nil)) (dv 2)))
    (db_one (ds_ret (de_methO (gs := [3, 4]) (i := 0) (insB_ok (hx 0 rfl)) D_Yard_worked gd hr_Yard_worked (pv 0) (da_fr (dv 1) (da_fr (de_back (de_sl (dv 5) (do_some (dv 6)) do_no)) (da_fr (de_sl (dv 5) do_no (do_some (dv 6))) da_nil))) (.fr (.fr (.fr .nil)))))))))
theorem ok__law_none_there (T : Tx fa fn K mg)  (hx : HX K) (D_Yard_undo : DfMGX P w K mg base 7 (He.ga K "Yard") "undo" ps_Yard_undo (F_Yard_undo (He.ga K)) (X_Yard_undo (He.ga K)) 2 ["many"] [.int 1] 2) : DfL P w K mg base 8 "_law_none_there" ps__law_none_there (F__law_none_there (He.ga K)) 2 := by
  obtain ⟨fd, Fd⟩ := T.c.def_ 32 (d := df__law_none_there) rfl
  refine dfMkL (st := s__law_none_there) (N := N__law_none_there) Fd (T.gl 37 rfl) sc__law_none_there (by decide) (by decide +kernel) (fun _ _ _ _ _ _ us hl => match us, hl with | [_, _], _ => rfl) fun cdv A outer s H gd hr => ?_
  have nd := sc__law_none_there.nd
  have hr_Yard_undo := hr.mono (show 7 ≤ 7 by decide)
  exact (db_cons (sset 4 nd de_non)
    (db_cons (ds_tryMk (gs := [2, 3]) (i := 0) (j := 5) (cs := [He.ga K "NoName"]) (insB_ok (hx 0 rfl)) D_Yard_undo rfl rfl rfl nd rfl rfl (names_glo rfl (T.gl 10 rfl)) takesE0 (List.forall_mem_cons.mpr ⟨of_decide_eq_true (hx 1 rfl), List.forall_mem_nil _⟩) gd hr_Yard_undo (fun _ _ => pv 0) (fun _ _ => (da_fr (dv 1) da_nil)) (.fr .nil) (fun _ _ => (dk_fr de_int dk_nil)) (.fr .nil) (fun _ _ => (db_one (sset 4 nd (de_xf (cs := [He.ga K "NoName"]) (List.forall_mem_cons.mpr ⟨⟨(ck_NoName hx).x, (ck_NoName hx).no⟩, List.forall_mem_nil _⟩) (dv 5))))))
    (db_one (ds_ret (de_cmp (OpR.or op_eq (op_eqD (hu64 hr))) g_eq (dv 4) (dv 1) (nomark _))))))
theorem ok_Yard_put (T : Tx fa fn K mg)  (hx : HX K)  : DfMG P w K mg base 1 (He.ga K "Yard") "put" ps_Yard_put (F_Yard_put (He.ga K)) 3 [] [] 2 := by
  obtain ⟨fd, Fd⟩ := T.c.def_ 33 (d := df_Yard_put) rfl
  refine dfMkMG (st := s_Yard_put) (N := N_Yard_put) Fd (mthB_ok (hx 11 rfl)) sc_Yard_put (by decide) (by decide +kernel) (bindsK0 (st := s_Yard_put) Fd fun _ _ _ _ _ _ us hl => match us, hl with | [_, _, _], _ => rfl) (fun _ => .nil) fun cdv A outer s H gd hr => ?_
  have nd := sc_Yard_put.nd
  exact (db_cons (ds_dputE (hu65 hr) (de_pt (g := 3) (insB_ok (hx 0 rfl)) (pv 0)) (dv 1) (dv 2))
    (db_one (ds_dputE (hu65 hr) (de_pt (g := 4) (insB_ok (hx 0 rfl)) (pv 0)) (dv 1) (de_tup da_nil))))
theorem ok_Yard_need_room (T : Tx fa fn K mg)  (hx : HX K)  : DfMG P w K mg base 1 (He.ga K "Yard") "need_room" ps_Yard_need_room (F_Yard_need_room (He.ga K)) 3 [] [] 2 := by
  obtain ⟨fd, Fd⟩ := T.c.def_ 34 (d := df_Yard_need_room) rfl
  refine dfMkMG (st := s_Yard_need_room) (N := N_Yard_need_room) Fd (mthB_ok (hx 12 rfl)) sc_Yard_need_room (by decide) (by decide +kernel) (bindsK0 (st := s_Yard_need_room) Fd fun _ _ _ _ _ _ us hl => match us, hl with | [_, _, _], _ => rfl) (fun _ => .nil) fun cdv A outer s H gd hr => ?_
  have nd := sc_Yard_need_room.nd
  exact (db_cons (sset 5 nd (de_op op_sub g_sub (de_op op_addU g_add (de_callB call_len c_len rfl (T.fr 3 rfl) PySem.boot_len (da_cons (de_dgetE (hu65 hr) (de_pt (g := 4) (insB_ok (hx 0 rfl)) (pv 0)) (dv 1)) da_nil)) (dv 2)) (de_fldO (insB_ok (hx 0 rfl)) (pv 0))))
    (db_one (ds_if (dt_cmp op_gt (g_cmp _) (dv 5) de_int (nomark _)) (db_one ds_never) db_nil)))
theorem ok_Yard_do (T : Tx fa fn K mg)  (hx : HX K) (D_Yard_log : DfMGX P w K mg base 3 (He.ga K "Yard") "log" ps_Yard_log (F_Yard_log (He.ga K)) (X_Yard_log (He.ga K)) 2 [] [] 2) (D_need_deeds : Df P w K mg base 4 "need_deeds" ps_need_deeds (F_need_deeds (He.ga K))) (D_Yard_need_room : DfMG P w K mg base 1 (He.ga K "Yard") "need_room" ps_Yard_need_room (F_Yard_need_room (He.ga K)) 3 [] [] 2) (D_Yard_worked : DfMG P w K mg base 6 (He.ga K "Yard") "worked" ps_Yard_worked (F_Yard_worked (He.ga K)) 4 [] [] 2) : DfMG P w K mg base 7 (He.ga K "Yard") "do" ps_Yard_do (F_Yard_do (He.ga K)) 3 ["back"] [.bl false] 2 := by
  obtain ⟨fd, Fd⟩ := T.c.def_ 35 (d := df_Yard_do) rfl
  refine dfMkMG (st := s_Yard_do) (N := N_Yard_do) Fd (mthB_ok (hx 13 rfl)) sc_Yard_do (by decide) (by decide +kernel) (bindsKk (st := s_Yard_do) 3 Fd (List.cons_ne_nil _ _) rfl (fun _ _ _ _ _ _ us ks h1 h2 => match us, h1, ks, h2 with | [_, _, _], _, [_], _ => ⟨_, _, _, _, _, _, rfl, rfl, rfl⟩) (fun _ _ _ _ _ _ us ws h1 h2 => match us, h1, ws, h2 with | [_, _, _], _, [_], _ => rfl)) (fun _ => .cons (.bl _) (.nil)) fun cdv A outer s H gd hr => ?_
  have nd := sc_Yard_do.nd
  have hr_Yard_log := hr.mono (show 3 ≤ 6 by decide)
  have hr_need_deeds := hr.mono (show 4 ≤ 6 by decide)
  have hr_Yard_need_room := hr.mono (show 1 ≤ 6 by decide)
  have hr_Yard_worked := hr.mono (show 6 ≤ 6 by decide)
  exact (db_cons (sset 6 nd (de_methO (gs := [4, 5]) (i := 0) (insB_ok (hx 0 rfl)) D_Yard_log.dmg gd hr_Yard_log (pv 0) (da_fr (dv 1) da_nil) (.fr .nil)))
    (db_cons (ds_expr (de_callD D_need_deeds gd hr_need_deeds rfl (da_fr (de_fldO (insB_ok (hx 0 rfl)) (pv 0)) (da_fr (de_fldO (insB_ok (hx 0 rfl)) (pv 0)) (da_fr (dv 2) da_nil))) (.fr (.fr (.fr .nil)))))
    (db_cons (ds_expr (de_methO (gs := [4, 5]) (i := 0) (insB_ok (hx 0 rfl)) D_Yard_need_room gd hr_Yard_need_room (pv 0) (da_fr (dv 1) (da_fr (de_callB call_len c_len rfl (T.fr 3 rfl) PySem.boot_len (da_cons (dv 2) da_nil)) da_nil)) (.fr (.fr .nil))))
    (db_cons (sset 7 nd (de_if (dt_val (dv 3)) (de_back (de_callTy call_tuple_of c_tuple rfl (T.fr 4 rfl) (by decide +kernel) (da_cons (dv 2) da_nil))) (de_callTy call_tuple_of c_tuple rfl (T.fr 4 rfl) (by decide +kernel) (da_cons (dv 2) da_nil))))
    (db_one (ds_ret (de_methO (gs := [4, 5]) (i := 0) (insB_ok (hx 0 rfl)) D_Yard_worked gd hr_Yard_worked (pv 0) (da_fr (dv 1) (da_fr (dv 7) (da_fr (de_op op_addU g_add (dv 6) (dv 7)) da_nil))) (.fr (.fr (.fr .nil))))))))))
theorem okL_law (T : Tx fa fn K mg) {fd : FuncData} (Fd : FunD K "law" "law" (defArgs s_law) (defBody s_law) (defScope s_law) [] [] (He.fAd K ("law", none)) fd)  (hx : HX K) (MK_Yard : MkO P w K mg base "Yard" (He.ga K "Yard") ["board", "book", "limit", "kept", "noted", "busy"] [.a 0, .a 1, .a 2, .d 0, .d 1, .n] 3 2 [.int 150000]) (D__law_pot : Df P w K mg base 1 "_law_pot" ps__law_pot (F__law_pot (He.ga K))) (D__law_board : Df P w K mg base 2 "_law_board" ps__law_board (F__law_board (He.ga K))) (D__law_book : Df P w K mg base 2 "_law_book" ps__law_book (F__law_book (He.ga K))) (D__law_deeds : Df P w K mg base 2 "_law_deeds" ps__law_deeds (F__law_deeds (He.ga K))) (D__law_many_names : Df P w K mg base 2 "_law_many_names" ps__law_many_names (F__law_many_names (He.ga K))) (D__law_dip : Df P w K mg base 1 "_law_dip" ps__law_dip (F__law_dip (He.ga K))) (D__law_standing : Df P w K mg base 3 "_law_standing" ps__law_standing (F__law_standing (He.ga K))) (D__law_cells : Df P w K mg base 1 "_law_cells" ps__law_cells (F__law_cells (He.ga K))) (D_Yard_put : DfMG P w K mg base 1 (He.ga K "Yard") "put" ps_Yard_put (F_Yard_put (He.ga K)) 3 [] [] 2) (D__law_done : Df P w K mg base 2 "_law_done" ps__law_done (F__law_done (He.ga K))) (D_Yard_do : DfMG P w K mg base 7 (He.ga K "Yard") "do" ps_Yard_do (F_Yard_do (He.ga K)) 3 ["back"] [.bl false] 2) (D__law_none_there : DfL P w K mg base 8 "_law_none_there" ps__law_none_there (F__law_none_there (He.ga K)) 2) (D_Yard_undo : DfMGX P w K mg base 7 (He.ga K "Yard") "undo" ps_Yard_undo (F_Yard_undo (He.ga K)) (X_Yard_undo (He.ga K)) 2 ["many"] [.int 1] 2) (D__law_all_right : DfL P w K mg base 4 "_law_all_right" ps__law_all_right (F__law_all_right (He.ga K)) 2) : FnG P w K mg base 9 (He.fAd K ("law", none)) fd ["script"] (spD K 1 (F_law (He.ga K))) := by
  refine okF (st := s_law) (N := N_law) (ps := ["script"]) Fd sc_law fun cdv A outer s H gd hr => ?_
  have nd := sc_law.nd
  have hr_R := hr.mono (show 2 ≤ 8 by decide)
  have hr__law_pot := hr.mono (show 1 ≤ 8 by decide)
  have hr__law_board := hr.mono (show 2 ≤ 8 by decide)
  have hr__law_book := hr.mono (show 2 ≤ 8 by decide)
  have hr__law_deeds := hr.mono (show 2 ≤ 8 by decide)
  have hr__law_many_names := hr.mono (show 2 ≤ 8 by decide)
  have hr__law_dip := hr.mono (show 1 ≤ 8 by decide)
  have hr__law_standing := hr.mono (show 3 ≤ 8 by decide)
  have hr__law_cells := hr.mono (show 1 ≤ 8 by decide)
  have hr_Yard_put := hr.mono (show 1 ≤ 8 by decide)
  have hr__law_done := hr.mono (show 2 ≤ 8 by decide)
  have hr_Yard_do := hr.mono (show 7 ≤ 8 by decide)
  have hr__law_none_there := hr.mono (show 8 ≤ 8 by decide)
  have hr_Yard_undo := hr.mono (show 7 ≤ 8 by decide)
  have hr__law_all_right := hr.mono (show 4 ≤ 8 by decide)
  exact (db_cons (ds_for PassesOwn.never rfl (di_range1 rfl (T.fr 1 rfl) (da_fr (de_callB (call_max2 rfl) c_max rfl (T.fr 6 rfl) (by decide +kernel) (da_cons de_int (da_cons (de_callB (call_min2 rfl) c_min rfl (T.fr 7 rfl) (by decide +kernel) (da_cons de_int (da_cons (de_callB call_len c_len rfl (T.fr 3 rfl) PySem.boot_len (da_cons (dv 0) da_nil)) da_nil))) da_nil))) da_nil)) (gnm 3 nd)
    (db_cons (sset 4 nd (de_callD D__law_pot gd hr__law_pot rfl (da_fr (dv 0) (da_fr (dv 3) da_nil)) (.fr (.fr .nil))))
    (db_cons (sset 5 nd (de_callD D__law_board gd hr__law_board rfl (da_cons (dv 4) (da_fr de_int da_nil)) (.cons (.fr .nil))))
    (db_cons (sset 6 nd (de_callD D__law_book gd hr__law_book rfl (da_cons (dv 4) (da_fr (dv 5) da_nil)) (.cons (.fr .nil))))
    (db_cons (sset 7 nd (de_callD D__law_deeds gd hr__law_deeds rfl (da_fr (dv 5) (da_fr (dv 6) da_nil)) (.fr (.fr .nil))))
    (db_new (i := 8) (gs := [1, 2]) (L := [1, 2, 3, 4, 5, 6, 7, 8, 9, 10, 11, 12, 13, 14, 15, 16, 17, 18]) MK_Yard hr_R rfl (da_fr (dv 5) (da_fr (dv 6) da_nil)) (.fr (.fr .nil)) (by decide) nd rfl (by first | exact Or.inl rfl | exact Or.inr rfl) (ghs_ok (N := N_law) (defScope s_law) (by decide +kernel))
    (db_cons (sset 9 nd de_dnewK)
    (db_cons (sset 10 nd de_dnewK)
    (db_cons (sset 11 nd (de_callD D__law_many_names gd hr__law_many_names rfl (da_cons (dv 4) da_nil) (.cons .nil)))
    (db_one (ds_for PassesOwn.never rfl (di_range1 rfl (T.fr 1 rfl) (da_fr (de_op op_mulU g_mul de_int (de_callB call_len c_len rfl (T.fr 3 rfl) PySem.boot_len (da_cons (dv 11) da_nil))) da_nil)) (gnm 12 nd)
    (db_cons (sset 13 nd (de_ix (dv 11) (de_op op_mod g_mod (dv 12) (de_callB call_len c_len rfl (T.fr 3 rfl) PySem.boot_len (da_cons (dv 11) da_nil)))))
    (db_cons (ds_if (dt_bool (dw_or (dt_cmp op_lt (g_cmp _) (dv 12) (de_callB call_len c_len rfl (T.fr 3 rfl) PySem.boot_len (da_cons (dv 11) da_nil)) (nomark _)) (dw_or1 (dt_cmp (OpR.or op_eq (op_eqD (hu64 hr))) g_eq (de_callD D__law_dip gd hr__law_dip rfl (da_cons (dv 4) (da_fr de_int da_nil)) (.cons (.fr .nil))) de_int (nomark _))))) (db_cons (ds_dput (hu65 hr) (pv 9) (dv 13) (de_callD D__law_standing gd hr__law_standing rfl (da_cons (dv 4) (da_fr (de_callD D__law_cells gd hr__law_cells rfl (da_fr (dv 5) da_nil) (.fr .nil)) da_nil)) (.cons (.fr .nil))))
    (db_cons (ds_dput (hu65 hr) (pv 10) (dv 13) (de_tup da_nil))
    (db_one (ds_expr (de_methO (gs := [1, 2]) (i := 8) (insB_ok (hx 0 rfl)) D_Yard_put gd hr_Yard_put (pv 8) (da_fr (dv 13) (da_fr (de_dget (hu65 hr) (pv 9) (dv 13)) da_nil)) (.fr (.fr .nil))))))) db_nil)
    (db_cons (sset 14 nd (de_ix (de_sortK rfl rfl (T.fr 9 rfl) (by decide +kernel) (dv 9)) (de_callD D__law_dip gd hr__law_dip rfl (da_cons (dv 4) (da_fr (de_lenD rfl (T.fr 3 rfl) PySem.boot_len (dv 9)) da_nil)) (.cons (.fr .nil)))))
    (db_cons (sset 15 nd (de_callTy call_tuple_of c_tuple rfl (T.fr 4 rfl) (by decide +kernel) (da_cons (de_lc (own := [("k", 18)]) rfl nd (di_range1 rfl (T.fr 1 rfl) (da_fr (de_callD D__law_dip gd hr__law_dip rfl (da_cons (dv 4) (da_fr de_int da_nil)) (.cons (.fr .nil))) da_nil)) (blkOk_by (own := [("k", 18)]) (N := N_law) (sc := defScope s_law) (by decide +kernel)) (fun _ _ _ _ _ => (gnm 18 nd)) (fun _ _ _ _ _ => dts_nil) (fun _ _ _ _ _ => (de_ix (dv 7) (de_callD D__law_dip gd hr__law_dip rfl (da_cons (dv 4) (da_fr (de_callB call_len c_len rfl (T.fr 3 rfl) PySem.boot_len (da_cons (dv 7) da_nil)) da_nil)) (.cons (.fr .nil)))))) da_nil)))
    (db_cons (ds_dput (hu65 hr) (pv 9) (dv 14) (de_callD D__law_done gd hr__law_done rfl (da_fr (dv 5) (da_fr (dv 6) (da_fr (de_dget (hu65 hr) (pv 9) (dv 14)) (da_fr (dv 15) da_nil)))) (.fr (.fr (.fr (.fr .nil))))))
    (db_cons (ds_dput (hu65 hr) (pv 10) (dv 14) (de_op op_addU g_add (de_dget (hu65 hr) (pv 10) (dv 14)) (dv 15)))
    (db_cons (ds_if (dt_bool (dw_or (dt_cmp (OpR.or op_ne (op_neD (hu64 hr))) g_ne (de_methO (gs := [1, 2]) (i := 8) (insB_ok (hx 0 rfl)) D_Yard_do gd hr_Yard_do (pv 8) (da_fr (dv 14) (da_fr (dv 15) da_nil)) (.fr (.fr .nil))) (de_dget (hu65 hr) (pv 9) (dv 14)) (nomark _)) (dw_or1 (dt_not (dt_val (de_callL (gs := [1, 2]) D__law_none_there gd hr__law_none_there rfl (da_cons (dv 8) (da_fr de_str da_nil)) (.cons (.fr .nil)))))))) (db_one (ds_ret de_bl)) db_nil)
    (db_cons (sset 16 nd (de_callD D__law_dip gd hr__law_dip rfl (da_cons (dv 4) (da_fr (de_op op_addU g_add (de_callB call_len c_len rfl (T.fr 3 rfl) PySem.boot_len (da_cons (de_dget (hu65 hr) (pv 10) (dv 13)) da_nil)) de_int) da_nil)) (.cons (.fr .nil))))
    (db_cons (sset 17 nd (de_sl (de_dget (hu65 hr) (pv 10) (dv 13)) (do_some (dv 16)) do_no))
    (db_cons (ds_dput (hu65 hr) (pv 9) (dv 13) (de_callD D__law_done gd hr__law_done rfl (da_fr (dv 5) (da_fr (dv 6) (da_fr (de_dget (hu65 hr) (pv 9) (dv 13)) (da_fr (de_back (dv 17)) da_nil)))) (.fr (.fr (.fr (.fr .nil))))))
    (db_cons (ds_dput (hu65 hr) (pv 10) (dv 13) (de_sl (de_dget (hu65 hr) (pv 10) (dv 13)) do_no (do_some (dv 16))))
    (db_one (ds_if (dt_bool (dw_or (dt_cmp (OpR.or op_ne (op_neD (hu64 hr))) g_ne (de_methOk (gs := [1, 2]) (i := 8) (insB_ok (hx 0 rfl)) D_Yard_undo.dmg gd hr_Yard_undo (pv 8) (da_fr (dv 13) da_nil) (.fr .nil) (dk_fr (de_callB call_len c_len rfl (T.fr 3 rfl) PySem.boot_len (da_cons (dv 17) da_nil)) dk_nil) (.fr .nil)) (de_dget (hu65 hr) (pv 9) (dv 13)) (nomark _)) (dw_or1 (dt_not (dt_val (de_still (i := 10) (de_still (i := 9) (de_callL (gs := [1, 2]) D__law_all_right gd hr__law_all_right rfl (da_cons (dv 8) (da_fr (dv 9) (da_fr (dv 10) da_nil))) (.cons (.fr (.fr .nil))))))))))) (db_one (ds_ret de_bl)) db_nil))))))))))))))))))))))))
    (db_one (ds_ret de_bl)))
end
end G
namespace G
open PySem PySem.Spec L2 DL
noncomputable def t_cells_many (board_ : Board) : Option Int :=
  cond (board_.isFloor)
 ((board_.n2).bind fun v2 =>
  (mulI board_.n1 v2).bind fun v3 =>
  some v3)
 (some board_.n1)
theorem C_cells_many {A : Str → Addr} {board_ : Board} {r : Int} (h : t_cells_many board_ = some r) : ∃ ρ', F_cells_many A [.fz (Board.d board_)] = some ((fun (r : Int) => .fz (.int r)) r, ρ') := by
  refine fn_ok (ρ := [.fz (Board.d board_)]) (zf := (fun (r : Int) => .fz (.int r))) (x := r) ?_
  unfold t_cells_many at h
  unfold d_cells_many
  show Run _ [.fz (Board.d board_)] _
  refine run_if (te_tst (ev_op (ev_op (ev_var rfl) ev_c rfl rfl (b_ix0 _)) ev_c rfl rfl (b_eqF _))) (fun c1 => ?_) (fun c1 => ?_)
  · have h := cnd_t h c1
    obtain ⟨v2, ev2, h⟩ := bnd h
    obtain ⟨v3, ev3, h⟩ := bnd h
    exact run_ret h (ev_op (ev_op (ev_var rfl) ev_c rfl rfl (b_ix1 _)) (ev_op (ev_var rfl) ev_c rfl rfl (b_ix2 ev2)) rfl rfl (d_mul ev3)) (rq rfl)
  · have h := cnd_f h c1
    refine run_next ?_
    refine run_last ?_
    exact run_ret h (ev_op (ev_var rfl) ev_c rfl rfl (b_ix1 _)) (rq rfl)
noncomputable def t_first_cells (board_ : Board) (rule_ : Rule) : Option (List Int) :=
  (t_cells_many board_).bind fun v1 =>
  cond (board_.isRow)
 ((mulI (2 : Int) rule_.n1).bind fun v3 =>
  (rngL (0 : Int) ((v1 - v3) + (1 : Int))).bind fun v4 =>
  some v4)
 (cond (board_.isRing)
 ((rngL (0 : Int) v1).bind fun v6 =>
  some v6)
 ((board_.hw).bind fun v7 =>
  (mulI rule_.n1 ((1 : Int) + (b2i (rule_.isUnder)))).bind fun v8 =>
  (mulI rule_.n2 ((1 : Int) + (b2i (rule_.isOver)))).bind fun v9 =>
  (rngO (0 : Int) ((v7.1 - v8) + (1 : Int))).bind fun v10 =>
  (flatO (fun (x11 : Int) =>
  (rngO (0 : Int) ((v7.2 - v9) + (1 : Int))).bind fun v12 =>
  mapR (fun (x13 : Int) => (mulI x11 v7.2).bind fun v14 =>
  some (v14 + x13)) v12) v10).bind fun v15 =>
  some v15))
theorem C_first_cells {A : Str → Addr} {board_ : Board} {rule_ : Rule} {r : (List Int)} (h : t_first_cells board_ rule_ = some r) : ∃ ρ', F_first_cells A [.fz (Board.d board_), .fz (Rule.d rule_)] = some ((fun (r : (List Int)) => .ow (.l (List.map D.int r))) r, ρ') := by
  refine fn_ok (ρ := [.fz (Board.d board_), .fz (Rule.d rule_)]) (zf := (fun (r : (List Int)) => .ow (.l (List.map D.int r)))) (x := r) ?_
  unfold t_first_cells at h
  unfold d_first_cells
  show Run _ [.fz (Board.d board_), .fz (Rule.d rule_), .un, .un, .un, .un, .un, .un, .un] _
  obtain ⟨v1, ev1, h⟩ := bnd h
  refine run_asg (ev_fc (ar_fr (ev_var rfl) rfl ar_nil) rfl (C_cells_many ev1) rfl) rfl rfl ?_
  show Run _ [.fz (Board.d board_), .fz (Rule.d rule_), .fz (.int v1), .un, .un, .un, .un, .un, .un] _
  refine run_if (te_tst (ev_op (ev_op (ev_var rfl) ev_c rfl rfl (b_ix0 _)) ev_c rfl rfl (b_eqR _))) (fun c2 => ?_) (fun c2 => ?_)
  · have h := cnd_t h c2
    obtain ⟨v3, ev3, h⟩ := bnd h
    obtain ⟨v4, ev4, h⟩ := bnd h
    exact run_ret h (ev_lrg1 (ev_op (ev_op (ev_var rfl) (ev_op ev_c (ev_op (ev_var rfl) ev_c rfl rfl (r_ix1 _)) rfl rfl (d_mul ev3)) rfl rfl rfl) ev_c rfl rfl rfl) ev4) (rq rfl)
  · have h := cnd_f h c2
    refine run_next ?_
    refine run_if (te_tst (ev_op (ev_op (ev_var rfl) ev_c rfl rfl (b_ix0 _)) ev_c rfl rfl (b_eqG _))) (fun c5 => ?_) (fun c5 => ?_)
    · have h := cnd_t h c5
      obtain ⟨v6, ev6, h⟩ := bnd h
      exact run_ret h (ev_lrg1 (ev_var rfl) ev6) (rq rfl)
    · have h := cnd_f h c5
      refine run_next ?_
      obtain ⟨v7, ev7, h⟩ := bnd h
      refine run_unp (ev_sl (ev_var rfl) (fo_some ev_c) fo_no rfl (b_hw ev7)) rfl rfl (tg_tp rfl (tg_cs (tg_nm rfl) (tg_cs (tg_nm rfl) tg_nl))) ?_
      show Run _ [.fz (Board.d board_), .fz (Rule.d rule_), .fz (.int v1), .fz (.int v7.1), .fz (.int v7.2), .un, .un, .un, .un] _
      obtain ⟨v8, ev8, h⟩ := bnd h
      refine run_asg (ev_op (ev_op (ev_var rfl) (ev_op (ev_op (ev_var rfl) ev_c rfl rfl (r_ix1 _)) (ev_op ev_c (ev_call (ar_cons (ev_op (ev_op (ev_var rfl) ev_c rfl rfl (r_ix0 _)) ev_c rfl rfl (r_eqU _)) ar_nil) rfl rfl) rfl rfl rfl) rfl rfl (d_mul ev8)) rfl rfl rfl) ev_c rfl rfl rfl) rfl rfl ?_
      show Run _ [.fz (Board.d board_), .fz (Rule.d rule_), .fz (.int v1), .fz (.int v7.1), .fz (.int v7.2), .fz (.int ((v7.1 - v8) + (1 : Int))), .un, .un, .un] _
      obtain ⟨v9, ev9, h⟩ := bnd h
      refine run_asg (ev_op (ev_op (ev_var rfl) (ev_op (ev_op (ev_var rfl) ev_c rfl rfl (r_ix2 _)) (ev_op ev_c (ev_call (ar_cons (ev_op (ev_op (ev_var rfl) ev_c rfl rfl (r_ix0 _)) ev_c rfl rfl (r_eqO _)) ar_nil) rfl rfl) rfl rfl rfl) rfl rfl (d_mul ev9)) rfl rfl rfl) ev_c rfl rfl rfl) rfl rfl ?_
      show Run _ [.fz (Board.d board_), .fz (Rule.d rule_), .fz (.int v1), .fz (.int v7.1), .fz (.int v7.2), .fz (.int ((v7.1 - v8) + (1 : Int))), .fz (.int ((v7.2 - v9) + (1 : Int))), .un, .un] _
      refine run_last ?_
      obtain ⟨v10, ev10, h⟩ := bnd h
      obtain ⟨v15, ev15, h⟩ := bnd h
      exact run_ret h (ev_lc2 (eb := D.int) ev15 (it_r1 (ar_fr (ev_var rfl) rfl ar_nil) ev10) (by intro x11 zs E; obtain ⟨v12, ev12, E⟩ := bnd E; exact ⟨_, (tg_nm rfl), in2_map E (it_r1 (ar_fr (ev_var rfl) rfl ar_nil) ev12) rfl (by intro x13 y E; obtain ⟨v14, ev14, E⟩ := bnd E; obtain rfl := Option.some.inj E; exact ⟨_, _, (tg_nm rfl), ev_fr (ev_op (ev_op (ev_var rfl) (ev_var rfl) rfl rfl (d_mul ev14)) (ev_var rfl) rfl rfl rfl) rfl, rfl⟩)⟩) rfl) (rq rfl)
noncomputable def t_is_deed (board_ : Board) (book_ : (List Rule)) (deed_ : (Int × Int)) : Option Bool :=
  (andO (decide ((0 : Int) ≤ deed_.1) && decide (deed_.1 < (book_.length : Int))) ((ixI book_ deed_.1).bind fun v1 =>
  (t_first_cells board_ v1).bind fun v2 =>
  (inO (.int deed_.2) (List.map D.int v2)).bind fun v3 =>
  some v3)).bind fun v4 =>
  some v4
theorem C_is_deed {A : Str → Addr} {board_ : Board} {book_ : (List Rule)} {deed_ : (Int × Int)} {r : Bool} (h : t_is_deed board_ book_ deed_ = some r) : ∃ ρ', F_is_deed A [.fz (Board.d board_), .fz (.tup (List.map Rule.d book_)), .fz (.tup [.int deed_.1, .int deed_.2])] = some ((fun (r : Bool) => .fz (.bl r)) r, ρ') := by
  refine fn_ok (ρ := [.fz (Board.d board_), .fz (.tup (List.map Rule.d book_)), .fz (.tup [.int deed_.1, .int deed_.2])]) (zf := (fun (r : Bool) => .fz (.bl r))) (x := r) ?_
  unfold t_is_deed at h
  unfold d_is_deed
  show Run _ [.fz (Board.d board_), .fz (.tup (List.map Rule.d book_)), .fz (.tup [.int deed_.1, .int deed_.2]), .un, .un] _
  refine run_unp (ev_var rfl) rfl rfl (tg_tp rfl (tg_cs (tg_nm rfl) (tg_cs (tg_nm rfl) tg_nl))) ?_
  show Run _ [.fz (Board.d board_), .fz (.tup (List.map Rule.d book_)), .fz (.tup [.int deed_.1, .int deed_.2]), .fz (.int deed_.1), .fz (.int deed_.2)] _
  refine run_last ?_
  obtain ⟨v4, ev4, h⟩ := bnd h
  exact run_ret h (ev_andO (ev_chain ev_c (ev_var rfl) rfl rfl rfl (ev_call (ar_cons (ev_var rfl) ar_nil) rfl (d_lenV _)) rfl rfl) ev4 (by intro c h; obtain ⟨v1, ev1, h⟩ := bnd h; obtain ⟨v2, ev2, h⟩ := bnd h; obtain ⟨v3, ev3, h⟩ := bnd h; exact ev_let (fun t => .fz (.bl t)) h (ev_op (ev_var rfl) (ev_fc (ar_fr (ev_var rfl) rfl (ar_fr (ev_op (ev_var rfl) (ev_var rfl) rfl rfl (d_ixV ev1)) rfl ar_nil)) rfl (C_first_cells ev2) rfl) rfl rfl (d_inL ev3)))) (rq rfl)
noncomputable def t_pairs_at (board_ : Board) (rule_ : Rule) (cell_ : Int) : Option (List (Int × Int)) :=
  (t_cells_many board_).bind fun v1 =>
  cond (rule_.isSwap)
 ((rngO (0 : Int) rule_.n1).bind fun v3 =>
  (mapO (fun (x4 : Int) =>
  (modI (cell_ + x4) v1).bind fun v5 =>
  (modI ((cell_ + x4) + rule_.n1) v1).bind fun v6 =>
  some (v5, v6)) v3).bind fun v7 =>
  some v7)
 ((board_.n2).bind fun v8 =>
  cond (rule_.isUnder)
 ((mulI rule_.n1 v8).bind fun v10 =>
  (rngO (0 : Int) rule_.n1).bind fun v11 =>
  (flatO (fun (x12 : Int) =>
  (rngO (0 : Int) rule_.n2).bind fun v13 =>
  mapR (fun (x14 : Int) => (mulI x12 v8).bind fun v15 =>
  some ((cell_ + v15) + x14)) v13) v11).bind fun v16 =>
  (mapB (fun (x17 : Int) => (x17, (x17 + v10))) v16).bind fun v18 =>
  some v18)
 ((rngO (0 : Int) rule_.n1).bind fun v19 =>
  (flatO (fun (x20 : Int) =>
  (rngO (0 : Int) rule_.n2).bind fun v21 =>
  mapR (fun (x22 : Int) => (mulI x20 v8).bind fun v23 =>
  some ((cell_ + v23) + x22)) v21) v19).bind fun v24 =>
  (mapB (fun (x25 : Int) => (x25, (x25 + rule_.n2))) v24).bind fun v26 =>
  some v26))
theorem C_pairs_at {A : Str → Addr} {board_ : Board} {rule_ : Rule} {cell_ : Int} {r : (List (Int × Int))} (h : t_pairs_at board_ rule_ cell_ = some r) : ∃ ρ', F_pairs_at A [.fz (Board.d board_), .fz (Rule.d rule_), .fz (.int cell_)] = some ((fun (r : (List (Int × Int))) => .fz (.tup (List.map (eP D.int D.int) r))) r, ρ') := by
  refine fn_ok (ρ := [.fz (Board.d board_), .fz (Rule.d rule_), .fz (.int cell_)]) (zf := (fun (r : (List (Int × Int))) => .fz (.tup (List.map (eP D.int D.int) r)))) (x := r) ?_
  unfold t_pairs_at at h
  unfold d_pairs_at
  show Run _ [.fz (Board.d board_), .fz (Rule.d rule_), .fz (.int cell_), .un, .un, .un, .un, .un, .un, .un, .un] _
  obtain ⟨v1, ev1, h⟩ := bnd h
  refine run_asg (ev_fc (ar_fr (ev_var rfl) rfl ar_nil) rfl (C_cells_many ev1) rfl) rfl rfl ?_
  show Run _ [.fz (Board.d board_), .fz (Rule.d rule_), .fz (.int cell_), .fz (.int v1), .un, .un, .un, .un, .un, .un, .un] _
  refine run_if (te_tst (ev_op (ev_op (ev_var rfl) ev_c rfl rfl (r_ix0 _)) ev_c rfl rfl (r_eqS _))) (fun c2 => ?_) (fun c2 => ?_)
  · have h := cnd_t h c2
    obtain ⟨v3, ev3, h⟩ := bnd h
    obtain ⟨v7, ev7, h⟩ := bnd h
    exact run_ret h (ev_call (ar_cons (ev_lcO (eb := (eP D.int D.int)) ev7 (it_r1 (ar_fr (ev_op (ev_var rfl) ev_c rfl rfl (r_ix1 _)) rfl ar_nil) ev3) (by intro x4 y E; obtain ⟨v5, ev5, E⟩ := bnd E; obtain ⟨v6, ev6, E⟩ := bnd E; obtain rfl := Option.some.inj E; exact ⟨_, _, (tg_nm rfl), ev_fr (ev_tup (ar_fr (ev_op (ev_op (ev_var rfl) (ev_var rfl) rfl rfl rfl) (ev_var rfl) rfl rfl (d_mod ev5)) rfl (ar_fr (ev_op (ev_op (ev_op (ev_var rfl) (ev_var rfl) rfl rfl rfl) (ev_op (ev_var rfl) ev_c rfl rfl (r_ix1 _)) rfl rfl rfl) (ev_var rfl) rfl rfl (d_mod ev6)) rfl ar_nil)) rfl rfl) rfl, rfl⟩) rfl) ar_nil) rfl rfl) (rq rfl)
  · have h := cnd_f h c2
    refine run_next ?_
    obtain ⟨v8, ev8, h⟩ := bnd h
    refine run_asg (ev_op (ev_var rfl) ev_c rfl rfl (b_ix2 ev8)) rfl rfl ?_
    show Run _ [.fz (Board.d board_), .fz (Rule.d rule_), .fz (.int cell_), .fz (.int v1), .fz (.int v8), .un, .un, .un, .un, .un, .un] _
    refine run_asg (ev_op (ev_var rfl) ev_c rfl rfl (r_ix2 _)) rfl rfl ?_
    show Run _ [.fz (Board.d board_), .fz (Rule.d rule_), .fz (.int cell_), .fz (.int v1), .fz (.int v8), .fz (.int rule_.n2), .un, .un, .un, .un, .un] _
    refine run_if (te_tst (ev_op (ev_op (ev_var rfl) ev_c rfl rfl (r_ix0 _)) ev_c rfl rfl (r_eqU _))) (fun c9 => ?_) (fun c9 => ?_)
    · have h := cnd_t h c9
      obtain ⟨v10, ev10, h⟩ := bnd h
      refine run_asg (ev_op (ev_op (ev_var rfl) ev_c rfl rfl (r_ix1 _)) (ev_var rfl) rfl rfl (d_mul ev10)) rfl rfl ?_
      show Run _ [.fz (Board.d board_), .fz (Rule.d rule_), .fz (.int cell_), .fz (.int v1), .fz (.int v8), .fz (.int v10), .un, .un, .un, .un, .un] _
      obtain ⟨v11, ev11, h⟩ := bnd h
      obtain ⟨v16, ev16, h⟩ := bnd h
      refine run_asg (ev_lc2 (eb := D.int) ev16 (it_r1 (ar_fr (ev_op (ev_var rfl) ev_c rfl rfl (r_ix1 _)) rfl ar_nil) ev11) (by intro x12 zs E; obtain ⟨v13, ev13, E⟩ := bnd E; exact ⟨_, (tg_nm rfl), in2_map E (it_r1 (ar_fr (ev_op (ev_var rfl) ev_c rfl rfl (r_ix2 _)) rfl ar_nil) ev13) rfl (by intro x14 y E; obtain ⟨v15, ev15, E⟩ := bnd E; obtain rfl := Option.some.inj E; exact ⟨_, _, (tg_nm rfl), ev_fr (ev_op (ev_op (ev_var rfl) (ev_op (ev_var rfl) (ev_var rfl) rfl rfl (d_mul ev15)) rfl rfl rfl) (ev_var rfl) rfl rfl rfl) rfl, rfl⟩)⟩) rfl) rfl rfl ?_
      show Run _ [.fz (Board.d board_), .fz (Rule.d rule_), .fz (.int cell_), .fz (.int v1), .fz (.int v8), .fz (.int v10), .ow (.l (List.map D.int v16)), .un, .un, .un, .un] _
      refine run_last ?_
      obtain ⟨v18, ev18, h⟩ := bnd h
      exact run_ret h (ev_call (ar_cons (ev_lcB (eb := (eP D.int D.int)) ev18 (it_L (ev_own rfl) rfl) (fun x17 => ⟨_, _, (tg_nm rfl), ev_fr (ev_tup (ar_fr (ev_var rfl) rfl (ar_fr (ev_op (ev_var rfl) (ev_var rfl) rfl rfl rfl) rfl ar_nil)) rfl rfl) rfl, rfl⟩) rfl) ar_nil) rfl rfl) (rq rfl)
    · have h := cnd_f h c9
      refine run_next ?_
      obtain ⟨v19, ev19, h⟩ := bnd h
      obtain ⟨v24, ev24, h⟩ := bnd h
      refine run_asg (ev_lc2 (eb := D.int) ev24 (it_r1 (ar_fr (ev_op (ev_var rfl) ev_c rfl rfl (r_ix1 _)) rfl ar_nil) ev19) (by intro x20 zs E; obtain ⟨v21, ev21, E⟩ := bnd E; exact ⟨_, (tg_nm rfl), in2_map E (it_r1 (ar_fr (ev_op (ev_var rfl) ev_c rfl rfl (r_ix2 _)) rfl ar_nil) ev21) rfl (by intro x22 y E; obtain ⟨v23, ev23, E⟩ := bnd E; obtain rfl := Option.some.inj E; exact ⟨_, _, (tg_nm rfl), ev_fr (ev_op (ev_op (ev_var rfl) (ev_op (ev_var rfl) (ev_var rfl) rfl rfl (d_mul ev23)) rfl rfl rfl) (ev_var rfl) rfl rfl rfl) rfl, rfl⟩)⟩) rfl) rfl rfl ?_
      show Run _ [.fz (Board.d board_), .fz (Rule.d rule_), .fz (.int cell_), .fz (.int v1), .fz (.int v8), .fz (.int rule_.n2), .ow (.l (List.map D.int v24)), .un, .un, .un, .un] _
      refine run_last ?_
      obtain ⟨v26, ev26, h⟩ := bnd h
      exact run_ret h (ev_call (ar_cons (ev_lcB (eb := (eP D.int D.int)) ev26 (it_L (ev_own rfl) rfl) (fun x25 => ⟨_, _, (tg_nm rfl), ev_fr (ev_tup (ar_fr (ev_var rfl) rfl (ar_fr (ev_op (ev_var rfl) (ev_var rfl) rfl rfl rfl) rfl ar_nil)) rfl rfl) rfl, rfl⟩) rfl) ar_nil) rfl rfl) (rq rfl)
noncomputable def t_is_bent (rule_ : Rule) : Option Bool :=
  some (decide (rule_.bent = (1 : Int)))
theorem C_is_bent {A : Str → Addr} {rule_ : Rule} {r : Bool} (h : t_is_bent rule_ = some r) : ∃ ρ', F_is_bent A [.fz (Rule.d rule_)] = some ((fun (r : Bool) => .fz (.bl r)) r, ρ') := by
  refine fn_ok (ρ := [.fz (Rule.d rule_)]) (zf := (fun (r : Bool) => .fz (.bl r))) (x := r) ?_
  unfold t_is_bent at h
  unfold d_is_bent
  show Run _ [.fz (Rule.d rule_)] _
  refine run_last ?_
  exact run_ret h (ev_op (ev_op (ev_var rfl) (ev_neg ev_c) rfl rfl (r_ixm _)) ev_c rfl rfl rfl) (rq rfl)
noncomputable def t_exchange (things_ : (List (Str × Int))) (pairs_ : (List (Int × Int))) (bent_ : Bool) : Option (List (Str × Int)) :=
  (forN (fun (s1 : (List (Str × Int))) (x2 : (Int × Int)) =>
  (ixI s1 x2.1).bind fun v7 =>
  (ixI s1 x2.2).bind fun v8 =>
  cond bent_
 ((setL s1 x2.1 (v8.1, ((1 : Int) - v8.2))).bind fun things_10 =>
  (setL things_10 x2.2 (v7.1, ((1 : Int) - v7.2))).bind fun things_11 =>
  some things_11)
 ((setL s1 x2.1 v8).bind fun things_12 =>
  (setL things_12 x2.2 v7).bind fun things_13 =>
  some things_13)) pairs_ things_).bind fun s14 =>
  some s14
theorem C_exchange {A : Str → Addr} {things_ : (List (Str × Int))} {pairs_ : (List (Int × Int))} {bent_ : Bool} {r : (List (Str × Int))} (h : t_exchange things_ pairs_ bent_ = some r) : ∃ ρ', F_exchange A [.rf (.l (List.map (eP D.str D.int) things_)), .fz (.tup (List.map (eP D.int D.int) pairs_)), .fz (.bl bent_)] = some ((fun (r : (List (Str × Int))) => .fz .non) r, .rf ((fun (r : (List (Str × Int))) => .l (List.map (eP D.str D.int) r)) r) :: ρ') := by
  refine fn_rf (ρ := [.fz (.tup (List.map (eP D.int D.int) pairs_)), .fz (.bl bent_)]) (zf := (fun (r : (List (Str × Int))) => .fz .non)) (mf := (fun (r : (List (Str × Int))) => .l (List.map (eP D.str D.int) r))) (x := r) ?_
  unfold t_exchange at h
  unfold d_exchange
  show Run _ [.rf (.l (List.map (eP D.str D.int) things_)), .fz (.tup (List.map (eP D.int D.int) pairs_)), .fz (.bl bent_), .un, .un, .un, .un] _
  refine run_last ?_
  obtain ⟨s14, es14, h⟩ := bnd h
  refine run_for es14 (fun (s1 : (List (Str × Int))) ρ => ∃ j3 j4 j5 j6 : Sl, ρ = [.rf (.l (List.map (eP D.str D.int) s1)), .fz (.tup (List.map (eP D.int D.int) pairs_)), .fz (.bl bent_), j3, j4, j5, j6] ∧ kNR (some j3) = true ∧ kNR (some j4) = true ∧ kNR (some j5) = true ∧ kNR (some j6) = true) (it_V (ev_var rfl) rfl) ⟨_, _, _, _, rfl, rfl, rfl, rfl, rfl⟩ ?_ ?_
  · rintro s1 x2 s19 ρ ⟨j3, j4, j5, j6, rfl, nj3, nj4, nj5, nj6⟩ h
    refine ⟨_, (tg_tp rfl (tg_cs (tg_nm nj3) (tg_cs (tg_nm nj4) tg_nl))), ?_⟩
    show Run _ [.rf (.l (List.map (eP D.str D.int) s1)), .fz (.tup (List.map (eP D.int D.int) pairs_)), .fz (.bl bent_), .fz (.int x2.1), .fz (.int x2.2), j5, j6] _
    obtain ⟨v7, ev7, h⟩ := bnd h
    obtain ⟨v8, ev8, h⟩ := bnd h
    refine run_par (ar_fr (ev_op (ev_lent rfl) (ev_var rfl) rfl rfl (d_ixL ev7)) rfl (ar_fr (ev_op (ev_lent rfl) (ev_var rfl) rfl rfl (d_ixL ev8)) rfl ar_nil)) nj5 nj6 ?_
    show Run _ [.rf (.l (List.map (eP D.str D.int) s1)), .fz (.tup (List.map (eP D.int D.int) pairs_)), .fz (.bl bent_), .fz (.int x2.1), .fz (.int x2.2), .fz (.tup [.str v7.1, .int v7.2]), .fz (.tup [.str v8.1, .int v8.2])] _
    refine run_if (te_tst (ev_var rfl)) (fun c9 => ?_) (fun c9 => ?_)
    · have h := cnd_t h c9
      refine run_par (ar_fr (ev_tup (ar_fr (ev_op (ev_var rfl) ev_c rfl rfl rfl) rfl (ar_fr (ev_op ev_c (ev_op (ev_var rfl) ev_c rfl rfl rfl) rfl rfl rfl) rfl ar_nil)) rfl rfl) rfl (ar_fr (ev_tup (ar_fr (ev_op (ev_var rfl) ev_c rfl rfl rfl) rfl (ar_fr (ev_op ev_c (ev_op (ev_var rfl) ev_c rfl rfl rfl) rfl rfl rfl) rfl ar_nil)) rfl rfl) rfl ar_nil)) rfl rfl ?_
      show Run _ [.rf (.l (List.map (eP D.str D.int) s1)), .fz (.tup (List.map (eP D.int D.int) pairs_)), .fz (.bl bent_), .fz (.int x2.1), .fz (.int x2.2), .fz (.tup [.str v7.1, .int ((1 : Int) - v7.2)]), .fz (.tup [.str v8.1, .int ((1 : Int) - v8.2)])] _
      refine run_last ?_
      obtain ⟨things_10, ethings_10, h⟩ := bnd h
      obtain ⟨things_11, ethings_11, h⟩ := bnd h
      refine run_set2 (ev_tup (ar_fr (ev_var rfl) rfl (ar_fr (ev_var rfl) rfl ar_nil)) rfl rfl) rfl (setAt_d (ea := (eP D.str D.int)) (x := (v8.1, ((1 : Int) - v8.2))) rfl (ev_var rfl) rfl ethings_10) (setAt_d (ea := (eP D.str D.int)) (x := (v7.1, ((1 : Int) - v7.2))) rfl (ev_var rfl) rfl ethings_11) ?_
      show Run _ [.rf (.l (List.map (eP D.str D.int) things_11)), .fz (.tup (List.map (eP D.int D.int) pairs_)), .fz (.bl bent_), .fz (.int x2.1), .fz (.int x2.2), .fz (.tup [.str v7.1, .int ((1 : Int) - v7.2)]), .fz (.tup [.str v8.1, .int ((1 : Int) - v8.2)])] _
      exact run_done h (lp_q ⟨.inl rfl, ⟨_, _, _, _, rfl, rfl, rfl, rfl, rfl⟩⟩)
    · have h := cnd_f h c9
      refine run_next ?_
      refine run_last ?_
      obtain ⟨things_12, ethings_12, h⟩ := bnd h
      obtain ⟨things_13, ethings_13, h⟩ := bnd h
      refine run_set2 (ev_tup (ar_fr (ev_var rfl) rfl (ar_fr (ev_var rfl) rfl ar_nil)) rfl rfl) rfl (setAt_d (ea := (eP D.str D.int)) (x := v8) rfl (ev_var rfl) rfl ethings_12) (setAt_d (ea := (eP D.str D.int)) (x := v7) rfl (ev_var rfl) rfl ethings_13) ?_
      show Run _ [.rf (.l (List.map (eP D.str D.int) things_13)), .fz (.tup (List.map (eP D.int D.int) pairs_)), .fz (.bl bent_), .fz (.int x2.1), .fz (.int x2.2), .fz (.tup [.str v7.1, .int v7.2]), .fz (.tup [.str v8.1, .int v8.2])] _
      exact run_done h (lp_q ⟨.inl rfl, ⟨_, _, _, _, rfl, rfl, rfl, rfl, rfl⟩⟩)
  · rintro ρ ⟨j15, j16, j17, j18, rfl, nj15, nj16, nj17, nj18⟩
    exact run_done h (rqln rfl rfl)
noncomputable def t_need_deeds (board_ : Board) (book_ : (List Rule)) (deeds_ : (List (Int × Int))) : Option Unit :=
  (forN (fun (s1 : (List ((Int × Int) × Bool))) (x2 : (Int × (Int × Int))) =>
  cond (!(hasK s1 x2.2))
 ((t_is_deed board_ book_ x2.2).bind fun v6 =>
  cond (!v6)
 (none)
 ((putO s1 x2.2 true).bind fun known_8 =>
  some known_8))
 (some s1)) (enumI deeds_) ([] : (List ((Int × Int) × Bool)))).bind fun s9 =>
  some ()
theorem C_need_deeds {A : Str → Addr} {board_ : Board} {book_ : (List Rule)} {deeds_ : (List (Int × Int))} {r : Unit} (h : t_need_deeds board_ book_ deeds_ = some r) : ∃ ρ', F_need_deeds A [.fz (Board.d board_), .fz (.tup (List.map Rule.d book_)), .fz (.tup (List.map (eP D.int D.int) deeds_))] = some ((fun (r : Unit) => .fz (.non)) r, ρ') := by
  refine fn_ok (ρ := [.fz (Board.d board_), .fz (.tup (List.map Rule.d book_)), .fz (.tup (List.map (eP D.int D.int) deeds_))]) (zf := (fun (r : Unit) => .fz (.non))) (x := r) ?_
  unfold t_need_deeds at h
  unfold d_need_deeds
  show Run _ [.fz (Board.d board_), .fz (.tup (List.map Rule.d book_)), .fz (.tup (List.map (eP D.int D.int) deeds_)), .un, .un, .un] _
  refine run_asg (ev_as (z := .ow (.t (mapKV kII D.bl ([] : (List ((Int × Int) × Bool)))))) rfl rfl) rfl rfl ?_
  show Run _ [.fz (Board.d board_), .fz (.tup (List.map Rule.d book_)), .fz (.tup (List.map (eP D.int D.int) deeds_)), .ow (.t (mapKV kII D.bl ([] : (List ((Int × Int) × Bool))))), .un, .un] _
  refine run_last ?_
  obtain ⟨s9, es9, h⟩ := bnd h
  refine run_for es9 (fun (s1 : (List ((Int × Int) × Bool))) ρ => ∃ j3 j4 : Sl, ρ = [.fz (Board.d board_), .fz (.tup (List.map Rule.d book_)), .fz (.tup (List.map (eP D.int D.int) deeds_)), .ow (.t (mapKV kII D.bl s1)), j3, j4] ∧ kNR (some j3) = true ∧ kNR (some j4) = true) (it_enV (ar_fr (ev_var rfl) rfl ar_nil)) ⟨_, _, rfl, rfl, rfl⟩ ?_ ?_
  · rintro s1 x2 s12 ρ ⟨j3, j4, rfl, nj3, nj4⟩ h
    refine ⟨_, (tg_tp rfl (tg_cs (tg_nm nj3) (tg_cs (tg_nm nj4) tg_nl))), ?_⟩
    show Run _ [.fz (Board.d board_), .fz (.tup (List.map Rule.d book_)), .fz (.tup (List.map (eP D.int D.int) deeds_)), .ow (.t (mapKV kII D.bl s1)), .fz (.int x2.1), .fz (.tup [.int x2.2.1, .int x2.2.2])] _
    refine run_last ?_
    refine run_if (te_tst (ev_as (z := .fz (.bl (!(hasK s1 x2.2)))) (ev_hasT (neg := true) (k := x2.2) kfII kII_inj (ev_var rfl) rfl rfl) (by simp only [Bool.false_xor, Bool.true_xor]))) (fun c5 => ?_) (fun c5 => ?_)
    · have h := cnd_t h c5
      refine run_assoc ?_
      obtain ⟨v6, ev6, h⟩ := bnd h
      refine run_if (te_not (te_tst (ev_fc (ar_fr (ev_var rfl) rfl (ar_fr (ev_var rfl) rfl (ar_fr (ev_var rfl) rfl ar_nil))) rfl (C_is_deed ev6) rfl))) (fun c7 => ?_) (fun c7 => ?_)
      · have h := cnd_t h c7
        cases h
      · have h := cnd_f h c7
        refine run_next ?_
        obtain ⟨known_8, eknown_8, h⟩ := bnd h
        refine run_dput ev_c rfl rfl (ev_var rfl) rfl rfl (mput_t (ev := D.bl) kfII kII_inj eknown_8) ?_
        show Run _ [.fz (Board.d board_), .fz (.tup (List.map Rule.d book_)), .fz (.tup (List.map (eP D.int D.int) deeds_)), .ow (.t (mapKV kII D.bl known_8)), .fz (.int x2.1), .fz (.tup [.int x2.2.1, .int x2.2.2])] _
        exact run_done h (lp_q ⟨.inl rfl, ⟨_, _, rfl, rfl, rfl⟩⟩)
    · have h := cnd_f h c5
      refine run_next ?_
      exact run_done h (lp_q ⟨.inl rfl, ⟨_, _, rfl, rfl, rfl⟩⟩)
  · rintro ρ ⟨j10, j11, rfl, nj10, nj11⟩
    exact run_done h (rqn rfl)
noncomputable def t_done (board_ : Board) (book_ : (List Rule)) (standing_ : (List (Str × Int))) (deeds_ : (List (Int × Int))) (back_ : Bool) : Option (List (Str × Int)) :=
  (t_need_deeds board_ book_ deeds_).bind fun v1 =>
  (forN (fun (s2 : (List (Str × Int))) (x3 : (Int × Int)) =>
  (ixI book_ x3.1).bind fun v7 =>
  (t_pairs_at board_ v7 x3.2).bind fun v8 =>
  (t_is_bent v7).bind fun v9 =>
  (t_exchange s2 v8 v9).bind fun v10 =>
  some v10) (cond back_ deeds_.reverse deeds_) standing_).bind fun s11 =>
  some s11
theorem C_done {A : Str → Addr} {board_ : Board} {book_ : (List Rule)} {standing_ : (List (Str × Int))} {deeds_ : (List (Int × Int))} {back_ : Bool} {r : (List (Str × Int))} (h : t_done board_ book_ standing_ deeds_ back_ = some r) : ∃ ρ', F_done A [.fz (Board.d board_), .fz (.tup (List.map Rule.d book_)), .fz (.tup (List.map (eP D.str D.int) standing_)), .fz (.tup (List.map (eP D.int D.int) deeds_)), .fz (.bl back_)] = some ((fun (r : (List (Str × Int))) => .fz (.tup (List.map (eP D.str D.int) r))) r, ρ') := by
  refine fn_ok (ρ := [.fz (Board.d board_), .fz (.tup (List.map Rule.d book_)), .fz (.tup (List.map (eP D.str D.int) standing_)), .fz (.tup (List.map (eP D.int D.int) deeds_)), .fz (.bl back_)]) (zf := (fun (r : (List (Str × Int))) => .fz (.tup (List.map (eP D.str D.int) r)))) (x := r) ?_
  unfold t_done at h
  unfold d_done
  show Run _ [.fz (Board.d board_), .fz (.tup (List.map Rule.d book_)), .fz (.tup (List.map (eP D.str D.int) standing_)), .fz (.tup (List.map (eP D.int D.int) deeds_)), .fz (.bl back_), .un, .un, .un, .un] _
  obtain ⟨v1, ev1, h⟩ := bnd h
  refine run_drop (ev_fc (ar_fr (ev_var rfl) rfl (ar_fr (ev_var rfl) rfl (ar_fr (ev_var rfl) rfl ar_nil))) rfl (C_need_deeds ev1) rfl) ?_
  show Run _ [.fz (Board.d board_), .fz (.tup (List.map Rule.d book_)), .fz (.tup (List.map (eP D.str D.int) standing_)), .fz (.tup (List.map (eP D.int D.int) deeds_)), .fz (.bl back_), .un, .un, .un, .un] _
  refine run_asg (ev_call (ar_cons (ev_var rfl) ar_nil) rfl rfl) rfl rfl ?_
  show Run _ [.fz (Board.d board_), .fz (.tup (List.map Rule.d book_)), .fz (.tup (List.map (eP D.str D.int) standing_)), .fz (.tup (List.map (eP D.int D.int) deeds_)), .fz (.bl back_), .ow (.l (List.map (eP D.str D.int) standing_)), .un, .un, .un] _
  obtain ⟨s11, es11, h⟩ := bnd h
  refine run_for es11 (fun (s2 : (List (Str × Int))) ρ => ∃ j4 j5 j6 : Sl, ρ = [.fz (Board.d board_), .fz (.tup (List.map Rule.d book_)), .fz (.tup (List.map (eP D.str D.int) standing_)), .fz (.tup (List.map (eP D.int D.int) deeds_)), .fz (.bl back_), .ow (.l (List.map (eP D.str D.int) s2)), j4, j5, j6] ∧ kNR (some j4) = true ∧ kNR (some j5) = true ∧ kNR (some j6) = true) (it_if (te_tst (ev_var rfl)) (it_L (ev_revL (ev_call (ar_cons (ev_var rfl) ar_nil) rfl rfl) rfl) rfl) (it_V (ev_var rfl) rfl)) ⟨_, _, _, rfl, rfl, rfl, rfl⟩ ?_ ?_
  · rintro s2 x3 s15 ρ ⟨j4, j5, j6, rfl, nj4, nj5, nj6⟩ h
    refine ⟨_, (tg_tp rfl (tg_cs (tg_nm nj4) (tg_cs (tg_nm nj5) tg_nl))), ?_⟩
    show Run _ [.fz (Board.d board_), .fz (.tup (List.map Rule.d book_)), .fz (.tup (List.map (eP D.str D.int) standing_)), .fz (.tup (List.map (eP D.int D.int) deeds_)), .fz (.bl back_), .ow (.l (List.map (eP D.str D.int) s2)), .fz (.int x3.1), .fz (.int x3.2), j6] _
    obtain ⟨v7, ev7, h⟩ := bnd h
    refine run_asg (ev_op (ev_var rfl) (ev_var rfl) rfl rfl (d_ixV ev7)) rfl nj6 ?_
    show Run _ [.fz (Board.d board_), .fz (.tup (List.map Rule.d book_)), .fz (.tup (List.map (eP D.str D.int) standing_)), .fz (.tup (List.map (eP D.int D.int) deeds_)), .fz (.bl back_), .ow (.l (List.map (eP D.str D.int) s2)), .fz (.int x3.1), .fz (.int x3.2), .fz (Rule.d v7)] _
    refine run_last ?_
    obtain ⟨v8, ev8, h⟩ := bnd h
    obtain ⟨v9, ev9, h⟩ := bnd h
    obtain ⟨v10, ev10, h⟩ := bnd h
    refine run_drop (ev_fcO (ar_cons (ev_own rfl) (ar_fr (ev_fc (ar_fr (ev_var rfl) rfl (ar_fr (ev_var rfl) rfl (ar_fr (ev_var rfl) rfl ar_nil))) rfl (C_pairs_at ev8) rfl) rfl (ar_fr (ev_fc (ar_fr (ev_var rfl) rfl ar_nil) rfl (C_is_bent ev9) rfl) rfl ar_nil))) rfl rfl (C_exchange ev10) rfl) ?_
    show Run _ [.fz (Board.d board_), .fz (.tup (List.map Rule.d book_)), .fz (.tup (List.map (eP D.str D.int) standing_)), .fz (.tup (List.map (eP D.int D.int) deeds_)), .fz (.bl back_), .ow (.l (List.map (eP D.str D.int) v10)), .fz (.int x3.1), .fz (.int x3.2), .fz (Rule.d v7)] _
    exact run_done h (lp_q ⟨.inl rfl, ⟨_, _, _, rfl, rfl, rfl, rfl⟩⟩)
  · rintro ρ ⟨j12, j13, j14, rfl, nj12, nj13, nj14⟩
    refine run_last ?_
    exact run_ret h (ev_call (ar_cons (ev_own rfl) ar_nil) rfl rfl) (rq rfl)
noncomputable def t__law_pot (script_ : List Int) (at_ : Int) : Option (List Int) :=
  cond (decide (at_ < (script_.length : Int)))
 ((ixI script_ at_).bind fun v2 =>
  (powI (10 : Int) (18 : Int)).bind fun v3 =>
  (powI (10 : Int) (37 : Int)).bind fun v4 =>
  (modI v2 (v4 + (43 : Int))).bind fun v5 =>
  (mulI (104729 : Int) at_).bind fun v6 =>
  some ([(mxI (0 : Int) (v2 - v3)), (v5 + v6), (0 : Int)] : List Int))
 ((powI (10 : Int) (18 : Int)).bind fun v7 =>
  (powI (10 : Int) (37 : Int)).bind fun v8 =>
  (modI (0 : Int) (v8 + (43 : Int))).bind fun v9 =>
  (mulI (104729 : Int) at_).bind fun v10 =>
  some ([(mxI (0 : Int) ((0 : Int) - v7)), (v9 + v10), (0 : Int)] : List Int))
theorem C__law_pot {A : Str → Addr} {script_ : List Int} {at_ : Int} {r : (List Int)} (h : t__law_pot script_ at_ = some r) : ∃ ρ', F__law_pot A [.fz (.scr script_), .fz (.int at_)] = some ((fun (r : (List Int)) => .ow (.l (List.map D.int r))) r, ρ') := by
  refine fn_ok (ρ := [.fz (.scr script_), .fz (.int at_)]) (zf := (fun (r : (List Int)) => .ow (.l (List.map D.int r)))) (x := r) ?_
  unfold t__law_pot at h
  unfold d__law_pot
  show Run _ [.fz (.scr script_), .fz (.int at_), .un] _
  refine run_asg ev_c rfl rfl ?_
  show Run _ [.fz (.scr script_), .fz (.int at_), .fz (.int (0 : Int))] _
  refine run_if (te_tst (ev_op (ev_var rfl) (ev_call (ar_cons (ev_var rfl) ar_nil) rfl rfl) rfl rfl rfl)) (fun c1 => ?_) (fun c1 => ?_)
  · have h := cnd_t h c1
    obtain ⟨v2, ev2, h⟩ := bnd h
    refine run_asg (ev_op (ev_var rfl) (ev_var rfl) rfl rfl (d_ixR ev2)) rfl rfl ?_
    show Run _ [.fz (.scr script_), .fz (.int at_), .fz (.int v2)] _
    refine run_last ?_
    obtain ⟨v3, ev3, h⟩ := bnd h
    obtain ⟨v4, ev4, h⟩ := bnd h
    obtain ⟨v5, ev5, h⟩ := bnd h
    obtain ⟨v6, ev6, h⟩ := bnd h
    exact run_ret h (ev_as (z := .ow (.l (List.map D.int ([(mxI (0 : Int) (v2 - v3)), (v5 + v6), (0 : Int)] : List Int)))) (ev_lst (ar_fr (ev_call (ar_cons ev_c (ar_cons (ev_op (ev_var rfl) (ev_op ev_c ev_c rfl rfl (d_pow ev3)) rfl rfl rfl) ar_nil)) rfl rfl) rfl (ar_fr (ev_op (ev_op (ev_var rfl) (ev_op (ev_op ev_c ev_c rfl rfl (d_pow ev4)) ev_c rfl rfl rfl) rfl rfl (d_mod ev5)) (ev_op ev_c (ev_var rfl) rfl rfl (d_mul ev6)) rfl rfl rfl) rfl (ar_fr ev_c rfl ar_nil))) rfl rfl) rfl) (rq rfl)
  · have h := cnd_f h c1
    refine run_next ?_
    refine run_last ?_
    obtain ⟨v7, ev7, h⟩ := bnd h
    obtain ⟨v8, ev8, h⟩ := bnd h
    obtain ⟨v9, ev9, h⟩ := bnd h
    obtain ⟨v10, ev10, h⟩ := bnd h
    exact run_ret h (ev_as (z := .ow (.l (List.map D.int ([(mxI (0 : Int) ((0 : Int) - v7)), (v9 + v10), (0 : Int)] : List Int)))) (ev_lst (ar_fr (ev_call (ar_cons ev_c (ar_cons (ev_op (ev_var rfl) (ev_op ev_c ev_c rfl rfl (d_pow ev7)) rfl rfl rfl) ar_nil)) rfl rfl) rfl (ar_fr (ev_op (ev_op (ev_var rfl) (ev_op (ev_op ev_c ev_c rfl rfl (d_pow ev8)) ev_c rfl rfl rfl) rfl rfl (d_mod ev9)) (ev_op ev_c (ev_var rfl) rfl rfl (d_mul ev10)) rfl rfl rfl) rfl (ar_fr ev_c rfl ar_nil))) rfl rfl) rfl) (rq rfl)
noncomputable def t__law_dip (pot_ : (List Int)) (size_ : Int) : Option (Int × (List Int)) :=
  (ixI pot_ (0 : Int)).bind fun v1 =>
  cond (decide ((0 : Int) < v1))
 ((ixI pot_ (0 : Int)).bind fun v3 =>
  (modI v3 size_).bind fun v4 =>
  (ixI pot_ (0 : Int)).bind fun v5 =>
  (divI v5 size_).bind fun v6 =>
  (setL pot_ (0 : Int) v6).bind fun pot_7 =>
  some (v4, pot_7))
 ((ixI pot_ (2 : Int)).bind fun v8 =>
  (setL pot_ (2 : Int) (v8 + (1 : Int))).bind fun pot_9 =>
  (ixI pot_9 (1 : Int)).bind fun v10 =>
  (ixI pot_9 (2 : Int)).bind fun v11 =>
  (mulI (9999991 : Int) v11).bind fun v12 =>
  (powI (v10 + v12) (3 : Int)).bind fun v13 =>
  (powI (10 : Int) (36 : Int)).bind fun v14 =>
  (modI v13 (v14 + (67 : Int))).bind fun v15 =>
  (ixI pot_9 (2 : Int)).bind fun v16 =>
  (mulI (7919 : Int) v16).bind fun v17 =>
  (powI (v15 + v17) (3 : Int)).bind fun v18 =>
  (powI (10 : Int) (33 : Int)).bind fun v19 =>
  (modI v18 (v19 + (61 : Int))).bind fun v20 =>
  (divI v20 (4096 : Int)).bind fun v21 =>
  (modI v21 size_).bind fun v22 =>
  some (v22, pot_9))
theorem C__law_dip {A : Str → Addr} {pot_ : (List Int)} {size_ : Int} {r : (Int × (List Int))} (h : t__law_dip pot_ size_ = some r) : ∃ ρ', F__law_dip A [.rf (.l (List.map D.int pot_)), .fz (.int size_)] = some ((fun (r : (Int × (List Int))) => .fz (.int r.1)) r, .rf ((fun (r : (Int × (List Int))) => .l (List.map D.int r.2)) r) :: ρ') := by
  refine fn_rf (ρ := [.fz (.int size_)]) (zf := (fun (r : (Int × (List Int))) => .fz (.int r.1))) (mf := (fun (r : (Int × (List Int))) => .l (List.map D.int r.2))) (x := r) ?_
  unfold t__law_dip at h
  unfold d__law_dip
  show Run _ [.rf (.l (List.map D.int pot_)), .fz (.int size_), .un, .un] _
  obtain ⟨v1, ev1, h⟩ := bnd h
  refine run_if (te_tst (ev_op (ev_op (ev_lent rfl) ev_c rfl rfl (d_ixL ev1)) ev_c rfl rfl rfl)) (fun c2 => ?_) (fun c2 => ?_)
  · have h := cnd_t h c2
    refine run_assoc ?_
    obtain ⟨v3, ev3, h⟩ := bnd h
    obtain ⟨v4, ev4, h⟩ := bnd h
    refine run_asg (ev_op (ev_op (ev_lent rfl) ev_c rfl rfl (d_ixL ev3)) (ev_var rfl) rfl rfl (d_mod ev4)) rfl rfl ?_
    show Run _ [.rf (.l (List.map D.int pot_)), .fz (.int size_), .fz (.int v4), .un] _
    refine run_assoc ?_
    obtain ⟨v5, ev5, h⟩ := bnd h
    obtain ⟨v6, ev6, h⟩ := bnd h
    obtain ⟨pot_7, epot_7, h⟩ := bnd h
    refine run_setIx (ea := D.int) (x := v6) (ev_op (ev_op (ev_lent rfl) ev_c rfl rfl (d_ixL ev5)) (ev_var rfl) rfl rfl (d_div ev6)) rfl rfl ev_c rfl epot_7 ?_
    show Run _ [.rf (.l (List.map D.int pot_7)), .fz (.int size_), .fz (.int v4), .un] _
    exact run_ret h (ev_var rfl) (rql rfl rfl)
  · have h := cnd_f h c2
    refine run_next ?_
    obtain ⟨v8, ev8, h⟩ := bnd h
    obtain ⟨pot_9, epot_9, h⟩ := bnd h
    refine run_setIx (ea := D.int) (x := (v8 + (1 : Int))) (ev_op (ev_op (ev_lent rfl) ev_c rfl rfl (d_ixL ev8)) ev_c rfl rfl rfl) rfl rfl ev_c rfl epot_9 ?_
    show Run _ [.rf (.l (List.map D.int pot_9)), .fz (.int size_), .un, .un] _
    obtain ⟨v10, ev10, h⟩ := bnd h
    obtain ⟨v11, ev11, h⟩ := bnd h
    obtain ⟨v12, ev12, h⟩ := bnd h
    obtain ⟨v13, ev13, h⟩ := bnd h
    obtain ⟨v14, ev14, h⟩ := bnd h
    obtain ⟨v15, ev15, h⟩ := bnd h
    refine run_asg (ev_op (ev_op (ev_op (ev_op (ev_lent rfl) ev_c rfl rfl (d_ixL ev10)) (ev_op ev_c (ev_op (ev_lent rfl) ev_c rfl rfl (d_ixL ev11)) rfl rfl (d_mul ev12)) rfl rfl rfl) ev_c rfl rfl (d_pow ev13)) (ev_op (ev_op ev_c ev_c rfl rfl (d_pow ev14)) ev_c rfl rfl rfl) rfl rfl (d_mod ev15)) rfl rfl ?_
    show Run _ [.rf (.l (List.map D.int pot_9)), .fz (.int size_), .un, .fz (.int v15)] _
    obtain ⟨v16, ev16, h⟩ := bnd h
    obtain ⟨v17, ev17, h⟩ := bnd h
    obtain ⟨v18, ev18, h⟩ := bnd h
    obtain ⟨v19, ev19, h⟩ := bnd h
    obtain ⟨v20, ev20, h⟩ := bnd h
    refine run_asg (ev_op (ev_op (ev_op (ev_var rfl) (ev_op ev_c (ev_op (ev_lent rfl) ev_c rfl rfl (d_ixL ev16)) rfl rfl (d_mul ev17)) rfl rfl rfl) ev_c rfl rfl (d_pow ev18)) (ev_op (ev_op ev_c ev_c rfl rfl (d_pow ev19)) ev_c rfl rfl rfl) rfl rfl (d_mod ev20)) rfl rfl ?_
    show Run _ [.rf (.l (List.map D.int pot_9)), .fz (.int size_), .un, .fz (.int v20)] _
    refine run_last ?_
    obtain ⟨v21, ev21, h⟩ := bnd h
    obtain ⟨v22, ev22, h⟩ := bnd h
    exact run_ret h (ev_op (ev_op (ev_var rfl) ev_c rfl rfl (d_div ev21)) (ev_var rfl) rfl rfl (d_mod ev22)) (rql rfl rfl)
noncomputable def t__law_board (pot_ : (List Int)) (most_ : Int) : Option (Board × (List Int)) :=
  (t__law_dip pot_ (4 : Int)).bind fun v1 =>
  cond (decide (v1.1 < (2 : Int)))
 ((t__law_dip v1.2 (most_ - (2 : Int))).bind fun v3 =>
  some ((Board.row ((3 : Int) + v3.1)), v3.2))
 (cond (decide (v1.1 = (2 : Int)))
 ((t__law_dip v1.2 (most_ - (4 : Int))).bind fun v5 =>
  some ((Board.ring ((5 : Int) + v5.1)), v5.2))
 ((t__law_dip v1.2 (6 : Int)).bind fun v6 =>
  (mulI (3 : Int) ((1 : Int) + v6.1)).bind fun v7 =>
  cond (decide (most_ < v7))
 ((divI most_ (3 : Int)).bind fun v9 =>
  (divI most_ v9).bind fun v10 =>
  (t__law_dip v6.2 (v10 - (2 : Int))).bind fun v11 =>
  (t__law_dip v11.2 (2 : Int)).bind fun v12 =>
  (ixI ([(Board.floor v9 ((3 : Int) + v11.1)), (Board.floor ((3 : Int) + v11.1) v9)] : List Board) v12.1).bind fun v13 =>
  some (v13, v12.2))
 ((divI most_ ((1 : Int) + v6.1)).bind fun v14 =>
  (t__law_dip v6.2 (v14 - (2 : Int))).bind fun v15 =>
  (t__law_dip v15.2 (2 : Int)).bind fun v16 =>
  (ixI ([(Board.floor ((1 : Int) + v6.1) ((3 : Int) + v15.1)), (Board.floor ((3 : Int) + v15.1) ((1 : Int) + v6.1))] : List Board) v16.1).bind fun v17 =>
  some (v17, v16.2))))
theorem C__law_board {A : Str → Addr} {pot_ : (List Int)} {most_ : Int} {r : (Board × (List Int))} (h : t__law_board pot_ most_ = some r) : ∃ ρ', F__law_board A [.rf (.l (List.map D.int pot_)), .fz (.int most_)] = some ((fun (r : (Board × (List Int))) => .fz (Board.d r.1)) r, .rf ((fun (r : (Board × (List Int))) => .l (List.map D.int r.2)) r) :: ρ') := by
  refine fn_rf (ρ := [.fz (.int most_)]) (zf := (fun (r : (Board × (List Int))) => .fz (Board.d r.1))) (mf := (fun (r : (Board × (List Int))) => .l (List.map D.int r.2))) (x := r) ?_
  unfold t__law_board at h
  unfold d__law_board
  show Run _ [.rf (.l (List.map D.int pot_)), .fz (.int most_), .un, .un, .un] _
  obtain ⟨v1, ev1, h⟩ := bnd h
  refine run_asg (ev_fcR (ar_cons (ev_lent rfl) (ar_fr ev_c rfl ar_nil)) rfl rfl (C__law_dip ev1) rfl) rfl rfl ?_
  show Run _ [.rf (.l (List.map D.int v1.2)), .fz (.int most_), .fz (.int v1.1), .un, .un] _
  refine run_if (te_tst (ev_op (ev_var rfl) ev_c rfl rfl rfl)) (fun c2 => ?_) (fun c2 => ?_)
  · have h := cnd_t h c2
    obtain ⟨v3, ev3, h⟩ := bnd h
    exact run_ret h (ev_as (z := .fz (Board.d (Board.row ((3 : Int) + v3.1)))) (ev_tup (ar_fr ev_c rfl (ar_fr (ev_op ev_c (ev_fcR (ar_cons (ev_lent rfl) (ar_fr (ev_op (ev_var rfl) ev_c rfl rfl rfl) rfl ar_nil)) rfl rfl (C__law_dip ev3) rfl) rfl rfl rfl) rfl ar_nil)) rfl rfl) rfl) (rql rfl rfl)
  · have h := cnd_f h c2
    refine run_next ?_
    refine run_if (te_tst (ev_op (ev_var rfl) ev_c rfl rfl rfl)) (fun c4 => ?_) (fun c4 => ?_)
    · have h := cnd_t h c4
      obtain ⟨v5, ev5, h⟩ := bnd h
      exact run_ret h (ev_as (z := .fz (Board.d (Board.ring ((5 : Int) + v5.1)))) (ev_tup (ar_fr ev_c rfl (ar_fr (ev_op ev_c (ev_fcR (ar_cons (ev_lent rfl) (ar_fr (ev_op (ev_var rfl) ev_c rfl rfl rfl) rfl ar_nil)) rfl rfl (C__law_dip ev5) rfl) rfl rfl rfl) rfl ar_nil)) rfl rfl) rfl) (rql rfl rfl)
    · have h := cnd_f h c4
      refine run_next ?_
      obtain ⟨v6, ev6, h⟩ := bnd h
      refine run_asg (ev_op ev_c (ev_fcR (ar_cons (ev_lent rfl) (ar_fr ev_c rfl ar_nil)) rfl rfl (C__law_dip ev6) rfl) rfl rfl rfl) rfl rfl ?_
      show Run _ [.rf (.l (List.map D.int v6.2)), .fz (.int most_), .fz (.int v1.1), .fz (.int ((1 : Int) + v6.1)), .un] _
      obtain ⟨v7, ev7, h⟩ := bnd h
      refine run_if (te_tst (ev_op (ev_op ev_c (ev_var rfl) rfl rfl (d_mul ev7)) (ev_var rfl) rfl rfl rfl)) (fun c8 => ?_) (fun c8 => ?_)
      · have h := cnd_t h c8
        obtain ⟨v9, ev9, h⟩ := bnd h
        refine run_asg (ev_op (ev_var rfl) ev_c rfl rfl (d_div ev9)) rfl rfl ?_
        show Run _ [.rf (.l (List.map D.int v6.2)), .fz (.int most_), .fz (.int v1.1), .fz (.int v9), .un] _
        obtain ⟨v10, ev10, h⟩ := bnd h
        obtain ⟨v11, ev11, h⟩ := bnd h
        refine run_asg (ev_op ev_c (ev_fcR (ar_cons (ev_lent rfl) (ar_fr (ev_op (ev_op (ev_var rfl) (ev_var rfl) rfl rfl (d_div ev10)) ev_c rfl rfl rfl) rfl ar_nil)) rfl rfl (C__law_dip ev11) rfl) rfl rfl rfl) rfl rfl ?_
        show Run _ [.rf (.l (List.map D.int v11.2)), .fz (.int most_), .fz (.int v1.1), .fz (.int v9), .fz (.int ((3 : Int) + v11.1))] _
        refine run_last ?_
        obtain ⟨v12, ev12, h⟩ := bnd h
        obtain ⟨v13, ev13, h⟩ := bnd h
        exact run_ret h (ev_op (ev_as (z := .ow (.l (List.map Board.d ([(Board.floor v9 ((3 : Int) + v11.1)), (Board.floor ((3 : Int) + v11.1) v9)] : List Board)))) (ev_lst (ar_fr (ev_as (z := .fz (Board.d (Board.floor v9 ((3 : Int) + v11.1)))) (ev_tup (ar_fr ev_c rfl (ar_fr (ev_var rfl) rfl (ar_fr (ev_var rfl) rfl ar_nil))) rfl rfl) rfl) rfl (ar_fr (ev_as (z := .fz (Board.d (Board.floor ((3 : Int) + v11.1) v9))) (ev_tup (ar_fr ev_c rfl (ar_fr (ev_var rfl) rfl (ar_fr (ev_var rfl) rfl ar_nil))) rfl rfl) rfl) rfl ar_nil)) rfl rfl) rfl) (ev_fcR (ar_cons (ev_lent rfl) (ar_fr ev_c rfl ar_nil)) rfl rfl (C__law_dip ev12) rfl) rfl rfl (d_ixL ev13)) (rql rfl rfl)
      · have h := cnd_f h c8
        refine run_next ?_
        obtain ⟨v14, ev14, h⟩ := bnd h
        obtain ⟨v15, ev15, h⟩ := bnd h
        refine run_asg (ev_op ev_c (ev_fcR (ar_cons (ev_lent rfl) (ar_fr (ev_op (ev_op (ev_var rfl) (ev_var rfl) rfl rfl (d_div ev14)) ev_c rfl rfl rfl) rfl ar_nil)) rfl rfl (C__law_dip ev15) rfl) rfl rfl rfl) rfl rfl ?_
        show Run _ [.rf (.l (List.map D.int v15.2)), .fz (.int most_), .fz (.int v1.1), .fz (.int ((1 : Int) + v6.1)), .fz (.int ((3 : Int) + v15.1))] _
        refine run_last ?_
        obtain ⟨v16, ev16, h⟩ := bnd h
        obtain ⟨v17, ev17, h⟩ := bnd h
        exact run_ret h (ev_op (ev_as (z := .ow (.l (List.map Board.d ([(Board.floor ((1 : Int) + v6.1) ((3 : Int) + v15.1)), (Board.floor ((3 : Int) + v15.1) ((1 : Int) + v6.1))] : List Board)))) (ev_lst (ar_fr (ev_as (z := .fz (Board.d (Board.floor ((1 : Int) + v6.1) ((3 : Int) + v15.1)))) (ev_tup (ar_fr ev_c rfl (ar_fr (ev_var rfl) rfl (ar_fr (ev_var rfl) rfl ar_nil))) rfl rfl) rfl) rfl (ar_fr (ev_as (z := .fz (Board.d (Board.floor ((3 : Int) + v15.1) ((1 : Int) + v6.1)))) (ev_tup (ar_fr ev_c rfl (ar_fr (ev_var rfl) rfl (ar_fr (ev_var rfl) rfl ar_nil))) rfl rfl) rfl) rfl ar_nil)) rfl rfl) rfl) (ev_fcR (ar_cons (ev_lent rfl) (ar_fr ev_c rfl ar_nil)) rfl rfl (C__law_dip ev16) rfl) rfl rfl (d_ixL ev17)) (rql rfl rfl)
noncomputable def t__law_rules (board_ : Board) : Option (List Rule) :=
  cond (!board_.isFloor)
 ((ixI ([(3 : Int), (5 : Int)] : List Int) (b2i (board_.isRing))).bind fun v2 =>
  (divI board_.n1 v2).bind fun v3 =>
  (rngO (1 : Int) (v3 + (1 : Int))).bind fun v4 =>
  (forN (fun (s5 : (List Rule)) (x6 : Int) =>
  (catL s5 ([(Rule.swap x6 (0 : Int)), (Rule.swap x6 (1 : Int))] : List Rule)).bind fun v8 =>
  some v8) v4 ([] : List Rule)).bind fun s9 =>
  some s9)
 ((board_.shw).bind fun v12 =>
  (rngO (1 : Int) (v12.2.1 + (1 : Int))).bind fun v13 =>
  (forN (fun (s14 : (List Rule)) (x15 : Int) =>
  (rngO (1 : Int) (v12.2.2 + (1 : Int))).bind fun v18 =>
  (forN (fun (s19 : (List Rule)) (x20 : Int) =>
  (mulI (3 : Int) x20).bind fun v22 =>
  (andO (decide (v22 ≤ v12.2.2)) ((mulI (2 : Int) x15).bind fun v23 =>
  some (decide ((v23 - (1 : Int)) ≤ v12.2.1)))).bind fun v24 =>
  cond v24
 ((catL s19 ([(Rule.over x15 x20 (0 : Int)), (Rule.over x15 x20 (1 : Int))] : List Rule)).bind fun v26 =>
  (mulI (3 : Int) x15).bind fun v27 =>
  (andO (decide (v27 ≤ v12.2.1)) ((mulI (2 : Int) x20).bind fun v28 =>
  some (decide ((v28 - (1 : Int)) ≤ v12.2.2)))).bind fun v29 =>
  cond v29
 ((catL v26 ([(Rule.under x15 x20 (0 : Int)), (Rule.under x15 x20 (1 : Int))] : List Rule)).bind fun v31 =>
  some v31)
 (some v26))
 ((mulI (3 : Int) x15).bind fun v32 =>
  (andO (decide (v32 ≤ v12.2.1)) ((mulI (2 : Int) x20).bind fun v33 =>
  some (decide ((v33 - (1 : Int)) ≤ v12.2.2)))).bind fun v34 =>
  cond v34
 ((catL s19 ([(Rule.under x15 x20 (0 : Int)), (Rule.under x15 x20 (1 : Int))] : List Rule)).bind fun v36 =>
  some v36)
 (some s19))) v18 s14).bind fun s37 =>
  some s37) v13 ([] : List Rule)).bind fun s40 =>
  some s40)
theorem C__law_rules {A : Str → Addr} {board_ : Board} {r : (List Rule)} (h : t__law_rules board_ = some r) : ∃ ρ', F__law_rules A [.fz (Board.d board_)] = some ((fun (r : (List Rule)) => .ow (.l (List.map Rule.d r))) r, ρ') := by
  refine fn_ok (ρ := [.fz (Board.d board_)]) (zf := (fun (r : (List Rule)) => .ow (.l (List.map Rule.d r)))) (x := r) ?_
  unfold t__law_rules at h
  unfold d__law_rules
  show Run _ [.fz (Board.d board_), .un, .un, .un, .un, .un, .un, .un] _
  refine run_asg (ev_as (z := .ow (.l (List.map Rule.d ([] : List Rule)))) ev_e0 rfl) rfl rfl ?_
  show Run _ [.fz (Board.d board_), .ow (.l (List.map Rule.d ([] : List Rule))), .un, .un, .un, .un, .un, .un] _
  refine run_if (te_tst (ev_op (ev_op (ev_var rfl) ev_c rfl rfl (b_ix0 _)) ev_c rfl rfl (b_neF _))) (fun c1 => ?_) (fun c1 => ?_)
  · have h := cnd_t h c1
    refine run_assoc ?_
    obtain ⟨v2, ev2, h⟩ := bnd h
    obtain ⟨v3, ev3, h⟩ := bnd h
    obtain ⟨v4, ev4, h⟩ := bnd h
    obtain ⟨s9, es9, h⟩ := bnd h
    refine run_for es9 (fun (s5 : (List Rule)) ρ => ∃ j7 : Sl, ρ = [.fz (Board.d board_), .ow (.l (List.map Rule.d s5)), j7, .un, .un, .un, .un, .un] ∧ kNR (some j7) = true) (it_r2 (ar_fr ev_c rfl (ar_fr (ev_op (ev_op (ev_op (ev_var rfl) ev_c rfl rfl (b_ix1 _)) (ev_op (ev_as (z := .ow (.l (List.map D.int ([(3 : Int), (5 : Int)] : List Int)))) (ev_lst (ar_fr ev_c rfl (ar_fr ev_c rfl ar_nil)) rfl rfl) rfl) (ev_call (ar_cons (ev_op (ev_op (ev_var rfl) ev_c rfl rfl (b_ix0 _)) ev_c rfl rfl (b_eqG _)) ar_nil) rfl rfl) rfl rfl (d_ixL ev2)) rfl rfl (d_div ev3)) ev_c rfl rfl rfl) rfl ar_nil)) ev4) ⟨_, rfl, rfl⟩ ?_ ?_
    · rintro s5 x6 s11 ρ ⟨j7, rfl, nj7⟩ h
      refine ⟨_, (tg_nm nj7), ?_⟩
      show Run _ [.fz (Board.d board_), .ow (.l (List.map Rule.d s5)), .fz (.int x6), .un, .un, .un, .un, .un] _
      refine run_last ?_
      obtain ⟨v8, ev8, h⟩ := bnd h
      refine run_asg (ev_op (ev_own rfl) (ev_as (z := .ow (.l (List.map Rule.d ([(Rule.swap x6 (0 : Int)), (Rule.swap x6 (1 : Int))] : List Rule)))) (ev_lst (ar_fr (ev_as (z := .fz (Rule.d (Rule.swap x6 (0 : Int)))) (ev_tup (ar_fr ev_c rfl (ar_fr (ev_var rfl) rfl (ar_fr ev_c rfl ar_nil))) rfl rfl) rfl) rfl (ar_fr (ev_as (z := .fz (Rule.d (Rule.swap x6 (1 : Int)))) (ev_tup (ar_fr ev_c rfl (ar_fr (ev_var rfl) rfl (ar_fr ev_c rfl ar_nil))) rfl rfl) rfl) rfl ar_nil)) rfl rfl) rfl) rfl rfl (d_catL ev8)) rfl rfl ?_
      show Run _ [.fz (Board.d board_), .ow (.l (List.map Rule.d v8)), .fz (.int x6), .un, .un, .un, .un, .un] _
      exact run_done h (lp_q ⟨.inl rfl, ⟨_, rfl, rfl⟩⟩)
    · rintro ρ ⟨j10, rfl, nj10⟩
      exact run_ret h (ev_own rfl) (rq rfl)
  · have h := cnd_f h c1
    refine run_next ?_
    obtain ⟨v12, ev12, h⟩ := bnd h
    refine run_unp (ev_var rfl) rfl (b_shw ev12) (tg_tp rfl (tg_cs (tg_nm rfl) (tg_cs (tg_nm rfl) (tg_cs (tg_nm rfl) tg_nl)))) ?_
    show Run _ [.fz (Board.d board_), .ow (.l (List.map Rule.d ([] : List Rule))), .un, .fz (.str v12.1), .fz (.int v12.2.1), .fz (.int v12.2.2), .un, .un] _
    obtain ⟨v13, ev13, h⟩ := bnd h
    obtain ⟨s40, es40, h⟩ := bnd h
    refine run_for es40 (fun (s14 : (List Rule)) ρ => ∃ j16 j17 : Sl, ρ = [.fz (Board.d board_), .ow (.l (List.map Rule.d s14)), .un, .fz (.str v12.1), .fz (.int v12.2.1), .fz (.int v12.2.2), j16, j17] ∧ kNR (some j16) = true ∧ kNR (some j17) = true) (it_r2 (ar_fr ev_c rfl (ar_fr (ev_op (ev_var rfl) ev_c rfl rfl rfl) rfl ar_nil)) ev13) ⟨_, _, rfl, rfl, rfl⟩ ?_ ?_
    · rintro s14 x15 s43 ρ ⟨j16, j17, rfl, nj16, nj17⟩ h
      refine ⟨_, (tg_nm nj16), ?_⟩
      show Run _ [.fz (Board.d board_), .ow (.l (List.map Rule.d s14)), .un, .fz (.str v12.1), .fz (.int v12.2.1), .fz (.int v12.2.2), .fz (.int x15), j17] _
      refine run_last ?_
      obtain ⟨v18, ev18, h⟩ := bnd h
      obtain ⟨s37, es37, h⟩ := bnd h
      refine run_for es37 (fun (s19 : (List Rule)) ρ => ∃ j21 : Sl, ρ = [.fz (Board.d board_), .ow (.l (List.map Rule.d s19)), .un, .fz (.str v12.1), .fz (.int v12.2.1), .fz (.int v12.2.2), .fz (.int x15), j21] ∧ kNR (some j21) = true) (it_r2 (ar_fr ev_c rfl (ar_fr (ev_op (ev_var rfl) ev_c rfl rfl rfl) rfl ar_nil)) ev18) ⟨_, rfl, nj17⟩ ?_ ?_
      · rintro s19 x20 s39 ρ ⟨j21, rfl, nj21⟩ h
        refine ⟨_, (tg_nm nj21), ?_⟩
        show Run _ [.fz (Board.d board_), .ow (.l (List.map Rule.d s19)), .un, .fz (.str v12.1), .fz (.int v12.2.1), .fz (.int v12.2.2), .fz (.int x15), .fz (.int x20)] _
        obtain ⟨v22, ev22, h⟩ := bnd h
        obtain ⟨v24, ev24, h⟩ := bnd h
        refine run_if (te_andO (te_tst (ev_op (ev_op ev_c (ev_var rfl) rfl rfl (d_mul ev22)) (ev_var rfl) rfl rfl rfl)) ev24 (by intro c h; obtain ⟨v23, ev23, h⟩ := bnd h; exact te_let h (te_tst (ev_op (ev_op (ev_op ev_c (ev_var rfl) rfl rfl (d_mul ev23)) ev_c rfl rfl rfl) (ev_var rfl) rfl rfl rfl)))) (fun c25 => ?_) (fun c25 => ?_)
        · have h := cnd_t h c25
          obtain ⟨v26, ev26, h⟩ := bnd h
          refine run_asg (ev_op (ev_own rfl) (ev_as (z := .ow (.l (List.map Rule.d ([(Rule.over x15 x20 (0 : Int)), (Rule.over x15 x20 (1 : Int))] : List Rule)))) (ev_lst (ar_fr (ev_as (z := .fz (Rule.d (Rule.over x15 x20 (0 : Int)))) (ev_tup (ar_fr ev_c rfl (ar_fr (ev_var rfl) rfl (ar_fr (ev_var rfl) rfl (ar_fr ev_c rfl ar_nil)))) rfl rfl) rfl) rfl (ar_fr (ev_as (z := .fz (Rule.d (Rule.over x15 x20 (1 : Int)))) (ev_tup (ar_fr ev_c rfl (ar_fr (ev_var rfl) rfl (ar_fr (ev_var rfl) rfl (ar_fr ev_c rfl ar_nil)))) rfl rfl) rfl) rfl ar_nil)) rfl rfl) rfl) rfl rfl (d_catL ev26)) rfl rfl ?_
          show Run _ [.fz (Board.d board_), .ow (.l (List.map Rule.d v26)), .un, .fz (.str v12.1), .fz (.int v12.2.1), .fz (.int v12.2.2), .fz (.int x15), .fz (.int x20)] _
          refine run_last ?_
          obtain ⟨v27, ev27, h⟩ := bnd h
          obtain ⟨v29, ev29, h⟩ := bnd h
          refine run_if (te_andO (te_tst (ev_op (ev_op ev_c (ev_var rfl) rfl rfl (d_mul ev27)) (ev_var rfl) rfl rfl rfl)) ev29 (by intro c h; obtain ⟨v28, ev28, h⟩ := bnd h; exact te_let h (te_tst (ev_op (ev_op (ev_op ev_c (ev_var rfl) rfl rfl (d_mul ev28)) ev_c rfl rfl rfl) (ev_var rfl) rfl rfl rfl)))) (fun c30 => ?_) (fun c30 => ?_)
          · have h := cnd_t h c30
            obtain ⟨v31, ev31, h⟩ := bnd h
            refine run_asg (ev_op (ev_own rfl) (ev_as (z := .ow (.l (List.map Rule.d ([(Rule.under x15 x20 (0 : Int)), (Rule.under x15 x20 (1 : Int))] : List Rule)))) (ev_lst (ar_fr (ev_as (z := .fz (Rule.d (Rule.under x15 x20 (0 : Int)))) (ev_tup (ar_fr ev_c rfl (ar_fr (ev_var rfl) rfl (ar_fr (ev_var rfl) rfl (ar_fr ev_c rfl ar_nil)))) rfl rfl) rfl) rfl (ar_fr (ev_as (z := .fz (Rule.d (Rule.under x15 x20 (1 : Int)))) (ev_tup (ar_fr ev_c rfl (ar_fr (ev_var rfl) rfl (ar_fr (ev_var rfl) rfl (ar_fr ev_c rfl ar_nil)))) rfl rfl) rfl) rfl ar_nil)) rfl rfl) rfl) rfl rfl (d_catL ev31)) rfl rfl ?_
            show Run _ [.fz (Board.d board_), .ow (.l (List.map Rule.d v31)), .un, .fz (.str v12.1), .fz (.int v12.2.1), .fz (.int v12.2.2), .fz (.int x15), .fz (.int x20)] _
            exact run_done h (lp_q ⟨.inl rfl, ⟨_, rfl, rfl⟩⟩)
          · have h := cnd_f h c30
            refine run_next ?_
            exact run_done h (lp_q ⟨.inl rfl, ⟨_, rfl, rfl⟩⟩)
        · have h := cnd_f h c25
          refine run_next ?_
          refine run_last ?_
          obtain ⟨v32, ev32, h⟩ := bnd h
          obtain ⟨v34, ev34, h⟩ := bnd h
          refine run_if (te_andO (te_tst (ev_op (ev_op ev_c (ev_var rfl) rfl rfl (d_mul ev32)) (ev_var rfl) rfl rfl rfl)) ev34 (by intro c h; obtain ⟨v33, ev33, h⟩ := bnd h; exact te_let h (te_tst (ev_op (ev_op (ev_op ev_c (ev_var rfl) rfl rfl (d_mul ev33)) ev_c rfl rfl rfl) (ev_var rfl) rfl rfl rfl)))) (fun c35 => ?_) (fun c35 => ?_)
          · have h := cnd_t h c35
            obtain ⟨v36, ev36, h⟩ := bnd h
            refine run_asg (ev_op (ev_own rfl) (ev_as (z := .ow (.l (List.map Rule.d ([(Rule.under x15 x20 (0 : Int)), (Rule.under x15 x20 (1 : Int))] : List Rule)))) (ev_lst (ar_fr (ev_as (z := .fz (Rule.d (Rule.under x15 x20 (0 : Int)))) (ev_tup (ar_fr ev_c rfl (ar_fr (ev_var rfl) rfl (ar_fr (ev_var rfl) rfl (ar_fr ev_c rfl ar_nil)))) rfl rfl) rfl) rfl (ar_fr (ev_as (z := .fz (Rule.d (Rule.under x15 x20 (1 : Int)))) (ev_tup (ar_fr ev_c rfl (ar_fr (ev_var rfl) rfl (ar_fr (ev_var rfl) rfl (ar_fr ev_c rfl ar_nil)))) rfl rfl) rfl) rfl ar_nil)) rfl rfl) rfl) rfl rfl (d_catL ev36)) rfl rfl ?_
            show Run _ [.fz (Board.d board_), .ow (.l (List.map Rule.d v36)), .un, .fz (.str v12.1), .fz (.int v12.2.1), .fz (.int v12.2.2), .fz (.int x15), .fz (.int x20)] _
            exact run_done h (lp_q ⟨.inl rfl, ⟨_, rfl, rfl⟩⟩)
          · have h := cnd_f h c35
            refine run_next ?_
            exact run_done h (lp_q ⟨.inl rfl, ⟨_, rfl, rfl⟩⟩)
      · rintro ρ ⟨j38, rfl, nj38⟩
        exact run_done h (lp_q ⟨.inl rfl, ⟨_, _, rfl, rfl, nj38⟩⟩)
    · rintro ρ ⟨j41, j42, rfl, nj41, nj42⟩
      refine run_last ?_
      exact run_ret h (ev_own rfl) (rq rfl)
noncomputable def t__law_book (pot_ : (List Int)) (board_ : Board) : Option ((List Rule) × (List Int)) :=
  (t__law_rules board_).bind fun v1 =>
  (t__law_dip pot_ (4 : Int)).bind fun v2 =>
  (rngO (0 : Int) (mnI (v1.length : Int) ((1 : Int) + v2.1))).bind fun v3 =>
  (forN (fun (s4 : (List Int) × (List Rule) × (List Rule)) (x5 : Int) =>
  (t__law_dip s4.1 (s4.2.1.length : Int)).bind fun v7 =>
  (popAtL s4.2.1 v7.1).bind fun v8 =>
  (appL s4.2.2 v8.1).bind fun v9 =>
  some (v7.2, v8.2, v9)) v3 (v2.2, v1, ([] : List Rule))).bind fun s10 =>
  some (s10.2.2, s10.1)
theorem C__law_book {A : Str → Addr} {pot_ : (List Int)} {board_ : Board} {r : ((List Rule) × (List Int))} (h : t__law_book pot_ board_ = some r) : ∃ ρ', F__law_book A [.rf (.l (List.map D.int pot_)), .fz (Board.d board_)] = some ((fun (r : ((List Rule) × (List Int))) => .fz (.tup (List.map Rule.d r.1))) r, .rf ((fun (r : ((List Rule) × (List Int))) => .l (List.map D.int r.2)) r) :: ρ') := by
  refine fn_rf (ρ := [.fz (Board.d board_)]) (zf := (fun (r : ((List Rule) × (List Int))) => .fz (.tup (List.map Rule.d r.1)))) (mf := (fun (r : ((List Rule) × (List Int))) => .l (List.map D.int r.2))) (x := r) ?_
  unfold t__law_book at h
  unfold d__law_book
  show Run _ [.rf (.l (List.map D.int pot_)), .fz (Board.d board_), .un, .un, .un] _
  obtain ⟨v1, ev1, h⟩ := bnd h
  refine run_asg (ev_fc (ar_fr (ev_var rfl) rfl ar_nil) rfl (C__law_rules ev1) rfl) rfl rfl ?_
  show Run _ [.rf (.l (List.map D.int pot_)), .fz (Board.d board_), .ow (.l (List.map Rule.d v1)), .un, .un] _
  refine run_asg (ev_as (z := .ow (.l (List.map Rule.d ([] : List Rule)))) ev_e0 rfl) rfl rfl ?_
  show Run _ [.rf (.l (List.map D.int pot_)), .fz (Board.d board_), .ow (.l (List.map Rule.d v1)), .ow (.l (List.map Rule.d ([] : List Rule))), .un] _
  obtain ⟨v2, ev2, h⟩ := bnd h
  obtain ⟨v3, ev3, h⟩ := bnd h
  obtain ⟨s10, es10, h⟩ := bnd h
  refine run_for es10 (fun (s4 : (List Int) × (List Rule) × (List Rule)) ρ => ∃ j6 : Sl, ρ = [.rf (.l (List.map D.int s4.1)), .fz (Board.d board_), .ow (.l (List.map Rule.d s4.2.1)), .ow (.l (List.map Rule.d s4.2.2)), j6] ∧ kNR (some j6) = true) (it_r1 (ar_fr (ev_call (ar_cons (ev_call (ar_cons (ev_own rfl) ar_nil) rfl (d_lenL _)) (ar_cons (ev_op ev_c (ev_fcR (ar_cons (ev_lent rfl) (ar_fr ev_c rfl ar_nil)) rfl rfl (C__law_dip ev2) rfl) rfl rfl rfl) ar_nil)) rfl rfl) rfl ar_nil) ev3) ⟨_, rfl, rfl⟩ ?_ ?_
  · rintro s4 x5 s12 ρ ⟨j6, rfl, nj6⟩ h
    refine ⟨_, (tg_nm nj6), ?_⟩
    show Run _ [.rf (.l (List.map D.int s4.1)), .fz (Board.d board_), .ow (.l (List.map Rule.d s4.2.1)), .ow (.l (List.map Rule.d s4.2.2)), .fz (.int x5)] _
    refine run_last ?_
    obtain ⟨v7, ev7, h⟩ := bnd h
    obtain ⟨v8, ev8, h⟩ := bnd h
    obtain ⟨v9, ev9, h⟩ := bnd h
    refine run_drop (ev_mt rfl (ar_fr (ev_mt rfl (ar_fr (ev_fcR (ar_cons (ev_lent rfl) (ar_fr (ev_call (ar_cons (ev_own rfl) ar_nil) rfl (d_lenL _)) rfl ar_nil)) rfl rfl (C__law_dip ev7) rfl) rfl ar_nil) rfl rfl (d_popAt ev8)) rfl ar_nil) rfl rfl (d_app (ea := Rule.d) (x := v8.1) ev9)) ?_
    show Run _ [.rf (.l (List.map D.int v7.2)), .fz (Board.d board_), .ow (.l (List.map Rule.d v8.2)), .ow (.l (List.map Rule.d v9)), .fz (.int x5)] _
    exact run_done h (lp_q ⟨.inl rfl, ⟨_, rfl, rfl⟩⟩)
  · rintro ρ ⟨j11, rfl, nj11⟩
    refine run_last ?_
    exact run_ret h (ev_call (ar_cons (ev_own rfl) ar_nil) rfl rfl) (rql rfl rfl)
noncomputable def t__law_cells (board_ : Board) : Option Int :=
  (cond (board_.isFloor) ((board_.n2).bind fun v1 =>
  (mulI board_.n1 v1).bind fun v2 =>
  some v2) (some board_.n1)).bind fun v3 =>
  some v3
theorem C__law_cells {A : Str → Addr} {board_ : Board} {r : Int} (h : t__law_cells board_ = some r) : ∃ ρ', F__law_cells A [.fz (Board.d board_)] = some ((fun (r : Int) => .fz (.int r)) r, ρ') := by
  refine fn_ok (ρ := [.fz (Board.d board_)]) (zf := (fun (r : Int) => .fz (.int r))) (x := r) ?_
  unfold t__law_cells at h
  unfold d__law_cells
  show Run _ [.fz (Board.d board_)] _
  refine run_last ?_
  obtain ⟨v3, ev3, h⟩ := bnd h
  exact run_ret h (ev_ifO (fun (t : Int) => .fz (.int t)) (te_tst (ev_op (ev_op (ev_var rfl) ev_c rfl rfl (b_ix0 _)) ev_c rfl rfl (b_eqF _))) ev3 (by intro a h; obtain ⟨v1, ev1, h⟩ := bnd h; obtain ⟨v2, ev2, h⟩ := bnd h; exact ev_let (fun (t : Int) => .fz (.int t)) h (ev_op (ev_op (ev_var rfl) ev_c rfl rfl (b_ix1 _)) (ev_op (ev_var rfl) ev_c rfl rfl (b_ix2 ev1)) rfl rfl (d_mul ev2))) (by intro a h; exact ev_let (fun (t : Int) => .fz (.int t)) h (ev_op (ev_var rfl) ev_c rfl rfl (b_ix1 _)))) (rq rfl)
noncomputable def t__law_places (board_ : Board) (rule_ : Rule) : Option (List Int) :=
  cond (board_.isRing)
 ((rngL (0 : Int) board_.n1).bind fun v2 =>
  some v2)
 (cond (board_.isRow)
 ((mulI (2 : Int) rule_.n1).bind fun v4 =>
  (rngL (0 : Int) ((board_.n1 - v4) + (1 : Int))).bind fun v5 =>
  some v5)
 ((board_.shw).bind fun v6 =>
  (rngO (0 : Int) v6.2.1).bind fun v7 =>
  (forN (fun (s8 : (List Int)) (x9 : Int) =>
  (rngO (0 : Int) v6.2.2).bind fun v14 =>
  (forN (fun (s15 : (List Int)) (x16 : Int) =>
  (ixI ([(1 : Int), (2 : Int)] : List Int) (b2i (rule_.isUnder))).bind fun v20 =>
  (mulI rule_.n1 v20).bind fun v21 =>
  (ixI ([(1 : Int), (2 : Int)] : List Int) (b2i (rule_.isOver))).bind fun v22 =>
  (mulI rule_.n2 v22).bind fun v23 =>
  cond ((decide ((x9 + v21) ≤ v6.2.1)) && (decide ((x16 + v23) ≤ v6.2.2)))
 ((mulI x9 v6.2.2).bind fun v25 =>
  (appL s15 (v25 + x16)).bind fun v26 =>
  some v26)
 (some s15)) v14 s8).bind fun s27 =>
  some s27) v7 ([] : List Int)).bind fun s32 =>
  some s32))
theorem C__law_places {A : Str → Addr} {board_ : Board} {rule_ : Rule} {r : (List Int)} (h : t__law_places board_ rule_ = some r) : ∃ ρ', F__law_places A [.fz (Board.d board_), .fz (Rule.d rule_)] = some ((fun (r : (List Int)) => .ow (.l (List.map D.int r))) r, ρ') := by
  refine fn_ok (ρ := [.fz (Board.d board_), .fz (Rule.d rule_)]) (zf := (fun (r : (List Int)) => .ow (.l (List.map D.int r)))) (x := r) ?_
  unfold t__law_places at h
  unfold d__law_places
  show Run _ [.fz (Board.d board_), .fz (Rule.d rule_), .un, .un, .un, .un, .un, .un, .un, .un] _
  refine run_if (te_tst (ev_op (ev_op (ev_var rfl) ev_c rfl rfl (b_ix0 _)) ev_c rfl rfl (b_eqG _))) (fun c1 => ?_) (fun c1 => ?_)
  · have h := cnd_t h c1
    obtain ⟨v2, ev2, h⟩ := bnd h
    exact run_ret h (ev_lrg1 (ev_op (ev_var rfl) ev_c rfl rfl (b_ix1 _)) ev2) (rq rfl)
  · have h := cnd_f h c1
    refine run_next ?_
    refine run_if (te_tst (ev_op (ev_op (ev_var rfl) ev_c rfl rfl (b_ix0 _)) ev_c rfl rfl (b_eqR _))) (fun c3 => ?_) (fun c3 => ?_)
    · have h := cnd_t h c3
      obtain ⟨v4, ev4, h⟩ := bnd h
      obtain ⟨v5, ev5, h⟩ := bnd h
      exact run_ret h (ev_lrg1 (ev_op (ev_op (ev_op (ev_var rfl) ev_c rfl rfl (b_ix1 _)) (ev_op ev_c (ev_op (ev_var rfl) ev_c rfl rfl (r_ix1 _)) rfl rfl (d_mul ev4)) rfl rfl rfl) ev_c rfl rfl rfl) ev5) (rq rfl)
    · have h := cnd_f h c3
      refine run_next ?_
      obtain ⟨v6, ev6, h⟩ := bnd h
      refine run_unp (ev_var rfl) rfl (b_shw ev6) (tg_tp rfl (tg_cs (tg_nm rfl) (tg_cs (tg_nm rfl) (tg_cs (tg_nm rfl) tg_nl)))) ?_
      show Run _ [.fz (Board.d board_), .fz (Rule.d rule_), .fz (.str v6.1), .fz (.int v6.2.1), .fz (.int v6.2.2), .un, .un, .un, .un, .un] _
      refine run_asg (ev_as (z := .ow (.l (List.map D.int ([] : List Int)))) ev_e0 rfl) rfl rfl ?_
      show Run _ [.fz (Board.d board_), .fz (Rule.d rule_), .fz (.str v6.1), .fz (.int v6.2.1), .fz (.int v6.2.2), .ow (.l (List.map D.int ([] : List Int))), .un, .un, .un, .un] _
      obtain ⟨v7, ev7, h⟩ := bnd h
      obtain ⟨s32, es32, h⟩ := bnd h
      refine run_for es32 (fun (s8 : (List Int)) ρ => ∃ j10 j11 j12 j13 : Sl, ρ = [.fz (Board.d board_), .fz (Rule.d rule_), .fz (.str v6.1), .fz (.int v6.2.1), .fz (.int v6.2.2), .ow (.l (List.map D.int s8)), j10, j11, j12, j13] ∧ kNR (some j10) = true ∧ kNR (some j11) = true ∧ kNR (some j12) = true ∧ kNR (some j13) = true) (it_r1 (ar_fr (ev_var rfl) rfl ar_nil) ev7) ⟨_, _, _, _, rfl, rfl, rfl, rfl, rfl⟩ ?_ ?_
      · rintro s8 x9 s37 ρ ⟨j10, j11, j12, j13, rfl, nj10, nj11, nj12, nj13⟩ h
        refine ⟨_, (tg_nm nj10), ?_⟩
        show Run _ [.fz (Board.d board_), .fz (Rule.d rule_), .fz (.str v6.1), .fz (.int v6.2.1), .fz (.int v6.2.2), .ow (.l (List.map D.int s8)), .fz (.int x9), j11, j12, j13] _
        refine run_last ?_
        obtain ⟨v14, ev14, h⟩ := bnd h
        obtain ⟨s27, es27, h⟩ := bnd h
        refine run_for es27 (fun (s15 : (List Int)) ρ => ∃ j17 j18 j19 : Sl, ρ = [.fz (Board.d board_), .fz (Rule.d rule_), .fz (.str v6.1), .fz (.int v6.2.1), .fz (.int v6.2.2), .ow (.l (List.map D.int s15)), .fz (.int x9), j17, j18, j19] ∧ kNR (some j17) = true ∧ kNR (some j18) = true ∧ kNR (some j19) = true) (it_r1 (ar_fr (ev_var rfl) rfl ar_nil) ev14) ⟨_, _, _, rfl, nj11, nj12, nj13⟩ ?_ ?_
        · rintro s15 x16 s31 ρ ⟨j17, j18, j19, rfl, nj17, nj18, nj19⟩ h
          refine ⟨_, (tg_nm nj17), ?_⟩
          show Run _ [.fz (Board.d board_), .fz (Rule.d rule_), .fz (.str v6.1), .fz (.int v6.2.1), .fz (.int v6.2.2), .ow (.l (List.map D.int s15)), .fz (.int x9), .fz (.int x16), j18, j19] _
          obtain ⟨v20, ev20, h⟩ := bnd h
          obtain ⟨v21, ev21, h⟩ := bnd h
          refine run_asg (ev_op (ev_var rfl) (ev_op (ev_op (ev_var rfl) ev_c rfl rfl (r_ix1 _)) (ev_op (ev_as (z := .ow (.l (List.map D.int ([(1 : Int), (2 : Int)] : List Int)))) (ev_lst (ar_fr ev_c rfl (ar_fr ev_c rfl ar_nil)) rfl rfl) rfl) (ev_call (ar_cons (ev_op (ev_op (ev_var rfl) ev_c rfl rfl (r_ix0 _)) ev_c rfl rfl (r_eqU _)) ar_nil) rfl rfl) rfl rfl (d_ixL ev20)) rfl rfl (d_mul ev21)) rfl rfl rfl) rfl nj18 ?_
          show Run _ [.fz (Board.d board_), .fz (Rule.d rule_), .fz (.str v6.1), .fz (.int v6.2.1), .fz (.int v6.2.2), .ow (.l (List.map D.int s15)), .fz (.int x9), .fz (.int x16), .fz (.int (x9 + v21)), j19] _
          obtain ⟨v22, ev22, h⟩ := bnd h
          obtain ⟨v23, ev23, h⟩ := bnd h
          refine run_asg (ev_op (ev_var rfl) (ev_op (ev_op (ev_var rfl) ev_c rfl rfl (r_ix2 _)) (ev_op (ev_as (z := .ow (.l (List.map D.int ([(1 : Int), (2 : Int)] : List Int)))) (ev_lst (ar_fr ev_c rfl (ar_fr ev_c rfl ar_nil)) rfl rfl) rfl) (ev_call (ar_cons (ev_op (ev_op (ev_var rfl) ev_c rfl rfl (r_ix0 _)) ev_c rfl rfl (r_eqO _)) ar_nil) rfl rfl) rfl rfl (d_ixL ev22)) rfl rfl (d_mul ev23)) rfl rfl rfl) rfl nj19 ?_
          show Run _ [.fz (Board.d board_), .fz (Rule.d rule_), .fz (.str v6.1), .fz (.int v6.2.1), .fz (.int v6.2.2), .ow (.l (List.map D.int s15)), .fz (.int x9), .fz (.int x16), .fz (.int (x9 + v21)), .fz (.int (x16 + v23))] _
          refine run_last ?_
          refine run_if (te_and (te_tst (ev_op (ev_var rfl) (ev_var rfl) rfl rfl rfl)) (te_tst (ev_op (ev_var rfl) (ev_var rfl) rfl rfl rfl))) (fun c24 => ?_) (fun c24 => ?_)
          · have h := cnd_t h c24
            obtain ⟨v25, ev25, h⟩ := bnd h
            obtain ⟨v26, ev26, h⟩ := bnd h
            refine run_drop (ev_mt rfl (ar_fr (ev_op (ev_op (ev_var rfl) (ev_var rfl) rfl rfl (d_mul ev25)) (ev_var rfl) rfl rfl rfl) rfl ar_nil) rfl rfl (d_app (ea := D.int) (x := (v25 + x16)) ev26)) ?_
            show Run _ [.fz (Board.d board_), .fz (Rule.d rule_), .fz (.str v6.1), .fz (.int v6.2.1), .fz (.int v6.2.2), .ow (.l (List.map D.int v26)), .fz (.int x9), .fz (.int x16), .fz (.int (x9 + v21)), .fz (.int (x16 + v23))] _
            exact run_done h (lp_q ⟨.inl rfl, ⟨_, _, _, rfl, rfl, rfl, rfl⟩⟩)
          · have h := cnd_f h c24
            refine run_next ?_
            exact run_done h (lp_q ⟨.inl rfl, ⟨_, _, _, rfl, rfl, rfl, rfl⟩⟩)
        · rintro ρ ⟨j28, j29, j30, rfl, nj28, nj29, nj30⟩
          exact run_done h (lp_q ⟨.inl rfl, ⟨_, _, _, _, rfl, rfl, nj28, nj29, nj30⟩⟩)
      · rintro ρ ⟨j33, j34, j35, j36, rfl, nj33, nj34, nj35, nj36⟩
        refine run_last ?_
        exact run_ret h (ev_own rfl) (rq rfl)
noncomputable def t__law_deeds (board_ : Board) (book_ : (List Rule)) : Option (List (Int × Int)) :=
  (rngO (0 : Int) (book_.length : Int)).bind fun v1 =>
  (forN (fun (s2 : (List (Int × Int))) (x3 : Int) =>
  (ixI book_ x3).bind fun v5 =>
  (t__law_places board_ v5).bind fun v6 =>
  (mapB (fun (x7 : Int) => (x3, x7)) v6).bind fun v8 =>
  (catL s2 v8).bind fun v9 =>
  some v9) v1 ([] : List (Int × Int))).bind fun s10 =>
  some s10
theorem C__law_deeds {A : Str → Addr} {board_ : Board} {book_ : (List Rule)} {r : (List (Int × Int))} (h : t__law_deeds board_ book_ = some r) : ∃ ρ', F__law_deeds A [.fz (Board.d board_), .fz (.tup (List.map Rule.d book_))] = some ((fun (r : (List (Int × Int))) => .ow (.l (List.map (eP D.int D.int) r))) r, ρ') := by
  refine fn_ok (ρ := [.fz (Board.d board_), .fz (.tup (List.map Rule.d book_))]) (zf := (fun (r : (List (Int × Int))) => .ow (.l (List.map (eP D.int D.int) r)))) (x := r) ?_
  unfold t__law_deeds at h
  unfold d__law_deeds
  show Run _ [.fz (Board.d board_), .fz (.tup (List.map Rule.d book_)), .un, .un, .un] _
  refine run_asg (ev_as (z := .ow (.l (List.map (eP D.int D.int) ([] : List (Int × Int))))) ev_e0 rfl) rfl rfl ?_
  show Run _ [.fz (Board.d board_), .fz (.tup (List.map Rule.d book_)), .ow (.l (List.map (eP D.int D.int) ([] : List (Int × Int)))), .un, .un] _
  obtain ⟨v1, ev1, h⟩ := bnd h
  obtain ⟨s10, es10, h⟩ := bnd h
  refine run_for es10 (fun (s2 : (List (Int × Int))) ρ => ∃ j4 : Sl, ρ = [.fz (Board.d board_), .fz (.tup (List.map Rule.d book_)), .ow (.l (List.map (eP D.int D.int) s2)), j4, .un] ∧ kNR (some j4) = true) (it_r1 (ar_fr (ev_call (ar_cons (ev_var rfl) ar_nil) rfl (d_lenV _)) rfl ar_nil) ev1) ⟨_, rfl, rfl⟩ ?_ ?_
  · rintro s2 x3 s12 ρ ⟨j4, rfl, nj4⟩ h
    refine ⟨_, (tg_nm nj4), ?_⟩
    show Run _ [.fz (Board.d board_), .fz (.tup (List.map Rule.d book_)), .ow (.l (List.map (eP D.int D.int) s2)), .fz (.int x3), .un] _
    refine run_last ?_
    obtain ⟨v5, ev5, h⟩ := bnd h
    obtain ⟨v6, ev6, h⟩ := bnd h
    obtain ⟨v8, ev8, h⟩ := bnd h
    obtain ⟨v9, ev9, h⟩ := bnd h
    refine run_asg (ev_op (ev_own rfl) (ev_lcB (eb := (eP D.int D.int)) ev8 (it_L (ev_fc (ar_fr (ev_var rfl) rfl (ar_fr (ev_op (ev_var rfl) (ev_var rfl) rfl rfl (d_ixV ev5)) rfl ar_nil)) rfl (C__law_places ev6) rfl) rfl) (fun x7 => ⟨_, _, (tg_nm rfl), ev_fr (ev_tup (ar_fr (ev_var rfl) rfl (ar_fr (ev_var rfl) rfl ar_nil)) rfl rfl) rfl, rfl⟩) rfl) rfl rfl (d_catL ev9)) rfl rfl ?_
    show Run _ [.fz (Board.d board_), .fz (.tup (List.map Rule.d book_)), .ow (.l (List.map (eP D.int D.int) v9)), .fz (.int x3), .un] _
    exact run_done h (lp_q ⟨.inl rfl, ⟨_, rfl, rfl⟩⟩)
  · rintro ρ ⟨j11, rfl, nj11⟩
    refine run_last ?_
    exact run_ret h (ev_own rfl) (rq rfl)
noncomputable def t__law_pairs (board_ : Board) (book_ : (List Rule)) (deed_ : (Int × Int)) : Option (List (Int × Int)) :=
  (ixI book_ deed_.1).bind fun v1 =>
  cond (v1.isSwap)
 ((rngO (0 : Int) v1.n1).bind fun v3 =>
  (mapO (fun (x4 : Int) =>
  (modI (deed_.2 + x4) board_.n1).bind fun v5 =>
  (modI ((deed_.2 + x4) + v1.n1) board_.n1).bind fun v6 =>
  some (v5, v6)) v3).bind fun v7 =>
  some v7)
 ((cond (v1.isOver) (some v1.n2) ((board_.n2).bind fun v8 =>
  (mulI v1.n1 v8).bind fun v9 =>
  some v9)).bind fun v10 =>
  (rngO (0 : Int) v1.n1).bind fun v11 =>
  (forN (fun (s12 : (List Int)) (x13 : Int) =>
  (rngO (0 : Int) v1.n2).bind fun v15 =>
  (mapO (fun (x16 : Int) =>
  (board_.n2).bind fun v17 =>
  (mulI x13 v17).bind fun v18 =>
  some ((deed_.2 + v18) + x16)) v15).bind fun v19 =>
  (catL s12 v19).bind fun v20 =>
  some v20) v11 ([] : List Int)).bind fun s21 =>
  (mapB (fun (x23 : Int) => (x23, (x23 + v10))) s21).bind fun v24 =>
  some v24)
theorem C__law_pairs {A : Str → Addr} {board_ : Board} {book_ : (List Rule)} {deed_ : (Int × Int)} {r : (List (Int × Int))} (h : t__law_pairs board_ book_ deed_ = some r) : ∃ ρ', F__law_pairs A [.fz (Board.d board_), .fz (.tup (List.map Rule.d book_)), .fz (.tup [.int deed_.1, .int deed_.2])] = some ((fun (r : (List (Int × Int))) => .ow (.l (List.map (eP D.int D.int) r))) r, ρ') := by
  refine fn_ok (ρ := [.fz (Board.d board_), .fz (.tup (List.map Rule.d book_)), .fz (.tup [.int deed_.1, .int deed_.2])]) (zf := (fun (r : (List (Int × Int))) => .ow (.l (List.map (eP D.int D.int) r)))) (x := r) ?_
  unfold t__law_pairs at h
  unfold d__law_pairs
  show Run _ [.fz (Board.d board_), .fz (.tup (List.map Rule.d book_)), .fz (.tup [.int deed_.1, .int deed_.2]), .un, .un, .un, .un, .un, .un, .un] _
  obtain ⟨v1, ev1, h⟩ := bnd h
  refine run_asg (ev_op (ev_var rfl) (ev_op (ev_var rfl) ev_c rfl rfl rfl) rfl rfl (d_ixV ev1)) rfl rfl ?_
  show Run _ [.fz (Board.d board_), .fz (.tup (List.map Rule.d book_)), .fz (.tup [.int deed_.1, .int deed_.2]), .fz (Rule.d v1), .un, .un, .un, .un, .un, .un] _
  refine run_if (te_tst (ev_op (ev_op (ev_var rfl) ev_c rfl rfl (r_ix0 _)) ev_c rfl rfl (r_eqS _))) (fun c2 => ?_) (fun c2 => ?_)
  · have h := cnd_t h c2
    obtain ⟨v3, ev3, h⟩ := bnd h
    obtain ⟨v7, ev7, h⟩ := bnd h
    exact run_ret h (ev_lcO (eb := (eP D.int D.int)) ev7 (it_r1 (ar_fr (ev_op (ev_var rfl) ev_c rfl rfl (r_ix1 _)) rfl ar_nil) ev3) (by intro x4 y E; obtain ⟨v5, ev5, E⟩ := bnd E; obtain ⟨v6, ev6, E⟩ := bnd E; obtain rfl := Option.some.inj E; exact ⟨_, _, (tg_nm rfl), ev_fr (ev_tup (ar_fr (ev_op (ev_op (ev_op (ev_var rfl) ev_c rfl rfl rfl) (ev_var rfl) rfl rfl rfl) (ev_op (ev_var rfl) ev_c rfl rfl (b_ix1 _)) rfl rfl (d_mod ev5)) rfl (ar_fr (ev_op (ev_op (ev_op (ev_op (ev_var rfl) ev_c rfl rfl rfl) (ev_var rfl) rfl rfl rfl) (ev_op (ev_var rfl) ev_c rfl rfl (r_ix1 _)) rfl rfl rfl) (ev_op (ev_var rfl) ev_c rfl rfl (b_ix1 _)) rfl rfl (d_mod ev6)) rfl ar_nil)) rfl rfl) rfl, rfl⟩) rfl) (rq rfl)
  · have h := cnd_f h c2
    refine run_next ?_
    obtain ⟨v10, ev10, h⟩ := bnd h
    refine run_asg (ev_ifO (fun (t : Int) => .fz (.int t)) (te_tst (ev_op (ev_op (ev_var rfl) ev_c rfl rfl (r_ix0 _)) ev_c rfl rfl (r_eqO _))) ev10 (by intro a h; exact ev_let (fun (t : Int) => .fz (.int t)) h (ev_op (ev_var rfl) ev_c rfl rfl (r_ix2 _))) (by intro a h; obtain ⟨v8, ev8, h⟩ := bnd h; obtain ⟨v9, ev9, h⟩ := bnd h; exact ev_let (fun (t : Int) => .fz (.int t)) h (ev_op (ev_op (ev_var rfl) ev_c rfl rfl (r_ix1 _)) (ev_op (ev_var rfl) ev_c rfl rfl (b_ix2 ev8)) rfl rfl (d_mul ev9)))) rfl rfl ?_
    show Run _ [.fz (Board.d board_), .fz (.tup (List.map Rule.d book_)), .fz (.tup [.int deed_.1, .int deed_.2]), .fz (Rule.d v1), .fz (.int v10), .un, .un, .un, .un, .un] _
    refine run_asg (ev_as (z := .ow (.l (List.map D.int ([] : List Int)))) ev_e0 rfl) rfl rfl ?_
    show Run _ [.fz (Board.d board_), .fz (.tup (List.map Rule.d book_)), .fz (.tup [.int deed_.1, .int deed_.2]), .fz (Rule.d v1), .fz (.int v10), .ow (.l (List.map D.int ([] : List Int))), .un, .un, .un, .un] _
    obtain ⟨v11, ev11, h⟩ := bnd h
    obtain ⟨s21, es21, h⟩ := bnd h
    refine run_for es21 (fun (s12 : (List Int)) ρ => ∃ j14 : Sl, ρ = [.fz (Board.d board_), .fz (.tup (List.map Rule.d book_)), .fz (.tup [.int deed_.1, .int deed_.2]), .fz (Rule.d v1), .fz (.int v10), .ow (.l (List.map D.int s12)), j14, .un, .un, .un] ∧ kNR (some j14) = true) (it_r1 (ar_fr (ev_op (ev_var rfl) ev_c rfl rfl (r_ix1 _)) rfl ar_nil) ev11) ⟨_, rfl, rfl⟩ ?_ ?_
    · rintro s12 x13 s25 ρ ⟨j14, rfl, nj14⟩ h
      refine ⟨_, (tg_nm nj14), ?_⟩
      show Run _ [.fz (Board.d board_), .fz (.tup (List.map Rule.d book_)), .fz (.tup [.int deed_.1, .int deed_.2]), .fz (Rule.d v1), .fz (.int v10), .ow (.l (List.map D.int s12)), .fz (.int x13), .un, .un, .un] _
      refine run_last ?_
      obtain ⟨v15, ev15, h⟩ := bnd h
      obtain ⟨v19, ev19, h⟩ := bnd h
      obtain ⟨v20, ev20, h⟩ := bnd h
      refine run_asg (ev_op (ev_own rfl) (ev_lcO (eb := D.int) ev19 (it_r1 (ar_fr (ev_op (ev_var rfl) ev_c rfl rfl (r_ix2 _)) rfl ar_nil) ev15) (by intro x16 y E; obtain ⟨v17, ev17, E⟩ := bnd E; obtain ⟨v18, ev18, E⟩ := bnd E; obtain rfl := Option.some.inj E; exact ⟨_, _, (tg_nm rfl), ev_fr (ev_op (ev_op (ev_op (ev_var rfl) ev_c rfl rfl rfl) (ev_op (ev_var rfl) (ev_op (ev_var rfl) ev_c rfl rfl (b_ix2 ev17)) rfl rfl (d_mul ev18)) rfl rfl rfl) (ev_var rfl) rfl rfl rfl) rfl, rfl⟩) rfl) rfl rfl (d_catL ev20)) rfl rfl ?_
      show Run _ [.fz (Board.d board_), .fz (.tup (List.map Rule.d book_)), .fz (.tup [.int deed_.1, .int deed_.2]), .fz (Rule.d v1), .fz (.int v10), .ow (.l (List.map D.int v20)), .fz (.int x13), .un, .un, .un] _
      exact run_done h (lp_q ⟨.inl rfl, ⟨_, rfl, rfl⟩⟩)
    · rintro ρ ⟨j22, rfl, nj22⟩
      refine run_last ?_
      obtain ⟨v24, ev24, h⟩ := bnd h
      exact run_ret h (ev_lcB (eb := (eP D.int D.int)) ev24 (it_L (ev_own rfl) rfl) (fun x23 => ⟨_, _, (tg_nm rfl), ev_fr (ev_tup (ar_fr (ev_var rfl) rfl (ar_fr (ev_op (ev_var rfl) (ev_var rfl) rfl rfl rfl) rfl ar_nil)) rfl rfl) rfl, rfl⟩) rfl) (rq rfl)
noncomputable def t__law_turned (thing_ : (Str × Int)) (bent_ : Int) : Option (Str × Int) :=
  (modI (thing_.2 + bent_) (2 : Int)).bind fun v1 =>
  some (thing_.1, v1)
theorem C__law_turned {A : Str → Addr} {thing_ : (Str × Int)} {bent_ : Int} {r : (Str × Int)} (h : t__law_turned thing_ bent_ = some r) : ∃ ρ', F__law_turned A [.fz (.tup [.str thing_.1, .int thing_.2]), .fz (.int bent_)] = some ((fun (r : (Str × Int)) => .fz (.tup [.str r.1, .int r.2])) r, ρ') := by
  refine fn_ok (ρ := [.fz (.tup [.str thing_.1, .int thing_.2]), .fz (.int bent_)]) (zf := (fun (r : (Str × Int)) => .fz (.tup [.str r.1, .int r.2]))) (x := r) ?_
  unfold t__law_turned at h
  unfold d__law_turned
  show Run _ [.fz (.tup [.str thing_.1, .int thing_.2]), .fz (.int bent_)] _
  refine run_last ?_
  obtain ⟨v1, ev1, h⟩ := bnd h
  exact run_ret h (ev_tup (ar_fr (ev_op (ev_var rfl) ev_c rfl rfl rfl) rfl (ar_fr (ev_op (ev_op (ev_op (ev_var rfl) ev_c rfl rfl rfl) (ev_var rfl) rfl rfl rfl) ev_c rfl rfl (d_mod ev1)) rfl ar_nil)) rfl rfl) (rq rfl)
noncomputable def t__law_done (board_ : Board) (book_ : (List Rule)) (standing_ : (List (Str × Int))) (deeds_ : (List (Int × Int))) : Option (List (Str × Int)) :=
  (forN (fun (s1 : (List (Str × Int)) × (List ((Int × Int) × (List (Int × Int))))) (x2 : (Int × Int)) =>
  cond (!(hasK s1.2 x2))
 ((t__law_pairs board_ book_ x2).bind fun v9 =>
  (putO s1.2 x2 v9).bind fun pairs_10 =>
  (ixI book_ x2.1).bind fun v11 =>
  (getK pairs_10 x2).bind fun v12 =>
  (forN (fun (s13 : (List (Str × Int))) (x14 : (Int × Int)) =>
  (ixI s13 x14.1).bind fun v18 =>
  (t__law_turned v18 v11.bent).bind fun v19 =>
  (ixI s13 x14.2).bind fun v20 =>
  (t__law_turned v20 v11.bent).bind fun v21 =>
  (setL s13 x14.1 v21).bind fun things_22 =>
  (setL things_22 x14.2 v19).bind fun things_23 =>
  some things_23) v12 s1.1).bind fun s24 =>
  some (s24, pairs_10))
 ((ixI book_ x2.1).bind fun v29 =>
  (getK s1.2 x2).bind fun v30 =>
  (forN (fun (s31 : (List (Str × Int))) (x32 : (Int × Int)) =>
  (ixI s31 x32.1).bind fun v36 =>
  (t__law_turned v36 v29.bent).bind fun v37 =>
  (ixI s31 x32.2).bind fun v38 =>
  (t__law_turned v38 v29.bent).bind fun v39 =>
  (setL s31 x32.1 v39).bind fun things_40 =>
  (setL things_40 x32.2 v37).bind fun things_41 =>
  some things_41) v30 s1.1).bind fun s42 =>
  some (s42, s1.2))) deeds_ (standing_, ([] : (List ((Int × Int) × (List (Int × Int))))))).bind fun s47 =>
  some s47.1
theorem C__law_done {A : Str → Addr} {board_ : Board} {book_ : (List Rule)} {standing_ : (List (Str × Int))} {deeds_ : (List (Int × Int))} {r : (List (Str × Int))} (h : t__law_done board_ book_ standing_ deeds_ = some r) : ∃ ρ', F__law_done A [.fz (Board.d board_), .fz (.tup (List.map Rule.d book_)), .fz (.tup (List.map (eP D.str D.int) standing_)), .fz (.tup (List.map (eP D.int D.int) deeds_))] = some ((fun (r : (List (Str × Int))) => .fz (.tup (List.map (eP D.str D.int) r))) r, ρ') := by
  refine fn_ok (ρ := [.fz (Board.d board_), .fz (.tup (List.map Rule.d book_)), .fz (.tup (List.map (eP D.str D.int) standing_)), .fz (.tup (List.map (eP D.int D.int) deeds_))]) (zf := (fun (r : (List (Str × Int))) => .fz (.tup (List.map (eP D.str D.int) r)))) (x := r) ?_
  unfold t__law_done at h
  unfold d__law_done
  show Run _ [.fz (Board.d board_), .fz (.tup (List.map Rule.d book_)), .fz (.tup (List.map (eP D.str D.int) standing_)), .fz (.tup (List.map (eP D.int D.int) deeds_)), .un, .un, .un, .un, .un, .un, .un] _
  refine run_asg (ev_call (ar_cons (ev_var rfl) ar_nil) rfl rfl) rfl rfl ?_
  show Run _ [.fz (Board.d board_), .fz (.tup (List.map Rule.d book_)), .fz (.tup (List.map (eP D.str D.int) standing_)), .fz (.tup (List.map (eP D.int D.int) deeds_)), .ow (.l (List.map (eP D.str D.int) standing_)), .un, .un, .un, .un, .un, .un] _
  refine run_asg (ev_as (z := .ow (.t (mapKV kII (eL (eP D.int D.int)) ([] : (List ((Int × Int) × (List (Int × Int)))))))) rfl rfl) rfl rfl ?_
  show Run _ [.fz (Board.d board_), .fz (.tup (List.map Rule.d book_)), .fz (.tup (List.map (eP D.str D.int) standing_)), .fz (.tup (List.map (eP D.int D.int) deeds_)), .ow (.l (List.map (eP D.str D.int) standing_)), .ow (.t (mapKV kII (eL (eP D.int D.int)) ([] : (List ((Int × Int) × (List (Int × Int))))))), .un, .un, .un, .un, .un] _
  obtain ⟨s47, es47, h⟩ := bnd h
  refine run_for es47 (fun (s1 : (List (Str × Int)) × (List ((Int × Int) × (List (Int × Int))))) ρ => ∃ j3 j4 j5 j6 j7 : Sl, ρ = [.fz (Board.d board_), .fz (.tup (List.map Rule.d book_)), .fz (.tup (List.map (eP D.str D.int) standing_)), .fz (.tup (List.map (eP D.int D.int) deeds_)), .ow (.l (List.map (eP D.str D.int) s1.1)), .ow (.t (mapKV kII (eL (eP D.int D.int)) s1.2)), j3, j4, j5, j6, j7] ∧ kNR (some j3) = true ∧ kNR (some j4) = true ∧ kNR (some j5) = true ∧ kNR (some j6) = true ∧ kNR (some j7) = true) (it_V (ev_var rfl) rfl) ⟨_, _, _, _, _, rfl, rfl, rfl, rfl, rfl, rfl⟩ ?_ ?_
  · rintro s1 x2 s53 ρ ⟨j3, j4, j5, j6, j7, rfl, nj3, nj4, nj5, nj6, nj7⟩ h
    refine ⟨_, (tg_nm nj3), ?_⟩
    show Run _ [.fz (Board.d board_), .fz (.tup (List.map Rule.d book_)), .fz (.tup (List.map (eP D.str D.int) standing_)), .fz (.tup (List.map (eP D.int D.int) deeds_)), .ow (.l (List.map (eP D.str D.int) s1.1)), .ow (.t (mapKV kII (eL (eP D.int D.int)) s1.2)), .fz (.tup [.int x2.1, .int x2.2]), j4, j5, j6, j7] _
    refine run_if (te_tst (ev_as (z := .fz (.bl (!(hasK s1.2 x2)))) (ev_hasT (neg := true) (k := x2) kfII kII_inj (ev_var rfl) rfl rfl) (by simp only [Bool.false_xor, Bool.true_xor]))) (fun c8 => ?_) (fun c8 => ?_)
    · have h := cnd_t h c8
      obtain ⟨v9, ev9, h⟩ := bnd h
      obtain ⟨pairs_10, epairs_10, h⟩ := bnd h
      refine run_dput (ev_fc (ar_fr (ev_var rfl) rfl (ar_fr (ev_var rfl) rfl (ar_fr (ev_var rfl) rfl ar_nil))) rfl (C__law_pairs ev9) rfl) rfl rfl (ev_var rfl) rfl rfl (mput_t (ev := (eL (eP D.int D.int))) kfII kII_inj epairs_10) ?_
      show Run _ [.fz (Board.d board_), .fz (.tup (List.map Rule.d book_)), .fz (.tup (List.map (eP D.str D.int) standing_)), .fz (.tup (List.map (eP D.int D.int) deeds_)), .ow (.l (List.map (eP D.str D.int) s1.1)), .ow (.t (mapKV kII (eL (eP D.int D.int)) pairs_10)), .fz (.tup [.int x2.1, .int x2.2]), j4, j5, j6, j7] _
      obtain ⟨v11, ev11, h⟩ := bnd h
      refine run_asg (ev_op (ev_op (ev_var rfl) (ev_op (ev_var rfl) ev_c rfl rfl rfl) rfl rfl (d_ixV ev11)) (ev_neg ev_c) rfl rfl (r_ixm _)) rfl nj4 ?_
      show Run _ [.fz (Board.d board_), .fz (.tup (List.map Rule.d book_)), .fz (.tup (List.map (eP D.str D.int) standing_)), .fz (.tup (List.map (eP D.int D.int) deeds_)), .ow (.l (List.map (eP D.str D.int) s1.1)), .ow (.t (mapKV kII (eL (eP D.int D.int)) pairs_10)), .fz (.tup [.int x2.1, .int x2.2]), .fz (.int v11.bent), j5, j6, j7] _
      refine run_last ?_
      obtain ⟨v12, ev12, h⟩ := bnd h
      obtain ⟨s24, es24, h⟩ := bnd h
      refine run_for es24 (fun (s13 : (List (Str × Int))) ρ => ∃ j15 j16 j17 : Sl, ρ = [.fz (Board.d board_), .fz (.tup (List.map Rule.d book_)), .fz (.tup (List.map (eP D.str D.int) standing_)), .fz (.tup (List.map (eP D.int D.int) deeds_)), .ow (.l (List.map (eP D.str D.int) s13)), .ow (.t (mapKV kII (eL (eP D.int D.int)) pairs_10)), .fz (.tup [.int x2.1, .int x2.2]), .fz (.int v11.bent), j15, j16, j17] ∧ kNR (some j15) = true ∧ kNR (some j16) = true ∧ kNR (some j17) = true) (it_L (ev_getT kfII kII_inj ev12 rfl (ev_var rfl) rfl rfl) rfl) ⟨_, _, _, rfl, nj5, nj6, nj7⟩ ?_ ?_
      · rintro s13 x14 s28 ρ ⟨j15, j16, j17, rfl, nj15, nj16, nj17⟩ h
        refine ⟨_, (tg_tp rfl (tg_cs (tg_nm nj15) (tg_cs (tg_nm nj16) tg_nl))), ?_⟩
        show Run _ [.fz (Board.d board_), .fz (.tup (List.map Rule.d book_)), .fz (.tup (List.map (eP D.str D.int) standing_)), .fz (.tup (List.map (eP D.int D.int) deeds_)), .ow (.l (List.map (eP D.str D.int) s13)), .ow (.t (mapKV kII (eL (eP D.int D.int)) pairs_10)), .fz (.tup [.int x2.1, .int x2.2]), .fz (.int v11.bent), .fz (.int x14.1), .fz (.int x14.2), j17] _
        obtain ⟨v18, ev18, h⟩ := bnd h
        obtain ⟨v19, ev19, h⟩ := bnd h
        refine run_asg (ev_fc (ar_fr (ev_op (ev_own rfl) (ev_var rfl) rfl rfl (d_ixL ev18)) rfl (ar_fr (ev_var rfl) rfl ar_nil)) rfl (C__law_turned ev19) rfl) rfl nj17 ?_
        show Run _ [.fz (Board.d board_), .fz (.tup (List.map Rule.d book_)), .fz (.tup (List.map (eP D.str D.int) standing_)), .fz (.tup (List.map (eP D.int D.int) deeds_)), .ow (.l (List.map (eP D.str D.int) s13)), .ow (.t (mapKV kII (eL (eP D.int D.int)) pairs_10)), .fz (.tup [.int x2.1, .int x2.2]), .fz (.int v11.bent), .fz (.int x14.1), .fz (.int x14.2), .fz (.tup [.str v19.1, .int v19.2])] _
        obtain ⟨v20, ev20, h⟩ := bnd h
        obtain ⟨v21, ev21, h⟩ := bnd h
        obtain ⟨things_22, ethings_22, h⟩ := bnd h
        refine run_setIx (ea := (eP D.str D.int)) (x := v21) (ev_fc (ar_fr (ev_op (ev_own rfl) (ev_var rfl) rfl rfl (d_ixL ev20)) rfl (ar_fr (ev_var rfl) rfl ar_nil)) rfl (C__law_turned ev21) rfl) rfl rfl (ev_var rfl) rfl ethings_22 ?_
        show Run _ [.fz (Board.d board_), .fz (.tup (List.map Rule.d book_)), .fz (.tup (List.map (eP D.str D.int) standing_)), .fz (.tup (List.map (eP D.int D.int) deeds_)), .ow (.l (List.map (eP D.str D.int) things_22)), .ow (.t (mapKV kII (eL (eP D.int D.int)) pairs_10)), .fz (.tup [.int x2.1, .int x2.2]), .fz (.int v11.bent), .fz (.int x14.1), .fz (.int x14.2), .fz (.tup [.str v19.1, .int v19.2])] _
        refine run_last ?_
        obtain ⟨things_23, ethings_23, h⟩ := bnd h
        refine run_setIx (ea := (eP D.str D.int)) (x := v19) (ev_var rfl) rfl rfl (ev_var rfl) rfl ethings_23 ?_
        show Run _ [.fz (Board.d board_), .fz (.tup (List.map Rule.d book_)), .fz (.tup (List.map (eP D.str D.int) standing_)), .fz (.tup (List.map (eP D.int D.int) deeds_)), .ow (.l (List.map (eP D.str D.int) things_23)), .ow (.t (mapKV kII (eL (eP D.int D.int)) pairs_10)), .fz (.tup [.int x2.1, .int x2.2]), .fz (.int v11.bent), .fz (.int x14.1), .fz (.int x14.2), .fz (.tup [.str v19.1, .int v19.2])] _
        exact run_done h (lp_q ⟨.inl rfl, ⟨_, _, _, rfl, rfl, rfl, rfl⟩⟩)
      · rintro ρ ⟨j25, j26, j27, rfl, nj25, nj26, nj27⟩
        exact run_done h (lp_q ⟨.inl rfl, ⟨_, _, _, _, _, rfl, rfl, rfl, nj25, nj26, nj27⟩⟩)
    · have h := cnd_f h c8
      refine run_next ?_
      obtain ⟨v29, ev29, h⟩ := bnd h
      refine run_asg (ev_op (ev_op (ev_var rfl) (ev_op (ev_var rfl) ev_c rfl rfl rfl) rfl rfl (d_ixV ev29)) (ev_neg ev_c) rfl rfl (r_ixm _)) rfl nj4 ?_
      show Run _ [.fz (Board.d board_), .fz (.tup (List.map Rule.d book_)), .fz (.tup (List.map (eP D.str D.int) standing_)), .fz (.tup (List.map (eP D.int D.int) deeds_)), .ow (.l (List.map (eP D.str D.int) s1.1)), .ow (.t (mapKV kII (eL (eP D.int D.int)) s1.2)), .fz (.tup [.int x2.1, .int x2.2]), .fz (.int v29.bent), j5, j6, j7] _
      refine run_last ?_
      obtain ⟨v30, ev30, h⟩ := bnd h
      obtain ⟨s42, es42, h⟩ := bnd h
      refine run_for es42 (fun (s31 : (List (Str × Int))) ρ => ∃ j33 j34 j35 : Sl, ρ = [.fz (Board.d board_), .fz (.tup (List.map Rule.d book_)), .fz (.tup (List.map (eP D.str D.int) standing_)), .fz (.tup (List.map (eP D.int D.int) deeds_)), .ow (.l (List.map (eP D.str D.int) s31)), .ow (.t (mapKV kII (eL (eP D.int D.int)) s1.2)), .fz (.tup [.int x2.1, .int x2.2]), .fz (.int v29.bent), j33, j34, j35] ∧ kNR (some j33) = true ∧ kNR (some j34) = true ∧ kNR (some j35) = true) (it_L (ev_getT kfII kII_inj ev30 rfl (ev_var rfl) rfl rfl) rfl) ⟨_, _, _, rfl, nj5, nj6, nj7⟩ ?_ ?_
      · rintro s31 x32 s46 ρ ⟨j33, j34, j35, rfl, nj33, nj34, nj35⟩ h
        refine ⟨_, (tg_tp rfl (tg_cs (tg_nm nj33) (tg_cs (tg_nm nj34) tg_nl))), ?_⟩
        show Run _ [.fz (Board.d board_), .fz (.tup (List.map Rule.d book_)), .fz (.tup (List.map (eP D.str D.int) standing_)), .fz (.tup (List.map (eP D.int D.int) deeds_)), .ow (.l (List.map (eP D.str D.int) s31)), .ow (.t (mapKV kII (eL (eP D.int D.int)) s1.2)), .fz (.tup [.int x2.1, .int x2.2]), .fz (.int v29.bent), .fz (.int x32.1), .fz (.int x32.2), j35] _
        obtain ⟨v36, ev36, h⟩ := bnd h
        obtain ⟨v37, ev37, h⟩ := bnd h
        refine run_asg (ev_fc (ar_fr (ev_op (ev_own rfl) (ev_var rfl) rfl rfl (d_ixL ev36)) rfl (ar_fr (ev_var rfl) rfl ar_nil)) rfl (C__law_turned ev37) rfl) rfl nj35 ?_
        show Run _ [.fz (Board.d board_), .fz (.tup (List.map Rule.d book_)), .fz (.tup (List.map (eP D.str D.int) standing_)), .fz (.tup (List.map (eP D.int D.int) deeds_)), .ow (.l (List.map (eP D.str D.int) s31)), .ow (.t (mapKV kII (eL (eP D.int D.int)) s1.2)), .fz (.tup [.int x2.1, .int x2.2]), .fz (.int v29.bent), .fz (.int x32.1), .fz (.int x32.2), .fz (.tup [.str v37.1, .int v37.2])] _
        obtain ⟨v38, ev38, h⟩ := bnd h
        obtain ⟨v39, ev39, h⟩ := bnd h
        obtain ⟨things_40, ethings_40, h⟩ := bnd h
        refine run_setIx (ea := (eP D.str D.int)) (x := v39) (ev_fc (ar_fr (ev_op (ev_own rfl) (ev_var rfl) rfl rfl (d_ixL ev38)) rfl (ar_fr (ev_var rfl) rfl ar_nil)) rfl (C__law_turned ev39) rfl) rfl rfl (ev_var rfl) rfl ethings_40 ?_
        show Run _ [.fz (Board.d board_), .fz (.tup (List.map Rule.d book_)), .fz (.tup (List.map (eP D.str D.int) standing_)), .fz (.tup (List.map (eP D.int D.int) deeds_)), .ow (.l (List.map (eP D.str D.int) things_40)), .ow (.t (mapKV kII (eL (eP D.int D.int)) s1.2)), .fz (.tup [.int x2.1, .int x2.2]), .fz (.int v29.bent), .fz (.int x32.1), .fz (.int x32.2), .fz (.tup [.str v37.1, .int v37.2])] _
        refine run_last ?_
        obtain ⟨things_41, ethings_41, h⟩ := bnd h
        refine run_setIx (ea := (eP D.str D.int)) (x := v37) (ev_var rfl) rfl rfl (ev_var rfl) rfl ethings_41 ?_
        show Run _ [.fz (Board.d board_), .fz (.tup (List.map Rule.d book_)), .fz (.tup (List.map (eP D.str D.int) standing_)), .fz (.tup (List.map (eP D.int D.int) deeds_)), .ow (.l (List.map (eP D.str D.int) things_41)), .ow (.t (mapKV kII (eL (eP D.int D.int)) s1.2)), .fz (.tup [.int x2.1, .int x2.2]), .fz (.int v29.bent), .fz (.int x32.1), .fz (.int x32.2), .fz (.tup [.str v37.1, .int v37.2])] _
        exact run_done h (lp_q ⟨.inl rfl, ⟨_, _, _, rfl, rfl, rfl, rfl⟩⟩)
      · rintro ρ ⟨j43, j44, j45, rfl, nj43, nj44, nj45⟩
        exact run_done h (lp_q ⟨.inl rfl, ⟨_, _, _, _, _, rfl, rfl, rfl, nj43, nj44, nj45⟩⟩)
  · rintro ρ ⟨j48, j49, j50, j51, j52, rfl, nj48, nj49, nj50, nj51, nj52⟩
    refine run_last ?_
    exact run_ret h (ev_call (ar_cons (ev_own rfl) ar_nil) rfl rfl) (rq rfl)
noncomputable def t__law_name (style_ : Int) (sign_ : Int) (number_ : Int) : Option Str :=
  (some ("abcdefghijklmnopqrstuvwxyz" : Str)).bind fun letters_1 =>
  (modI (number_ + sign_) (26 : Int)).bind fun v2 =>
  (ixS letters_1 v2).bind fun v3 =>
  (divI number_ (26 : Int)).bind fun v4 =>
  (mulI v4 (5 : Int)).bind fun v5 =>
  (modI (v5 + sign_) (26 : Int)).bind fun v6 =>
  (ixS letters_1 v6).bind fun v7 =>
  (repS v7 (b2i (decide ((25 : Int) < number_)))).bind fun v8 =>
  (catS v3 v8).bind fun v9 =>
  (catS v7 v3).bind fun v10 =>
  (ixS letters_1 sign_).bind fun v11 =>
  (repS v11 (2 : Int)).bind fun v12 =>
  (catS v12 v3).bind fun v13 =>
  (catS v13 v7).bind fun v14 =>
  (catS v3 v7).bind fun v15 =>
  (ixS letters_1 sign_).bind fun v16 =>
  (repS v16 (2 : Int)).bind fun v17 =>
  (catS v15 v17).bind fun v18 =>
  (ixS letters_1 sign_).bind fun v19 =>
  (repS v19 (2 : Int)).bind fun v20 =>
  (catS v7 v20).bind fun v21 =>
  (catS v21 v3).bind fun v22 =>
  (cutSO letters_1 (some sign_) (some (sign_ + (1 : Int)))).bind fun v23 =>
  (catS v23 v7).bind fun v24 =>
  (modI number_ (2 : Int)).bind fun v25 =>
  (repS v3 ((1 : Int) + v25)).bind fun v26 =>
  (catS v24 v26).bind fun v27 =>
  (catL ([v9, v10, v14, v18] : List Str) ([v22, v27] : List Str)).bind fun v28 =>
  (ixI v28 style_).bind fun v29 =>
  some v29
theorem C__law_name {A : Str → Addr} {style_ : Int} {sign_ : Int} {number_ : Int} {r : Str} (h : t__law_name style_ sign_ number_ = some r) : ∃ ρ', F__law_name A [.fz (.int style_), .fz (.int sign_), .fz (.int number_)] = some ((fun (r : Str) => .fz (.str r)) r, ρ') := by
  refine fn_ok (ρ := [.fz (.int style_), .fz (.int sign_), .fz (.int number_)]) (zf := (fun (r : Str) => .fz (.str r))) (x := r) ?_
  unfold t__law_name at h
  unfold d__law_name
  show Run _ [.fz (.int style_), .fz (.int sign_), .fz (.int number_), .un, .un, .un, .un] _
  obtain ⟨letters_1, eletters_1, h⟩ := bnd h
  refine run_asg (ev_let (fun (t : Str) => .fz (.str t)) eletters_1 ev_c) rfl rfl ?_
  show Run _ [.fz (.int style_), .fz (.int sign_), .fz (.int number_), .fz (.str letters_1), .un, .un, .un] _
  obtain ⟨v2, ev2, h⟩ := bnd h
  obtain ⟨v3, ev3, h⟩ := bnd h
  refine run_asg (ev_op (ev_var rfl) (ev_op (ev_op (ev_var rfl) (ev_var rfl) rfl rfl rfl) ev_c rfl rfl (d_mod ev2)) rfl rfl (d_ixS ev3)) rfl rfl ?_
  show Run _ [.fz (.int style_), .fz (.int sign_), .fz (.int number_), .fz (.str letters_1), .fz (.str v3), .un, .un] _
  obtain ⟨v4, ev4, h⟩ := bnd h
  obtain ⟨v5, ev5, h⟩ := bnd h
  obtain ⟨v6, ev6, h⟩ := bnd h
  obtain ⟨v7, ev7, h⟩ := bnd h
  refine run_asg (ev_op (ev_var rfl) (ev_op (ev_op (ev_op (ev_op (ev_var rfl) ev_c rfl rfl (d_div ev4)) ev_c rfl rfl (d_mul ev5)) (ev_var rfl) rfl rfl rfl) ev_c rfl rfl (d_mod ev6)) rfl rfl (d_ixS ev7)) rfl rfl ?_
  show Run _ [.fz (.int style_), .fz (.int sign_), .fz (.int number_), .fz (.str letters_1), .fz (.str v3), .fz (.str v7), .un] _
  obtain ⟨v8, ev8, h⟩ := bnd h
  obtain ⟨v9, ev9, h⟩ := bnd h
  obtain ⟨v10, ev10, h⟩ := bnd h
  obtain ⟨v11, ev11, h⟩ := bnd h
  obtain ⟨v12, ev12, h⟩ := bnd h
  obtain ⟨v13, ev13, h⟩ := bnd h
  obtain ⟨v14, ev14, h⟩ := bnd h
  obtain ⟨v15, ev15, h⟩ := bnd h
  obtain ⟨v16, ev16, h⟩ := bnd h
  obtain ⟨v17, ev17, h⟩ := bnd h
  obtain ⟨v18, ev18, h⟩ := bnd h
  refine run_asg (ev_as (z := .ow (.l (List.map D.str ([v9, v10, v14, v18] : List Str)))) (ev_lst (ar_fr (ev_op (ev_var rfl) (ev_op (ev_var rfl) (ev_call (ar_cons (ev_op (ev_var rfl) ev_c rfl rfl rfl) ar_nil) rfl rfl) rfl rfl (d_repS ev8)) rfl rfl (d_catS ev9)) rfl (ar_fr (ev_op (ev_var rfl) (ev_var rfl) rfl rfl (d_catS ev10)) rfl (ar_fr (ev_op (ev_op (ev_op (ev_op (ev_var rfl) (ev_var rfl) rfl rfl (d_ixS ev11)) ev_c rfl rfl (d_repS ev12)) (ev_var rfl) rfl rfl (d_catS ev13)) (ev_var rfl) rfl rfl (d_catS ev14)) rfl (ar_fr (ev_op (ev_op (ev_var rfl) (ev_var rfl) rfl rfl (d_catS ev15)) (ev_op (ev_op (ev_var rfl) (ev_var rfl) rfl rfl (d_ixS ev16)) ev_c rfl rfl (d_repS ev17)) rfl rfl (d_catS ev18)) rfl ar_nil)))) rfl rfl) rfl) rfl rfl ?_
  show Run _ [.fz (.int style_), .fz (.int sign_), .fz (.int number_), .fz (.str letters_1), .fz (.str v3), .fz (.str v7), .ow (.l (List.map D.str ([v9, v10, v14, v18] : List Str)))] _
  obtain ⟨v19, ev19, h⟩ := bnd h
  obtain ⟨v20, ev20, h⟩ := bnd h
  obtain ⟨v21, ev21, h⟩ := bnd h
  obtain ⟨v22, ev22, h⟩ := bnd h
  obtain ⟨v23, ev23, h⟩ := bnd h
  obtain ⟨v24, ev24, h⟩ := bnd h
  obtain ⟨v25, ev25, h⟩ := bnd h
  obtain ⟨v26, ev26, h⟩ := bnd h
  obtain ⟨v27, ev27, h⟩ := bnd h
  obtain ⟨v28, ev28, h⟩ := bnd h
  refine run_asg (ev_op (ev_own rfl) (ev_as (z := .ow (.l (List.map D.str ([v22, v27] : List Str)))) (ev_lst (ar_fr (ev_op (ev_op (ev_var rfl) (ev_op (ev_op (ev_var rfl) (ev_var rfl) rfl rfl (d_ixS ev19)) ev_c rfl rfl (d_repS ev20)) rfl rfl (d_catS ev21)) (ev_var rfl) rfl rfl (d_catS ev22)) rfl (ar_fr (ev_op (ev_op (ev_sl (ev_var rfl) (fo_some (ev_var rfl)) (fo_some (ev_op (ev_var rfl) ev_c rfl rfl rfl)) rfl (d_slS ev23)) (ev_var rfl) rfl rfl (d_catS ev24)) (ev_op (ev_var rfl) (ev_op ev_c (ev_op (ev_var rfl) ev_c rfl rfl (d_mod ev25)) rfl rfl rfl) rfl rfl (d_repS ev26)) rfl rfl (d_catS ev27)) rfl ar_nil)) rfl rfl) rfl) rfl rfl (d_catL ev28)) rfl rfl ?_
  show Run _ [.fz (.int style_), .fz (.int sign_), .fz (.int number_), .fz (.str letters_1), .fz (.str v3), .fz (.str v7), .ow (.l (List.map D.str v28))] _
  refine run_last ?_
  obtain ⟨v29, ev29, h⟩ := bnd h
  exact run_ret h (ev_op (ev_own rfl) (ev_var rfl) rfl rfl (d_ixL ev29)) (rq rfl)
noncomputable def t__law_names (pot_ : (List Int)) (size_ : Int) : Option ((List Str) × (List Int)) :=
  (t__law_dip pot_ (6 : Int)).bind fun v1 =>
  (t__law_dip v1.2 (26 : Int)).bind fun v2 =>
  (t__law_dip v2.2 (3 : Int)).bind fun v3 =>
  (some (mxI (1 : Int) ((size_ - (1 : Int)) - v3.1))).bind fun some_4 =>
  (t__law_dip v3.2 (4 : Int)).bind fun v5 =>
  (t__law_dip v5.2 (4 : Int)).bind fun v6 =>
  (ixI ([(36 : Int), (36 : Int), ((1 : Int) + v5.1), some_4] : List Int) v6.1).bind fun v7 =>
  (rngO (0 : Int) size_).bind fun v8 =>
  (mapO (fun (x9 : Int) =>
  (modI x9 v7).bind fun v10 =>
  (t__law_name v1.1 v2.1 v10).bind fun v11 =>
  some v11) v8).bind fun v12 =>
  some (v12, v6.2)
theorem C__law_names {A : Str → Addr} {pot_ : (List Int)} {size_ : Int} {r : ((List Str) × (List Int))} (h : t__law_names pot_ size_ = some r) : ∃ ρ', F__law_names A [.rf (.l (List.map D.int pot_)), .fz (.int size_)] = some ((fun (r : ((List Str) × (List Int))) => .ow (.l (List.map D.str r.1))) r, .rf ((fun (r : ((List Str) × (List Int))) => .l (List.map D.int r.2)) r) :: ρ') := by
  refine fn_rf (ρ := [.fz (.int size_)]) (zf := (fun (r : ((List Str) × (List Int))) => .ow (.l (List.map D.str r.1)))) (mf := (fun (r : ((List Str) × (List Int))) => .l (List.map D.int r.2))) (x := r) ?_
  unfold t__law_names at h
  unfold d__law_names
  show Run _ [.rf (.l (List.map D.int pot_)), .fz (.int size_), .un, .un, .un, .un, .un] _
  obtain ⟨v1, ev1, h⟩ := bnd h
  refine run_asg (ev_fcR (ar_cons (ev_lent rfl) (ar_fr ev_c rfl ar_nil)) rfl rfl (C__law_dip ev1) rfl) rfl rfl ?_
  show Run _ [.rf (.l (List.map D.int v1.2)), .fz (.int size_), .fz (.int v1.1), .un, .un, .un, .un] _
  obtain ⟨v2, ev2, h⟩ := bnd h
  refine run_asg (ev_fcR (ar_cons (ev_lent rfl) (ar_fr ev_c rfl ar_nil)) rfl rfl (C__law_dip ev2) rfl) rfl rfl ?_
  show Run _ [.rf (.l (List.map D.int v2.2)), .fz (.int size_), .fz (.int v1.1), .fz (.int v2.1), .un, .un, .un] _
  obtain ⟨v3, ev3, h⟩ := bnd h
  obtain ⟨some_4, esome_4, h⟩ := bnd h
  refine run_asg (ev_let (fun (t : Int) => .fz (.int t)) esome_4 (ev_call (ar_cons ev_c (ar_cons (ev_op (ev_op (ev_var rfl) ev_c rfl rfl rfl) (ev_fcR (ar_cons (ev_lent rfl) (ar_fr ev_c rfl ar_nil)) rfl rfl (C__law_dip ev3) rfl) rfl rfl rfl) ar_nil)) rfl rfl)) rfl rfl ?_
  show Run _ [.rf (.l (List.map D.int v3.2)), .fz (.int size_), .fz (.int v1.1), .fz (.int v2.1), .fz (.int some_4), .un, .un] _
  obtain ⟨v5, ev5, h⟩ := bnd h
  obtain ⟨v6, ev6, h⟩ := bnd h
  obtain ⟨v7, ev7, h⟩ := bnd h
  refine run_asg (ev_op (ev_as (z := .ow (.l (List.map D.int ([(36 : Int), (36 : Int), ((1 : Int) + v5.1), some_4] : List Int)))) (ev_lst (ar_fr ev_c rfl (ar_fr ev_c rfl (ar_fr (ev_op ev_c (ev_fcR (ar_cons (ev_lent rfl) (ar_fr ev_c rfl ar_nil)) rfl rfl (C__law_dip ev5) rfl) rfl rfl rfl) rfl (ar_fr (ev_var rfl) rfl ar_nil)))) rfl rfl) rfl) (ev_fcR (ar_cons (ev_lent rfl) (ar_fr ev_c rfl ar_nil)) rfl rfl (C__law_dip ev6) rfl) rfl rfl (d_ixL ev7)) rfl rfl ?_
  show Run _ [.rf (.l (List.map D.int v6.2)), .fz (.int size_), .fz (.int v1.1), .fz (.int v2.1), .fz (.int some_4), .fz (.int v7), .un] _
  refine run_last ?_
  obtain ⟨v8, ev8, h⟩ := bnd h
  obtain ⟨v12, ev12, h⟩ := bnd h
  exact run_ret h (ev_lcO (eb := D.str) ev12 (it_r1 (ar_fr (ev_var rfl) rfl ar_nil) ev8) (by intro x9 y E; obtain ⟨v10, ev10, E⟩ := bnd E; obtain ⟨v11, ev11, E⟩ := bnd E; obtain rfl := Option.some.inj E; exact ⟨_, _, (tg_nm rfl), ev_fr (ev_fc (ar_fr (ev_var rfl) rfl (ar_fr (ev_var rfl) rfl (ar_fr (ev_op (ev_var rfl) (ev_var rfl) rfl rfl (d_mod ev10)) rfl ar_nil))) rfl (C__law_name ev11) rfl) rfl, rfl⟩) rfl) (rql rfl rfl)
noncomputable def t__law_mixed (pot_ : (List Int)) (things_ : (List Str)) : Option ((List Str) × (List Int)) :=
  (rngO (0 : Int) (things_.length : Int)).bind fun v1 =>
  (mapS (fun (s3 : (List Int) × (List Str)) (x2 : Int) =>
  (t__law_dip s3.1 (s3.2.length : Int)).bind fun v4 =>
  (popAtL s3.2 v4.1).bind fun v5 =>
  some (v5.1, (v4.2, v5.2))) v1 (pot_, things_)).bind fun v6 =>
  some (v6.1, v6.2.1)
theorem C__law_mixed {A : Str → Addr} {pot_ : (List Int)} {things_ : (List Str)} {r : ((List Str) × (List Int))} (h : t__law_mixed pot_ things_ = some r) : ∃ ρ', F__law_mixed A [.rf (.l (List.map D.int pot_)), .fz (.lst (List.map D.str things_))] = some ((fun (r : ((List Str) × (List Int))) => .ow (.l (List.map D.str r.1))) r, .rf ((fun (r : ((List Str) × (List Int))) => .l (List.map D.int r.2)) r) :: ρ') := by
  refine fn_rf (ρ := [.fz (.lst (List.map D.str things_))]) (zf := (fun (r : ((List Str) × (List Int))) => .ow (.l (List.map D.str r.1)))) (mf := (fun (r : ((List Str) × (List Int))) => .l (List.map D.int r.2))) (x := r) ?_
  unfold t__law_mixed at h
  unfold d__law_mixed
  show Run _ [.rf (.l (List.map D.int pot_)), .fz (.lst (List.map D.str things_)), .un, .un] _
  refine run_asg (ev_call (ar_cons (ev_var rfl) ar_nil) rfl rfl) rfl rfl ?_
  show Run _ [.rf (.l (List.map D.int pot_)), .fz (.lst (List.map D.str things_)), .ow (.l (List.map D.str things_)), .un] _
  refine run_last ?_
  obtain ⟨v1, ev1, h⟩ := bnd h
  obtain ⟨v6, ev6, h⟩ := bnd h
  exact run_ret h (ev_lcS (eb := D.str) (st := fun (s3 : (List Int) × (List Str)) => [.rf (.l (List.map D.int s3.1)), .fz (.lst (List.map D.str things_)), .ow (.l (List.map D.str s3.2)), .un]) ev6 (it_r1 (ar_fr (ev_call (ar_cons (ev_own rfl) ar_nil) rfl (d_lenL _)) rfl ar_nil) ev1) rfl (by intro s3 x2 y E; obtain ⟨v4, ev4, E⟩ := bnd E; obtain ⟨v5, ev5, E⟩ := bnd E; obtain rfl := Option.some.inj E; exact ⟨_, _, (tg_nm rfl), ev_fr (ev_mt rfl (ar_fr (ev_fcR (ar_cons (ev_lent rfl) (ar_fr (ev_call (ar_cons (ev_own rfl) ar_nil) rfl (d_lenL _)) rfl ar_nil)) rfl rfl (C__law_dip ev4) rfl) rfl ar_nil) rfl rfl (d_popAt ev5)) rfl, rfl⟩) rfl) (rql rfl rfl)
noncomputable def t__law_standing (pot_ : (List Int)) (size_ : Int) : Option ((List (Str × Int)) × (List Int)) :=
  (t__law_names pot_ size_).bind fun v1 =>
  (t__law_mixed v1.2 v1.1).bind fun v2 =>
  (mapS (fun (s4 : (List Int)) (x3 : Str) =>
  (t__law_dip s4 (2 : Int)).bind fun v5 =>
  some ((x3, v5.1), v5.2)) v2.1 v2.2).bind fun v6 =>
  some (v6.1, v6.2)
theorem C__law_standing {A : Str → Addr} {pot_ : (List Int)} {size_ : Int} {r : ((List (Str × Int)) × (List Int))} (h : t__law_standing pot_ size_ = some r) : ∃ ρ', F__law_standing A [.rf (.l (List.map D.int pot_)), .fz (.int size_)] = some ((fun (r : ((List (Str × Int)) × (List Int))) => .fz (.tup (List.map (eP D.str D.int) r.1))) r, .rf ((fun (r : ((List (Str × Int)) × (List Int))) => .l (List.map D.int r.2)) r) :: ρ') := by
  refine fn_rf (ρ := [.fz (.int size_)]) (zf := (fun (r : ((List (Str × Int)) × (List Int))) => .fz (.tup (List.map (eP D.str D.int) r.1)))) (mf := (fun (r : ((List (Str × Int)) × (List Int))) => .l (List.map D.int r.2))) (x := r) ?_
  unfold t__law_standing at h
  unfold d__law_standing
  show Run _ [.rf (.l (List.map D.int pot_)), .fz (.int size_), .un, .un] _
  obtain ⟨v1, ev1, h⟩ := bnd h
  obtain ⟨v2, ev2, h⟩ := bnd h
  refine run_asg (ev_fcR (ar_cons (ev_lent rfl) (ar_fr (ev_fcR (ar_cons (ev_lent rfl) (ar_fr (ev_var rfl) rfl ar_nil)) rfl rfl (C__law_names ev1) rfl) rfl ar_nil)) rfl rfl (C__law_mixed ev2) rfl) rfl rfl ?_
  show Run _ [.rf (.l (List.map D.int v2.2)), .fz (.int size_), .ow (.l (List.map D.str v2.1)), .un] _
  refine run_last ?_
  obtain ⟨v6, ev6, h⟩ := bnd h
  exact run_ret h (ev_call (ar_cons (ev_lcS (eb := (eP D.str D.int)) (st := fun (s4 : (List Int)) => [.rf (.l (List.map D.int s4)), .fz (.int size_), .fz (.lst (List.map D.str v2.1)), .un]) ev6 (it_L (ev_own rfl) rfl) rfl (by intro s4 x3 y E; obtain ⟨v5, ev5, E⟩ := bnd E; obtain rfl := Option.some.inj E; exact ⟨_, _, (tg_nm rfl), ev_fr (ev_tup (ar_fr (ev_var rfl) rfl (ar_fr (ev_fcR (ar_cons (ev_lent rfl) (ar_fr ev_c rfl ar_nil)) rfl rfl (C__law_dip ev5) rfl) rfl ar_nil)) rfl rfl) rfl, rfl⟩) rfl) ar_nil) rfl rfl) (rql rfl rfl)
noncomputable def t__law_many_names (pot_ : (List Int)) : Option ((List Str) × (List Int)) :=
  (some ("abcdefghijklmnopqrstuvwxyz" : Str)).bind fun letters_1 =>
  (mapO (fun (x2 : Str) =>
  (catS x2 ("zz" : Str)).bind fun v3 =>
  some v3) (signs letters_1)).bind fun v4 =>
  (signsO letters_1).bind fun v5 =>
  (catL v4 v5).bind fun v6 =>
  (mapO (fun (x7 : Str) =>
  (catS ("q" : Str) x7).bind fun v8 =>
  (catS v8 ("ab" : Str)).bind fun v9 =>
  some v9) (signs letters_1)).bind fun v10 =>
  (catL v6 v10).bind fun v11 =>
  (t__law_dip pot_ (40 : Int)).bind fun v12 =>
  (rngO (0 : Int) ((1 : Int) + v12.1)).bind fun v13 =>
  (mapS (fun (s15 : (List Int) × (List Str)) (x14 : Int) =>
  (t__law_dip s15.1 (s15.2.length : Int)).bind fun v16 =>
  (popAtL s15.2 v16.1).bind fun v17 =>
  some (v17.1, (v16.2, v17.2))) v13 (v12.2, v11)).bind fun v18 =>
  some (v18.1, v18.2.1)
theorem C__law_many_names {A : Str → Addr} {pot_ : (List Int)} {r : ((List Str) × (List Int))} (h : t__law_many_names pot_ = some r) : ∃ ρ', F__law_many_names A [.rf (.l (List.map D.int pot_))] = some ((fun (r : ((List Str) × (List Int))) => .ow (.l (List.map D.str r.1))) r, .rf ((fun (r : ((List Str) × (List Int))) => .l (List.map D.int r.2)) r) :: ρ') := by
  refine fn_rf (ρ := []) (zf := (fun (r : ((List Str) × (List Int))) => .ow (.l (List.map D.str r.1)))) (mf := (fun (r : ((List Str) × (List Int))) => .l (List.map D.int r.2))) (x := r) ?_
  unfold t__law_many_names at h
  unfold d__law_many_names
  show Run _ [.rf (.l (List.map D.int pot_)), .un, .un, .un, .un] _
  obtain ⟨letters_1, eletters_1, h⟩ := bnd h
  refine run_asg (ev_let (fun (t : Str) => .fz (.str t)) eletters_1 ev_c) rfl rfl ?_
  show Run _ [.rf (.l (List.map D.int pot_)), .fz (.str letters_1), .un, .un, .un] _
  obtain ⟨v4, ev4, h⟩ := bnd h
  obtain ⟨v5, ev5, h⟩ := bnd h
  obtain ⟨v6, ev6, h⟩ := bnd h
  obtain ⟨v10, ev10, h⟩ := bnd h
  obtain ⟨v11, ev11, h⟩ := bnd h
  refine run_asg (ev_op (ev_op (ev_lcO (eb := D.str) ev4 (it_S (ev_var rfl) rfl) (by intro x2 y E; obtain ⟨v3, ev3, E⟩ := bnd E; obtain rfl := Option.some.inj E; exact ⟨_, _, (tg_nm rfl), ev_fr (ev_op (ev_var rfl) ev_c rfl rfl (d_catS ev3)) rfl, rfl⟩) rfl) (ev_call (ar_cons (ev_var rfl) ar_nil) rfl (d_listS ev5)) rfl rfl (d_catL ev6)) (ev_lcO (eb := D.str) ev10 (it_S (ev_var rfl) rfl) (by intro x7 y E; obtain ⟨v8, ev8, E⟩ := bnd E; obtain ⟨v9, ev9, E⟩ := bnd E; obtain rfl := Option.some.inj E; exact ⟨_, _, (tg_nm rfl), ev_fr (ev_op (ev_op ev_c (ev_var rfl) rfl rfl (d_catS ev8)) ev_c rfl rfl (d_catS ev9)) rfl, rfl⟩) rfl) rfl rfl (d_catL ev11)) rfl rfl ?_
  show Run _ [.rf (.l (List.map D.int pot_)), .fz (.str letters_1), .ow (.l (List.map D.str v11)), .un, .un] _
  refine run_last ?_
  obtain ⟨v12, ev12, h⟩ := bnd h
  obtain ⟨v13, ev13, h⟩ := bnd h
  obtain ⟨v18, ev18, h⟩ := bnd h
  exact run_ret h (ev_lcS (eb := D.str) (st := fun (s15 : (List Int) × (List Str)) => [.rf (.l (List.map D.int s15.1)), .fz (.str letters_1), .ow (.l (List.map D.str s15.2)), .un, .un]) ev18 (it_r1 (ar_fr (ev_op ev_c (ev_fcR (ar_cons (ev_lent rfl) (ar_fr ev_c rfl ar_nil)) rfl rfl (C__law_dip ev12) rfl) rfl rfl rfl) rfl ar_nil) ev13) rfl (by intro s15 x14 y E; obtain ⟨v16, ev16, E⟩ := bnd E; obtain ⟨v17, ev17, E⟩ := bnd E; obtain rfl := Option.some.inj E; exact ⟨_, _, (tg_nm rfl), ev_fr (ev_mt rfl (ar_fr (ev_fcR (ar_cons (ev_lent rfl) (ar_fr (ev_call (ar_cons (ev_own rfl) ar_nil) rfl (d_lenL _)) rfl ar_nil)) rfl rfl (C__law_dip ev16) rfl) rfl ar_nil) rfl rfl (d_popAt ev17)) rfl, rfl⟩) rfl) (rql rfl rfl)
end G
namespace G
open PySem PySem.Spec L2 DL
abbrev eSt (st : List (Str × Int)) : D := .tup (List.map (eP D.str D.int) st)
abbrev eLg (l : List (Int × Int)) : D := .tup (List.map (eP D.int D.int) l)
abbrev Kept := List (Str × List (Str × Int))
abbrev Logs := List (Str × List (Int × Int))
abbrev yO (A : Str → Addr) (b : Board) (bk : List Rule) (q1 q2 : Addr) (busy : D) : Mu := .ob (A "Yard") ["board", "book", "limit", "kept", "noted", "busy"] [Board.d b, .tup (List.map Rule.d bk), .int 150000, .ptr q1, .ptr q2, busy]
abbrev yK (q : Addr) (k : Kept) : Mu := .at q (mapKV kS eSt k)
abbrev yL (q : Addr) (l : Logs) : Mu := .at q (mapKV kS eLg l)
section
variable {A : Str → Addr} {b : Board} {bk : List Rule} {q1 q2 : Addr} {busy : D} {k : Kept} {l : Logs} {nm : Str}
theorem M_put {st : List (Str × Int)} (hk : k.length ≤ lim) (hl : l.length ≤ lim) :
    F_Yard_put A [.rf (yO A b bk q1 q2 busy), .fz (.str nm), .fz (eSt st), .rf (yK q1 k), .rf (yL q2 l)] = some (.fz .non, [.rf (yO A b bk q1 q2 busy), .fz (.str nm), .fz (eSt st), .rf (yK q1 (putK' k nm st)), .rf (yL q2 (putK' l nm []))]) := by
  refine fn_eq ?_
  unfold d_Yard_put
  show Run _ [.rf (yO A b bk q1 q2 busy), .fz (.str nm), .fz (eSt st), .rf (yK q1 k), .rf (yL q2 l)] _
  refine run_dputE (ev_var rfl) rfl (ev_pt rfl rfl rfl) (ev_var rfl) rfl (mput_at (ev := eSt) kfS kS_inj hk) ?_
  show Run _ [.rf (yO A b bk q1 q2 busy), .fz (.str nm), .fz (eSt st), .rf (yK q1 (putK' k nm st)), .rf (yL q2 l)] _
  refine run_last ?_
  refine run_dputE (ev_tup ar_nil rfl rfl) rfl (ev_pt rfl rfl rfl) (ev_var rfl) rfl (mput_at (ev := eLg) (v := []) kfS kS_inj hl) ?_
  exact run_nxE rfl
theorem M_standing {st : List (Str × Int)} (g : getK k nm = some st) :
    F_Yard_standing A [.rf (yO A b bk q1 q2 busy), .fz (.str nm), .rf (yK q1 k), .rf (yL q2 l)] = some (.fz (eSt st), [.rf (yO A b bk q1 q2 busy), .fz (.str nm), .rf (yK q1 k), .rf (yL q2 l)]) := by
  refine fn_eq ?_
  unfold d_Yard_standing
  show Run _ [.rf (yO A b bk q1 q2 busy), .fz (.str nm), .rf (yK q1 k), .rf (yL q2 l)] _
  refine run_if (te_tst (ev_viaIn (ev_var rfl) (ev_pt rfl rfl rfl) rfl (mget_at (ev := eSt) kfS kS_inj k nm))) (fun h => ?_) fun _ => ?_
  · rw [g] at h; cases h
  refine run_next (run_last ?_)
  refine run_rtE (ev_viaGet (ev_pt rfl rfl rfl) rfl (ev_var rfl) ((mget_at (ev := eSt) kfS kS_inj k nm).trans (by rw [g]; rfl))) rfl rfl
theorem M_log {lg : List (Int × Int)} (g0 : hasK k nm = true) (g : getK l nm = some lg) :
    F_Yard_log A [.rf (yO A b bk q1 q2 busy), .fz (.str nm), .rf (yK q1 k), .rf (yL q2 l)] = some (.fz (eLg lg), [.rf (yO A b bk q1 q2 busy), .fz (.str nm), .rf (yK q1 k), .rf (yL q2 l)]) := by
  refine fn_eq ?_
  unfold d_Yard_log
  show Run _ [.rf (yO A b bk q1 q2 busy), .fz (.str nm), .rf (yK q1 k), .rf (yL q2 l)] _
  refine run_if (te_tst (ev_viaIn (ev_var rfl) (ev_pt rfl rfl rfl) rfl (mget_at (ev := eSt) kfS kS_inj k nm))) (fun h => ?_) fun _ => ?_
  · rw [Option.isSome_map, has_get, g0] at h; cases h
  refine run_next (run_last ?_)
  refine run_rtE (ev_viaGet (ev_pt rfl rfl rfl) rfl (ev_var rfl) ((mget_at (ev := eLg) kfS kS_inj l nm).trans (by rw [g]; rfl))) rfl rfl
theorem M_names (hk : k.length < 64) : F_Yard_names A [.rf (yO A b bk q1 q2 busy), .rf (yK q1 k), .rf (yL q2 l)] = some (.ow (.l ((sortS (k.map (·.1))).map .str)), [.rf (yO A b bk q1 q2 busy), .rf (yK q1 k), .rf (yL q2 l)]) := by
  refine fn_eq ?_
  unfold d_Yard_names
  show Run _ [.rf (yO A b bk q1 q2 busy), .rf (yK q1 k), .rf (yL q2 l)] _
  refine run_last ?_
  exact run_rtE (ev_sortK (ev_pt rfl rfl rfl) rfl (ktxt_map k) (by rw [List.length_map]; exact hk)) rfl rfl
theorem M_stands : F_Yard_stands A [.rf (yO A b bk q1 q2 busy), .rf (yK q1 k), .rf (yL q2 l)] = some (.ow (.k (mapKV kS eSt k)), [.rf (yO A b bk q1 q2 busy), .rf (yK q1 k), .rf (yL q2 l)]) := by
  refine fn_eq ?_
  unfold d_Yard_stands
  show Run _ [.rf (yO A b bk q1 q2 busy), .rf (yK q1 k), .rf (yL q2 l)] _
  refine run_last ?_
  exact run_rtE (ev_dictD (ev_pt rfl rfl rfl) rfl) rfl rfl
theorem M_len : F_Yard___len__ A [.rf (yO A b bk q1 q2 busy), .rf (yK q1 k), .rf (yL q2 l)] = some (.fz (.int (k.length : Nat)), [.rf (yO A b bk q1 q2 busy), .rf (yK q1 k), .rf (yL q2 l)]) := by
  refine fn_eq ?_
  unfold d_Yard___len__
  show Run _ [.rf (yO A b bk q1 q2 busy), .rf (yK q1 k), .rf (yL q2 l)] _
  refine run_last ?_
  refine run_rtE (z := .fz (.int (k.length : Nat))) (r := .fz (.int (k.length : Nat))) (ev_as (ev_lenD (ev_pt rfl rfl rfl) rfl) ?_) rfl rfl
  rw [len_mapKV]
theorem M_worked {st st' : List (Str × Int)} {ds lg : List (Int × Int)} (g : getK k nm = some st) (h : t_done b bk st ds false = some st') (hk : k.length ≤ lim) (hl : l.length ≤ lim) (g' : getK (putK' k nm st') nm = some st') :
    F_Yard_worked A [.rf (yO A b bk q1 q2 busy), .fz (.str nm), .fz (eLg ds), .fz (eLg lg), .rf (yK q1 k), .rf (yL q2 l)] = some (.fz (eSt st'), [.rf (yO A b bk q1 q2 .non), .fz (.str nm), .fz (eLg ds), .fz (eLg lg), .rf (yK q1 (putK' k nm st')), .rf (yL q2 (putK' l nm lg))]) := by
  refine fn_eq ?_
  unfold d_Yard_worked
  show Run _ [.rf (yO A b bk q1 q2 busy), .fz (.str nm), .fz (eLg ds), .fz (eLg lg), .rf (yK q1 k), .rf (yL q2 l)] _
  refine run_fin (ρ1 := [.rf (yO A b bk q1 q2 (.str nm)), .fz (.str nm), .fz (eLg ds), .fz (eLg lg), .rf (yK q1 (putK' k nm st')), .rf (yL q2 (putK' l nm lg))]) (ρ2 := [.rf (yO A b bk q1 q2 .non), .fz (.str nm), .fz (eLg ds), .fz (eLg lg), .rf (yK q1 (putK' k nm st')), .rf (yL q2 (putK' l nm lg))]) (run_nx ?_) (run_nx ?_) ?_
  · refine run_ost (ev_var rfl) rfl rfl rfl rfl ?_
    show Run _ [.rf (yO A b bk q1 q2 (.str nm)), .fz (.str nm), .fz (eLg ds), .fz (eLg lg), .rf (yK q1 k), .rf (yL q2 l)] _
    refine run_dputE (ev_fc (ar_cat (ar_fr (ev_ob rfl rfl) rfl (ar_fr (ev_ob rfl rfl) rfl (ar_fr (ev_viaGet (ev_pt rfl rfl rfl) rfl (ev_var rfl) ((mget_at (ev := eSt) kfS kS_inj k nm).trans (by rw [g]; rfl))) rfl (ar_fr (ev_var rfl) rfl ar_nil)))) ar_kon) rfl (C_done h) rfl) rfl (ev_pt rfl rfl rfl) (ev_var rfl) rfl (mput_at (ev := eSt) kfS kS_inj hk) ?_
    show Run _ [.rf (yO A b bk q1 q2 (.str nm)), .fz (.str nm), .fz (eLg ds), .fz (eLg lg), .rf (yK q1 (putK' k nm st')), .rf (yL q2 l)] _
    refine run_last ?_
    refine run_dputE (ev_var rfl) rfl (ev_pt rfl rfl rfl) (ev_var rfl) rfl (mput_at (ev := eLg) kfS kS_inj hl) ?_
    exact ⟨.nx, _, rfl, rfl, rfl⟩
  · refine run_last ?_
    refine run_ost ev_c rfl rfl rfl rfl ?_
    exact ⟨.nx, _, rfl, rfl, rfl⟩
  refine run_last ?_
  exact run_rtE (ev_viaGet (ev_pt rfl rfl rfl) rfl (ev_var rfl) ((mget_at (ev := eSt) kfS kS_inj _ nm).trans (by rw [g']; rfl))) rfl rfl
theorem M_need_room {lg : List (Int × Int)} {m : Int} (g : getK l nm = some lg) (h : (lg.length : Int) + m ≤ 150000) :
    F_Yard_need_room A [.rf (yO A b bk q1 q2 busy), .fz (.str nm), .fz (.int m), .rf (yK q1 k), .rf (yL q2 l)] = some (.fz .non, [.rf (yO A b bk q1 q2 busy), .fz (.str nm), .fz (.int m), .rf (yK q1 k), .rf (yL q2 l)]) := by
  refine fn_eq ?_
  unfold d_Yard_need_room
  show Run _ [.rf (yO A b bk q1 q2 busy), .fz (.str nm), .fz (.int m), .rf (yK q1 k), .rf (yL q2 l), .un] _
  refine run_asg (z := .fz (.int ((lg.length : Int) + m - 150000))) (ev_op (ev_op (ev_call (ar_cons (ev_viaGet (ev_pt rfl rfl rfl) rfl (ev_var rfl) ((mget_at (ev := eLg) kfS kS_inj l nm).trans (by rw [g]; rfl))) ar_nil) rfl (d_lenV _)) (ev_var rfl) rfl rfl rfl) (ev_ob rfl rfl) rfl rfl rfl) rfl rfl ?_
  show Run _ [.rf (yO A b bk q1 q2 busy), .fz (.str nm), .fz (.int m), .rf (yK q1 k), .rf (yL q2 l), .fz (.int ((lg.length : Int) + m - 150000))] _
  refine run_last ?_
  refine run_if (te_tst (ev_op (ev_var rfl) ev_c rfl rfl rfl)) (fun h0 => ?_) fun _ => ?_
  · have := of_decide_eq_true h0; omega
  exact run_next (run_nxE rfl)
theorem M_do {st st' : List (Str × Int)} {ds lg lg' : List (Int × Int)} {back : Bool} (g : getK k nm = some st) (g1 : getK l nm = some lg) (hn : t_need_deeds b bk ds = some ()) (hr : (lg.length : Int) + ds.length ≤ 150000) (hc : catL lg (cond back ds.reverse ds) = some lg') (h : t_done b bk st (cond back ds.reverse ds) false = some st') (hk : k.length ≤ lim) (hl : l.length ≤ lim) (g' : getK (putK' k nm st') nm = some st') :
    F_Yard_do A [.rf (yO A b bk q1 q2 busy), .fz (.str nm), .fz (eLg ds), .fz (.bl back), .rf (yK q1 k), .rf (yL q2 l)] = some (.fz (eSt st'), [.rf (yO A b bk q1 q2 .non), .fz (.str nm), .fz (eLg ds), .fz (.bl back), .rf (yK q1 (putK' k nm st')), .rf (yL q2 (putK' l nm lg'))]) := by
  refine fn_eq ?_
  unfold d_Yard_do
  have g0 : hasK k nm = true := by rw [← has_get, g]; rfl
  show Run _ [.rf (yO A b bk q1 q2 busy), .fz (.str nm), .fz (eLg ds), .fz (.bl back), .rf (yK q1 k), .rf (yL q2 l), .un, .un] _
  refine run_asg (ev_methO rfl (ar_cat (ar_fr (ev_var rfl) rfl ar_nil) ar_kon) (show List.Nodup [0, 4, 5] by decide) rfl (M_log g0 g1) rfl rfl) rfl rfl ?_
  show Run _ [.rf (yO A b bk q1 q2 busy), .fz (.str nm), .fz (eLg ds), .fz (.bl back), .rf (yK q1 k), .rf (yL q2 l), .fz (eLg lg), .un] _
  refine run_drop (ev_fc (ar_fr (ev_ob rfl rfl) rfl (ar_fr (ev_ob rfl rfl) rfl (ar_fr (ev_var rfl) rfl ar_nil))) rfl (C_need_deeds hn) rfl) ?_
  refine run_drop (ev_methO rfl (ar_cat (ar_fr (ev_var rfl) rfl (ar_fr (ev_call (ar_cons (ev_var rfl) ar_nil) rfl (d_lenV _)) rfl ar_nil)) ar_kon) (show List.Nodup [0, 4, 5] by decide) rfl (M_need_room g1 hr) rfl rfl) ?_
  show Run _ [.rf (yO A b bk q1 q2 busy), .fz (.str nm), .fz (eLg ds), .fz (.bl back), .rf (yK q1 k), .rf (yL q2 l), .fz (eLg lg), .un] _
  refine run_asg (ev_if (fun x => .fz (eLg x)) (te_tst (ev_var rfl)) (ev_back (ev_call (ar_cons (ev_var rfl) ar_nil) rfl rfl) rfl) (ev_call (ar_cons (ev_var rfl) ar_nil) rfl rfl)) rfl rfl ?_
  show Run _ [.rf (yO A b bk q1 q2 busy), .fz (.str nm), .fz (eLg ds), .fz (.bl back), .rf (yK q1 k), .rf (yL q2 l), .fz (eLg lg), .fz (eLg (cond back ds.reverse ds))] _
  refine run_last ?_
  exact run_rtE (ev_methO rfl (ar_cat (ar_fr (ev_var rfl) rfl (ar_fr (ev_var rfl) rfl (ar_fr (ev_op (ev_var rfl) (ev_var rfl) rfl rfl (d_catV hc)) rfl ar_nil))) ar_kon) (show List.Nodup [0, 4, 5] by decide) rfl (M_worked g h hk hl g') rfl rfl) rfl rfl
end
end G
set_option maxHeartbeats 1000000
set_option pp.maxSteps 1500
namespace DL
open PySem PySem.Spec L2
inductive Shw : Nat → Nat → D → Prop
  | non (n w : Nat) : Shw n w .non
  | bl (n w : Nat) (b : Bool) : Shw n w (.bl b)
  | int {n w : Nat} {i : Int} (h : i.natAbs < 10 ^ 12) (hw : 40 ≤ w) : Shw n w (.int i)
  | str {n w : Nat} {s : Str} (h : StrGood s) (hw : s.length ≤ w) : Shw n w (.str s)
  | tup {n w W : Nat} {xs : List D} (h : ∀ d ∈ xs, Shw n w d) (hw : xs.length * (w + 1) ≤ W) : Shw (n + 1) W (.tup xs)
  | lst {n w W : Nat} {xs : List D} (h : ∀ d ∈ xs, Shw n w d) (hw : xs.length * (w + 1) ≤ W) : Shw (n + 1) W (.lst xs)
theorem Shw.fit {n w : Nat} {d : D} (h : Shw n w d) : Fit n d := by
  induction h with
  | non n w => exact .non n
  | bl n w b => exact .bl n b
  | int h hw => exact .int _ _
  | str h hw => exact .str _ h
  | tup h hw ih => exact .tup ih
  | lst h hw ih => exact .lst ih
theorem pys_showable : ∀ (xs : List D), (∀ d ∈ xs, d.py.showable = true) → PyData.showableAll (D.pys xs) = true
  | [], _ => by rw [D.pys]; rfl
  | x :: xs, h => by
    rw [D.pys, PyData.showableAll, h x (by simp), pys_showable xs fun d hd => h d (by simp [hd])]
    rfl
theorem pys_noDict : ∀ (xs : List D), (∀ d ∈ xs, d.py.hasDict = false) → PyData.hasDictAll (D.pys xs) = false
  | [], _ => by rw [D.pys]; rfl
  | x :: xs, h => by
    rw [D.pys, PyData.hasDictAll, h x (by simp), pys_noDict xs fun d hd => h d (by simp [hd])]
    rfl
theorem pys_leaves : ∀ (xs : List D), (∀ d ∈ xs, d.py.leavesShort 13 = true) → PyData.leavesShortAll 13 (D.pys xs) = true
  | [], _ => by rw [D.pys]; rfl
  | x :: xs, h => by
    rw [D.pys, PyData.leavesShortAll, h x (by simp), pys_leaves xs fun d hd => h d (by simp [hd])]
    rfl
theorem pys_weight {w : Nat} : ∀ (xs : List D), (∀ d ∈ xs, d.py.weight ≤ w) → PyData.weightAll (D.pys xs) ≤ xs.length * (w + 1)
  | [], _ => by rw [D.pys]; exact Nat.zero_le _
  | x :: xs, h => by
    have h1 := h x (by simp)
    have h2 := pys_weight xs fun d hd => h d (by simp [hd])
    rw [D.pys, PyData.weightAll, List.length_cons, Nat.add_mul]
    omega
theorem Shw.parts {n w : Nat} {d : D} (h : Shw n w d) : d.py.showable = true ∧ d.py.hasDict = false ∧ d.py.leavesShort 13 = true ∧ d.py.weight ≤ w := by
  induction h with
  | non n w => rw [D.py]; exact ⟨rfl, rfl, rfl, Nat.zero_le _⟩
  | bl n w b => rw [D.py]; exact ⟨rfl, rfl, rfl, Nat.zero_le _⟩
  | @int n w i h hw =>
    have h40 : i.natAbs < 2 ^ 40 := Nat.lt_of_lt_of_le h (by decide)
    have hl : i.natAbs.log2 < 40 := PySem.Flt.log2_lt_of (by decide) h40
    rw [D.py]
    refine ⟨?_, rfl, ?_, ?_⟩
    · rw [PyData.showable]
      exact decide_eq_true (by omega)
    · rw [PyData.leavesShort]
      exact decide_eq_true (PyData.shown_int_le h)
    · rw [PyData.weight]
      split <;> omega
  | @str n w s h hw =>
    rw [D.py]
    refine ⟨rfl, rfl, ?_, ?_⟩
    · have h' : s.cps.all (· < 0x110000) = true := h
      rw [← Array.all_toList, List.all_eq_true] at h'
      simp only [decide_eq_true_eq] at h'
      rw [PyData.leavesShort, List.all_eq_true]
      intro c hc
      have := h' c hc
      exact decide_eq_true (by omega)
    · rw [PyData.weight]
      exact hw
  | @tup n w W xs h hw ih =>
    rw [D.py, PyData.showable, PyData.hasDict, PyData.leavesShort, PyData.weight]
    exact ⟨pys_showable xs fun d hd => (ih d hd).1, pys_noDict xs fun d hd => (ih d hd).2.1, pys_leaves xs fun d hd => (ih d hd).2.2.1, Nat.le_trans (pys_weight xs fun d hd => (ih d hd).2.2.2) hw⟩
  | @lst n w W xs h hw ih =>
    rw [D.py, PyData.showable, PyData.hasDict, PyData.leavesShort, PyData.weight]
    exact ⟨pys_showable xs fun d hd => (ih d hd).1, pys_noDict xs fun d hd => (ih d hd).2.1, pys_leaves xs fun d hd => (ih d hd).2.2.1, Nat.le_trans (pys_weight xs fun d hd => (ih d hd).2.2.2) hw⟩
end DL
namespace DL
open PySem PySem.Spec L2
section
variable {α β γ S R : Type}
theorem bs {a : α} {f : α → Option β} : (some a).bind f = f a := id rfl
theorem ct {a b : α} : cond true a b = a := id rfl
theorem cf {a b : α} : cond false a b = b := id rfl
theorem ixI_nat {xs : List α} {j : Nat} {v : α} (h : xs[j]? = some v) : ixI xs (j : Nat) = some v := atI_nat h
theorem ixI_of {xs : List α} {i : Int} {v : α} (h0 : 0 ≤ i) (h : xs[i.toNat]? = some v) : ixI xs i = some v := by
  have e : i = ((i.toNat : Nat) : Int) := by omega
  rw [e]
  exact ixI_nat h
theorem ixI_lt {xs : List α} {i : Int} (h0 : 0 ≤ i) (h : i < xs.length) : ∃ v, ixI xs i = some v ∧ v ∈ xs ∧ xs[i.toNat]? = some v := by
  have hl : i.toNat < xs.length := by omega
  exact ⟨xs[i.toNat], ixI_of h0 (List.getElem?_eq_getElem hl), List.getElem_mem hl, List.getElem?_eq_getElem hl⟩
theorem ixI_0 (a : α) (l : List α) : ixI (a :: l) 0 = some a := ixI_nat (j := 0) rfl
theorem ixI_1 (a b : α) (l : List α) : ixI (a :: b :: l) 1 = some b := ixI_nat (j := 1) rfl
theorem ixI_2 (a b c : α) (l : List α) : ixI (a :: b :: c :: l) 2 = some c := ixI_nat (j := 2) rfl
theorem ixI_3 (a b c d : α) (l : List α) : ixI (a :: b :: c :: d :: l) 3 = some d := ixI_nat (j := 3) rfl
theorem setL_of {xs : List α} {i : Int} {v : α} (h0 : 0 ≤ i) (h : i < xs.length) : setL xs i v = some (xs.set i.toNat v) := by
  unfold setL ixN
  rw [if_pos h0, if_pos h]
  rfl
theorem mulI_ok {i j : Int} {a b : Nat} (ha : i.natAbs < 2 ^ a) (hb : j.natAbs < 2 ^ b) (h0 : 0 < a) (h1 : 0 < b) (h : a + b ≤ 1000000) : mulI i j = some (i * j) := by
  have := wide_mul ha hb h0 h1 h
  unfold CMulW at this
  unfold mulI
  rw [if_pos this]
theorem mulI_s {i j : Int} (ha : i.natAbs < 2 ^ 64) (hb : j.natAbs < 2 ^ 64) : mulI i j = some (i * j) := mulI_ok ha hb (by decide) (by decide) (by decide)
theorem divI_ok {i j : Int} (h0 : 0 < j) (h : j.natAbs.log2 < 9000) : divI i j = some (i / j) := by
  unfold divI
  rw [if_pos ⟨h0, h⟩]
theorem log_s {m : Int} (h0 : 0 < m) (h : m < 2 ^ 8000) : m.natAbs.log2 < 9000 := by
  have : m.natAbs < 2 ^ 8000 := by omega
  exact Nat.lt_of_lt_of_le (PySem.Flt.log2_lt_of (by decide) this) (by decide)
theorem divI_s {i j : Int} (h0 : 0 < j) (h : j < 2 ^ 64) : divI i j = some (i / j) := divI_ok h0 (log_s h0 (Int.lt_of_lt_of_le h (by decide)))
theorem modI_ok {i j : Int} (h0 : 0 < j) : modI i j = some (i % j) := by
  unfold modI
  rw [if_pos h0]
theorem powI_ok {i j : Int} {n : Nat} (h0 : 0 ≤ j) (h : i.natAbs < 2 ^ n) (hn : 0 < n) (hb : (n : Int) * j ≤ 2 ^ 27) : powI i j = some (i ^ j.toNat) := by
  have h1 := intBits_le h hn
  have h2 : (Builtin.Int.intBits i : Int) * j ≤ 2 ^ 27 := Int.le_trans (Int.mul_le_mul_of_nonneg_right (by omega) h0) hb
  unfold powI
  rw [if_pos ⟨h0, h2⟩]
theorem pow10_ok (n : Nat) (h : n ≤ 60) : powI 10 (n : Nat) = some (10 ^ n) := by
  have := powI_ok (i := 10) (j := (n : Nat)) (n := 4) (by omega) (by decide) (by decide) (by omega)
  simpa using this
theorem catL_ok {xs ys : List α} (h : xs.length + ys.length ≤ 1000000) : catL xs ys = some (xs ++ ys) := by
  unfold catL
  rw [if_pos (show _ ≤ lim from h)]
theorem appL_ok {xs : List α} {x : α} (h : xs.length ≤ 1000000) : appL xs x = some (xs ++ [x]) := by
  unfold appL
  rw [if_pos (show _ ≤ lim from h)]
theorem catS_ok {a b : Str} (h : a.length + b.length ≤ 1000000) : catS a b = some (a ++ b) := by
  unfold catS
  rw [if_pos (show _ ≤ lim from h)]
theorem popAtL_of {xs : List α} {i : Int} (h0 : 0 ≤ i) (h : i < xs.length) (hl : xs.length ≤ 1000000) : ∃ v, popAtL xs i = some (v, xs.eraseIdx i.toNat) ∧ xs[i.toNat]? = some v := by
  have hi : i.toNat < xs.length := by omega
  have hs : seqIndex? i xs.length = some i.toNat := by
    unfold seqIndex?
    simp
    omega
  refine ⟨xs[i.toNat], ?_, List.getElem?_eq_getElem hi⟩
  unfold popAtL
  rw [if_pos ⟨by omega, by omega⟩, hs]
  show (xs[i.toNat]?).map _ = _
  rw [List.getElem?_eq_getElem hi]
  rfl
theorem rngO_ok {a b : Int} (ha : a.natAbs ≤ 10 ^ 18) (hb : b.natAbs ≤ 10 ^ 18) : rngO a b = some (rangeI a b) := by
  unfold rngO
  rw [if_pos ⟨by omega, by omega, by omega, by omega⟩]
theorem rngL_ok {a b : Int} (ha : a.natAbs ≤ 1000000) (hb : b.natAbs ≤ 1000000) : rngL a b = some (rangeI a b) := by
  unfold rngL
  rw [if_pos ⟨by omega, by omega, by omega, by omega⟩]
theorem mem_rangeI {a b x : Int} : x ∈ rangeI a b ↔ a ≤ x ∧ x < b := by
  unfold rangeI
  rw [List.mem_map]
  constructor
  · rintro ⟨i, hi, rfl⟩
    rw [List.mem_range] at hi
    omega
  · intro ⟨h1, h2⟩
    exact ⟨(x - a).toNat, List.mem_range.mpr (by omega), by omega⟩
theorem rangeI_len (a b : Int) : (rangeI a b).length = (b - a).toNat := by
  unfold rangeI
  rw [List.length_map, List.length_range]
theorem rangeI_get {a b : Int} {i : Nat} {x : Int} (h : (rangeI a b)[i]? = some x) : x = a + (i : Nat) ∧ i < (b - a).toNat := by
  unfold rangeI at h
  rw [List.getElem?_map] at h
  cases q : (List.range (b - a).toNat)[i]? with
  | none => rw [q] at h; cases h
  | some j =>
    rw [q] at h
    cases h
    have hi := (List.getElem?_eq_some_iff.mp q).1
    rw [List.length_range] at hi
    rw [List.getElem?_range hi] at q
    cases q
    exact ⟨rfl, hi⟩
theorem rangeI_nil {a b : Int} (h : b ≤ a) : rangeI a b = [] := by
  unfold rangeI
  rw [Int.toNat_of_nonpos (by omega)]
  rfl
theorem rangeI_cons {a b : Int} (h : a < b) : rangeI a b = a :: rangeI (a + 1) b := by
  unfold rangeI
  rw [show (b - a).toNat = (b - (a + 1)).toNat + 1 by omega, List.range_succ_eq_map, List.map_cons, List.map_map]
  congr 1
  · show a + ((0 : Nat) : Int) = a
    omega
  · refine List.map_congr_left fun i _ => ?_
    show a + (((i + 1 : Nat)) : Int) = a + 1 + (i : Nat)
    omega
theorem rangeI_snoc {a b : Int} (h : a ≤ b) : rangeI a (b + 1) = rangeI a b ++ [b] := by
  unfold rangeI
  rw [show (b + 1 - a).toNat = (b - a).toNat + 1 by omega, List.range_succ, List.map_append]
  congr 1
  show [a + (((b - a).toNat : Nat) : Int)] = [b]
  rw [show a + (((b - a).toNat : Nat) : Int) = b by omega]
theorem nodup_map {f : α → β} {l : List α} (h : ∀ x ∈ l, ∀ y ∈ l, f x = f y → x = y) (d : l.Nodup) : (l.map f).Nodup := by
  rw [List.Nodup, List.pairwise_map]
  exact List.Pairwise.imp_of_mem (fun {a b} ha hb n e => n (h a ha b hb e)) d
theorem rangeI_nodup (a b : Int) : (rangeI a b).Nodup := by
  unfold rangeI
  exact nodup_map (fun i _ j _ h => by omega) List.nodup_range
theorem mapR_ok {f : α → Option β} (g : α → β) : ∀ {xs : List α}, (∀ x ∈ xs, f x = some (g x)) → mapR f xs = some (xs.map g)
  | [], _ => rfl
  | x :: xs, h => by
    unfold mapR
    rw [h x (by simp), bs, mapR_ok g fun y hy => h y (by simp [hy])]
    rfl
theorem mapO_ok {f : α → Option β} (g : α → β) {xs : List α} (h : ∀ x ∈ xs, f x = some (g x)) (hl : xs.length ≤ 16000000) : mapO f xs = some (xs.map g) := by
  unfold mapO
  rw [if_pos (show xs.length ≤ big from hl), mapR_ok g h]
theorem mapB_ok {f : α → β} {xs : List α} (hl : xs.length ≤ 16000000) : mapB f xs = some (xs.map f) := by
  unfold mapB
  rw [if_pos (show xs.length ≤ big from hl)]
theorem flatR_ok {f : α → Option (List β)} (g : α → List β) : ∀ {xs : List α}, (∀ x ∈ xs, f x = some (g x)) → flatR f xs = some (xs.flatMap g)
  | [], _ => rfl
  | x :: xs, h => by
    unfold flatR
    rw [h x (by simp), bs, flatR_ok g fun y hy => h y (by simp [hy])]
    rfl
theorem flatO_ok {f : α → Option (List β)} (g : α → List β) {xs : List α} (h : ∀ x ∈ xs, f x = some (g x)) (hl : (xs.flatMap g).length ≤ 16000000) : flatO f xs = some (xs.flatMap g) := by
  unfold flatO
  rw [flatR_ok g h, bs, if_pos (show _ ≤ big from hl)]
theorem mapSR_inv {f : S → α → Option (β × S)} (I : Nat → S → Prop) (P : α → β → Prop) (k : Nat) : ∀ {xs : List α} {n : Nat} {s : S}, (∀ n' s x, n ≤ n' → n' ≤ n + k * xs.length → x ∈ xs → I n' s → ∃ y s', f s x = some (y, s') ∧ P x y ∧ I (n' + k) s') → I n s →
    ∃ ys s', mapSR f xs s = some (ys, s') ∧ ys.length = xs.length ∧ (∀ (i : Nat) x, xs[i]? = some x → ∃ y, ys[i]? = some y ∧ P x y) ∧ I (n + k * xs.length) s'
  | [], n, s, _, h => ⟨[], s, rfl, rfl, fun i x h => by simp at h, h⟩
  | x :: xs, n, s, hs, h => by
    have el : k * (x :: xs).length = k * xs.length + k := by rw [List.length_cons, Nat.mul_succ]
    obtain ⟨y, s', e1, e2, e3⟩ := hs n s x (Nat.le_refl _) (by omega) (by simp) h
    obtain ⟨ys, s'', e4, e5, e6, e7⟩ := mapSR_inv I P k (xs := xs) (n := n + k) (s := s') (fun n' s z h1 h2 hz hi => hs n' s z (by omega) (by omega) (by simp [hz]) hi) e3
    refine ⟨y :: ys, s'', ?_, by simp [e5], fun i z hz => ?_, ?_⟩
    · unfold mapSR
      rw [e1, bs, e4]
      rfl
    · cases i with
      | zero => cases hz; exact ⟨y, rfl, e2⟩
      | succ i => exact e6 i z (by simpa using hz)
    · rw [el, show n + (k * xs.length + k) = n + k + k * xs.length by omega]
      exact e7
theorem mapS_inv {f : S → α → Option (β × S)} (I : Nat → S → Prop) (P : α → β → Prop) (k : Nat) {xs : List α} {n : Nat} {s : S} (hs : ∀ n' s x, n ≤ n' → n' ≤ n + k * xs.length → x ∈ xs → I n' s → ∃ y s', f s x = some (y, s') ∧ P x y ∧ I (n' + k) s') (h : I n s) (hl : xs.length ≤ 16000000) :
    ∃ ys s', mapS f xs s = some (ys, s') ∧ ys.length = xs.length ∧ (∀ (i : Nat) x, xs[i]? = some x → ∃ y, ys[i]? = some y ∧ P x y) ∧ I (n + k * xs.length) s' := by
  unfold mapS
  rw [if_pos (show xs.length ≤ big from hl)]
  exact mapSR_inv I P k hs h
theorem forN_inv {b : S → α → Option S} (I : Nat → S → Prop) : ∀ {xs : List α} {n : Nat} {s : S}, (∀ i x s, xs[i]? = some x → I (n + i) s → ∃ s', b s x = some s' ∧ I (n + i + 1) s') → I n s → ∃ s', forN b xs s = some s' ∧ I (n + xs.length) s'
  | [], n, s, _, h => ⟨s, rfl, h⟩
  | x :: xs, n, s, hs, h => by
    obtain ⟨s', e1, e2⟩ := hs 0 x s rfl h
    obtain ⟨s'', e3, e4⟩ := forN_inv I (xs := xs) (n := n + 1) (s := s') (fun i y s hy hi => by
      have := hs (i + 1) y s (by simpa using hy) (by rwa [show n + (i + 1) = n + 1 + i by omega])
      rwa [show n + (i + 1) + 1 = n + 1 + i + 1 by omega] at this) e2
    refine ⟨s'', ?_, by rw [List.length_cons, show n + (xs.length + 1) = n + 1 + xs.length by omega]; exact e4⟩
    unfold forN
    rw [e1]
    exact e3
theorem forN_fold {b : S → α → Option S} (g : S → α → S) (P : S → Prop) : ∀ {xs : List α} {s : S}, (∀ s x, x ∈ xs → P s → b s x = some (g s x) ∧ P (g s x)) → P s → forN b xs s = some (xs.foldl g s) ∧ P (xs.foldl g s)
  | [], s, _, h => ⟨rfl, h⟩
  | x :: xs, s, hs, h => by
    obtain ⟨e1, e2⟩ := hs s x (by simp) h
    have := forN_fold g P (xs := xs) (s := g s x) (fun s y hy => hs s y (by simp [hy])) e2
    refine ⟨?_, this.2⟩
    unfold forN
    rw [e1]
    exact this.1
theorem forN_addB {b : List β → α → Option (List β)} (g : α → List β) (m : Nat) : ∀ {xs : List α} {s : List β}, (∀ s x, x ∈ xs → s.length + (g x).length ≤ m → b s x = some (s ++ g x)) → s.length + (xs.flatMap g).length ≤ m → forN b xs s = some (s ++ xs.flatMap g)
  | [], s, _, _ => by show some s = some (s ++ []); rw [List.append_nil]
  | x :: xs, s, h, hl => by
    rw [List.flatMap_cons, List.length_append] at hl
    unfold forN
    rw [h s x (by simp) (by omega), bs, forN_addB g m (fun s y hy => h s y (by simp [hy])) (by rw [List.length_append]; omega), List.append_assoc]
    rfl
theorem forN_then {b : S → α → Option S} {xs : List α} {s0 : S} {K : S → Option β} {r : Option β} (I : Nat → S → Prop) (h0 : I 0 s0) (hs : ∀ i x s, xs[i]? = some x → I i s → ∃ s', b s x = some s' ∧ I (i + 1) s') (hk : ∀ s, I xs.length s → K s = r) : (forN b xs s0).bind K = r := by
  obtain ⟨s', e, h⟩ := forN_inv I (xs := xs) (n := 0) (s := s0) (fun i x s hx hi => by rw [Nat.zero_add] at hi ⊢; exact hs i x s hx hi) h0
  rw [e, bs]
  exact hk s' (by rwa [Nat.zero_add] at h)
theorem forN_unit {b : Unit → α → Option Unit} {xs : List α} (h : ∀ x ∈ xs, b () x = some ()) : forN b xs () = some () := by
  obtain ⟨s', e, _⟩ := forN_inv (b := b) (fun _ _ => True) (xs := xs) (n := 0) (s := ()) (fun i x s hx _ => ⟨(), h x (List.mem_of_getElem? hx), trivial⟩) trivial
  exact e
variable {κ ν : Type} [DecidableEq κ]
theorem hasK_iff {kvs : List (κ × ν)} {k : κ} : hasK kvs k = true ↔ ∃ v, getK kvs k = some v := by
  rw [← has_get, Option.isSome_iff_exists]
theorem getK_put (kvs : List (κ × ν)) (k k' : κ) (v : ν) : getK (putK' kvs k v) k' = if k = k' then some v else getK kvs k' := by
  unfold putK'
  split
  · rename_i h
    induction kvs with
    | nil => cases h
    | cons p kvs ih =>
      unfold getK at ih ⊢
      rw [List.map_cons, List.find?_cons, List.find?_cons]
      by_cases e : p.1 = k
      · rw [if_pos e]
        by_cases e2 : k = k'
        · have e3 : p.1 = k' := e.trans e2
          simp [e2, e3]
        · rw [if_neg e2]
          have : decide (p.1 = k') = false := by rw [e]; simp [e2]
          rw [show decide ((p.1, v).1 = k') = false from this]
          first | rw [this] | skip
          show Option.map _ (List.find? _ (List.map _ kvs)) = _
          by_cases h2 : hasK kvs k = true
          · have := ih h2
            rw [if_neg e2] at this
            exact this
          · have hm : kvs.map (fun p => if p.1 = k then (p.1, v) else p) = kvs := by
              have hn : ∀ q ∈ kvs, ¬ q.1 = k := fun q hq e => h2 (List.any_eq_true.mpr ⟨q, hq, by simp [e]⟩)
              conv => rhs; rw [← List.map_id kvs]
              exact List.map_congr_left fun q hq => by rw [if_neg (hn q hq)]; rfl
            rw [hm]
      · rw [if_neg e]
        have h2 : hasK kvs k = true := by
          unfold hasK at h ⊢
          rw [List.any_cons] at h
          simpa [e] using h
        have := ih h2
        by_cases e2 : p.1 = k'
        · have : ¬ k = k' := fun z => e (e2.trans z.symm)
          simp [e2, this]
        · rw [show decide (p.1 = k') = false by simp [e2]]
          exact this
  · rename_i h
    unfold getK
    rw [List.find?_append]
    have hn : k = k' → kvs.find? (fun p => decide (p.1 = k')) = none := fun e => by
      rw [List.find?_eq_none]
      intro q hq z
      exact h (List.any_eq_true.mpr ⟨q, hq, by simpa [e] using z⟩)
    by_cases e : k = k'
    · rw [hn e, if_pos e]
      simp [e]
    · rw [if_neg e]
      cases q : kvs.find? (fun p => decide (p.1 = k')) with
      | some p => rfl
      | none => simp [e]
theorem hasK_put (kvs : List (κ × ν)) (k k' : κ) (v : ν) : hasK (putK' kvs k v) k' = (decide (k = k') || hasK kvs k') := by
  rw [← has_get, ← has_get, getK_put]
  by_cases e : k = k'
  · simp [e]
  · simp [e]
theorem putK_len (kvs : List (κ × ν)) (k : κ) (v : ν) : (putK' kvs k v).length ≤ kvs.length + 1 := by
  unfold putK'
  split
  · rw [List.length_map]; omega
  · rw [List.length_append]; simp
theorem putO_ok {kvs : List (κ × ν)} {k : κ} {v : ν} (h : kvs.length ≤ 1000000) : putO kvs k v = some (putK' kvs k v) := by
  unfold putO
  rw [if_pos (show _ ≤ lim from h)]
end
theorem eqO_self {d : D} (h : d.ok = true) : eqO d d = some true := by
  unfold eqO
  rw [if_pos ⟨h, h⟩, eqv_self h]
theorem ok_ints (xs : List Int) : (D.lst (xs.map D.int)).ok = true :=
  Fit.ok (n := 1) (.lst fun d hd => by obtain ⟨i, _, rfl⟩ := List.mem_map.mp hd; exact .int 0 i) (by decide)
theorem inO_int (x : Int) (ys : List Int) : inO (.int x) (ys.map D.int) = some (decide (x ∈ ys)) := by
  unfold inO
  rw [if_pos ⟨ok_int x, ok_ints ys⟩, List.any_map]
  congr 1
  induction ys with
  | nil => rfl
  | cons y ys ih =>
    rw [List.any_cons, ih]
    show ((D.int y).eqv (.int x) || _) = _
    rw [eqv_int]
    by_cases e : y = x
    · simp [e]
    · have : ¬ x = y := fun z => e z.symm
      simp [e, this]
end DL
namespace DL
open PySem PySem.Spec L2
def Board.cells : Board → Int
  | .row n => n
  | .ring n => n
  | .floor h w => h * w
def Board.ok (m : Int) : Board → Prop
  | .row n => 3 ≤ n ∧ n ≤ m
  | .ring n => 5 ≤ n ∧ n ≤ m
  | .floor h w => 1 ≤ h ∧ 1 ≤ w ∧ h ≤ m ∧ w ≤ m ∧ h * w ≤ m ∧ (3 ≤ h ∨ 3 ≤ w)
theorem Board.ok.more {m k : Int} {b : Board} (h : b.ok m) (l : m ≤ k) : b.ok k := by
  cases b with
  | row n => exact ⟨h.1, Int.le_trans h.2 l⟩
  | ring n => exact ⟨h.1, Int.le_trans h.2 l⟩
  | floor a w => exact ⟨h.1, h.2.1, Int.le_trans h.2.2.1 l, Int.le_trans h.2.2.2.1 l, Int.le_trans h.2.2.2.2.1 l, h.2.2.2.2.2⟩
theorem Board.cells_pos {m : Int} {b : Board} (h : b.ok m) : 3 ≤ b.cells ∧ b.cells ≤ m := by
  cases b with
  | row n => exact h
  | ring n => exact ⟨by have := h.1; show 3 ≤ n; omega, h.2⟩
  | floor a w =>
    obtain ⟨h1, h2, h3, h4, h5, h6⟩ := h
    refine ⟨?_, h5⟩
    show 3 ≤ a * w
    rcases h6 with h6 | h6
    · have := Int.mul_le_mul h6 h2 (by decide) (by omega); omega
    · have := Int.mul_le_mul h1 h6 (by decide) (by omega); omega
def Rule.fits : Board → Rule → Prop
  | .row n, .swap k c => 1 ≤ k ∧ 3 * k ≤ n ∧ 0 ≤ c ∧ c ≤ 1
  | .ring n, .swap k c => 1 ≤ k ∧ 5 * k ≤ n ∧ 0 ≤ c ∧ c ≤ 1
  | .floor H W, .over h w c => 1 ≤ h ∧ 1 ≤ w ∧ 3 * w ≤ W ∧ 2 * h - 1 ≤ H ∧ 0 ≤ c ∧ c ≤ 1
  | .floor H W, .under h w c => 1 ≤ h ∧ 1 ≤ w ∧ 3 * h ≤ H ∧ 2 * w - 1 ≤ W ∧ 0 ≤ c ∧ c ≤ 1
  | _, _ => False
theorem Rule.bent01 {b : Board} {r : Rule} (h : r.fits b) : 0 ≤ r.bent ∧ r.bent ≤ 1 := by
  cases b <;> cases r <;> first | exact h.elim | (obtain ⟨_, _, h1, h2⟩ := h; exact ⟨h1, h2⟩) | (obtain ⟨_, _, _, _, h1, h2⟩ := h; exact ⟨h1, h2⟩)
def BkOk (b : Board) (bk : List Rule) : Prop := 1 ≤ bk.length ∧ bk.length ≤ 4 ∧ bk.Nodup ∧ ∀ r ∈ bk, r.fits b
def grid (o W R C : Int) : List Int := (rangeI 0 R).flatMap fun i => (rangeI 0 C).map fun j => o + i * W + j
def cellsAt : Board → Rule → List Int
  | .row n, .swap k _ => rangeI 0 (n - 2 * k + 1)
  | .ring n, .swap _ _ => rangeI 0 n
  | .floor H W, .over h w _ => grid 0 W (H - h + 1) (W - 2 * w + 1)
  | .floor H W, .under h w _ => grid 0 W (H - 2 * h + 1) (W - w + 1)
  | _, _ => []
theorem flatMap_len {α β : Type} (f : α → List β) (c : Nat) : ∀ l : List α, (∀ x ∈ l, (f x).length ≤ c) → (l.flatMap f).length ≤ l.length * c
  | [], _ => by simp
  | x :: l, h => by
    rw [List.flatMap_cons, List.length_append, List.length_cons, Nat.succ_mul]
    have := flatMap_len f c l fun y hy => h y (by simp [hy])
    have := h x (by simp)
    omega
theorem grid_len (o W R C : Int) : (grid o W R C).length ≤ R.toNat * C.toNat := by
  unfold grid
  have := flatMap_len (fun i => (rangeI 0 C).map fun j => o + i * W + j) C.toNat (rangeI 0 R) fun x _ => by rw [List.length_map, rangeI_len]; omega
  rw [rangeI_len] at this
  simpa using this
theorem mem_grid {o W R C x : Int} : x ∈ grid o W R C ↔ ∃ i j, 0 ≤ i ∧ i < R ∧ 0 ≤ j ∧ j < C ∧ x = o + i * W + j := by
  unfold grid
  rw [List.mem_flatMap]
  constructor
  · rintro ⟨i, hi, h⟩
    rw [List.mem_map] at h
    obtain ⟨j, hj, rfl⟩ := h
    rw [mem_rangeI] at hi hj
    exact ⟨i, j, hi.1, hi.2, hj.1, hj.2, rfl⟩
  · rintro ⟨i, j, h1, h2, h3, h4, rfl⟩
    exact ⟨i, mem_rangeI.mpr ⟨h1, h2⟩, List.mem_map.mpr ⟨j, mem_rangeI.mpr ⟨h3, h4⟩, rfl⟩⟩
theorem cellsAt_len {b : Board} {r : Rule} (hb : b.ok 36) (h : r.fits b) : (cellsAt b r).length ≤ 1369 := by
  cases b <;> cases r <;> first | exact h.elim | skip
  · show (rangeI _ _).length ≤ _
    rw [rangeI_len]
    obtain ⟨_, h2⟩ := hb
    obtain ⟨h3, h4, _⟩ := h
    omega
  · show (rangeI _ _).length ≤ _
    rw [rangeI_len]
    obtain ⟨_, h2⟩ := hb
    omega
  · obtain ⟨h1, h2, h3, h4, h5, h6⟩ := hb
    obtain ⟨k1, k2, k3, k4, _⟩ := h
    refine Nat.le_trans (grid_len _ _ _ _) ?_
    exact Nat.mul_le_mul (show _ ≤ 37 by omega) (show _ ≤ 37 by omega)
  · obtain ⟨h1, h2, h3, h4, h5, h6⟩ := hb
    obtain ⟨k1, k2, k3, k4, _⟩ := h
    refine Nat.le_trans (grid_len _ _ _ _) ?_
    exact Nat.mul_le_mul (show _ ≤ 37 by omega) (show _ ≤ 37 by omega)
theorem mul_lt_grid {i j H W : Int} (hi : 0 ≤ i) (hi2 : i < H) (hj : 0 ≤ j) (hj2 : j < W) : 0 ≤ i * W + j ∧ i * W + j < H * W := by
  have h1 : 0 ≤ i * W := Int.mul_nonneg hi (by omega)
  have h2 : (i + 1) * W ≤ H * W := Int.mul_le_mul_of_nonneg_right (by omega) (by omega)
  rw [Int.add_mul, Int.one_mul] at h2
  omega
theorem cellsAt_lt {b : Board} {r : Rule} (hb : b.ok 36) (h : r.fits b) {c : Int} (hc : c ∈ cellsAt b r) : 0 ≤ c ∧ c < b.cells := by
  cases b <;> cases r <;> first | exact h.elim | skip
  · have := mem_rangeI.mp hc
    obtain ⟨h3, h4, _⟩ := h
    show 0 ≤ c ∧ c < _
    simp only [Board.cells]
    omega
  · exact mem_rangeI.mp hc
  · obtain ⟨i, j, h1, h2, h3, h4, rfl⟩ := mem_grid.mp hc
    obtain ⟨k1, k2, k3, k4, _⟩ := h
    rw [Int.zero_add]
    exact mul_lt_grid h1 (by omega) h3 (by omega)
  · obtain ⟨i, j, h1, h2, h3, h4, rfl⟩ := mem_grid.mp hc
    obtain ⟨k1, k2, k3, k4, _⟩ := h
    rw [Int.zero_add]
    exact mul_lt_grid h1 (by omega) h3 (by omega)
def deedsAt (b : Board) (bk : List Rule) (n : Int) : List (Int × Int) := match bk[n.toNat]? with
  | some r => (cellsAt b r).map fun c => (n, c)
  | none => []
def deedsOf (b : Board) (bk : List Rule) : List (Int × Int) := (rangeI 0 (bk.length : Nat)).flatMap (deedsAt b bk)
def IsDeed (b : Board) (bk : List Rule) (d : Int × Int) : Prop := ∃ r, 0 ≤ d.1 ∧ bk[d.1.toNat]? = some r ∧ d.2 ∈ cellsAt b r
theorem mem_deeds {b : Board} {bk : List Rule} {d : Int × Int} : d ∈ deedsOf b bk ↔ IsDeed b bk d := by
  unfold deedsOf
  rw [List.mem_flatMap]
  constructor
  · rintro ⟨n, hn, h⟩
    rw [mem_rangeI] at hn
    unfold deedsAt at h
    cases q : bk[n.toNat]? with
    | none => rw [q] at h; cases h
    | some r =>
      rw [q] at h
      obtain ⟨c, hc, rfl⟩ := List.mem_map.mp h
      exact ⟨r, hn.1, q, hc⟩
  · rintro ⟨r, h0, hr, hc⟩
    have hl := (List.getElem?_eq_some_iff.mp hr).1
    refine ⟨d.1, mem_rangeI.mpr ⟨h0, by omega⟩, ?_⟩
    unfold deedsAt
    rw [hr]
    exact List.mem_map.mpr ⟨d.2, hc, rfl⟩
theorem deedsAt_len {b : Board} {bk : List Rule} (hb : b.ok 36) (h : ∀ r ∈ bk, r.fits b) (n : Int) : (deedsAt b bk n).length ≤ 1369 := by
  unfold deedsAt
  cases q : bk[n.toNat]? with
  | none => exact Nat.zero_le _
  | some r => simpa using cellsAt_len hb (h r (List.mem_of_getElem? q))
theorem deedsOf_len {b : Board} {bk : List Rule} (hb : b.ok 36) (h : BkOk b bk) : (deedsOf b bk).length ≤ 5476 := by
  unfold deedsOf
  have := flatMap_len (deedsAt b bk) 1369 (rangeI 0 (bk.length : Nat)) fun x _ => deedsAt_len hb h.2.2.2 x
  rw [rangeI_len] at this
  obtain ⟨_, h2, _⟩ := h
  have e : ((bk.length : Int) - 0).toNat = bk.length := by omega
  rw [e] at this
  have : bk.length * 1369 ≤ 4 * 1369 := Nat.mul_le_mul_right _ h2
  omega
def pairsAt (b : Board) (r : Rule) (c : Int) : List (Int × Int) := match b, r with
  | .row n, .swap k _ => (rangeI 0 k).map fun j => ((c + j) % n, (c + j + k) % n)
  | .ring n, .swap k _ => (rangeI 0 k).map fun j => ((c + j) % n, (c + j + k) % n)
  | .floor _ W, .over h w _ => (grid c W h w).map fun x => (x, x + w)
  | .floor _ W, .under h w _ => (grid c W h w).map fun x => (x, x + h * W)
  | _, _ => []
theorem pairsAt_len {b : Board} {r : Rule} (hb : b.ok 36) (h : r.fits b) (c : Int) : (pairsAt b r c).length ≤ 1369 := by
  cases b <;> cases r <;> first | exact h.elim | skip
  · show ((rangeI _ _).map _).length ≤ _
    rw [List.length_map, rangeI_len]
    obtain ⟨_, h2⟩ := hb
    obtain ⟨h3, h4, _⟩ := h
    omega
  · show ((rangeI _ _).map _).length ≤ _
    rw [List.length_map, rangeI_len]
    obtain ⟨_, h2⟩ := hb
    obtain ⟨h3, h4, _⟩ := h
    omega
  · obtain ⟨h1, h2, h3, h4, h5, h6⟩ := hb
    obtain ⟨k1, k2, k3, k4, _⟩ := h
    show ((grid _ _ _ _).map _).length ≤ _
    rw [List.length_map]
    exact Nat.le_trans (grid_len _ _ _ _) (Nat.mul_le_mul (show _ ≤ 37 by omega) (show _ ≤ 37 by omega))
  · obtain ⟨h1, h2, h3, h4, h5, h6⟩ := hb
    obtain ⟨k1, k2, k3, k4, _⟩ := h
    show ((grid _ _ _ _).map _).length ≤ _
    rw [List.length_map]
    exact Nat.le_trans (grid_len _ _ _ _) (Nat.mul_le_mul (show _ ≤ 37 by omega) (show _ ≤ 37 by omega))
theorem pairsAt_lt {b : Board} {r : Rule} (hb : b.ok 36) (h : r.fits b) {c : Int} (hc : c ∈ cellsAt b r) {p : Int × Int} (hp : p ∈ pairsAt b r c) : 0 ≤ p.1 ∧ p.1 < b.cells ∧ 0 ≤ p.2 ∧ p.2 < b.cells := by
  cases b <;> cases r <;> first | exact h.elim | skip
  · obtain ⟨j, hj, rfl⟩ := List.mem_map.mp hp
    have hn := hb.1
    exact ⟨Int.emod_nonneg _ (by omega), Int.emod_lt_of_pos _ (by omega), Int.emod_nonneg _ (by omega), Int.emod_lt_of_pos _ (by omega)⟩
  · obtain ⟨j, hj, rfl⟩ := List.mem_map.mp hp
    have hn := hb.1
    exact ⟨Int.emod_nonneg _ (by omega), Int.emod_lt_of_pos _ (by omega), Int.emod_nonneg _ (by omega), Int.emod_lt_of_pos _ (by omega)⟩
  · rename_i H W h w cc
    obtain ⟨i0, j0, a1, a2, a3, a4, rfl⟩ := mem_grid.mp hc
    obtain ⟨x, hx, rfl⟩ := List.mem_map.mp hp
    obtain ⟨i, j, b1, b2, b3, b4, rfl⟩ := mem_grid.mp hx
    obtain ⟨k1, k2, k3, k4, _⟩ := h
    have e1 : 0 + i0 * W + j0 + i * W + j = (i0 + i) * W + (j0 + j) := by rw [Int.add_mul]; omega
    have e2 : (i0 + i) * W + (j0 + j) + w = (i0 + i) * W + (j0 + j + w) := by omega
    simp only [e1, e2]
    have g1 := mul_lt_grid (i := i0 + i) (j := j0 + j) (H := H) (W := W) (by omega) (by omega) (by omega) (by omega)
    have g2 := mul_lt_grid (i := i0 + i) (j := j0 + j + w) (H := H) (W := W) (by omega) (by omega) (by omega) (by omega)
    exact ⟨g1.1, g1.2, g2.1, g2.2⟩
  · rename_i H W h w cc
    obtain ⟨i0, j0, a1, a2, a3, a4, rfl⟩ := mem_grid.mp hc
    obtain ⟨x, hx, rfl⟩ := List.mem_map.mp hp
    obtain ⟨i, j, b1, b2, b3, b4, rfl⟩ := mem_grid.mp hx
    obtain ⟨k1, k2, k3, k4, _⟩ := h
    have e1 : 0 + i0 * W + j0 + i * W + j = (i0 + i) * W + (j0 + j) := by rw [Int.add_mul]; omega
    have e2 : (i0 + i) * W + (j0 + j) + h * W = (i0 + i + h) * W + (j0 + j) := by rw [Int.add_mul (i0 + i)]; omega
    simp only [e1, e2]
    have g1 := mul_lt_grid (i := i0 + i) (j := j0 + j) (H := H) (W := W) (by omega) (by omega) (by omega) (by omega)
    have g2 := mul_lt_grid (i := i0 + i + h) (j := j0 + j) (H := H) (W := W) (by omega) (by omega) (by omega) (by omega)
    exact ⟨g1.1, g1.2, g2.1, g2.2⟩
theorem zero_cell {b : Board} {r : Rule} (hb : b.ok 36) (h : r.fits b) : 0 ∈ cellsAt b r := by
  cases b <;> cases r <;> first | exact h.elim | skip
  · obtain ⟨h3, h4, _⟩ := h
    exact mem_rangeI.mpr ⟨by decide, by omega⟩
  · obtain ⟨h1, _⟩ := hb
    exact mem_rangeI.mpr ⟨by decide, by omega⟩
  · obtain ⟨k1, k2, k3, k4, _⟩ := h
    exact mem_grid.mpr ⟨0, 0, by decide, by omega, by decide, by omega, by omega⟩
  · obtain ⟨k1, k2, k3, k4, _⟩ := h
    exact mem_grid.mpr ⟨0, 0, by decide, by omega, by decide, by omega, by omega⟩
theorem deeds_pos {b : Board} {bk : List Rule} (hb : b.ok 36) (h : BkOk b bk) : 0 < (deedsOf b bk).length := by
  have hl := h.1
  have hr : bk[(0 : Int).toNat]? = some (bk[0]'(by omega)) := List.getElem?_eq_getElem (by omega)
  have : ((0 : Int), (0 : Int)) ∈ deedsOf b bk := mem_deeds.mpr ⟨_, by decide, hr, zero_cell hb (h.2.2.2 _ (List.getElem_mem _))⟩
  exact List.length_pos_of_mem this
end DL
namespace DL
open PySem PySem.Spec L2
def S (l : List Nat) : Str := ⟨l.toArray⟩
theorem S_len (l : List Nat) : (S l).length = l.length := by simp [S, Str.length]
theorem S_app (a b : List Nat) : S a ++ S b = S (a ++ b) := by
  show (⟨a.toArray ++ b.toArray⟩ : Str) = _
  simp [S]
theorem S_cps (l : List Nat) : (S l).cps.toList = l := by simp [S]
theorem S_of (s : Str) : s = S s.cps.toList := by simp [S]
theorem S_mul0 (l : List Nat) : Txt.mul (S l) 0 = S [] := by
  unfold Txt.mul
  rw [if_pos (by decide)]
  rfl
theorem S_mul1 (l : List Nat) : Txt.mul (S l) 1 = S l := by
  unfold Txt.mul
  rw [if_neg (by decide), if_pos (by simp)]
theorem S_mul2 {l : List Nat} (h : l ≠ []) : Txt.mul (S l) 2 = S (l ++ l) := by
  unfold Txt.mul
  rw [if_neg (by decide), if_neg]
  · simp [S, List.replicate]
  · simp [S_len, h]
theorem good_S {l : List Nat} (h : ∀ c ∈ l, c < 0x110000) : StrGood (S l) := by
  unfold StrGood PyData.strOk
  rw [← Array.all_toList, S_cps]
  simpa using h
theorem letters_at : ∀ i, i < 26 → atI (Str.ofString "abcdefghijklmnopqrstuvwxyz").cps.toList ((i : Nat) : Int) = some (97 + i) := by decide +kernel
theorem letters_len : (Str.ofString "abcdefghijklmnopqrstuvwxyz").length = 26 := by decide +kernel
theorem cut_letter : ∀ i, i < 26 → cutS (Str.ofString "abcdefghijklmnopqrstuvwxyz") (some ((i : Nat) : Int)) (some (((i : Nat) : Int) + 1)) = S [97 + i] := by decide +kernel
def NameOk (s : Str) : Prop := 1 ≤ s.length ∧ s.length ≤ 4 ∧ ∀ c ∈ s.cps.toList, 97 ≤ c ∧ c ≤ 122
theorem NameOk.good {s : Str} (h : NameOk s) : StrGood s := by
  rw [S_of s]
  exact good_S fun c hc => by have := h.2.2 c hc; omega
theorem name_S {l : List Nat} (h1 : 1 ≤ l.length) (h2 : l.length ≤ 4) (h : ∀ c ∈ l, 97 ≤ c ∧ c ≤ 122) : NameOk (S l) := ⟨by rw [S_len]; exact h1, by rw [S_len]; exact h2, by rw [S_cps]; exact h⟩
theorem perm_pick {α : Type} {l : List α} {i : Nat} {x : α} (h : l[i]? = some x) : (x :: l.eraseIdx i).Perm l := by
  induction l generalizing i with
  | nil => cases h
  | cons y l ih =>
    cases i with
    | zero => cases h; exact List.Perm.refl _
    | succ i => exact (List.Perm.swap y x _).trans (.cons _ (ih h))
end DL
namespace G
open PySem PySem.Spec L2 DL
end G
namespace DL
open PySem PySem.Spec L2
def StOk (st : List (Str × Int)) : Prop := ∀ p ∈ st, NameOk p.1 ∧ 0 ≤ p.2 ∧ p.2 ≤ 1
abbrev eTh : Str × Int → D := eP D.str D.int
def turnT (t : Str × Int) (c : Int) : Str × Int := (t.1, (t.2 + c) % 2)
def exch (c : Int) (st : List (Str × Int)) (p : Int × Int) : List (Str × Int) := match st[p.1.toNat]?, st[p.2.toNat]? with
  | some x, some y => (st.set p.1.toNat (turnT y c)).set p.2.toNat (turnT x c)
  | _, _ => st
def doPairs (c : Int) (st : List (Str × Int)) (ps : List (Int × Int)) : List (Str × Int) := ps.foldl (exch c) st
def doDeed (b : Board) (bk : List Rule) (st : List (Str × Int)) (d : Int × Int) : List (Str × Int) := match bk[d.1.toNat]? with
  | some r => doPairs r.bent st (pairsAt b r d.2)
  | none => st
def doAll (b : Board) (bk : List Rule) (st : List (Str × Int)) (ds : List (Int × Int)) : List (Str × Int) := ds.foldl (doDeed b bk) st
theorem exch_len (c : Int) (st : List (Str × Int)) (p : Int × Int) : (exch c st p).length = st.length := by
  unfold exch
  split
  · rw [List.length_set, List.length_set]
  · rfl
theorem mem_set_or {α : Type} {l : List α} {i : Nat} {x y : α} (h : y ∈ l.set i x) : y ∈ l ∨ y = x := List.mem_or_eq_of_mem_set h
theorem exch_mem {c : Int} {st : List (Str × Int)} {p : Int × Int} {t : Str × Int} (h : t ∈ exch c st p) : t ∈ st ∨ ∃ u ∈ st, t = turnT u c := by
  unfold exch at h
  split at h
  · rename_i x y hx hy
    rcases mem_set_or h with h | h
    · rcases mem_set_or h with h | h
      · exact .inl h
      · exact .inr ⟨y, List.mem_of_getElem? hy, h⟩
    · exact .inr ⟨x, List.mem_of_getElem? hx, h⟩
  · exact .inl h
theorem exch_ok {c : Int} {st : List (Str × Int)} {p : Int × Int} (h : StOk st) : StOk (exch c st p) := fun t ht => by
  rcases exch_mem ht with ht | ⟨u, hu, rfl⟩
  · exact h t ht
  · obtain ⟨h1, h2, h3⟩ := h u hu
    exact ⟨h1, Int.emod_nonneg _ (by decide), by have := Int.emod_lt_of_pos (u.2 + c) (show (0 : Int) < 2 by decide); show (u.2 + c) % 2 ≤ 1; omega⟩
theorem doPairs_len (c : Int) : ∀ (ps : List (Int × Int)) (st : List (Str × Int)), (doPairs c st ps).length = st.length
  | [], _ => rfl
  | p :: ps, st => by
    show (doPairs c (exch c st p) ps).length = _
    rw [doPairs_len c ps, exch_len]
theorem doPairs_ok {c : Int} : ∀ {ps : List (Int × Int)} {st : List (Str × Int)}, StOk st → StOk (doPairs c st ps)
  | [], _, h => h
  | p :: ps, st, h => doPairs_ok (ps := ps) (exch_ok (p := p) h)
theorem doDeed_len (b : Board) (bk : List Rule) (st : List (Str × Int)) (d : Int × Int) : (doDeed b bk st d).length = st.length := by
  unfold doDeed
  split
  · exact doPairs_len _ _ _
  · rfl
theorem doDeed_ok {b : Board} {bk : List Rule} {st : List (Str × Int)} {d : Int × Int} (h : StOk st) : StOk (doDeed b bk st d) := by
  unfold doDeed
  split
  · exact doPairs_ok h
  · exact h
theorem doAll_len (b : Board) (bk : List Rule) : ∀ (ds : List (Int × Int)) (st : List (Str × Int)), (doAll b bk st ds).length = st.length
  | [], _ => rfl
  | d :: ds, st => by
    show (doAll b bk (doDeed b bk st d) ds).length = _
    rw [doAll_len b bk ds, doDeed_len]
theorem doAll_ok {b : Board} {bk : List Rule} : ∀ {ds : List (Int × Int)} {st : List (Str × Int)}, StOk st → StOk (doAll b bk st ds)
  | [], _, h => h
  | d :: ds, st, h => doAll_ok (ds := ds) (doDeed_ok (d := d) h)
theorem things_shw {st : List (Str × Int)} (h : StOk st) (hl : st.length ≤ 36) : Shw 2 10000 (.tup (st.map eTh)) := by
  refine .tup (n := 1) (w := 200) (fun d hd => ?_) (by rw [List.length_map]; omega)
  obtain ⟨p, hp, rfl⟩ := List.mem_map.mp hd
  obtain ⟨h1, h2, h3⟩ := h p hp
  refine .tup (n := 0) (w := 41) (fun e he => ?_) (by simp)
  rcases (by simpa using he : e = .str p.1 ∨ e = .int p.2) with rfl | rfl
  · exact .str h1.good (by have := h1.2.1; omega)
  · exact .int (by omega) (by decide)
theorem eqO_shw {n w : Nat} {d : D} (h : Shw n w d) (hn : n ≤ 64) : eqO d d = some true := eqO_self (h.fit.ok hn)
end DL
set_option maxHeartbeats 2000000
namespace G
open PySem PySem.Spec L2 DL
theorem it_keysS {ν : Type} {ev : ν → D} {f : Fe} {ρ ρ1 ρ2 : En} {r : Sl} {kvs : List (Str × ν)} (h : f ρ = some (r, ρ1)) (q : fr ρ1 r = some (dkOf kS ev kvs, ρ2)) : iKeysF f ρ = some ((kvs.map (·.1)).map D.str, ρ2) := by
  unfold iKeysF
  rw [ev_fr h q]
  unfold dkOf
  simp only [List.length_map, ↓reduceIte, List.map_map]
  rfl
theorem gNe_int (n : Int) : gNe (.int n) (.int n) = some (.fz (.bl false)) := by
  show some (Sl.fz (.bl (!decide (n = n)))) = _
  rw [decide_eq_true rfl]
  rfl
theorem gNe_str (s : Str) : gNe (.str s) (.str s) = some (.fz (.bl false)) := by
  show some (Sl.fz (.bl (!decide (s = s)))) = _
  rw [decide_eq_true rfl]
  rfl
theorem lg_shw {ps : List (Int × Int)} (h : ∀ p ∈ ps, 0 ≤ p.1 ∧ p.1 < 36 ∧ 0 ≤ p.2 ∧ p.2 < 36) (hl : ps.length ≤ 1369) : Shw 2 200000 (.tup (ps.map (eP D.int D.int))) := by
  refine .tup (w := 100) (fun d hd => ?_) (by rw [List.length_map]; omega)
  obtain ⟨p, hp, rfl⟩ := List.mem_map.mp hd
  obtain ⟨a, b, c, e⟩ := h p hp
  refine .tup (w := 40) (fun x hx => ?_) (by show 2 * (40 + 1) ≤ 100; decide)
  simp only [List.mem_cons, List.not_mem_nil, or_false] at hx
  rcases hx with rfl | rfl
  · exact .int (by omega) (by decide)
  · exact .int (by omega) (by decide)
structure YGood (k : Kept) (l : Logs) : Prop where
  nd : (k.map (·.1)).Nodup
  few : k.length < 64
  nm : ∀ p ∈ k, StrGood p.1
  kk : ∀ p ∈ k, StOk p.2 ∧ p.2.length ≤ 36
  ll : ∀ x, hasK k x = true → ∃ lg, getK l x = some lg ∧ (∀ d ∈ lg, 0 ≤ d.1 ∧ d.1 < 36 ∧ 0 ≤ d.2 ∧ d.2 < 36) ∧ lg.length ≤ 1369
theorem get_mem {κ ν : Type} [DecidableEq κ] {kvs : List (κ × ν)} {k : κ} {v : ν} (h : getK kvs k = some v) : (k, v) ∈ kvs := by
  unfold getK at h
  obtain ⟨p, h1, h2⟩ := Option.map_eq_some_iff.mp h
  have e : p.1 = k := by have := List.find?_some h1; simpa using this
  have := List.mem_of_find?_eq_some h1
  cases p
  cases h2
  cases e
  exact this
theorem names_self {xs : List Str} (h : ∀ x ∈ xs, StrGood x) : eqO (.lst ((sortS xs).map .str)) (.lst ((sortS xs).map .str)) = some true :=
  eqO_self ((Fit.lst (n := 0) fun d hd => by
    obtain ⟨x, hx, rfl⟩ := List.mem_map.mp hd
    exact .str 0 (h x ((List.mergeSort_perm xs leS).mem_iff.mp hx))).ok (by decide))
end G
set_option maxHeartbeats 1000000
namespace DL
open PySem PySem.Spec L2
end DL
namespace DL
open PySem PySem.Spec L2
section
variable {α β S R : Type}
theorem cutD_from {xs : List α} {k : Int} (h0 : 0 ≤ k) (h1 : k ≤ xs.length) : cutD xs (some k) none = xs.drop k.toNat := by
  unfold cutD
  have e : HT.sIx xs.length 0 (some k) = k.toNat := by show (if k < 0 then _ else min k.toNat xs.length) = k.toNat; rw [if_neg (by omega)]; omega
  have e0 : HT.sIx xs.length xs.length none = xs.length := rfl
  rw [e, e0, List.take_of_length_le (by rw [List.length_drop]; exact Nat.le_refl _)]
end
end DL
set_option maxHeartbeats 2000000
namespace G
open PySem PySem.Spec L2 DL
section
variable {κ ν : Type} [DecidableEq κ]
theorem mem_put {kvs : List (κ × ν)} {k : κ} {v : ν} {p : κ × ν} (h : p ∈ putK' kvs k v) : p = (k, v) ∨ p ∈ kvs := by
  unfold putK' at h
  split at h
  · obtain ⟨y, hy, e⟩ := List.mem_map.mp h
    split at e
    · rename_i z; rw [z] at e; exact .inl e.symm
    · rw [← e]; exact .inr hy
  · rcases List.mem_append.mp h with h | h
    · exact .inr h
    · exact .inl (List.mem_singleton.mp h)
theorem putKeys {kvs : List (κ × ν)} {k : κ} {v : ν} : (putK' kvs k v).map (·.1) = if hasK kvs k = true then kvs.map (·.1) else kvs.map (·.1) ++ [k] := by
  unfold putK'
  split
  · rw [List.map_map]
    refine List.map_congr_left fun p _ => ?_
    show (if p.1 = k then (p.1, v) else p).1 = p.1
    split <;> rfl
  · rw [List.map_append]
    rfl
theorem hasKeys {kvs : List (κ × ν)} {k : κ} : hasK kvs k = true ↔ k ∈ kvs.map (·.1) := by
  unfold hasK
  rw [List.any_eq_true, List.mem_map]
  constructor
  · rintro ⟨p, h1, h2⟩; exact ⟨p, h1, of_decide_eq_true h2⟩
  · rintro ⟨p, h1, h2⟩; exact ⟨p, h1, decide_eq_true h2⟩
end
theorem cut_sub {α : Type} {xs : List α} {a b : Option Int} {x : α} (h : x ∈ cutD xs a b) : x ∈ xs := List.mem_of_mem_drop (List.mem_of_mem_take h)
theorem cut_len {α : Type} (xs : List α) (a b : Option Int) : (cutD xs a b).length ≤ xs.length := by
  unfold cutD
  rw [List.length_take, List.length_drop]
  omega
structure YI (b : Board) (bk : List Rule) (NS : List Str) (n : Nat) (k : Kept) (l : Logs) : Prop where
  nd : (k.map (·.1)).Nodup
  lk : l.map (·.1) = k.map (·.1)
  inN : ∀ p ∈ k, p.1 ∈ NS
  kk : ∀ p ∈ k, StOk p.2 ∧ (p.2.length : Int) = b.cells
  ll : ∀ x, hasK k x = true → ∃ lg, getK l x = some lg ∧ (∀ d ∈ lg, IsDeed b bk d) ∧ lg.length ≤ n
section
variable {b : Board} {bk : List Rule} {NS : List Str} {n m : Nat} {k : Kept} {l : Logs}
theorem YI.nil : YI b bk NS 0 [] [] := ⟨List.nodup_nil, rfl, (fun _ h => by cases h), (fun _ h => by cases h), (fun _ h => by cases h)⟩
theorem YI.few (y : YI b bk NS n k l) : k.length ≤ NS.length ∧ l.length ≤ NS.length := by
  have h := y.nd.length_le_of_subset (l₂ := NS) fun x hx => by
    obtain ⟨p, hp, rfl⟩ := List.mem_map.mp hx
    exact y.inN p hp
  have e := congrArg List.length y.lk
  simp only [List.length_map] at h e
  omega
theorem YI.put (y : YI b bk NS n k l) {x : Str} {st : List (Str × Int)} {lg : List (Int × Int)} (hx : x ∈ NS) (h1 : StOk st) (h2 : (st.length : Int) = b.cells) (h3 : ∀ d ∈ lg, IsDeed b bk d) (h4 : lg.length ≤ m) (hm : n ≤ m) : YI b bk NS m (putK' k x st) (putK' l x lg) := by
  have hl : hasK l x = hasK k x := Bool.eq_iff_iff.mpr (by rw [hasKeys, hasKeys, y.lk])
  refine ⟨?_, ?_, fun p hp => ?_, fun p hp => ?_, fun z hz => ?_⟩
  · rw [putKeys]
    split
    · exact y.nd
    · rename_i nh
      refine List.nodup_append.mpr ⟨y.nd, List.nodup_cons.mpr ⟨fun h => (nomatch h), List.nodup_nil⟩, fun a ha c hc => ?_⟩
      rw [List.mem_singleton.mp hc]
      exact fun e => nh (hasKeys.mpr (by rw [← e]; exact ha))
  · rw [putKeys, putKeys, hl, y.lk]
  · rcases mem_put hp with rfl | h
    · exact hx
    · exact y.inN p h
  · rcases mem_put hp with rfl | h
    · exact ⟨h1, h2⟩
    · exact y.kk p h
  · rw [hasK_put] at hz
    by_cases e : x = z
    · exact ⟨lg, by rw [getK_put, if_pos e], h3, h4⟩
    · rw [decide_eq_false e, Bool.false_or] at hz
      obtain ⟨g, g1, g2, g3⟩ := y.ll z hz
      exact ⟨g, by rw [getK_put, if_neg e]; exact g1, g2, by omega⟩
theorem deed_lt (hb : b.ok 36) (hbk : BkOk b bk) {d : Int × Int} (h : IsDeed b bk d) : 0 ≤ d.1 ∧ d.1 < 36 ∧ 0 ≤ d.2 ∧ d.2 < 36 := by
  obtain ⟨r, h0, h1, h2⟩ := h
  have i := (List.getElem?_eq_some_iff.mp h1).1
  have c := cellsAt_lt hb (hbk.2.2.2 r (List.mem_of_getElem? h1)) h2
  have cp := Board.cells_pos hb
  have := hbk.2.1
  omega
theorem YI.good (y : YI b bk NS n k l) (hb : b.ok 36) (hbk : BkOk b bk) (hn : n ≤ 1369) (h1 : NS.length < 64) (h2 : ∀ s ∈ NS, StrGood s) : YGood k l := by
  have f := y.few
  have cp := Board.cells_pos hb
  refine ⟨y.nd, by omega, fun p hp => h2 _ (y.inN p hp), fun p hp => ⟨(y.kk p hp).1, by have := (y.kk p hp).2; omega⟩, fun x hx => ?_⟩
  obtain ⟨lg, g1, g2, g3⟩ := y.ll x hx
  exact ⟨lg, g1, fun d hd => deed_lt hb hbk (g2 d hd), by omega⟩
end
end G
namespace DL
open PySem PySem.Spec L2
section
variable {A B C : Fs} {fa : Fa} {ρ ρ1 ρ2 es : En} {i j : Nat} {z : Sl} {F : FF} {Xf : FX} {gs : List Nat} {rs qs : List Sl} {Ca : Addr} {ns : List Str} {ds : List D} {t : Ft} {fl : Fl} {Q : Fl → En → Prop} {y : Raised} {f : En → Option ((Sl ⊕ Raised) × En)}
theorem ev_mXl (hi : heldM ρ[i]? = some (.ob Ca ns ds)) (ha : fa ρ = some (rs, ρ1)) (hn : (bwL (.bw i :: rs ++ gs.map .bw)).Nodup) (hl : lendL ρ1 (.bw i :: rs ++ gs.map .bw) = some qs) (hF : F qs = some (z, es)) (hb : backS ρ1 (.bw i :: rs ++ gs.map .bw) es = some ρ2) (hr : isRes z = true) : mX Ca ns F Xf gs i fa ρ = some (.inl z, ρ2) := by
  unfold mX
  rw [hi]
  show (if Ca = Ca ∧ ns = ns then _ else _) = _
  rw [if_pos ⟨rfl, rfl⟩]
  simp only [ha]
  rw [if_pos hn]
  simp only [hl, hF, hb]
  rw [if_pos hr]
theorem ev_mXr (hi : heldM ρ[i]? = some (.ob Ca ns ds)) (ha : fa ρ = some (rs, ρ1)) (hn : (bwL (.bw i :: rs ++ gs.map .bw)).Nodup) (hl : lendL ρ1 (.bw i :: rs ++ gs.map .bw) = some qs) (hF : F qs = none) (hX : Xf qs = some (y, es)) (hb : backS ρ1 (.bw i :: rs ++ gs.map .bw) es = some ρ2) : mX Ca ns F Xf gs i fa ρ = some (.inr y, ρ2) := by
  unfold mX
  rw [hi]
  show (if Ca = Ca ∧ ns = ns then _ else _) = _
  rw [if_pos ⟨rfl, rfl⟩]
  simp only [ha]
  rw [if_pos hn]
  simp only [hl, hF, hX, hb]
theorem fn_x {B : Fs} {k : Nat} {C : Addr} {ρe : En} (h : B (ρ ++ List.replicate k .un) = some (.ex C ns ds, ρe)) (hf : fin ρ ρe = es) : runF k B ρ = none ∧ runX k B ρ = some ((C, ns, ds), es) := by
  unfold runF runX
  rw [h]
  exact ⟨rfl, by rw [← hf]⟩
theorem seq_out (h : A ρ = some (fl, ρ1)) (n : fl ≠ .nx) : bSeq A B ρ = some (fl, ρ1) := by
  unfold bSeq
  simp only [h]
  cases fl with
  | nx => exact absurd rfl n
  | _ => rfl
theorem if_yes (ht : t ρ = some (true, ρ1)) (h : A ρ1 = some (fl, ρ2)) : bIf t A B ρ = some (fl, ρ2) := by
  unfold bIf
  simp only [ht]
  exact h
theorem ev_asg2 (h : f ρ = some (.inl z, ρ1)) (hn : notRf ρ1 j = true) : bAsg2 j f ρ = some (.nx, ρ1.set j z) := by
  unfold bAsg2
  simp only [h]
  rw [if_pos hn]
theorem ev_asg2x (h : f ρ = some (.inr y, ρ1)) : bAsg2 j f ρ = some (.ex y.1 y.2.1 y.2.2, ρ1) := by
  unfold bAsg2
  simp only [h]
theorem ev_try2x {cs : List Addr} (h : f ρ = some (.inr y, ρ1)) (hc : y.1 ∈ cs) (hn : notRf ρ1 i = true) (hB : B (ρ1.set i (.fz (.exn y.1 y.2.1 y.2.2))) = some (.nx, ρ2)) (hn2 : notRf ρ2 i = true) : bTry2 i cs f B ρ = some (.nx, ρ2.set i .un) := by
  unfold bTry2
  simp only [h]
  rw [if_pos ⟨hc, hn⟩]
  simp only [hB]
  rw [if_pos hn2]
end
end DL
namespace G
open PySem PySem.Spec L2 DL
section
variable {A : Str → Addr} {b : Board} {bk : List Rule} {q1 q2 : Addr} {busy : D} {k : Kept} {l : Logs} {nm : Str}
abbrev noN (A : Str → Addr) (nm : Str) : Raised := (A "NoName", ["name"], [.str nm])
theorem X_log (g : hasK k nm = false) (hn : decide (nm.length ≤ 1000) = true) :
    F_Yard_log A [.rf (yO A b bk q1 q2 busy), .fz (.str nm), .rf (yK q1 k), .rf (yL q2 l)] = none ∧ X_Yard_log A [.rf (yO A b bk q1 q2 busy), .fz (.str nm), .rf (yK q1 k), .rf (yL q2 l)] = some (noN A nm, ([.rf (yO A b bk q1 q2 busy), .fz (.str nm), .rf (yK q1 k), .rf (yL q2 l)] : En)) := by
  refine fn_x (ρe := [.rf (yO A b bk q1 q2 busy), .fz (.str nm), .rf (yK q1 k), .rf (yL q2 l)]) ?_ rfl
  unfold d_Yard_log
  show bSeq _ _ [.rf (yO A b bk q1 q2 busy), .fz (.str nm), .rf (yK q1 k), .rf (yL q2 l)] = _
  refine seq_out (if_yes (te_tst (ev_as (z := .fz (.bl true)) (ev_viaIn (ev_var rfl) (ev_pt rfl rfl rfl) rfl (mget_at (ev := eSt) kfS kS_inj k nm)) ?_)) ?_) (fun h => nomatch h)
  · rw [Option.isSome_map, has_get, g]; rfl
  · unfold bRaise
    rw [ev_fr (ev_var rfl) rfl]
    show (if okI (.str nm) = true then _ else _) = _
    rw [if_pos (show okI (.str nm) = true from hn)]
theorem X_undo {m : Int} (g : hasK k nm = false) (hn : decide (nm.length ≤ 1000) = true) :
    F_Yard_undo A [.rf (yO A b bk q1 q2 busy), .fz (.str nm), .fz (.int m), .rf (yK q1 k), .rf (yL q2 l)] = none ∧ X_Yard_undo A [.rf (yO A b bk q1 q2 busy), .fz (.str nm), .fz (.int m), .rf (yK q1 k), .rf (yL q2 l)] = some (noN A nm, ([.rf (yO A b bk q1 q2 busy), .fz (.str nm), .fz (.int m), .rf (yK q1 k), .rf (yL q2 l)] : En)) := by
  refine fn_x (ρe := [.rf (yO A b bk q1 q2 busy), .fz (.str nm), .fz (.int m), .rf (yK q1 k), .rf (yL q2 l), .un, .un]) ?_ rfl
  unfold d_Yard_undo
  show bSeq _ _ [.rf (yO A b bk q1 q2 busy), .fz (.str nm), .fz (.int m), .rf (yK q1 k), .rf (yL q2 l), .un, .un] = _
  exact seq_out (ev_asg2x (ev_mXr rfl (ar_cat (ar_fr (ev_var rfl) rfl ar_nil) ar_kon) (by show List.Nodup [0, 3, 4]; decide) rfl (X_log g hn).1 (X_log g hn).2 rfl)) (fun h => nomatch h)
theorem M_undo {st st' : List (Str × Int)} {lg : List (Int × Int)} {m : Int} (g : getK k nm = some st) (g1 : getK l nm = some lg) (h0 : m ≤ lg.length) (h : t_done b bk st (cutD lg (some ((lg.length : Int) - m)) none).reverse false = some st') (hk : k.length ≤ lim) (hl : l.length ≤ lim) (g' : getK (putK' k nm st') nm = some st') :
    F_Yard_undo A [.rf (yO A b bk q1 q2 busy), .fz (.str nm), .fz (.int m), .rf (yK q1 k), .rf (yL q2 l)] = some (.fz (eSt st'), [.rf (yO A b bk q1 q2 .non), .fz (.str nm), .fz (.int m), .rf (yK q1 (putK' k nm st')), .rf (yL q2 (putK' l nm (cutD lg none (some ((lg.length : Int) - m)))))]) := by
  refine fn_eq ?_
  unfold d_Yard_undo
  have g0 : hasK k nm = true := by rw [← has_get, g]; rfl
  show Run _ [.rf (yO A b bk q1 q2 busy), .fz (.str nm), .fz (.int m), .rf (yK q1 k), .rf (yL q2 l), .un, .un] _
  refine run_seq (ev_asg2 (ev_mXl rfl (ar_cat (ar_fr (ev_var rfl) rfl ar_nil) ar_kon) (by show List.Nodup [0, 3, 4]; decide) rfl (M_log g0 g1) rfl rfl) rfl) ?_
  show Run _ [.rf (yO A b bk q1 q2 busy), .fz (.str nm), .fz (.int m), .rf (yK q1 k), .rf (yL q2 l), .fz (eLg lg), .un] _
  refine run_if (te_tst (ev_op (ev_var rfl) (ev_call (ar_cons (ev_var rfl) ar_nil) rfl (d_lenV _)) rfl rfl rfl)) (fun h1 => ?_) fun _ => ?_
  · have := of_decide_eq_true h1; omega
  refine run_next ?_
  refine run_asg (z := .fz (.int ((lg.length : Int) - m))) (ev_op (ev_call (ar_cons (ev_var rfl) ar_nil) rfl (d_lenV _)) (ev_var rfl) rfl rfl rfl) rfl rfl ?_
  show Run _ [.rf (yO A b bk q1 q2 busy), .fz (.str nm), .fz (.int m), .rf (yK q1 k), .rf (yL q2 l), .fz (eLg lg), .fz (.int ((lg.length : Int) - m))] _
  refine run_last ?_
  exact run_rtE (ev_methO rfl (ar_cat (ar_fr (ev_var rfl) rfl (ar_fr (ev_back (ev_sl (ev_var rfl) (fo_some (ev_var rfl)) fo_no rfl (d_slV _ _ _)) rfl) rfl (ar_fr (ev_sl (ev_var rfl) fo_no (fo_some (ev_var rfl)) rfl (d_slV _ _ _)) rfl ar_nil))) ar_kon) (by show List.Nodup [0, 3, 4]; decide) rfl (M_worked g h hk hl g') rfl rfl) rfl rfl
theorem none_there_ok (g : hasK k nm = false) (hn : decide (nm.length ≤ 1000) = true) :
    F__law_none_there A [.rf (yO A b bk q1 q2 busy), .fz (.str nm), .rf (yK q1 k), .rf (yL q2 l)] = some (.fz (.bl true), [.rf (yO A b bk q1 q2 busy), .fz (.str nm), .rf (yK q1 k), .rf (yL q2 l)]) := by
  refine fn_eq ?_
  unfold d__law_none_there
  show Run _ [.rf (yO A b bk q1 q2 busy), .fz (.str nm), .rf (yK q1 k), .rf (yL q2 l), .un, .un] _
  refine run_asg ev_c rfl rfl ?_
  show Run _ [.rf (yO A b bk q1 q2 busy), .fz (.str nm), .rf (yK q1 k), .rf (yL q2 l), .fz .non, .un] _
  refine run_seq (ev_try2x (ρ2 := [.rf (yO A b bk q1 q2 busy), .fz (.str nm), .rf (yK q1 k), .rf (yL q2 l), .fz (.str nm), .fz (.exn (A "NoName") ["name"] [.str nm])]) (ev_mXr rfl (ar_cat (ar_fr (ev_var rfl) rfl ar_nil) (ar_fr ev_c rfl ar_nil)) (by show List.Nodup [0, 2, 3]; decide) rfl (X_undo g hn).1 (X_undo g hn).2 rfl) (List.mem_singleton.mpr rfl) rfl (run_nx (run_last ?_)) rfl) ?_
  · refine run_asg (ρ2 := [.rf (yO A b bk q1 q2 busy), .fz (.str nm), .rf (yK q1 k), .rf (yL q2 l), .fz .non, .fz (.exn (A "NoName") ["name"] [.str nm])]) (r := .fz (.str nm)) (z := .fz (.str nm)) ?_ rfl rfl ⟨.nx, _, rfl, rfl, rfl⟩
    unfold dXf
    rw [ev_var rfl]
    show (if A "NoName" ∈ [A "NoName"] then _ else _) = _
    rw [if_pos (List.mem_singleton.mpr rfl)]
    rfl
  show Run _ [.rf (yO A b bk q1 q2 busy), .fz (.str nm), .rf (yK q1 k), .rf (yL q2 l), .fz (.str nm), .un] _
  refine run_last ?_
  refine run_rtE (ev_as (z := .fz (.bl true)) (ev_op (ev_var rfl) (ev_var rfl) rfl rfl rfl) ?_) rfl rfl
  show Sl.fz (.bl (decide (nm = nm))) = _
  rw [decide_eq_true rfl]
end
end G
namespace DL
open PySem PySem.Spec L2
theorem ev_new {i : Nat} {gs L : List Nat} {C : Addr} {ns : List Str} {src : List Src} {fa : Fa} {B : Fs} {ρ ρ1 : En} {rs : List Sl} {ds : List D} {y : Fl × En} (ha : fa ρ = some (rs, ρ1)) (hd : dsOf rs = some ds) (hi : notRf ρ1 i = true) (hg : ∀ g ∈ gs, notRf ρ1 g = true ∧ g ≠ i) (hl : ns.length = src.length)
    (hB : ∀ qs : List Addr, qs.length = gs.length → ∃ fl ρ', B (newE ρ1 i gs C ns (mkD ds (qs.map .ptr) src) qs) = some (fl, ρ') ∧ lettg L (fl, ρ') = some y) : bNew i gs L C ns src fa B ρ = some y := by
  have h : ∃ y, ∀ qs : List Addr, qs.length = gs.length → (B (newE ρ1 i gs C ns (mkD ds (qs.map .ptr) src) qs)).bind (lettg L) = some y := ⟨y, fun qs ql => by
    obtain ⟨fl, ρ', e, e2⟩ := hB qs ql
    rw [e]
    exact e2⟩
  unfold bNew
  simp only [ha, hd]
  rw [if_pos ⟨⟨hi, hg⟩, hl⟩, dif_pos h]
  have s := h.choose_spec (List.replicate gs.length (Classical.choice ⟨default⟩)) (by simp)
  obtain ⟨fl, ρ', e, e2⟩ := hB (List.replicate gs.length (Classical.choice ⟨default⟩)) (by simp)
  rw [e] at s
  exact congrArg some (Option.some.inj (s.symm.trans e2))
theorem te_or0 {t u : Ft} {ρ ρ1 ρ2 : En} {c : Bool} (ha : t ρ = some (false, ρ1)) (hb : u ρ1 = some (c, ρ2)) : dOr t u ρ = some (c, ρ2) := by
  unfold dOr
  simp only [ha, hb]
theorem run_if0 {t : Ft} {A B C : Fs} {ρ ρ1 : En} {Q : Fl → En → Prop} (ht : t ρ = some (false, ρ1)) (k : Run (bSeq B C) ρ1 Q) : Run (bSeq (bIf t A B) C) ρ Q := by
  obtain ⟨fl, ρ', e, q⟩ := k
  refine ⟨fl, ρ', ?_, q⟩
  rw [← e]
  unfold bSeq bIf
  simp only [ht]
theorem nks_map {α : Type} {e : α → D} (h : ∀ x, (e x).nk = true) : ∀ xs : List α, D.nks (xs.map e) = true
  | [] => by rw [List.map_nil, D.nks]
  | x :: xs => by rw [List.map_cons, D.nks, h, nks_map h xs]; rfl
theorem nk_tup {α : Type} {e : α → D} (h : ∀ x, (e x).nk = true) (xs : List α) : (D.tup (xs.map e)).nk = true := by rw [D.nk]; exact nks_map h xs
theorem nkKV_map {κ ν : Type} {ek : κ → Key} {ev : ν → D} (h : ∀ v, (ev v).nk = true) : ∀ kvs : List (κ × ν), nkKV (mapKV ek ev kvs) = true
  | [] => rfl
  | p :: kvs => by
    show ((ev p.2).nk && nkKV (mapKV ek ev kvs)) = true
    rw [h, nkKV_map h kvs]
    rfl
theorem nk_int (i : Int) : (D.int i).nk = true := by rw [D.nk]
theorem nk_str (s : Str) : (D.str s).nk = true := by rw [D.nk]
theorem nk_board (b : Board) : (Board.d b).nk = true := by cases b <;> simp [Board.d, D.nk, D.nks]
theorem nk_rule (r : Rule) : (Rule.d r).nk = true := by cases r <;> simp [Rule.d, D.nk, D.nks]
theorem nk_pair {α β : Type} {ea : α → D} {eb : β → D} (h : ∀ x, (ea x).nk = true) (g : ∀ x, (eb x).nk = true) (p : α × β) : (eP ea eb p).nk = true := by
  unfold eP
  simp [D.nk, D.nks, h, g]
end DL
namespace G
open PySem PySem.Spec L2 DL
theorem nk_st (st : List (Str × Int)) : (eSt st).nk = true := nk_tup (nk_pair nk_str nk_int) st
theorem nk_lg (l : List (Int × Int)) : (eLg l).nk = true := nk_tup (nk_pair nk_int nk_int) l
theorem nk_un : Sl.un.nk = true := rfl
theorem nk_fz (d : D) : (Sl.fz d).nk = d.nk := rfl
theorem nk_ow (m : Mu) : (Sl.ow m).nk = m.nk := rfl
end G
namespace G
open PySem PySem.Spec L2 DL
theorem filO_none {α : Type} {p : α → Option Bool} {f : α → Option Int} {xs : List α} (hl : xs.length ≤ 1000) (h : ∀ x ∈ xs, p x = some false) : filO p f xs = some [] := by
  unfold filO
  rw [if_pos (Nat.le_trans hl (by decide))]
  clear hl
  induction xs with
  | nil => rfl
  | cons x xs ih =>
    unfold filR
    rw [h x List.mem_cons_self]
    exact ih fun z hz => h z (List.mem_cons_of_mem _ hz)
section
variable {A : Str → Addr} {b : Board} {bk : List Rule} {q1 q2 : Addr} {k : Kept} {l : Logs}
theorem all_right_ok (y : YGood k l) :
    F__law_all_right A [.rf (yO A b bk q1 q2 .non), .fz (dkOf kS eSt k), .fz (dkOf kS eLg l), .rf (yK q1 k), .rf (yL q2 l)] = some (.fz (.bl true), [.rf (yO A b bk q1 q2 .non), .fz (dkOf kS eSt k), .fz (dkOf kS eLg l), .rf (yK q1 k), .rf (yL q2 l)]) := by
  have nm : ∀ x ∈ k.map (·.1), StrGood x := fun x hx => by
    obtain ⟨p, hp, rfl⟩ := List.mem_map.mp hx
    exact y.nm p hp
  have e1 := names_self nm
  have eq : eqKVs (mapKV kS eSt k) (mapKV kS eSt k) = true := eqKV_self kS_inj y.nd fun p hp => eqO_shw (things_shw (y.kk p hp).1 (y.kk p hp).2) (by decide)
  refine fn_eq ?_
  unfold d__law_all_right
  show Run _ [.rf (yO A b bk q1 q2 .non), .fz (dkOf kS eSt k), .fz (dkOf kS eLg l), .rf (yK q1 k), .rf (yL q2 l), .un] _
  have ml : (k.map (·.1)).length < 64 := by rw [List.length_map]; exact y.few
  have lenE : ∀ ρ : En, eVar 1 (.rf (yO A b bk q1 q2 .non) :: .fz (dkOf kS eSt k) :: ρ) = some (.fz (dkOf kS eSt k), .rf (yO A b bk q1 q2 .non) :: .fz (dkOf kS eSt k) :: ρ) := fun ρ => ev_var rfl
  have srt : ∀ ρ : En, dSortK (eVar 1) (.rf (yO A b bk q1 q2 .non) :: .fz (dkOf kS eSt k) :: ρ) = some (.ow (.l ((sortS (k.map (·.1))).map .str)), .rf (yO A b bk q1 q2 .non) :: .fz (dkOf kS eSt k) :: ρ) := fun ρ => ev_sortK (lenE ρ) (kvOf_dk k) (ktxt_map k) ml
  have nms : ∀ u : Sl, fMethO (A "Yard") ["board", "book", "limit", "kept", "noted", "busy"] (F_Yard_names A) [3, 4] 0 (aKon []) [.rf (yO A b bk q1 q2 .non), .fz (dkOf kS eSt k), .fz (dkOf kS eLg l), .rf (yK q1 k), .rf (yL q2 l), u] = some (.ow (.l ((sortS (k.map (·.1))).map .str)), [.rf (yO A b bk q1 q2 .non), .fz (dkOf kS eSt k), .fz (dkOf kS eLg l), .rf (yK q1 k), .rf (yL q2 l), u]) := fun u => ev_methO rfl ar_kon (by show List.Nodup [0, 3, 4]; decide) rfl (M_names y.few) rfl rfl
  have sts : ∀ u : Sl, fMethO (A "Yard") ["board", "book", "limit", "kept", "noted", "busy"] (F_Yard_stands A) [3, 4] 0 (aKon []) [.rf (yO A b bk q1 q2 .non), .fz (dkOf kS eSt k), .fz (dkOf kS eLg l), .rf (yK q1 k), .rf (yL q2 l), u] = some (.ow (.k (mapKV kS eSt k)), [.rf (yO A b bk q1 q2 .non), .fz (dkOf kS eSt k), .fz (dkOf kS eLg l), .rf (yK q1 k), .rf (yL q2 l), u]) := fun u => ev_methO rfl ar_kon (by show List.Nodup [0, 3, 4]; decide) rfl M_stands rfl rfl
  have hl0 := y.few
  refine run_if (c := false) (te_or (b1 := false) (te_tst (ev_op (nms _) (srt _) rfl rfl (d_ne e1 rfl))) (te_or (b1 := false) (b2 := false) (te_tst (ev_op (ev_lenOb (ev_methO rfl ar_nil (by show List.Nodup [0, 3, 4]; decide) rfl M_len rfl rfl) (by omega) (by omega)) (ev_as (z := .fz (.int (k.length : Nat))) (ev_lenD (lenE _) (kvOf_dk k)) (by rw [len_mapKV])) rfl rfl (gNe_int _))) (te_tst (ev_op (ev_ob rfl rfl) ev_c rfl rfl rfl)))) (fun h => nomatch h) fun _ => run_next ?_
  refine run_if (c := false) (te_tst (ev_cmpD (neg := true) (sts _) (lenE _) rfl (kvOf_dk k) eq)) (fun h => nomatch h) fun _ => run_next ?_
  refine run_last ?_
  refine run_rtE (ev_op (ev_lcF (ea := D.str) (eb := D.int) (r := []) (p := fun x => if hasK k x = true then some false else none) (f := fun _ => some (1 : Int)) (filO_none (xs := k.map (·.1)) (by omega) fun x hx => if_pos (by
      obtain ⟨p, hp, rfl⟩ := List.mem_map.mp hx
      unfold hasK
      exact List.any_eq_true.mpr ⟨p, hp, decide_eq_true rfl⟩)) (it_keysS (lenE _) rfl) (fun x c hp => ?_) rfl) (ev_lst ar_nil rfl rfl) rfl rfl (d_eq (b := true) (eqO_self (by rfl)) rfl)) rfl rfl
  have hx : hasK k x = true := by
    by_cases h' : hasK k x = true
    · exact h'
    · rw [if_neg h'] at hp; cases hp
  rw [if_pos hx] at hp
  cases hp
  obtain ⟨st, g⟩ := Option.isSome_iff_exists.mp (by rw [has_get]; exact hx : (getK k x).isSome = true)
  obtain ⟨lg, g1, g2, g3⟩ := y.ll x hx
  have ks := y.kk _ (get_mem g)
  refine ⟨_, tg_nm rfl, te_or (b1 := false) (b2 := false) (te_tst (ev_op (ev_methO rfl (ar_cat (ar_fr (ev_var rfl) rfl ar_nil) ar_kon) (by show List.Nodup [0, 3, 4]; decide) rfl (M_standing g) rfl rfl) (ev_dgF kfS kS_inj g (lenE _) (ev_var rfl) rfl rfl) rfl rfl (d_ne (eqO_shw (things_shw ks.1 ks.2) (by decide)) rfl)))
    (te_tst (ev_op (ev_methO rfl (ar_cat (ar_fr (ev_var rfl) rfl ar_nil) ar_kon) (by show List.Nodup [0, 3, 4]; decide) rfl (M_log hx g1) rfl rfl) (ev_dgF kfS kS_inj g1 (ev_var rfl) (ev_var rfl) rfl rfl) rfl rfl (d_ne (eqO_shw (lg_shw g2 g3) (by decide)) rfl))), fun _ => rfl, fun h => nomatch h⟩
end
end G
set_option maxHeartbeats 1000000
set_option exponentiation.threshold 10000
namespace G
open PySem PySem.Spec L2 DL
def PotOk (n : Nat) (xs : List Int) : Prop := ∃ a b c : Int, xs = [a, b, c] ∧ 0 ≤ b ∧ b < 2 ^ 200 ∧ 0 ≤ c ∧ c ≤ n
theorem PotOk.more {n m : Nat} {xs : List Int} (h : PotOk n xs) (l : n ≤ m) : PotOk m xs := by
  obtain ⟨a, b, c, e, h1, h2, h3, h4⟩ := h
  exact ⟨a, b, c, e, h1, h2, h3, by omega⟩
theorem dip_ok {n : Nat} {pot : List Int} {m : Int} (h : PotOk n pot) (hm : 0 < m) (hb : m < 2 ^ 8000) (hn : n ≤ 2 ^ 64) :
    ∃ r pot', t__law_dip pot m = some (r, pot') ∧ 0 ≤ r ∧ r < m ∧ PotOk (n + 1) pot' := by
  obtain ⟨a, b, c, rfl, hb0, hb1, hc0, hc1⟩ := h
  have s0 : ∀ v : Int, setL [a, b, c] 0 v = some [v, b, c] := fun v => rfl
  have s2 : ∀ v : Int, setL [a, b, c] 2 v = some [a, b, v] := fun v => rfl
  by_cases ha : 0 < a
  · refine ⟨a % m, [a / m, b, c], ?_, Int.emod_nonneg _ (by omega), Int.emod_lt_of_pos _ hm, _, _, _, rfl, hb0, hb1, hc0, by omega⟩
    unfold t__law_dip
    simp only [ixI_0, bs, ha, decide_true, ct, modI_ok hm, divI_ok hm (log_s hm hb), s0]
  · have e1 : mulI 9999991 (c + 1) = some (9999991 * (c + 1)) := mulI_ok (a := 64) (b := 70) (by decide) (by omega) (by decide) (by decide) (by decide)
    have e2 : powI (b + 9999991 * (c + 1)) 3 = some ((b + 9999991 * (c + 1)) ^ 3) := powI_ok (n := 210) (by omega) (by omega) (by decide) (by omega)
    have p36 : powI 10 36 = some (10 ^ 36) := pow10_ok 36 (by decide)
    have p33 : powI 10 33 = some (10 ^ 33) := pow10_ok 33 (by decide)
    have m1 : modI ((b + 9999991 * (c + 1)) ^ 3) (10 ^ 36 + 67) = some ((b + 9999991 * (c + 1)) ^ 3 % (10 ^ 36 + 67)) := modI_ok (by decide)
    generalize hx : (b + 9999991 * (c + 1)) ^ 3 % (10 ^ 36 + 67) = x at m1
    have hx0 : 0 ≤ x := by rw [← hx]; exact Int.emod_nonneg _ (by decide)
    have hx1 : x < 10 ^ 36 + 67 := by rw [← hx]; exact Int.emod_lt_of_pos _ (by decide)
    have e3 : mulI 7919 (c + 1) = some (7919 * (c + 1)) := mulI_ok (a := 64) (b := 70) (by decide) (by omega) (by decide) (by decide) (by decide)
    have e4 : powI (x + 7919 * (c + 1)) 3 = some ((x + 7919 * (c + 1)) ^ 3) := powI_ok (n := 210) (by omega) (by omega) (by decide) (by omega)
    have m2 : modI ((x + 7919 * (c + 1)) ^ 3) (10 ^ 33 + 61) = some ((x + 7919 * (c + 1)) ^ 3 % (10 ^ 33 + 61)) := modI_ok (by decide)
    have q1 : ∀ i, divI i 4096 = some (i / 4096) := fun i => divI_ok (by decide) (by decide)
    refine ⟨(x + 7919 * (c + 1)) ^ 3 % (10 ^ 33 + 61) / 4096 % m, [a, b, c + 1], ?_, Int.emod_nonneg _ (by omega), Int.emod_lt_of_pos _ hm, _, _, _, rfl, hb0, hb1, by omega, by omega⟩
    unfold t__law_dip
    simp only [ixI_0, ixI_1, ixI_2, bs, ha, decide_false, cf, s2, e1, e2, p36, p33, m1, e3, e4, m2, q1, modI_ok hm]
theorem pot_ok (ns : List Int) (at_ : Int) (h0 : 0 ≤ at_) (h : at_ ≤ 100) : ∃ pot, t__law_pot ns at_ = some pot ∧ PotOk 0 pot := by
  have p18 : powI 10 18 = some (10 ^ 18) := pow10_ok 18 (by decide)
  have p37 : powI 10 37 = some (10 ^ 37) := pow10_ok 37 (by decide)
  have m1 : ∀ i, modI i (10 ^ 37 + 43) = some (i % (10 ^ 37 + 43)) := fun i => modI_ok (by decide)
  have e1 : mulI 104729 at_ = some (104729 * at_) := mulI_s (by decide) (by omega)
  have key : ∀ cell : Int, PotOk 0 [mxI 0 (cell - 10 ^ 18), cell % (10 ^ 37 + 43) + 104729 * at_, 0] := fun cell => by
    have h1 : 0 ≤ cell % (10 ^ 37 + 43) := Int.emod_nonneg _ (by decide)
    have h2 : cell % (10 ^ 37 + 43) < 10 ^ 37 + 43 := Int.emod_lt_of_pos _ (by decide)
    exact ⟨_, _, _, rfl, by omega, by omega, by omega, by omega⟩
  unfold t__law_pot
  by_cases hc : at_ < (ns.length : Int)
  · obtain ⟨v, hv, _⟩ := ixI_lt h0 hc
    refine ⟨_, ?_, key v⟩
    simp only [hc, decide_true, ct, hv, bs, p18, p37, m1, e1]
  · refine ⟨_, ?_, key 0⟩
    simp only [hc, decide_false, cf, bs, p18, p37, m1, e1]
theorem cells_range (ns : List Int) (hn : ns.length ≤ 63) (k : Int) (hk : k ≤ 10) : rngO 0 (mxI 1 (mnI k (ns.length : Nat))) = some (rangeI 0 (mxI 1 (mnI k (ns.length : Nat)))) ∧ ∀ x ∈ rangeI 0 (mxI 1 (mnI k (ns.length : Nat))), 0 ≤ x ∧ x ≤ 100 := by
  have hb : 1 ≤ mxI 1 (mnI k (ns.length : Nat)) ∧ mxI 1 (mnI k (ns.length : Nat)) ≤ 63 := by
    unfold mxI mnI
    constructor
    · split <;> omega
    · split
      · split <;> omega
      · omega
  refine ⟨rngO_ok (by decide) (by omega), fun x hx => ?_⟩
  have := mem_rangeI.mp hx
  omega
end G
namespace DL
open PySem PySem.Spec L2
theorem ixS_letter {i : Int} (h0 : 0 ≤ i) (h : i < 26) : ixS "abcdefghijklmnopqrstuvwxyz" i = some (S [97 + i.toNat]) := by
  have e : i = ((i.toNat : Nat) : Int) := by omega
  unfold ixS
  rw [if_pos (by rw [letters_len]; decide)]
  rw [e]
  show (atI (Str.ofString "abcdefghijklmnopqrstuvwxyz").cps.toList _).map _ = _
  rw [letters_at i.toNat (by omega)]
  rfl
theorem cutSO_letter {i : Int} (h0 : 0 ≤ i) (h : i < 26) : cutSO "abcdefghijklmnopqrstuvwxyz" (some i) (some (i + 1)) = some (S [97 + i.toNat]) := by
  have e : i = ((i.toNat : Nat) : Int) := by omega
  unfold cutSO
  rw [if_pos (by rw [letters_len]; decide)]
  have := cut_letter i.toNat (by omega)
  rw [← e] at this
  rw [this]
theorem repS_0 (l : List Nat) (h : l.length ≤ 1000) : repS (S l) 0 = some (S []) := by
  unfold repS
  rw [if_pos ⟨by decide, by decide, by rw [S_len]; exact h⟩, S_mul0]
theorem repS_1 (l : List Nat) (h : l.length ≤ 1000) : repS (S l) 1 = some (S l) := by
  unfold repS
  rw [if_pos ⟨by decide, by decide, by rw [S_len]; exact h⟩, S_mul1]
theorem repS_2 {l : List Nat} (h0 : l ≠ []) (h : l.length ≤ 1000) : repS (S l) 2 = some (S (l ++ l)) := by
  unfold repS
  rw [if_pos ⟨by decide, by decide, by rw [S_len]; exact h⟩, S_mul2 h0]
theorem catS_S {a b : List Nat} (h : a.length + b.length ≤ 1000000) : catS (S a) (S b) = some (S (a ++ b)) := by
  rw [catS_ok (by rw [S_len, S_len]; exact h), S_app]
theorem ix6 {α : Type} (a b c d e f : α) {i : Int} (h0 : 0 ≤ i) (h : i < 6) : ∃ v, ixI ([a, b, c, d] ++ [e, f]) i = some v ∧ (v = a ∨ v = b ∨ v = c ∨ v = d ∨ v = e ∨ v = f) := by
  obtain ⟨v, e1, e2, _⟩ := ixI_lt (xs := [a, b, c, d] ++ [e, f]) h0 h
  exact ⟨v, e1, by simpa using e2⟩
end DL
namespace G
open PySem PySem.Spec L2 DL
theorem name_ok {style sign number : Int} (h0 : 0 ≤ style) (h1 : style < 6) (g0 : 0 ≤ sign) (h2 : sign < 26) (k0 : 0 ≤ number) (h3 : number < 36) : ∃ s, t__law_name style sign number = some s ∧ NameOk s := by
  have a1 : 0 ≤ (number + sign) % 26 ∧ (number + sign) % 26 < 26 := by omega
  have a2 : 0 ≤ (number / 26 * 5 + sign) % 26 ∧ (number / 26 * 5 + sign) % 26 < 26 := by omega
  generalize hi : (number + sign) % 26 = i at a1
  generalize hj : (number / 26 * 5 + sign) % 26 = j at a2
  have m1 : modI (number + sign) 26 = some i := by rw [modI_ok (by decide), hi]
  have d1 : divI number 26 = some (number / 26) := divI_s (by decide) (by decide)
  have u1 : mulI (number / 26) 5 = some (number / 26 * 5) := mulI_s (by omega) (by decide)
  have m2 : modI (number / 26 * 5 + sign) 26 = some j := by rw [modI_ok (by decide), hj]
  have m3 : modI number 2 = some (number % 2) := modI_ok (by decide)
  have l1 := ixS_letter a1.1 a1.2
  have l2 := ixS_letter a2.1 a2.2
  have l3 := ixS_letter g0 h2
  have l4 := cutSO_letter g0 h2
  obtain ⟨x, hx⟩ : ∃ x, x = 97 + i.toNat := ⟨_, rfl⟩
  obtain ⟨y, hy⟩ : ∃ y, y = 97 + j.toNat := ⟨_, rfl⟩
  obtain ⟨z, hz⟩ : ∃ z, z = 97 + sign.toNat := ⟨_, rfl⟩
  rw [← hx] at l1
  rw [← hy] at l2
  rw [← hz] at l3 l4
  have bx : 97 ≤ x ∧ x ≤ 122 := by omega
  have by_ : 97 ≤ y ∧ y ≤ 122 := by omega
  have bz : 97 ≤ z ∧ z ≤ 122 := by omega
  obtain ⟨k, hk, hk1⟩ : ∃ k : List Nat, repS (S [y]) (b2i (decide (25 < number))) = some (S k) ∧ (k = [] ∨ k = [y]) := by
    by_cases c : 25 < number
    · exact ⟨_, by rw [decide_eq_true c]; exact repS_1 _ (by simp), .inr rfl⟩
    · exact ⟨_, by rw [decide_eq_false c]; exact repS_0 _ (by simp), .inl rfl⟩
  obtain ⟨p, hp, hp1⟩ : ∃ p : List Nat, repS (S [x]) (1 + number % 2) = some (S p) ∧ (p = [x] ∨ p = [x, x]) := by
    have : number % 2 = 0 ∨ number % 2 = 1 := by omega
    rcases this with e | e
    · exact ⟨_, by rw [e]; exact repS_1 _ (by simp), .inl rfl⟩
    · exact ⟨_, by rw [e]; exact repS_2 (by simp) (by simp), .inr rfl⟩
  have z2 : repS (S [z]) 2 = some (S ([z] ++ [z])) := repS_2 (by simp) (by simp)
  have hkl : k.length ≤ 1 := by rcases hk1 with rfl | rfl <;> simp
  have hpl : p.length ≤ 2 := by rcases hp1 with rfl | rfl <;> simp
  have c1 : catS (S [x]) (S k) = some (S ([x] ++ k)) := catS_S (by simp; omega)
  have c2 : catS (S ([z] ++ [y])) (S p) = some (S (([z] ++ [y]) ++ p)) := catS_S (by simp; omega)
  have cc : ∀ a b : List Nat, a.length ≤ 4 → b.length ≤ 4 → catS (S a) (S b) = some (S (a ++ b)) := fun a b ha hb => catS_S (by omega)
  unfold t__law_name
  simp only [bs, m1, l1, d1, u1, m2, l2, hk, c1, l3, z2, l4, m3, hp]
  rw [cc [y] [x] (by simp) (by simp), bs, cc ([z] ++ [z]) [x] (by simp) (by simp), bs, cc ([z] ++ [z] ++ [x]) [y] (by simp) (by simp), bs, cc [x] [y] (by simp) (by simp), bs,
    cc ([x] ++ [y]) ([z] ++ [z]) (by simp) (by simp), bs, cc [y] ([z] ++ [z]) (by simp) (by simp), bs, cc ([y] ++ ([z] ++ [z])) [x] (by simp) (by simp), bs, cc [z] [y] (by simp) (by simp), bs, c2, bs,
    catL_ok (by simp), bs]
  obtain ⟨v, e, hv⟩ := ix6 (S ([x] ++ k)) (S ([y] ++ [x])) (S ([z] ++ [z] ++ [x] ++ [y])) (S ([x] ++ [y] ++ ([z] ++ [z]))) (S ([y] ++ ([z] ++ [z]) ++ [x])) (S ([z] ++ [y] ++ p)) h0 h1
  rw [e]
  refine ⟨v, rfl, ?_⟩
  rcases hv with rfl | rfl | rfl | rfl | rfl | rfl
  · rcases hk1 with rfl | rfl <;> exact name_S (by simp) (by simp) (by simp; omega)
  · exact name_S (by simp) (by simp) (by simp; omega)
  · exact name_S (by simp) (by simp) (by simp; omega)
  · exact name_S (by simp) (by simp) (by simp; omega)
  · exact name_S (by simp) (by simp) (by simp; omega)
  · rcases hp1 with rfl | rfl <;> exact name_S (by simp) (by simp) (by simp; omega)
theorem names_ok {n : Nat} {pot : List Int} {many : Int} (h : PotOk n pot) (hm0 : 1 ≤ many) (hm : many ≤ 36) (hn : n ≤ 2 ^ 60) :
    ∃ ns pot', t__law_names pot many = some (ns, pot') ∧ (ns.length : Int) = many ∧ (∀ s ∈ ns, NameOk s) ∧ PotOk (n + 5) pot' := by
  obtain ⟨r1, p1, e1, a1, b1, k1⟩ := dip_ok (m := 6) h (by decide) (by decide) (by omega)
  obtain ⟨r2, p2, e2, a2, b2, k2⟩ := dip_ok (m := 26) k1 (by decide) (by decide) (by omega)
  obtain ⟨r3, p3, e3, a3, b3, k3⟩ := dip_ok (m := 3) k2 (by decide) (by decide) (by omega)
  obtain ⟨r4, p4, e4, a4, b4, k4⟩ := dip_ok (m := 4) k3 (by decide) (by decide) (by omega)
  obtain ⟨r5, p5, e5, a5, b5, k5⟩ := dip_ok (m := 4) k4 (by decide) (by decide) (by omega)
  unfold t__law_names
  simp only [e1, e2, e3, e4, e5, bs]
  have hx : 1 ≤ mxI 1 (many - 1 - r3) ∧ mxI 1 (many - 1 - r3) ≤ 36 := by unfold mxI; split <;> omega
  generalize mxI 1 (many - 1 - r3) = x at hx
  obtain ⟨few, ef, f1, f2⟩ : ∃ few, ixI [36, 36, 1 + r4, x] r5 = some few ∧ 1 ≤ few ∧ few ≤ 36 := by
    have : r5 = 0 ∨ r5 = 1 ∨ r5 = 2 ∨ r5 = 3 := by omega
    rcases this with rfl | rfl | rfl | rfl
    · exact ⟨_, ixI_0 _ _, by decide, by decide⟩
    · exact ⟨_, ixI_1 _ _ _, by decide, by decide⟩
    · exact ⟨_, ixI_2 _ _ _ _, by omega, by omega⟩
    · exact ⟨_, ixI_3 _ _ _ _ _, by omega, by omega⟩
  rw [ef, bs, rngO_ok (by decide) (by omega), bs]
  have hg : ∀ x9 : Int, ∃ s, ((modI x9 few).bind fun v10 => (t__law_name r1 r2 v10).bind fun v11 => some v11) = some s ∧ NameOk s := fun x9 => by
    have q1 : 0 ≤ x9 % few := Int.emod_nonneg _ (by omega)
    have q2 : x9 % few < few := Int.emod_lt_of_pos _ (by omega)
    obtain ⟨s, es, hs⟩ := name_ok a1 b1 a2 b2 q1 (by omega)
    exact ⟨s, by rw [modI_ok (by omega), bs, es]; rfl, hs⟩
  obtain ⟨g, hg⟩ : ∃ g : Int → Str, ∀ x9, ((modI x9 few).bind fun v10 => (t__law_name r1 r2 v10).bind fun v11 => some v11) = some (g x9) ∧ NameOk (g x9) := ⟨fun x => (hg x).choose, fun x => (hg x).choose_spec⟩
  refine ⟨_, _, by rw [mapO_ok g (fun x _ => (hg x).1) (by rw [rangeI_len]; omega)]; rfl, ?_, fun s hs => ?_, k5.more (by omega)⟩
  · rw [List.length_map, rangeI_len]
    omega
  · obtain ⟨x, _, rfl⟩ := List.mem_map.mp hs
    exact (hg x).2
theorem mixed_ok {n : Nat} {pot : List Int} {things : List Str} (h : PotOk n pot) (hl : things.length ≤ 1000) (hn : n ≤ 2 ^ 60) :
    ∃ ns pot', t__law_mixed pot things = some (ns, pot') ∧ ns.Perm things ∧ PotOk (n + things.length) pot' := by
  unfold t__law_mixed
  rw [rngO_ok (by decide) (by omega), bs]
  have key : ∀ (m : Nat) (xs : List Int) (n : Nat) (pot : List Int) (left : List Str), xs.length = left.length → left.length ≤ 1000 → n ≤ 2 ^ 60 + 1000 - left.length → PotOk n pot → ∃ ns pot', mapSR (fun (s3 : List Int × List Str) (x2 : Int) =>
      (t__law_dip s3.1 (s3.2.length : Int)).bind fun v4 => (popAtL s3.2 v4.1).bind fun v5 => some (v5.1, (v4.2, v5.2))) xs (pot, left) = some (ns, pot', []) ∧ ns.Perm left ∧ PotOk (n + left.length) pot' := by
    intro _ xs
    induction xs with
    | nil =>
      intro n pot left h1 h2 h3 h4
      have : left = [] := List.eq_nil_of_length_eq_zero h1.symm
      subst this
      exact ⟨[], pot, rfl, List.Perm.refl _, h4⟩
    | cons x xs ih =>
      intro n pot left h1 h2 h3 h4
      have hpos : 0 < left.length := by rw [← h1]; simp
      obtain ⟨r, p, e1, a1, b1, k1⟩ := dip_ok (m := (left.length : Int)) h4 (by omega) (by omega) (by omega)
      obtain ⟨v, e2, e3⟩ := popAtL_of (xs := left) a1 b1 (by omega)
      have hr : r.toNat < left.length := by omega
      have el : (left.eraseIdx r.toNat).length = left.length - 1 := by rw [List.length_eraseIdx, if_pos hr]
      obtain ⟨ns, p', e4, e5, e6⟩ := ih (n + 1) p (left.eraseIdx r.toNat) (by rw [el, ← h1]; simp) (by rw [el]; omega) (by rw [el]; omega) k1
      refine ⟨v :: ns, p', ?_, (List.Perm.cons _ e5).trans (perm_pick e3), e6.more (by rw [el]; omega)⟩
      unfold mapSR
      simp only [e1, e2, bs, e4]
  obtain ⟨ns, p', e1, e2, e3⟩ := key 0 (rangeI 0 (things.length : Int)) n pot things (by rw [rangeI_len]; omega) hl (by omega) h
  refine ⟨ns, p', ?_, e2, e3⟩
  unfold mapS
  rw [if_pos (show _ ≤ big from by rw [rangeI_len]; exact Nat.le_trans (show _ ≤ 1000 by omega) (by decide)), e1]
  rfl
theorem standing_ok {n : Nat} {pot : List Int} {many : Int} (h : PotOk n pot) (hm0 : 1 ≤ many) (hm : many ≤ 36) (hn : n ≤ 2 ^ 50) :
    ∃ st pot', t__law_standing pot many = some (st, pot') ∧ (st.length : Int) = many ∧ StOk st ∧ PotOk (n + 80) pot' := by
  obtain ⟨ns, p1, e1, l1, g1, k1⟩ := names_ok h hm0 hm (by omega)
  obtain ⟨ms, p2, e2, l2, k2⟩ := mixed_ok (things := ns) k1 (by omega) (by omega)
  unfold t__law_standing
  simp only [e1, e2, bs]
  obtain ⟨ys, p3, e3, l3, f3, k3⟩ := mapS_inv (f := fun (s4 : List Int) (x3 : Str) => (t__law_dip s4 2).bind fun v5 => some ((x3, v5.1), v5.2)) PotOk (fun x y => y.1 = x ∧ 0 ≤ y.2 ∧ y.2 ≤ 1) 1 (xs := ms) (n := n + 5 + ns.length) (s := p2) (fun n' s x h1 h2 hx hi => by
    have := l2.length_eq
    obtain ⟨r, p, e, a, b, k⟩ := dip_ok (m := 2) hi (by decide) (by decide) (by omega)
    exact ⟨(x, r), p, by rw [e]; rfl, ⟨rfl, a, by omega⟩, k⟩) k2 (by have := l2.length_eq; omega)
  refine ⟨ys, p3, by rw [e3]; rfl, by rw [l3, l2.length_eq]; exact l1, fun p hp => ?_, k3.more (by have := l2.length_eq; omega)⟩
  obtain ⟨i, hi⟩ := List.mem_iff_getElem?.mp hp
  have hil := (List.getElem?_eq_some_iff.mp hi).1
  obtain ⟨y, hy, f⟩ := f3 i (ms[i]'(by omega)) (List.getElem?_eq_getElem (by omega))
  rw [hi] at hy
  cases hy
  exact ⟨by rw [f.1]; exact g1 _ (l2.mem_iff.mp (List.getElem_mem (by omega))), f.2.1, f.2.2⟩
end G
set_option maxHeartbeats 2000000
namespace G
open PySem PySem.Spec L2 DL
def left0 : Option (List Str) :=
  (some ("abcdefghijklmnopqrstuvwxyz" : Str)).bind fun letters_1 =>
  (mapO (fun (x2 : Str) =>
  (catS x2 ("zz" : Str)).bind fun v3 =>
  some v3) (signs letters_1)).bind fun v4 =>
  (signsO letters_1).bind fun v5 =>
  (catL v4 v5).bind fun v6 =>
  (mapO (fun (x7 : Str) =>
  (catS ("q" : Str) x7).bind fun v8 =>
  (catS v8 ("ab" : Str)).bind fun v9 =>
  some v9) (signs letters_1)).bind fun v10 =>
  catL v6 v10
theorem left0_ok : ∃ v, left0 = some v ∧ v.length = 78 ∧ ∀ s ∈ v, StrGood s ∧ s ≠ "aaaa" := by
  have h : (match left0 with | some v => v.length == 78 && v.all (fun s => decide (StrGood s) && decide (s ≠ ("aaaa" : Str))) | none => false) = true := by decide +kernel
  cases e : left0 with
  | none => rw [e] at h; cases h
  | some v =>
    rw [e] at h
    obtain ⟨h1, h2⟩ := Bool.and_eq_true_iff.mp (show (v.length == 78 && v.all _) = true from h)
    refine ⟨v, rfl, beq_iff_eq.mp h1, fun s hs => ?_⟩
    obtain ⟨h3, h4⟩ := Bool.and_eq_true_iff.mp (List.all_eq_true.mp h2 s hs)
    exact ⟨of_decide_eq_true h3, of_decide_eq_true h4⟩
theorem many_names_ok {n : Nat} {pot : List Int} (h : PotOk n pot) (hn : n ≤ 2 ^ 40) :
    ∃ NS pot', t__law_many_names pot = some (NS, pot') ∧ 1 ≤ NS.length ∧ NS.length ≤ 40 ∧ (∀ s ∈ NS, StrGood s ∧ s ≠ "aaaa") ∧ PotOk (n + 50) pot' := by
  obtain ⟨v, e0, l0, g0⟩ := left0_ok
  obtain ⟨r, p, e1, a1, b1, k1⟩ := dip_ok (m := 40) h (by decide) (by decide) (by omega)
  have et : t__law_many_names pot = left0.bind fun v11 => (t__law_dip pot (40 : Int)).bind fun v12 => (rngO (0 : Int) ((1 : Int) + v12.1)).bind fun v13 => (mapS (fun (s15 : (List Int) × (List Str)) (x14 : Int) => (t__law_dip s15.1 (s15.2.length : Int)).bind fun v16 => (popAtL s15.2 v16.1).bind fun v17 => some (v17.1, (v16.2, v17.2))) v13 (v12.2, v11)).bind fun v18 => some (v18.1, v18.2.1) := by
    unfold t__law_many_names left0
    simp only [Option.bind_assoc]
  obtain ⟨ys, s', e2, l2, f2, i2⟩ := mapS_inv (f := fun (s15 : (List Int) × (List Str)) (x14 : Int) => (t__law_dip s15.1 (s15.2.length : Int)).bind fun v16 => (popAtL s15.2 v16.1).bind fun v17 => some (v17.1, (v16.2, v17.2)))
    (fun n' s => PotOk n' s.1 ∧ s.2.length + n' = 78 + (n + 1) ∧ ∀ x ∈ s.2, StrGood x ∧ x ≠ "aaaa") (fun _ y => StrGood y ∧ y ≠ "aaaa") 1 (xs := rangeI 0 (1 + r)) (n := n + 1) (s := (p, v)) (fun n' s x h1 h2 hx hi => by
      rw [rangeI_len] at h2
      obtain ⟨i1, i2, i3⟩ := hi
      obtain ⟨r', p', e, a, b, k⟩ := dip_ok (m := (s.2.length : Int)) i1 (by omega) (by omega) (by omega)
      obtain ⟨y, e3, e4⟩ := popAtL_of (xs := s.2) a b (by omega)
      have hr : r'.toNat < s.2.length := by omega
      refine ⟨y, (p', s.2.eraseIdx r'.toNat), by simp only [e, bs, e3], i3 y (List.mem_of_getElem? e4), k, ?_, fun x hx => i3 x (List.mem_of_mem_eraseIdx hx)⟩
      rw [List.length_eraseIdx, if_pos hr]
      omega) ⟨k1, by rw [l0], g0⟩ (by rw [rangeI_len]; omega)
  rw [rangeI_len] at l2 i2
  refine ⟨ys, s'.1, ?_, by omega, by omega, fun y hy => ?_, i2.1.more (by omega)⟩
  · rw [et, e0, bs, e1, bs, rngO_ok (by decide) (by omega), bs, e2, bs]
  · obtain ⟨i, hi⟩ := List.mem_iff_getElem?.mp hy
    have hil := (List.getElem?_eq_some_iff.mp hi).1
    obtain ⟨z, hz, f⟩ := f2 i ((rangeI 0 (1 + r))[i]'(by rw [rangeI_len]; omega)) (List.getElem?_eq_getElem (by rw [rangeI_len]; omega))
    rw [hi] at hz
    cases hz
    exact f
end G
set_option maxHeartbeats 1000000
namespace G
open PySem PySem.Spec L2 DL
theorem board_ok {n : Nat} {pot : List Int} {m : Int} (h : PotOk n pot) (hm0 : 10 ≤ m) (hm : m ≤ 36) (hn : n ≤ 2 ^ 60) :
    ∃ b pot', t__law_board pot m = some (b, pot') ∧ b.ok m ∧ PotOk (n + 4) pot' := by
  obtain ⟨r1, p1, e1, a1, b1, k1⟩ := dip_ok (m := 4) h (by decide) (by decide) (by omega)
  unfold t__law_board
  simp only [e1, bs]
  by_cases c1 : r1 < 2
  · obtain ⟨r2, p2, e2, a2, b2, k2⟩ := dip_ok (m := m - 2) k1 (by omega) (by omega) (by omega)
    simp only [c1, decide_true, ct, e2, bs]
    exact ⟨_, _, rfl, ⟨by omega, by omega⟩, k2.more (by omega)⟩
  · simp only [c1, decide_false, cf]
    by_cases c2 : r1 = 2
    · obtain ⟨r2, p2, e2, a2, b2, k2⟩ := dip_ok (m := m - 4) k1 (by omega) (by omega) (by omega)
      simp only [c2, decide_true, ct, e2, bs]
      exact ⟨_, _, rfl, ⟨by omega, by omega⟩, k2.more (by omega)⟩
    · obtain ⟨r2, p2, e2, a2, b2, k2⟩ := dip_ok (m := 6) k1 (by omega) (by omega) (by omega)
      have q3 : mulI 3 (1 + r2) = some (3 * (1 + r2)) := mulI_s (by decide) (by omega)
      simp only [c2, decide_false, cf, e2, bs, q3]
      have fin : ∀ t : Int, 1 ≤ t → 3 * t ≤ m → ∃ b pot', ((divI m t).bind fun v14 => (t__law_dip p2 (v14 - 2)).bind fun v15 => (t__law_dip v15.2 2).bind fun v16 => (ixI [Board.floor t (3 + v15.1), Board.floor (3 + v15.1) t] v16.1).bind fun v17 => some (v17, v16.2)) = some (b, pot') ∧ b.ok m ∧ PotOk (n + 4) pot' := fun t h1 h2 => by
        have d1 : divI m t = some (m / t) := divI_s (by omega) (by omega)
        have l1 : 3 ≤ m / t := (Int.le_ediv_iff_mul_le (by omega)).mpr (by omega)
        have l2 : m / t ≤ m := Int.ediv_le_self _ (by omega)
        obtain ⟨r3, p3, e3, a3, b3, k3⟩ := dip_ok (m := m / t - 2) k2 (by omega) (by omega) (by omega)
        obtain ⟨r4, p4, e4, a4, b4, k4⟩ := dip_ok (m := 2) k3 (by omega) (by omega) (by omega)
        have l3 : t * (3 + r3) ≤ m := Int.le_trans (Int.mul_le_mul_of_nonneg_left (show 3 + r3 ≤ m / t by omega) (by omega)) (by rw [Int.mul_comm]; exact Int.ediv_mul_le m (by omega))
        have l4 : 3 + r3 ≤ m := by omega
        simp only [d1, bs, e3, e4]
        have ok1 : (Board.floor t (3 + r3)).ok m := ⟨by omega, by omega, by omega, l4, l3, .inr (by omega)⟩
        have ok2 : (Board.floor (3 + r3) t).ok m := ⟨by omega, by omega, l4, by omega, by rw [Int.mul_comm]; exact l3, .inl (by omega)⟩
        by_cases z : r4 = 0
        · subst z
          exact ⟨_, _, by rw [ixI_0]; rfl, ok1, k4.more (by omega)⟩
        · have z1 : r4 = 1 := by omega
          subst z1
          exact ⟨_, _, by rw [ixI_1]; rfl, ok2, k4.more (by omega)⟩
      by_cases c3 : m < 3 * (1 + r2)
      · have d3 : divI m 3 = some (m / 3) := divI_s (by decide) (by decide)
        simp only [c3, decide_true, ct, d3, bs]
        exact fin (m / 3) (by omega) (by omega)
      · simp only [c3, decide_false, cf]
        exact fin (1 + r2) (by omega) (by omega)
end G
namespace G
open PySem PySem.Spec L2 DL
theorem mul_cells {h w : Int} (hb : (Board.floor h w).ok 36) : mulI h w = some (h * w) := by
  obtain ⟨h1, h2, h3, h4, _⟩ := hb
  exact mulI_s (by omega) (by omega)
theorem cells_many_ok {b : Board} (hb : b.ok 36) : t_cells_many b = some b.cells := by
  unfold t_cells_many
  cases b with
  | row n => rfl
  | ring n => rfl
  | floor h w =>
    have := mul_cells hb
    simp only [Board.isFloor, ct, Board.n2, Board.n1, bs, this, Board.cells]
theorem grid_flat {W R C o : Int} (hW : W.natAbs ≤ 1000) (hR : R ≤ 1000) (hC : C ≤ 1000) (hR0 : -1000 ≤ R) (hC0 : -1000 ≤ C) :
    (rngO 0 R).bind (fun v10 => flatO (fun x11 => (rngO 0 C).bind fun v12 => mapR (fun x13 => (mulI x11 W).bind fun v14 => some (o + v14 + x13)) v12) v10) = some (grid o W R C) := by
  rw [rngO_ok (by decide) (by omega), bs]
  refine flatO_ok (fun i => (rangeI 0 C).map fun j => o + i * W + j) (fun i hi => ?_) ?_
  · have hi := mem_rangeI.mp hi
    have m : mulI i W = some (i * W) := mulI_s (by omega) (by omega)
    rw [rngO_ok (by decide) (by omega), bs]
    refine mapR_ok _ fun j hj => ?_
    rw [m]
    rfl
  · refine Nat.le_trans (grid_len o W R C) ?_
    have : R.toNat * C.toNat ≤ 1000 * 1000 := Nat.mul_le_mul (by omega) (by omega)
    omega
theorem bind_some' {α : Type} (o : Option α) : (o.bind fun v => some v) = o := by cases o <;> rfl
theorem first_cells_ok {b : Board} {r : Rule} (hb : b.ok 36) (h : r.fits b) : t_first_cells b r = some (cellsAt b r) := by
  unfold t_first_cells
  rw [cells_many_ok hb, bs]
  cases b <;> cases r <;> first | exact h.elim | skip
  · rename_i n k c
    obtain ⟨h1, h2⟩ := hb
    obtain ⟨k1, k2, _⟩ := h
    have m : mulI 2 k = some (2 * k) := mulI_s (by decide) (by omega)
    simp only [Board.isRow, ct, Rule.n1, m, bs, Board.cells]
    rw [rngL_ok (by decide) (by omega)]
    rfl
  · rename_i n k c
    obtain ⟨h1, h2⟩ := hb
    simp only [Board.isRow, Board.isRing, ct, cf, Board.cells]
    rw [rngL_ok (by decide) (by omega)]
    rfl
  · rename_i H W h' w c
    obtain ⟨h1, h2, h3, h4, _⟩ := hb
    obtain ⟨k1, k2, k3, k4, _⟩ := h
    have m1 : mulI h' (1 + b2i false) = some h' := by rw [mulI_s (by omega) (by decide)]; show some (h' * 1) = _; rw [Int.mul_one]
    have m2 : mulI w (1 + b2i true) = some (2 * w) := by rw [mulI_s (by omega) (by decide)]; show some (w * 2) = _; rw [Int.mul_comm]
    simp only [Board.isRow, Board.isRing, cf, Board.hw, bs, Rule.n1, Rule.n2, Rule.isUnder, Rule.isOver, m1, m2]
    have g := grid_flat (o := 0) (W := W) (R := H - h' + 1) (C := W - 2 * w + 1) (by omega) (by omega) (by omega) (by omega) (by omega)
    simp only [Int.zero_add] at g
    simp only [bind_some']
    exact g
  · rename_i H W h' w c
    obtain ⟨h1, h2, h3, h4, _⟩ := hb
    obtain ⟨k1, k2, k3, k4, _⟩ := h
    have m1 : mulI h' (1 + b2i true) = some (2 * h') := by rw [mulI_s (by omega) (by decide)]; show some (h' * 2) = _; rw [Int.mul_comm]
    have m2 : mulI w (1 + b2i false) = some w := by rw [mulI_s (by omega) (by decide)]; show some (w * 1) = _; rw [Int.mul_one]
    simp only [Board.isRow, Board.isRing, cf, Board.hw, bs, Rule.n1, Rule.n2, Rule.isUnder, Rule.isOver, m1, m2]
    have g := grid_flat (o := 0) (W := W) (R := H - 2 * h' + 1) (C := W - w + 1) (by omega) (by omega) (by omega) (by omega) (by omega)
    simp only [Int.zero_add] at g
    simp only [bind_some']
    exact g
theorem pairs_at_ok {b : Board} {r : Rule} (hb : b.ok 36) (h : r.fits b) {c : Int} : t_pairs_at b r c = some (pairsAt b r c) := by
  have hp := Board.cells_pos hb
  unfold t_pairs_at
  rw [cells_many_ok hb, bs]
  cases b <;> cases r <;> first | exact h.elim | skip
  · rename_i n k cc
    obtain ⟨h1, h2⟩ := hb
    obtain ⟨k1, k2, _⟩ := h
    simp only [Rule.isSwap, ct, Rule.n1, Board.cells, bind_some']
    rw [rngO_ok (by decide) (by omega), bs]
    exact mapO_ok (fun j => ((c + j) % n, (c + j + k) % n)) (fun j _ => by rw [modI_ok (by omega), modI_ok (by omega)]; rfl) (by rw [rangeI_len]; omega)
  · rename_i n k cc
    obtain ⟨h1, h2⟩ := hb
    obtain ⟨k1, k2, _⟩ := h
    simp only [Rule.isSwap, ct, Rule.n1, Board.cells, bind_some']
    rw [rngO_ok (by decide) (by omega), bs]
    exact mapO_ok (fun j => ((c + j) % n, (c + j + k) % n)) (fun j _ => by rw [modI_ok (by omega), modI_ok (by omega)]; rfl) (by rw [rangeI_len]; omega)
  · rename_i H W h' w cc
    obtain ⟨h1, h2, h3, h4, _⟩ := hb
    obtain ⟨k1, k2, k3, k4, _⟩ := h
    have g := grid_flat (o := c) (W := W) (R := h') (C := w) (by omega) (by omega) (by omega) (by omega) (by omega)
    simp only [Rule.isSwap, cf, Board.n2, bs, Rule.isUnder, Rule.n1, Rule.n2, bind_some', ← Option.bind_assoc, g]
    rw [mapB_ok]
    · rfl
    · exact Nat.le_trans (grid_len _ _ _ _) (Nat.le_trans (Nat.mul_le_mul (show _ ≤ 37 by omega) (show _ ≤ 37 by omega)) (by decide))
  · rename_i H W h' w cc
    obtain ⟨h1, h2, h3, h4, _⟩ := hb
    obtain ⟨k1, k2, k3, k4, _⟩ := h
    have g := grid_flat (o := c) (W := W) (R := h') (C := w) (by omega) (by omega) (by omega) (by omega) (by omega)
    have m : mulI h' W = some (h' * W) := mulI_s (by omega) (by omega)
    simp only [Rule.isSwap, cf, ct, Board.n2, bs, Rule.isUnder, Rule.n1, Rule.n2, bind_some', m, ← Option.bind_assoc, g]
    rw [mapB_ok]
    · rfl
    · exact Nat.le_trans (grid_len _ _ _ _) (Nat.le_trans (Nat.mul_le_mul (show _ ≤ 37 by omega) (show _ ≤ 37 by omega)) (by decide))
end G
namespace G
open PySem PySem.Spec L2 DL
theorem is_deed_ok {b : Board} {bk : List Rule} (hb : b.ok 36) (h : BkOk b bk) (d : Int × Int) : t_is_deed b bk d = some (decide (d ∈ deedsOf b bk)) := by
  unfold t_is_deed
  by_cases c : 0 ≤ d.1 ∧ d.1 < (bk.length : Int)
  · obtain ⟨c1, c2⟩ := c
    obtain ⟨r, e1, e2, e3⟩ := ixI_lt c1 c2
    have e4 := first_cells_ok hb (h.2.2.2 r e2)
    simp only [c1, c2, decide_true, Bool.and_self, andO, ct, e1, e4, bs, inO_int]
    refine congrArg some (decide_eq_decide.mpr ?_)
    rw [mem_deeds]
    exact ⟨fun z => ⟨r, c1, e3, z⟩, fun ⟨r', _, z1, z2⟩ => by rw [e3] at z1; cases z1; exact z2⟩
  · have e : (decide (0 ≤ d.1) && decide (d.1 < (bk.length : Int))) = false := by
      rw [Bool.and_eq_false_iff, decide_eq_false_iff_not, decide_eq_false_iff_not]
      omega
    rw [e]
    show some false = _
    refine congrArg some (decide_eq_false fun z => c ?_).symm
    obtain ⟨r, z1, z2, _⟩ := mem_deeds.mp z
    have := (List.getElem?_eq_some_iff.mp z2).1
    omega
end G
namespace DL
open PySem PySem.Spec L2
def rulesHW (H W h w : Int) : List Rule := (if 3 * w ≤ W ∧ 2 * h - 1 ≤ H then [Rule.over h w 0, Rule.over h w 1] else []) ++ (if 3 * h ≤ H ∧ 2 * w - 1 ≤ W then [Rule.under h w 0, Rule.under h w 1] else [])
def rulesOf : Board → List Rule
  | .row n => (rangeI 1 (n / 3 + 1)).flatMap fun k => [Rule.swap k 0, Rule.swap k 1]
  | .ring n => (rangeI 1 (n / 5 + 1)).flatMap fun k => [Rule.swap k 0, Rule.swap k 1]
  | .floor H W => (rangeI 1 (H + 1)).flatMap fun h => (rangeI 1 (W + 1)).flatMap fun w => rulesHW H W h w
theorem rulesHW_len (H W h w : Int) : (rulesHW H W h w).length ≤ 4 := by
  unfold rulesHW
  rw [List.length_append]
  split <;> split <;> simp
theorem mem_rulesHW {H W h w : Int} {r : Rule} : r ∈ rulesHW H W h w ↔ (3 * w ≤ W ∧ 2 * h - 1 ≤ H ∧ (r = .over h w 0 ∨ r = .over h w 1)) ∨ (3 * h ≤ H ∧ 2 * w - 1 ≤ W ∧ (r = .under h w 0 ∨ r = .under h w 1)) := by
  unfold rulesHW
  rw [List.mem_append]
  constructor
  · rintro (h | h)
    · split at h
      · rename_i c
        exact .inl ⟨c.1, c.2, by simpa using h⟩
      · cases h
    · split at h
      · rename_i c
        exact .inr ⟨c.1, c.2, by simpa using h⟩
      · cases h
  · rintro (⟨a, b, c⟩ | ⟨a, b, c⟩)
    · left
      rw [if_pos ⟨a, b⟩]
      simpa using c
    · right
      rw [if_pos ⟨a, b⟩]
      simpa using c
theorem rulesOf_fit {b : Board} {r : Rule} (h : r ∈ rulesOf b) : r.fits b := by
  cases b with
  | row n =>
    obtain ⟨k, hk, hr⟩ := List.mem_flatMap.mp h
    have := mem_rangeI.mp hk
    rcases (by simpa using hr : r = .swap k 0 ∨ r = .swap k 1) with rfl | rfl
    · exact ⟨by omega, by omega, by decide, by decide⟩
    · exact ⟨by omega, by omega, by decide, by decide⟩
  | ring n =>
    obtain ⟨k, hk, hr⟩ := List.mem_flatMap.mp h
    have := mem_rangeI.mp hk
    rcases (by simpa using hr : r = .swap k 0 ∨ r = .swap k 1) with rfl | rfl
    · exact ⟨by omega, by omega, by decide, by decide⟩
    · exact ⟨by omega, by omega, by decide, by decide⟩
  | floor H W =>
    obtain ⟨a, ha, h⟩ := List.mem_flatMap.mp h
    obtain ⟨w, hw, h⟩ := List.mem_flatMap.mp h
    have := mem_rangeI.mp ha
    have := mem_rangeI.mp hw
    rcases mem_rulesHW.mp h with ⟨c1, c2, rfl | rfl⟩ | ⟨c1, c2, rfl | rfl⟩ <;> exact ⟨by omega, by omega, by omega, by omega, by decide, by decide⟩
theorem nodup_flatMap' {α β : Type} {f : α → List β} : ∀ {l : List α}, l.Nodup → (∀ x ∈ l, (f x).Nodup) → (∀ x ∈ l, ∀ y ∈ l, ∀ z, z ∈ f x → z ∈ f y → x = y) → (l.flatMap f).Nodup
  | [], _, _, _ => List.nodup_nil
  | x :: l, d, h1, h2 => by
    rw [List.flatMap_cons, List.nodup_append]
    rw [List.nodup_cons] at d
    refine ⟨h1 x (by simp), nodup_flatMap' d.2 (fun y hy => h1 y (by simp [hy])) fun y hy z hz => h2 y (by simp [hy]) z (by simp [hz]), fun a ha b hb e => ?_⟩
    subst e
    obtain ⟨y, hy, hb⟩ := List.mem_flatMap.mp hb
    have := h2 x (by simp) y (by simp [hy]) a ha hb
    subst this
    exact d.1 hy
theorem rulesOf_nodup (b : Board) : (rulesOf b).Nodup := by
  have sw : ∀ m : Int, ((rangeI 1 m).flatMap fun k => [Rule.swap k 0, Rule.swap k 1]).Nodup := fun m => by
    refine nodup_flatMap' (rangeI_nodup _ _) (fun x _ => by simp) fun x _ y _ z hz hz' => ?_
    rcases (by simpa using hz : z = .swap x 0 ∨ z = .swap x 1) with rfl | rfl
    · simpa using hz'
    · simpa using hz'
  cases b with
  | row n => exact sw _
  | ring n => exact sw _
  | floor H W =>
    refine nodup_flatMap' (rangeI_nodup _ _) (fun h _ => nodup_flatMap' (rangeI_nodup _ _) (fun w _ => ?_) fun w _ w' _ z hz hz' => ?_) fun h _ h' _ z hz hz' => ?_
    · unfold rulesHW
      split <;> split <;> simp
    · rcases mem_rulesHW.mp hz with ⟨_, _, rfl | rfl⟩ | ⟨_, _, rfl | rfl⟩ <;> rcases mem_rulesHW.mp hz' with ⟨_, _, e | e⟩ | ⟨_, _, e | e⟩ <;> cases e <;> rfl
    · obtain ⟨w, _, hz⟩ := List.mem_flatMap.mp hz
      obtain ⟨w', _, hz'⟩ := List.mem_flatMap.mp hz'
      rcases mem_rulesHW.mp hz with ⟨_, _, rfl | rfl⟩ | ⟨_, _, rfl | rfl⟩ <;> rcases mem_rulesHW.mp hz' with ⟨_, _, e | e⟩ | ⟨_, _, e | e⟩ <;> cases e <;> rfl
theorem rulesOf_len {b : Board} (hb : b.ok 36) : (rulesOf b).length ≤ 6000 ∧ 0 < (rulesOf b).length := by
  have sw : ∀ m : Int, m ≤ 37 → ((rangeI 1 m).flatMap fun k => [Rule.swap k 0, Rule.swap k 1]).length ≤ 6000 := fun m hm => by
    have := flatMap_len (fun k => [Rule.swap k 0, Rule.swap k 1]) 2 (rangeI 1 m) fun x _ => by simp
    rw [rangeI_len] at this
    omega
  cases b with
  | row n =>
    obtain ⟨h1, h2⟩ := hb
    refine ⟨sw _ (by omega), ?_⟩
    show 0 < ((rangeI 1 (n / 3 + 1)).flatMap _).length
    rw [rangeI_cons (by omega), List.flatMap_cons]
    simp
  | ring n =>
    obtain ⟨h1, h2⟩ := hb
    refine ⟨sw _ (by omega), ?_⟩
    show 0 < ((rangeI 1 (n / 5 + 1)).flatMap _).length
    rw [rangeI_cons (by omega), List.flatMap_cons]
    simp
  | floor H W =>
    obtain ⟨h1, h2, h3, h4, h5, h6⟩ := hb
    refine ⟨?_, ?_⟩
    · have := flatMap_len (fun h => (rangeI 1 (W + 1)).flatMap fun w => rulesHW H W h w) (36 * 4) (rangeI 1 (H + 1)) fun x _ => by
        have := flatMap_len (fun w => rulesHW H W x w) 4 (rangeI 1 (W + 1)) fun y _ => rulesHW_len _ _ _ _
        rw [rangeI_len] at this
        have : (W + 1 - 1).toNat * 4 ≤ 36 * 4 := Nat.mul_le_mul_right _ (by omega)
        omega
      rw [rangeI_len] at this
      have : (H + 1 - 1).toNat * (36 * 4) ≤ 36 * (36 * 4) := Nat.mul_le_mul_right _ (by omega)
      show ((rangeI 1 (H + 1)).flatMap _).length ≤ _
      omega
    · have : ∃ r, r ∈ rulesOf (.floor H W) := by
        rcases h6 with h6 | h6
        · exact ⟨.under 1 1 0, List.mem_flatMap.mpr ⟨1, mem_rangeI.mpr ⟨by decide, by omega⟩, List.mem_flatMap.mpr ⟨1, mem_rangeI.mpr ⟨by decide, by omega⟩, mem_rulesHW.mpr (.inr ⟨by omega, by omega, .inl rfl⟩)⟩⟩⟩
        · exact ⟨.over 1 1 0, List.mem_flatMap.mpr ⟨1, mem_rangeI.mpr ⟨by decide, by omega⟩, List.mem_flatMap.mpr ⟨1, mem_rangeI.mpr ⟨by decide, by omega⟩, mem_rulesHW.mpr (.inl ⟨by omega, by omega, .inl rfl⟩)⟩⟩⟩
      obtain ⟨r, hr⟩ := this
      exact List.length_pos_of_mem hr
end DL
namespace G
open PySem PySem.Spec L2 DL
theorem law_rules_ok {b : Board} (hb : b.ok 36) : t__law_rules b = some (rulesOf b) := by
  have hl := (rulesOf_len hb).1
  have sw : ∀ m : Int, m ≤ 37 → 0 ≤ m → ((rngO 1 m).bind fun v4 => (forN (fun (s5 : (List Rule)) (x6 : Int) => (catL s5 ([(Rule.swap x6 (0 : Int)), (Rule.swap x6 (1 : Int))] : List Rule)).bind fun v8 => some v8) v4 ([] : List Rule)).bind fun s9 => some s9) = some ((rangeI 1 m).flatMap fun k => [Rule.swap k 0, Rule.swap k 1]) := fun m h1 h2 => by
    rw [rngO_ok (by decide) (by omega), bs, bind_some']
    refine forN_addB (fun k => [Rule.swap k 0, Rule.swap k 1]) 1000000 (fun s x _ hs => ?_) ?_
    · rw [bind_some']
      exact catL_ok hs
    · have := flatMap_len (fun k => [Rule.swap k 0, Rule.swap k 1]) 2 (rangeI 1 m) fun x _ => by simp
      rw [rangeI_len] at this
      show 0 + _ ≤ _
      omega
  unfold t__law_rules
  cases b with
  | row n =>
    obtain ⟨h1, h2⟩ := hb
    have d : divI n 3 = some (n / 3) := divI_s (by decide) (by decide)
    simp only [Board.isFloor, Bool.not_false, ct, Board.isRing, show b2i false = 0 from rfl, ixI_0, bs, Board.n1, d]
    exact sw _ (by omega) (by omega)
  | ring n =>
    obtain ⟨h1, h2⟩ := hb
    have d : divI n 5 = some (n / 5) := divI_s (by decide) (by decide)
    simp only [Board.isFloor, Bool.not_false, ct, Board.isRing, show b2i true = 1 from rfl, ixI_1, bs, Board.n1, d]
    exact sw _ (by omega) (by omega)
  | floor H W =>
    obtain ⟨h1, h2, h3, h4, h5, h6⟩ := hb
    simp only [Board.isFloor, Bool.not_true, cf, Board.shw, bs]
    rw [rngO_ok (by decide) (by omega), bs, bind_some']
    refine forN_addB (fun h => (rangeI 1 (W + 1)).flatMap fun w => rulesHW H W h w) 1000000 (fun s h hh hs => ?_) (by show 0 + (rulesOf (.floor H W)).length ≤ _; omega)
    have hh := mem_rangeI.mp hh
    rw [rngO_ok (by decide) (by omega), bs, bind_some']
    refine forN_addB (fun w => rulesHW H W h w) 1000000 (fun s w hw hs => ?_) hs
    have hw := mem_rangeI.mp hw
    have m1 : mulI 3 w = some (3 * w) := mulI_s (by decide) (by omega)
    have m2 : mulI 2 h = some (2 * h) := mulI_s (by decide) (by omega)
    have m3 : mulI 3 h = some (3 * h) := mulI_s (by decide) (by omega)
    have m4 : mulI 2 w = some (2 * w) := mulI_s (by decide) (by omega)
    have a1 : andO (decide (3 * w ≤ W)) (some (decide (2 * h - 1 ≤ H))) = some (decide (3 * w ≤ W ∧ 2 * h - 1 ≤ H)) := by
      unfold andO
      by_cases c : 3 * w ≤ W
      · simp [c]
      · simp [c]
    have a2 : andO (decide (3 * h ≤ H)) (some (decide (2 * w - 1 ≤ W))) = some (decide (3 * h ≤ H ∧ 2 * w - 1 ≤ W)) := by
      unfold andO
      by_cases c : 3 * h ≤ H
      · simp [c]
      · simp [c]
    have hb' : s.length + 4 ≤ 1000000 + 4 := by omega
    simp only [m1, m2, m3, m4, bs, a1, a2]
    unfold rulesHW at hs ⊢
    by_cases c1 : 3 * w ≤ W ∧ 2 * h - 1 ≤ H
    · rw [if_pos c1] at hs ⊢
      rw [decide_eq_true c1, ct]
      by_cases c2 : 3 * h ≤ H ∧ 2 * w - 1 ≤ W
      · rw [if_pos c2] at hs ⊢
        rw [List.length_append] at hs
        simp only [List.length_cons, List.length_nil] at hs
        rw [catL_ok (by simp only [List.length_cons, List.length_nil]; omega), bs, decide_eq_true c2, ct, catL_ok (by rw [List.length_append]; simp only [List.length_cons, List.length_nil]; omega), bs, List.append_assoc]
      · rw [if_neg c2] at hs ⊢
        rw [List.append_nil] at hs ⊢
        rw [catL_ok hs, bs, decide_eq_false c2, cf]
    · rw [if_neg c1] at hs ⊢
      rw [decide_eq_false c1, cf]
      by_cases c2 : 3 * h ≤ H ∧ 2 * w - 1 ≤ W
      · rw [if_pos c2] at hs ⊢
        rw [List.nil_append] at hs ⊢
        rw [decide_eq_true c2, ct, catL_ok hs, bs]
      · rw [if_neg c2] at hs ⊢
        rw [decide_eq_false c2, cf]
        simp
theorem book_ok {n : Nat} {pot : List Int} {b : Board} (h : PotOk n pot) (hb : b.ok 36) (hn : n ≤ 2 ^ 50) :
    ∃ bk pot', t__law_book pot b = some (bk, pot') ∧ BkOk b bk ∧ PotOk (n + 5) pot' := by
  obtain ⟨r1, p1, e1, a1, b1, k1⟩ := dip_ok (m := 4) h (by decide) (by decide) (by omega)
  obtain ⟨l1, l2⟩ := rulesOf_len hb
  unfold t__law_book
  simp only [law_rules_ok hb, e1, bs]
  have hk : 1 ≤ mnI ((rulesOf b).length : Nat) (1 + r1) ∧ mnI ((rulesOf b).length : Nat) (1 + r1) ≤ 4 ∧ mnI ((rulesOf b).length : Nat) (1 + r1) ≤ ((rulesOf b).length : Nat) := by
    unfold mnI
    split <;> omega
  generalize mnI ((rulesOf b).length : Nat) (1 + r1) = k at hk
  rw [rngO_ok (by decide) (by omega), bs]
  obtain ⟨s', e2, e3⟩ := forN_inv (b := fun (s4 : List Int × List Rule × List Rule) (x5 : Int) => (t__law_dip s4.1 (s4.2.1.length : Int)).bind fun v7 => (popAtL s4.2.1 v7.1).bind fun v8 => (appL s4.2.2 v8.1).bind fun v9 => some (v7.2, v8.2, v9))
    (fun i s => PotOk (n + 1 + i) s.1 ∧ s.2.2.length = i ∧ (s.2.2 ++ s.2.1).Perm (rulesOf b)) (xs := rangeI 0 k) (n := 0) (s := (p1, rulesOf b, [])) (fun i x s hx ⟨q1, q2, q3⟩ => by
      obtain ⟨pot, left, found⟩ := s
      rw [Nat.zero_add] at q1 q2
      have hi := (rangeI_get hx).2
      have hpl := q3.length_eq
      rw [List.length_append] at hpl
      simp only at q1 q2 q3 hpl
      obtain ⟨r, p, e, a, c, k⟩ := dip_ok (m := (left.length : Int)) q1 (by omega) (by omega) (by omega)
      obtain ⟨v, e4, e5⟩ := popAtL_of (xs := left) a c (by omega)
      refine ⟨(p, left.eraseIdx r.toNat, found ++ [v]), ?_, by rw [Nat.zero_add]; exact k, ?_, ?_⟩
      · simp only [e, e4, bs, appL_ok (show found.length ≤ 1000000 by omega)]
      · rw [Nat.zero_add, List.length_append, q2]
        rfl
      · have pp := perm_pick e5
        rw [List.append_assoc]
        exact (List.Perm.append_left found pp).trans q3) ⟨k1, rfl, List.Perm.refl _⟩
  obtain ⟨pot, left, found⟩ := s'
  rw [rangeI_len, Nat.zero_add] at e3
  obtain ⟨q1, q2, q3⟩ := e3
  simp only at q1 q2 q3
  rw [e2, bs]
  have nd : (found ++ left).Nodup := q3.nodup_iff.mpr (rulesOf_nodup b)
  rw [List.nodup_append] at nd
  exact ⟨found, pot, rfl, ⟨by omega, by omega, nd.1, fun r hr => rulesOf_fit (q3.mem_iff.mp (List.mem_append_left _ hr))⟩, q1.more (by omega)⟩
end G
namespace DL
open PySem PySem.Spec L2
theorem rangeI_app {a b c : Int} (h1 : a ≤ b) (h2 : b ≤ c) : rangeI a c = rangeI a b ++ rangeI b c := by
  obtain ⟨n, hn⟩ : ∃ n : Nat, c = b + (n : Nat) := ⟨(c - b).toNat, by omega⟩
  subst hn
  clear h2
  induction n with
  | zero =>
    rw [rangeI_nil (a := b) (by omega), List.append_nil]
    congr 1
    omega
  | succ n ih =>
    rw [show b + ((n + 1 : Nat) : Int) = b + (n : Nat) + 1 by omega, rangeI_snoc (by omega), ih, rangeI_snoc (a := b) (by omega), List.append_assoc]
theorem flatMap_lt {β : Type} {m n : Int} (h0 : 0 ≤ m) (h : m ≤ n) (f : Int → List β) (p : Int → Prop) [DecidablePred p] (hp : ∀ c, 0 ≤ c → (p c ↔ c < m)) : ((rangeI 0 n).flatMap fun c => if p c then f c else []) = (rangeI 0 m).flatMap f := by
  rw [rangeI_app h0 h, List.flatMap_append]
  have e1 : ((rangeI 0 m).flatMap fun c => if p c then f c else []) = (rangeI 0 m).flatMap f := by
    rw [List.flatMap_def, List.flatMap_def]
    congr 1
    refine List.map_congr_left fun c hc => ?_
    have := mem_rangeI.mp hc
    rw [if_pos ((hp c this.1).mpr this.2)]
  have e2 : ((rangeI m n).flatMap fun c => if p c then f c else []) = [] := by
    rw [List.flatMap_eq_nil_iff]
    intro c hc
    have := mem_rangeI.mp hc
    rw [if_neg fun z => by have := (hp c (by omega)).mp z; omega]
  rw [e1, e2, List.append_nil]
theorem grid_flatMap (o W R C : Int) : grid o W R C = (rangeI 0 R).flatMap fun i => (rangeI 0 C).flatMap fun j => [o + i * W + j] := by
  unfold grid
  rw [List.flatMap_def, List.flatMap_def]
  congr 1
  refine List.map_congr_left fun i _ => ?_
  rw [List.flatMap_def, List.map_eq_flatMap, List.flatMap_def]
end DL
namespace G
open PySem PySem.Spec L2 DL
theorem deedsAt_some {b : Board} {bk : List Rule} {n : Int} {r : Rule} (h : bk[n.toNat]? = some r) : deedsAt b bk n = (cellsAt b r).map fun c => (n, c) := by unfold deedsAt; rw [h]
end G
namespace G
open PySem PySem.Spec L2 DL
theorem law_places_ok {b : Board} {r : Rule} (hb : b.ok 36) (h : r.fits b) : t__law_places b r = some (cellsAt b r) := by
  have cl := cellsAt_len hb h
  unfold t__law_places
  cases b <;> cases r <;> first | exact h.elim | skip
  · rename_i n k c
    obtain ⟨h1, h2⟩ := hb
    obtain ⟨k1, k2, _⟩ := h
    have m : mulI 2 k = some (2 * k) := mulI_s (by decide) (by omega)
    simp only [Board.isRing, Board.isRow, ct, cf, Rule.n1, m, bs, Board.n1]
    rw [rngL_ok (by decide) (by omega)]
    rfl
  · rename_i n k c
    obtain ⟨h1, h2⟩ := hb
    simp only [Board.isRing, ct, Board.n1]
    rw [rngL_ok (by decide) (by omega)]
    rfl
  all_goals
    rename_i H W h' w c
    obtain ⟨h1, h2, h3, h4, h5, h6⟩ := hb
    obtain ⟨k1, k2, k3, k4, _⟩ := h
    simp only [Board.isRing, Board.isRow, cf, Board.shw, bs, Rule.isUnder, Rule.isOver, show b2i true = 1 from rfl, show b2i false = 0 from rfl, ixI_0, ixI_1, Rule.n1, Rule.n2]
    rw [rngO_ok (by decide) (by omega), bs, bind_some']
  · have e : cellsAt (.floor H W) (.over h' w c) = (rangeI 0 H).flatMap fun i => (rangeI 0 W).flatMap fun j => if i + h' ≤ H ∧ j + w * 2 ≤ W then [i * W + j] else [] := by
      show grid 0 W (H - h' + 1) (W - 2 * w + 1) = _
      rw [grid_flatMap]
      rw [← flatMap_lt (m := H - h' + 1) (n := H) (by omega) (by omega) _ (fun i => i + h' ≤ H) (fun i _ => by omega), List.flatMap_def, List.flatMap_def]
      congr 1
      refine List.map_congr_left fun i _ => ?_
      by_cases q : i + h' ≤ H
      · rw [if_pos q, ← flatMap_lt (m := W - 2 * w + 1) (n := W) (by omega) (by omega) _ (fun j => j + w * 2 ≤ W) (fun i _ => by omega)]
        simp only [q, true_and, Int.zero_add]
      · simp only [q, if_false, false_and]
        induction rangeI 0 W with
        | nil => rfl
        | cons a l ih => rw [List.flatMap_cons, ← ih]; rfl
    rw [e] at cl ⊢
    refine forN_addB _ 1000000 (fun s i hi hs => ?_) (by show 0 + _ ≤ _; omega)
    have hi := mem_rangeI.mp hi
    rw [rngO_ok (by decide) (by omega), bs, bind_some']
    refine forN_addB _ 1000000 (fun s j hj hs => ?_) hs
    have hj := mem_rangeI.mp hj
    have m1 : mulI h' 1 = some h' := by rw [mulI_s (by omega) (by decide), Int.mul_one]
    have m2 : mulI w 2 = some (w * 2) := mulI_s (by omega) (by decide)
    have m3 : mulI i W = some (i * W) := mulI_s (by omega) (by omega)
    simp only [m1, m2, m3, bs]
    by_cases q : i + h' ≤ H ∧ j + w * 2 ≤ W
    · rw [if_pos q] at hs ⊢
      rw [decide_eq_true q.1, decide_eq_true q.2]
      show (appL s _).bind _ = _
      simp only [List.length_cons, List.length_nil] at hs
      rw [appL_ok (by omega)]
      rfl
    · rw [if_neg q, show (decide (i + h' ≤ H) && decide (j + w * 2 ≤ W)) = false by rw [← Bool.decide_and]; exact decide_eq_false q]
      show some s = some (s ++ [])
      rw [List.append_nil]
  · have e : cellsAt (.floor H W) (.under h' w c) = (rangeI 0 H).flatMap fun i => (rangeI 0 W).flatMap fun j => if i + h' * 2 ≤ H ∧ j + w ≤ W then [i * W + j] else [] := by
      show grid 0 W (H - 2 * h' + 1) (W - w + 1) = _
      rw [grid_flatMap]
      rw [← flatMap_lt (m := H - 2 * h' + 1) (n := H) (by omega) (by omega) _ (fun i => i + h' * 2 ≤ H) (fun i _ => by omega), List.flatMap_def, List.flatMap_def]
      congr 1
      refine List.map_congr_left fun i _ => ?_
      by_cases q : i + h' * 2 ≤ H
      · rw [if_pos q, ← flatMap_lt (m := W - w + 1) (n := W) (by omega) (by omega) _ (fun j => j + w ≤ W) (fun i _ => by omega)]
        simp only [q, true_and, Int.zero_add]
      · simp only [q, if_false, false_and]
        induction rangeI 0 W with
        | nil => rfl
        | cons a l ih => rw [List.flatMap_cons, ← ih]; rfl
    rw [e] at cl ⊢
    refine forN_addB _ 1000000 (fun s i hi hs => ?_) (by show 0 + _ ≤ _; omega)
    have hi := mem_rangeI.mp hi
    rw [rngO_ok (by decide) (by omega), bs, bind_some']
    refine forN_addB _ 1000000 (fun s j hj hs => ?_) hs
    have hj := mem_rangeI.mp hj
    have m1 : mulI h' 2 = some (h' * 2) := mulI_s (by omega) (by decide)
    have m2 : mulI w 1 = some w := by rw [mulI_s (by omega) (by decide), Int.mul_one]
    have m3 : mulI i W = some (i * W) := mulI_s (by omega) (by omega)
    simp only [m1, m2, m3, bs]
    by_cases q : i + h' * 2 ≤ H ∧ j + w ≤ W
    · rw [if_pos q] at hs ⊢
      rw [decide_eq_true q.1, decide_eq_true q.2]
      show (appL s _).bind _ = _
      simp only [List.length_cons, List.length_nil] at hs
      rw [appL_ok (by omega)]
      rfl
    · rw [if_neg q, show (decide (i + h' * 2 ≤ H) && decide (j + w ≤ W)) = false by rw [← Bool.decide_and]; exact decide_eq_false q]
      show some s = some (s ++ [])
      rw [List.append_nil]
theorem law_deeds_ok {b : Board} {bk : List Rule} (hb : b.ok 36) (h : BkOk b bk) : t__law_deeds b bk = some (deedsOf b bk) := by
  have hl := deedsOf_len hb h
  obtain ⟨h1, h2, h3, h4⟩ := h
  unfold t__law_deeds
  rw [rngO_ok (by decide) (by omega), bs, bind_some']
  refine forN_addB (deedsAt b bk) 1000000 (fun s x hx hs => ?_) (by show 0 + (deedsOf b bk).length ≤ _; omega)
  have hx := mem_rangeI.mp hx
  obtain ⟨r, e1, e2, e3⟩ := ixI_lt hx.1 hx.2
  have e4 := law_places_ok hb (h4 r e2)
  rw [deedsAt_some e3] at hs ⊢
  have := cellsAt_len hb (h4 r e2)
  rw [e1, bs, e4, bs, mapB_ok (by omega), bs, catL_ok hs]
  rfl
end G
namespace G
open PySem PySem.Spec L2 DL
theorem is_bent_ok (r : Rule) : t_is_bent r = some (decide (r.bent = 1)) := rfl
theorem exch_at {c : Int} {st : List (Str × Int)} {p : Int × Int} {x y : Str × Int} (h1 : st[p.1.toNat]? = some x) (h2 : st[p.2.toNat]? = some y) : exch c st p = (st.set p.1.toNat (turnT y c)).set p.2.toNat (turnT x c) := by
  unfold exch
  rw [h1, h2]
theorem turn0 {t : Str × Int} (h0 : 0 ≤ t.2) (h : t.2 ≤ 1) : turnT t 0 = t := by
  obtain ⟨a, f⟩ := t
  show (a, (f + 0) % 2) = (a, f)
  simp only at h0 h
  congr 1
  omega
theorem turn1 {t : Str × Int} (h0 : 0 ≤ t.2) (h : t.2 ≤ 1) : turnT t 1 = (t.1, 1 - t.2) := by
  obtain ⟨a, f⟩ := t
  show (a, (f + 1) % 2) = (a, 1 - f)
  simp only at h0 h
  congr 1
  omega
theorem exchange_ok {st : List (Str × Int)} {ps : List (Int × Int)} {c : Int} (hs : StOk st) (hc : c = 0 ∨ c = 1) (hp : ∀ p ∈ ps, 0 ≤ p.1 ∧ p.1 < (st.length : Int) ∧ 0 ≤ p.2 ∧ p.2 < (st.length : Int)) : t_exchange st ps (decide (c = 1)) = some (doPairs c st ps) := by
  unfold t_exchange
  rw [bind_some']
  refine (forN_fold (exch c) (fun s => StOk s ∧ s.length = st.length) (fun s p hpm ⟨i1, i2⟩ => ?_) ⟨hs, rfl⟩).1
  obtain ⟨a1, a2, a3, a4⟩ := hp p hpm
  rw [← i2] at a2 a4
  obtain ⟨x, e1, m1, g1⟩ := ixI_lt (xs := s) a1 a2
  obtain ⟨y, e2, m2, g2⟩ := ixI_lt (xs := s) a3 a4
  have e := exch_at (c := c) g1 g2
  have hx := (i1 x m1).2
  have hy := (i1 y m2).2
  refine ⟨?_, exch_ok i1, by rw [exch_len, i2]⟩
  rw [e, e1, bs, e2, bs]
  rcases hc with rfl | rfl
  · rw [turn0 hx.1 hx.2, turn0 hy.1 hy.2]
    show ((setL s p.1 y).bind _) = _
    rw [setL_of a1 a2, bs, setL_of a3 (by rw [List.length_set]; exact a4)]
    rfl
  · rw [turn1 hx.1 hx.2, turn1 hy.1 hy.2]
    show ((setL s p.1 (y.1, 1 - y.2)).bind _) = _
    rw [setL_of a1 a2, bs, setL_of a3 (by rw [List.length_set]; exact a4)]
    rfl
theorem need_deeds_ok {b : Board} {bk : List Rule} (hb : b.ok 36) (h : BkOk b bk) {ds : List (Int × Int)} (hd : ∀ d ∈ ds, IsDeed b bk d) (hl : ds.length ≤ 100000) : t_need_deeds b bk ds = some () := by
  unfold t_need_deeds
  have el : (enumI ds).length = ds.length := by unfold enumI; rw [List.length_map, List.length_zipIdx]
  obtain ⟨s', e, _⟩ := forN_inv (b := fun (s1 : (List ((Int × Int) × Bool))) (x2 : (Int × (Int × Int))) => cond (!(hasK s1 x2.2)) ((t_is_deed b bk x2.2).bind fun v6 => cond (!v6) (none) ((putO s1 x2.2 true).bind fun known_8 => some known_8)) (some s1)) (fun i s => s.length ≤ i) (xs := enumI ds) (n := 0) (s := ([] : (List ((Int × Int) × Bool)))) (fun i x s hx hi => by
    have him : i < ds.length := by rw [← el]; exact (List.getElem?_eq_some_iff.mp hx).1
    have hxm : x.2 ∈ ds := by
      have := List.mem_of_getElem? hx
      unfold enumI at this
      obtain ⟨q, hq, rfl⟩ := List.mem_map.mp this
      obtain ⟨a, c⟩ := q
      exact (List.mem_zipIdx hq).2.2 ▸ List.getElem_mem _
    cases q : hasK s x.2 with
    | true => exact ⟨s, rfl, by omega⟩
    | false =>
      refine ⟨putK' s x.2 true, ?_, by have := putK_len s x.2 true; omega⟩
      show ((t_is_deed b bk x.2).bind _) = _
      rw [is_deed_ok hb h, bs, decide_eq_true (mem_deeds.mpr (hd _ hxm))]
      show ((putO s x.2 true).bind _) = _
      rw [putO_ok (by omega)]
      rfl) (Nat.le_refl _)
  rw [e]
  rfl
theorem done_ok {b : Board} {bk : List Rule} (hb : b.ok 36) (h : BkOk b bk) {st : List (Str × Int)} (hs : StOk st) (hn : (st.length : Int) = b.cells) {ds : List (Int × Int)} (hd : ∀ d ∈ ds, IsDeed b bk d) (hl : ds.length ≤ 100000) (back : Bool) :
    t_done b bk st ds back = some (doAll b bk st (cond back ds.reverse ds)) := by
  unfold t_done
  rw [need_deeds_ok hb h hd hl, bs, bind_some']
  refine (forN_fold (doDeed b bk) (fun s => StOk s ∧ (s.length : Int) = b.cells) (fun s d hdm ⟨i1, i2⟩ => ?_) ⟨hs, hn⟩).1
  have hdd : d ∈ ds := by cases back <;> simpa using hdm
  obtain ⟨r, a1, a2, a3⟩ := hd d hdd
  have hf := h.2.2.2 r (List.mem_of_getElem? a2)
  refine ⟨?_, doDeed_ok i1, by rw [doDeed_len]; exact i2⟩
  have e : doDeed b bk s d = doPairs r.bent s (pairsAt b r d.2) := by unfold doDeed; rw [a2]
  have hc := Rule.bent01 hf
  rw [ixI_of a1 a2, bs, pairs_at_ok hb hf, bs, is_bent_ok, bs, exchange_ok i1 (by omega) (fun p hp => by rw [i2]; exact pairsAt_lt hb hf a3 hp), e]
  rfl
end G
namespace G
open PySem PySem.Spec L2 DL
theorem law_pairs_ok {b : Board} {bk : List Rule} (hb : b.ok 36) (h : BkOk b bk) {d : Int × Int} {r : Rule} (h0 : 0 ≤ d.1) (hr : bk[d.1.toNat]? = some r) : t__law_pairs b bk d = some (pairsAt b r d.2) := by
  have hf := h.2.2.2 r (List.mem_of_getElem? hr)
  have pl := pairsAt_len hb hf d.2
  have ix : ixI bk d.1 = some r := ixI_of h0 hr
  unfold t__law_pairs
  rw [ix, bs]
  cases b <;> cases r <;> first | exact hf.elim | skip
  · rename_i n k cc
    obtain ⟨h1, h2⟩ := hb
    obtain ⟨k1, k2, _⟩ := hf
    simp only [Rule.isSwap, ct, Rule.n1, Board.n1, bind_some']
    rw [rngO_ok (by decide) (by omega), bs]
    exact mapO_ok (fun j => ((d.2 + j) % n, (d.2 + j + k) % n)) (fun j _ => by rw [modI_ok (by omega), modI_ok (by omega)]; rfl) (by rw [rangeI_len]; omega)
  · rename_i n k cc
    obtain ⟨h1, h2⟩ := hb
    obtain ⟨k1, k2, _⟩ := hf
    simp only [Rule.isSwap, ct, Rule.n1, Board.n1, bind_some']
    rw [rngO_ok (by decide) (by omega), bs]
    exact mapO_ok (fun j => ((d.2 + j) % n, (d.2 + j + k) % n)) (fun j _ => by rw [modI_ok (by omega), modI_ok (by omega)]; rfl) (by rw [rangeI_len]; omega)
  all_goals
    rename_i H W h' w cc
    obtain ⟨h1, h2, h3, h4, h5, h6⟩ := hb
    obtain ⟨k1, k2, k3, k4, _⟩ := hf
    have gl := Nat.le_trans (grid_len d.2 W h' w) (Nat.mul_le_mul (show _ ≤ 37 by omega) (show _ ≤ 37 by omega))
    have loop : forN (fun (s12 : (List Int)) (x13 : Int) => (rngO (0 : Int) w).bind fun v15 => (mapO (fun (x16 : Int) => (some W).bind fun v17 => (mulI x13 v17).bind fun v18 => some ((d.2 + v18) + x16)) v15).bind fun v19 => (catL s12 v19).bind fun v20 => some v20) (rangeI 0 h') ([] : List Int) = some (grid d.2 W h' w) := by
      refine forN_addB (fun i => (rangeI 0 w).map fun j => d.2 + i * W + j) 1000000 (fun s i hi hs => ?_) (by show 0 + (grid d.2 W h' w).length ≤ _; omega)
      have hi := mem_rangeI.mp hi
      have m : mulI i W = some (i * W) := mulI_s (by omega) (by omega)
      rw [rngO_ok (by decide) (by omega), bs, mapO_ok (fun j => d.2 + i * W + j) (fun j _ => by rw [bs, m]; rfl) (by rw [rangeI_len]; omega), bs, catL_ok hs]
      rfl
    have m : mulI h' W = some (h' * W) := mulI_s (by omega) (by omega)
    simp only [Rule.isSwap, cf, ct, Rule.isOver, Rule.n1, Rule.n2, Board.n2, bind_some', m]
    simp only [bs, m]
    rw [rngO_ok (by decide) (by omega), bs]
    simp only [bs, bind_some'] at loop
    rw [loop, bs, mapB_ok (by omega)]
    rfl
end G
namespace G
open PySem PySem.Spec L2 DL
theorem exch_atL {c : Int} {st : List (Str × Int)} {p : Int × Int} {x y : Str × Int} (h1 : st[p.1.toNat]? = some x) (h2 : st[p.2.toNat]? = some y) : exch c st p = (st.set p.1.toNat (turnT y c)).set p.2.toNat (turnT x c) := by
  unfold exch
  rw [h1, h2]
theorem law_pairs_done {s : List (Str × Int)} {c : Int} (hc : c = 0 ∨ c = 1) {ps : List (Int × Int)} (hp : ∀ p ∈ ps, 0 ≤ p.1 ∧ p.1 < (s.length : Int) ∧ 0 ≤ p.2 ∧ p.2 < (s.length : Int)) :
    forN (fun (s13 : (List (Str × Int))) (x14 : (Int × Int)) => (ixI s13 x14.1).bind fun v18 => (t__law_turned v18 c).bind fun v19 => (ixI s13 x14.2).bind fun v20 => (t__law_turned v20 c).bind fun v21 => (setL s13 x14.1 v21).bind fun things_22 => (setL things_22 x14.2 v19).bind fun things_23 => some things_23) ps s = some (doPairs c s ps) := by
  refine (forN_fold (exch c) (fun z => z.length = s.length) (fun z p hpm i2 => ?_) rfl).1
  obtain ⟨a1, a2, a3, a4⟩ := hp p hpm
  rw [← i2] at a2 a4
  obtain ⟨x, e1, m1, g1⟩ := ixI_lt (xs := z) a1 a2
  obtain ⟨y, e2, m2, g2⟩ := ixI_lt (xs := z) a3 a4
  have lt : ∀ t : Str × Int, t__law_turned t c = some (turnT t c) := fun t => by unfold t__law_turned; rw [modI_ok (by decide)]; rfl
  refine ⟨?_, by rw [exch_len, i2]⟩
  rw [exch_atL g1 g2, e1, bs, lt, bs, e2, bs, lt, bs, setL_of a1 a2, bs, setL_of a3 (by rw [List.length_set]; exact a4)]
  rfl
theorem law_done_ok {b : Board} {bk : List Rule} (hb : b.ok 36) (h : BkOk b bk) {st : List (Str × Int)} (hn : (st.length : Int) = b.cells) {ds : List (Int × Int)} (hd : ∀ d ∈ ds, IsDeed b bk d) (hl : ds.length ≤ 100000) :
    t__law_done b bk st ds = some (doAll b bk st ds) := by
  unfold t__law_done
  refine forN_then (fun i s => s.1 = doAll b bk st (ds.take i) ∧ s.2.length ≤ i ∧ ∀ k v, getK s.2 k = some v → ∃ r, bk[k.1.toNat]? = some r ∧ v = pairsAt b r k.2) ⟨rfl, Nat.le_refl _, fun k v hk => by cases hk⟩ (fun i d s hx ⟨i1, i2, i3⟩ => ?_) fun s ⟨q1, _⟩ => by rw [q1, List.take_length]
  have hil := (List.getElem?_eq_some_iff.mp hx).1
  obtain ⟨r, a1, a2, a3⟩ := hd d (List.mem_of_getElem? hx)
  have hf := h.2.2.2 r (List.mem_of_getElem? a2)
  have hc := Rule.bent01 hf
  have ln : (s.1.length : Int) = b.cells := by rw [i1, doAll_len]; exact hn
  have dn := law_pairs_done (s := s.1) (c := r.bent) (by omega) (ps := pairsAt b r d.2) (fun p hp => by rw [ln]; exact pairsAt_lt hb hf a3 hp)
  have tk : doAll b bk st (ds.take (i + 1)) = doPairs r.bent s.1 (pairsAt b r d.2) := by
    rw [List.take_add_one, hx]
    unfold doAll
    rw [List.foldl_append]
    show doDeed b bk (doAll b bk st (ds.take i)) d = _
    rw [← i1]
    unfold doDeed
    rw [a2]
  cases q : hasK s.2 d with
  | true =>
    obtain ⟨v, hv⟩ := hasK_iff.mp q
    obtain ⟨r', z1, z2⟩ := i3 d v hv
    rw [a2] at z1
    cases z1
    refine ⟨(doPairs r.bent s.1 (pairsAt b r d.2), s.2), ?_, tk.symm, Nat.le_succ_of_le i2, i3⟩
    show ((ixI bk d.1).bind _) = _
    rw [ixI_of a1 a2, bs, hv, bs, z2, dn]
    rfl
  | false =>
    refine ⟨(doPairs r.bent s.1 (pairsAt b r d.2), putK' s.2 d (pairsAt b r d.2)), ?_, tk.symm, Nat.le_trans (putK_len s.2 d (pairsAt b r d.2)) (Nat.succ_le_succ i2), fun k v hk => ?_⟩
    · show ((t__law_pairs b bk d).bind _) = _
      rw [law_pairs_ok hb h a1 a2, bs, putO_ok (by omega), bs, ixI_of a1 a2, bs, getK_put, if_pos rfl, bs, dn]
      rfl
    · simp only at hk
      rw [getK_put] at hk
      split at hk
      · rename_i z
        cases hk
        subst z
        exact ⟨r, a2, rfl⟩
      · exact i3 k v hk
end G
namespace G
open PySem PySem.Spec L2 DL
theorem law_cells_ok {b : Board} (hb : b.ok 36) : t__law_cells b = some b.cells := by
  unfold t__law_cells
  cases b with
  | row n => rfl
  | ring n => rfl
  | floor h w =>
    have := mul_cells hb
    simp only [Board.isFloor, ct, Board.n2, Board.n1, bs, this, Board.cells]
end G
set_option maxHeartbeats 2000000
namespace G
open PySem PySem.Spec L2 DL
theorem run_cut {A B : Fs} {ρ : En} {P : En → Prop} {Q : Fl → En → Prop} (h : Run A ρ fun fl ρ1 => fl = .nx ∧ P ρ1) (k : ∀ ρ1, P ρ1 → Run B ρ1 Q) : Run (bSeq A B) ρ Q := by
  obtain ⟨fl, ρ1, e, rfl, p⟩ := h
  exact run_seq e (k ρ1 p)
theorem te_or1 {t u : Ft} {ρ ρ1 : En} (ha : t ρ = some (true, ρ1)) : dOr t u ρ = some (true, ρ1) := by
  unfold dOr
  simp only [ha]
theorem run_if1' {t : Ft} {A B C : Fs} {ρ ρ1 : En} {Q : Fl → En → Prop} (ht : t ρ = some (true, ρ1)) (k : Run (bSeq A C) ρ1 Q) : Run (bSeq (bIf t A B) C) ρ Q := by
  obtain ⟨fl, ρ', e, q⟩ := k
  refine ⟨fl, ρ', ?_, q⟩
  rw [← e]
  unfold bSeq bIf
  simp only [ht]
theorem run_ifG {t : Ft} {A B C : Fs} {ρ : En} {Q : Fl → En → Prop} {P : Bool → En → Prop} (ht : ∃ c ρ1, t ρ = some (c, ρ1) ∧ P c ρ1) (h1 : ∀ ρ1, P true ρ1 → Run (bSeq A C) ρ1 Q) (h0 : ∀ ρ1, P false ρ1 → Run (bSeq B C) ρ1 Q) : Run (bSeq (bIf t A B) C) ρ Q := by
  obtain ⟨c, ρ1, e, p⟩ := ht
  cases c with
  | true => exact run_if1' e (h1 ρ1 p)
  | false => exact run_if0 e (h0 ρ1 p)
theorem fgOk_of : ∀ {L : List Nat} {ρ : En}, (∀ i ∈ L, kNR ρ[i]? = true) → fgOk ρ L = true
  | [], _, _ => rfl
  | i :: L, ρ, h => by
    have hi := h i List.mem_cons_self
    show (notRf ρ i && fgOk (ρ.set i .un) L) = true
    rw [notRf_e, hi, Bool.true_and]
    refine fgOk_of fun j hj => ?_
    by_cases e : i = j
    · subst e
      have hl : i < ρ.length := by
        cases q : ρ[i]? with
        | none => rw [q] at hi; cases hi
        | some r => exact (List.getElem?_eq_some_iff.mp q).1
      rw [List.getElem?_set_self hl]
      rfl
    · rw [List.getElem?_set_ne e]
      exact h j (List.mem_cons_of_mem _ hj)
abbrev lG (A : Str → Addr) (ns : List Int) (x : Int) (b : Board) (bk : List Rule) (q1 q2 : Addr) (pot : List Int) (k : Kept) (l : Logs) (k2 : Kept) (l2 : Logs) (NS : List Str) (r : En) : En :=
  .fz (.scr ns) :: .ow (yK q1 k2) :: .ow (yL q2 l2) :: .fz (.int x) :: .ow (.l (List.map D.int pot)) :: .fz (Board.d b) :: .fz (.tup (List.map Rule.d bk)) :: .ow (.l (List.map (eP D.int D.int) (deedsOf b bk))) :: .ow (yO A b bk q1 q2 .non) :: .ow (.k (mapKV kS eSt k)) :: .ow (.k (mapKV kS eLg l)) :: .ow (.l (List.map D.str NS)) :: r
section
variable {A : Str → Addr} {b : Board} {bk : List Rule} {q1 q2 : Addr} {k : Kept} {l : Logs} {ns pot : List Int} {x : Int} {NS : List Str}
theorem right_ev {d12 d13 d14 d15 d16 d17 : D} (h12 : d12.nk = true) (h13 : d13.nk = true) (h14 : d14.nk = true) (h15 : d15.nk = true) (h16 : d16.nk = true) (h17 : d17.nk = true) (y : YGood k l) : dStill 10 (dStill 9 (fCallM (F__law_all_right A) [1, 2] (aCons (eVar 8) (aFr (eVar 9) (aFr (eVar 10) aNil))))) (lG A ns x b bk q1 q2 pot k l k l NS [.fz d12, .fz d13, .fz d14, .fz d15, .fz d16, .fz d17, .un]) = some (.fz (.bl true), lG A ns x b bk q1 q2 pot k l k l NS [.fz d12, .fz d13, .fz d14, .fz d15, .fz d16, .fz d17, .un]) := by
  have n1 := nkKV_map (ek := kS) nk_st k
  have n2 := nkKV_map (ek := kS) nk_lg l
  have n3 : D.nks (l.map fun p => eLg p.2) = true := nks_map (fun p => nk_lg p.2) l
  have n4 := nk_board b
  have n5 := nks_map nk_rule bk
  have n6 := nks_map nk_int pot
  have n7 := nks_map nk_str NS
  have n8 := nks_map (nk_pair nk_int nk_int) (deedsOf b bk)
  refine ev_still (ρ1 := (lG A ns x b bk q1 q2 pot k l k l NS [.fz d12, .fz d13, .fz d14, .fz d15, .fz d16, .fz d17, .un]).set 10 (.fz (dkOf kS eLg l))) rfl rfl ?_ (by simp [resNk, D.nk]) (by simp [nkE2, nkL, nkO, wasDk, isDkN, nk_un, nk_fz, nk_ow, Mu.nk, D.nk, D.nks, dkOf, n1, n2, n3, n4, n5, n6, n7, n8, h12, h13, h14, h15, h16, h17])
  rw [dkv_map]
  refine ev_still (ρ1 := ((lG A ns x b bk q1 q2 pot k l k l NS [.fz d12, .fz d13, .fz d14, .fz d15, .fz d16, .fz d17, .un]).set 10 (.fz (dkOf kS eLg l))).set 9 (.fz (dkOf kS eSt k))) rfl rfl ?_ (by simp [resNk, D.nk]) (by simp [nkE2, nkL, nkO, wasDk, isDkN, nk_un, nk_fz, nk_ow, Mu.nk, D.nk, D.nks, dkOf, n1, n2, n3, n4, n5, n6, n7, n8, h12, h13, h14, h15, h16, h17])
  rw [dkv_map]
  exact ev_callM (ar_cons (ev_own rfl) (ar_fr (ev_var rfl) rfl (ar_fr (ev_var rfl) rfl ar_nil))) (by show List.Nodup [8, 1, 2]; decide) rfl (all_right_ok y) rfl rfl
end
def TI (A : Str → Addr) (ns : List Int) (x : Int) (b : Board) (bk : List Rule) (q1 q2 : Addr) (NS : List Str) (s : Nat) (ρ : En) : Prop :=
  ∃ pot k l, ∃ u12 u13 u14 u15 u16 u17 : Sl, ρ = lG A ns x b bk q1 q2 pot k l k l NS [u12, u13, u14, u15, u16, u17, .un] ∧ (kNR (some u12) = true ∧ kNR (some u13) = true ∧ kNR (some u14) = true ∧ kNR (some u15) = true ∧ kNR (some u16) = true ∧ kNR (some u17) = true) ∧ s ≤ 80 ∧ PotOk (400 + 200 * s) pot ∧ YI b bk NS (6 * s) k l ∧ ∀ j nm, j < s → NS[j]? = some nm → hasK k nm = true
theorem law_pure (A : Str → Addr) (ns : List Int) (hn : ns.length ≤ 63) : ∃ ρ', F_law A [.fz (.scr ns)] = some (.fz (.bl true), ρ') := by
  obtain ⟨rg, bd⟩ := cells_range ns hn 2 (by decide)
  refine fn_ok (ρ := [.fz (.scr ns)]) (zf := fun (r : Bool) => .fz (.bl r)) (x := true) ?_
  unfold d_law
  show Run _ [.fz (.scr ns), .un, .un, .un, .un, .un, .un, .un, .un, .un, .un, .un, .un, .un, .un, .un, .un, .un, .un] _
  refine run_for (S := Unit) (xs := rangeI 0 (mxI 1 (mnI 2 (ns.length : Nat)))) (body := fun _ x => if 0 ≤ x ∧ x ≤ 100 then some () else none) (s1 := ()) (s0 := ()) (forN_unit fun x hx => if_pos (bd x hx)) (fun _ ρ => ∃ u : Sl, ρ = [.fz (.scr ns), .un, .un, u, .un, .un, .un, .un, .un, .un, .un, .un, .un, .un, .un, .un, .un, .un, .un] ∧ kNR (some u) = true) (it_r1 (ar_fr (ev_call (ar_cons ev_c (ar_cons (ev_call (ar_cons ev_c (ar_cons (ev_call (ar_cons (ev_var rfl) ar_nil) rfl rfl) ar_nil)) rfl rfl) ar_nil)) rfl rfl) rfl ar_nil) rg) ⟨_, rfl, rfl⟩ ?_ ?_
  · rintro _ x _ ρ ⟨u, rfl, nu⟩ h
    have hx : 0 ≤ x ∧ x ≤ 100 := by
      by_cases h' : 0 ≤ x ∧ x ≤ 100
      · exact h'
      · rw [if_neg h'] at h; cases h
    obtain ⟨x0, x1⟩ := hx
    obtain ⟨p1, e1, k1⟩ := pot_ok ns x x0 x1
    obtain ⟨b, p2, e2, hb', k2⟩ := board_ok (m := 12) k1 (by decide) (by decide) (by decide)
    have hb : b.ok 36 := hb'.more (by decide)
    obtain ⟨bk, p3, e3, hbk, k3⟩ := book_ok k2 hb (by decide)
    obtain ⟨NS, p4, e4, NS1, NS2, NSg, k4⟩ := many_names_ok k3 (by decide)
    refine ⟨_, tg_nm nu, ?_⟩
    show Run _ [.fz (.scr ns), .un, .un, .fz (.int x), .un, .un, .un, .un, .un, .un, .un, .un, .un, .un, .un, .un, .un, .un, .un] _
    refine run_asg (ev_fc (ar_fr (ev_var rfl) rfl (ar_fr (ev_var rfl) rfl ar_nil)) rfl (C__law_pot e1) rfl) rfl rfl ?_
    show Run _ [.fz (.scr ns), .un, .un, .fz (.int x), .ow (.l (List.map D.int p1)), .un, .un, .un, .un, .un, .un, .un, .un, .un, .un, .un, .un, .un, .un] _
    refine run_asg (ev_fcO (ar_cons (ev_own rfl) (ar_fr ev_c rfl ar_nil)) rfl rfl (C__law_board e2) rfl) rfl rfl ?_
    show Run _ [.fz (.scr ns), .un, .un, .fz (.int x), .ow (.l (List.map D.int p2)), .fz (Board.d b), .un, .un, .un, .un, .un, .un, .un, .un, .un, .un, .un, .un, .un] _
    refine run_asg (ev_fcO (ar_cons (ev_own rfl) (ar_fr (ev_var rfl) rfl ar_nil)) rfl rfl (C__law_book e3) rfl) rfl rfl ?_
    show Run _ [.fz (.scr ns), .un, .un, .fz (.int x), .ow (.l (List.map D.int p3)), .fz (Board.d b), .fz (.tup (List.map Rule.d bk)), .un, .un, .un, .un, .un, .un, .un, .un, .un, .un, .un, .un] _
    refine run_asg (ev_fc (ar_fr (ev_var rfl) rfl (ar_fr (ev_var rfl) rfl ar_nil)) rfl (C__law_deeds (law_deeds_ok hb hbk)) rfl) rfl rfl ?_
    show Run _ [.fz (.scr ns), .un, .un, .fz (.int x), .ow (.l (List.map D.int p3)), .fz (Board.d b), .fz (.tup (List.map Rule.d bk)), .ow (.l (List.map (eP D.int D.int) (deedsOf b bk))), .un, .un, .un, .un, .un, .un, .un, .un, .un, .un, .un] _
    refine ⟨.nx, _, ev_new (y := (.nx, [.fz (.scr ns), .un, .un, .un, .un, .un, .un, .un, .un, .un, .un, .un, .un, .un, .un, .un, .un, .un, .un])) (ar_cat (ar_fr (ev_var rfl) rfl (ar_fr (ev_var rfl) rfl ar_nil)) ar_kon) rfl rfl (fun g hg => ?_) rfl (fun qs ql => ?_), .inl rfl, _, rfl, rfl⟩
    · simp only [List.mem_cons, List.not_mem_nil, or_false] at hg
      rcases hg with rfl | rfl <;> exact ⟨rfl, by decide⟩
    obtain ⟨q1, q2, rfl⟩ : ∃ q1 q2, qs = [q1, q2] := by
      match qs, ql with
      | [a, b], _ => exact ⟨a, b, rfl⟩
    suffices hs : Run _ _ fun fl ρ => fl = .nx ∧ lettg [1, 2, 3, 4, 5, 6, 7, 8, 9, 10, 11, 12, 13, 14, 15, 16, 17, 18] (.nx, ρ) = some (.nx, [.fz (.scr ns), .un, .un, .un, .un, .un, .un, .un, .un, .un, .un, .un, .un, .un, .un, .un, .un, .un, .un]) by
      obtain ⟨fl, ρ', e, rfl, q⟩ := hs
      exact ⟨_, _, e, q⟩
    show Run _ [.fz (.scr ns), .ow (yK q1 []), .ow (yL q2 []), .fz (.int x), .ow (.l (List.map D.int p3)), .fz (Board.d b), .fz (.tup (List.map Rule.d bk)), .ow (.l (List.map (eP D.int D.int) (deedsOf b bk))), .ow (yO A b bk q1 q2 .non), .un, .un, .un, .un, .un, .un, .un, .un, .un, .un] _
    refine run_asg (z := .ow (.k (mapKV kS eSt []))) (ρ2 := [.fz (.scr ns), .ow (yK q1 []), .ow (yL q2 []), .fz (.int x), .ow (.l (List.map D.int p3)), .fz (Board.d b), .fz (.tup (List.map Rule.d bk)), .ow (.l (List.map (eP D.int D.int) (deedsOf b bk))), .ow (yO A b bk q1 q2 .non), .un, .un, .un, .un, .un, .un, .un, .un, .un, .un]) (r := .ow (.k [])) rfl rfl rfl ?_
    refine run_asg (z := .ow (.k (mapKV kS eLg []))) (ρ2 := [.fz (.scr ns), .ow (yK q1 []), .ow (yL q2 []), .fz (.int x), .ow (.l (List.map D.int p3)), .fz (Board.d b), .fz (.tup (List.map Rule.d bk)), .ow (.l (List.map (eP D.int D.int) (deedsOf b bk))), .ow (yO A b bk q1 q2 .non), .ow (.k (mapKV kS eSt [])), .un, .un, .un, .un, .un, .un, .un, .un, .un]) (r := .ow (.k [])) rfl rfl rfl ?_
    show Run _ [.fz (.scr ns), .ow (yK q1 []), .ow (yL q2 []), .fz (.int x), .ow (.l (List.map D.int p3)), .fz (Board.d b), .fz (.tup (List.map Rule.d bk)), .ow (.l (List.map (eP D.int D.int) (deedsOf b bk))), .ow (yO A b bk q1 q2 .non), .ow (.k (mapKV kS eSt [])), .ow (.k (mapKV kS eLg [])), .un, .un, .un, .un, .un, .un, .un, .un] _
    refine run_asg (ev_fcO (ar_cons (ev_own rfl) ar_nil) rfl rfl (C__law_many_names e4) rfl) rfl rfl ?_
    show Run _ (lG A ns x b bk q1 q2 p4 [] [] [] [] NS [.un, .un, .un, .un, .un, .un, .un]) _
    refine run_last ?_
    obtain ⟨s1, eN, hs1⟩ := forN_inv (b := fun (s : Nat) (z : Int) => if z = (s : Int) ∧ s < 2 * NS.length then some (s + 1) else none) (fun n s => s = n) (xs := rangeI 0 (2 * (NS.length : Int))) (n := 0) (s := 0) (fun i z s hz hs => by
      obtain ⟨hl, hg⟩ := rangeI_get hz
      refine ⟨s + 1, if_pos ⟨by omega, by omega⟩, by omega⟩) rfl
    refine run_for eN (fun s ρ => TI A ns x b bk q1 q2 NS s ρ) (it_r1 (ar_fr (ev_op ev_c (ev_call (ar_cons (ev_own rfl) ar_nil) rfl (d_lenL _)) rfl rfl (d_mul (v := 2 * (NS.length : Int)) (mulI_ok (a := 2) (b := 10) (by decide) (by omega) (by decide) (by decide) (by decide)))) rfl ar_nil) (rngO_ok (by decide) (by omega))) ⟨p4, [], [], _, _, _, _, _, _, rfl, ⟨rfl, rfl, rfl, rfl, rfl, rfl⟩, Nat.zero_le _, k4.more (by omega), YI.nil, fun _ _ h => absurd h (Nat.not_lt_zero _)⟩ ?_ ?_
    · rintro s z s' ρ ⟨pot, k, l, u12, u13, u14, u15, u16, u17, rfl, ⟨n12, n13, n14, n15, n16, n17⟩, hs80, hp, y, hk⟩ h
      have hc : z = (s : Int) ∧ s < 2 * NS.length := by
        by_cases h' : z = (s : Int) ∧ s < 2 * NS.length
        · exact h'
        · rw [if_neg h'] at h; cases h
      rw [if_pos hc] at h
      cases h
      obtain ⟨rfl, hs⟩ := hc
      have lp : 0 < (NS.length : Int) := by omega
      obtain ⟨nm, en, mn, gn⟩ := ixI_lt (xs := NS) (i := (s : Int) % (NS.length : Int)) (Int.emod_nonneg _ (by omega)) (Int.emod_lt_of_pos _ lp)
      refine ⟨_, tg_nm n12, ?_⟩
      show Run _ (lG A ns x b bk q1 q2 pot k l k l NS [.fz (.int s), u13, u14, u15, u16, u17, .un]) _
      refine run_asg (ev_op (ev_own rfl) (ev_op (ev_var rfl) (ev_call (ar_cons (ev_own rfl) ar_nil) rfl (d_lenL _)) rfl rfl (d_mod (modI_ok lp))) rfl rfl (d_ixL en)) rfl n13 ?_
      show Run _ (lG A ns x b bk q1 q2 pot k l k l NS [.fz (.int s), .fz (.str nm), u14, u15, u16, u17, .un]) _
      refine run_cut (P := fun ρ1 => ∃ pot k l, ρ1 = lG A ns x b bk q1 q2 pot k l k l NS [.fz (.int s), .fz (.str nm), u14, u15, u16, u17, .un] ∧ PotOk (400 + 200 * s + 90) pot ∧ YI b bk NS (6 * s) k l ∧ (∀ j nm', j < s + 1 → NS[j]? = some nm' → hasK k nm' = true) ∧ hasK k nm = true) ?_ ?_
      · refine run_last ?_
        refine run_ifG (P := fun c ρ1 => ∃ pot', ρ1 = lG A ns x b bk q1 q2 pot' k l k l NS [.fz (.int s), .fz (.str nm), u14, u15, u16, u17, .un] ∧ PotOk (400 + 200 * s + 1) pot' ∧ (c = false → NS.length ≤ s)) ?_ ?_ ?_
        · by_cases hlt : s < NS.length
          · exact ⟨true, _, te_or1 (te_tst (ev_as (z := .fz (.bl true)) (ev_op (ev_var rfl) (ev_call (ar_cons (ev_own rfl) ar_nil) rfl (d_lenL _)) rfl rfl rfl) (congrArg (fun c => Sl.fz (.bl c)) (decide_eq_true (show (s : Int) < (NS.length : Int) by omega))))), pot, rfl, hp.more (by omega), fun h => nomatch h⟩
          · obtain ⟨r, p, e, _, _, kp⟩ := dip_ok (m := 8) hp (by decide) (by decide) (by omega)
            exact ⟨decide (r = 0), _, te_or0 (te_tst (ev_as (z := .fz (.bl false)) (ev_op (ev_var rfl) (ev_call (ar_cons (ev_own rfl) ar_nil) rfl (d_lenL _)) rfl rfl rfl) (congrArg (fun c => Sl.fz (.bl c)) (decide_eq_false (show ¬ (s : Int) < (NS.length : Int) by omega))))) (te_tst (ev_op (ev_fcO (ar_cons (ev_own rfl) (ar_fr ev_c rfl ar_nil)) rfl rfl (C__law_dip e) rfl) ev_c rfl rfl rfl)), p, rfl, kp, fun _ => by omega⟩
        · rintro ρ1 ⟨pot, rfl, hp, _⟩
          obtain ⟨st, p5, e5, sl1, sl2, k5⟩ := standing_ok hp (many := b.cells) (by have := Board.cells_pos hb; omega) (by have := Board.cells_pos hb; omega) (by omega)
          have gk : getK (putK' k nm st) nm = some st := by rw [getK_put, if_pos rfl]
          have few := y.few
          have kl : k.length ≤ lim := by unfold lim; omega
          have ll : l.length ≤ lim := by unfold lim; omega
          refine run_assoc ?_
          refine run_dput (ev_fcO (ar_cons (ev_own rfl) (ar_fr (ev_fc (ar_fr (ev_var rfl) rfl ar_nil) rfl (C__law_cells (law_cells_ok hb)) rfl) rfl ar_nil)) rfl rfl (C__law_standing e5) rfl) rfl rfl (ev_var rfl) rfl rfl (mput_k' (ev := eSt) kfS kS_inj kl) ?_
          show Run _ (lG A ns x b bk q1 q2 p5 (putK' k nm st) l k l NS [.fz (.int s), .fz (.str nm), u14, u15, u16, u17, .un]) _
          refine run_assoc ?_
          refine run_dput (ev_tup ar_nil rfl rfl) rfl rfl (ev_var rfl) rfl rfl (mput_k' (ev := eLg) (v := []) kfS kS_inj ll) ?_
          show Run _ (lG A ns x b bk q1 q2 p5 (putK' k nm st) (putK' l nm []) k l NS [.fz (.int s), .fz (.str nm), u14, u15, u16, u17, .un]) _
          refine run_drop (ev_methO rfl (ar_cat (ar_fr (ev_var rfl) rfl (ar_fr (ev_getK (ev := eSt) kfS kS_inj gk rfl (ev_var rfl) rfl rfl) rfl ar_nil)) ar_kon) (by show List.Nodup [8, 1, 2]; decide) rfl (M_put kl ll) rfl rfl) ?_
          refine ⟨.nx, _, rfl, rfl, p5, putK' k nm st, putK' l nm [], rfl, k5.more (by omega), y.put mn sl2 sl1 (fun _ h => by cases h) (Nat.zero_le _) (Nat.le_refl _), fun j nm' hj ej => ?_, by rw [hasK_put, decide_eq_true rfl]; rfl⟩
          rw [hasK_put]
          by_cases hjs : j < s
          · rw [hk j nm' hjs ej, Bool.or_true]
          · have : j = s := by omega
            subst this
            have hlt := (List.getElem?_eq_some_iff.mp ej).1
            rw [Int.emod_eq_of_lt (by omega) (by omega)] at gn
            rw [show ((j : Nat) : Int).toNat = j from Int.toNat_natCast j, ej] at gn
            cases gn
            rw [decide_eq_true rfl]
            rfl
        · rintro ρ1 ⟨pot, rfl, hp, hge⟩
          have hge := hge rfl
          have i1 := Int.emod_lt_of_pos (s : Int) lp
          have i0 := Int.emod_nonneg (s : Int) (show (NS.length : Int) ≠ 0 by omega)
          refine run_next ⟨.nx, _, rfl, rfl, pot, k, l, rfl, hp.more (by omega), y, fun j nm' hj ej => ?_, hk _ nm (by omega) gn⟩
          have hlt := (List.getElem?_eq_some_iff.mp ej).1
          exact hk j nm' (by omega) ej
      rintro ρ1 ⟨pot, k, l, rfl, hp, y, hk, hx⟩
      have few := y.few
      have kl : k.length ≤ lim := by unfold lim; omega
      have ll : l.length ≤ lim := by unfold lim; omega
      have cp := Board.cells_pos hb
      have dl := deedsOf_len hb hbk
      have dpos := deeds_pos hb hbk
      have kpos : 0 < k.length := by
        obtain ⟨p, hp', _⟩ := List.any_eq_true.mp (show k.any _ = true from hx)
        exact List.length_pos_of_mem hp'
      obtain ⟨r5, p5, e5, a5, b5, k5⟩ := dip_ok (m := (k.length : Int)) hp (by omega) (by omega) (by omega)
      have sl : (sortS (k.map (·.1))).length = k.length := by unfold sortS; rw [List.length_mergeSort, List.length_map]
      obtain ⟨ot, eo, mo, _⟩ := ixI_lt (xs := sortS (k.map (·.1))) a5 (by rw [sl]; exact b5)
      have ox : hasK k ot = true := hasKeys.mpr ((List.mergeSort_perm _ leS).mem_iff.mp mo)
      refine run_asg (ev_op (ev_sortK (ev_own rfl) rfl (ktxt_map k) (by rw [List.length_map]; omega)) (ev_fcO (ar_cons (ev_own rfl) (ar_fr (ev_as (z := .fz (.int (k.length : Nat))) (ev_lenD (ev_own rfl) rfl) (by rw [len_mapKV])) rfl ar_nil)) rfl rfl (C__law_dip e5) rfl) rfl rfl (d_ixL eo)) rfl n14 ?_
      show Run _ (lG A ns x b bk q1 q2 p5 k l k l NS [.fz (.int s), .fz (.str nm), .fz (.str ot), u15, u16, u17, .un]) _
      obtain ⟨r6, p6, e6, a6, b6, k6⟩ := dip_ok (m := 7) k5 (by decide) (by decide) (by omega)
      obtain ⟨ds, p7, e7, l7, f7, k7⟩ := mapS_inv (f := fun (s : (List Int)) (x : Int) => (t__law_dip s ((deedsOf b bk).length : Int)).bind fun v => (ixI (deedsOf b bk) v.1).bind fun w => some (w, v.2)) PotOk (fun _ d => IsDeed b bk d) 1 (xs := rangeI 0 r6) (n := 400 + 200 * s + 90 + 1 + 1) (s := p6) (fun n' s x h1 h2 hx hi => by
        rw [rangeI_len] at h2
        obtain ⟨r, p, e, a, c, k⟩ := dip_ok (m := ((deedsOf b bk).length : Int)) hi (by omega) (by omega) (by omega)
        obtain ⟨d, g1, g2, _⟩ := ixI_lt (xs := deedsOf b bk) a c
        exact ⟨d, p, by rw [e, bs, g1]; rfl, mem_deeds.mp g2, k⟩) k6 (by rw [rangeI_len]; omega)
      rw [rangeI_len] at l7 k7
      have hd : ∀ d ∈ ds, IsDeed b bk d := fun d hd => by
        obtain ⟨i, hi⟩ := List.mem_iff_getElem?.mp hd
        have hil := (List.getElem?_eq_some_iff.mp hi).1
        obtain ⟨y, hy, f⟩ := f7 i ((rangeI 0 r6)[i]'(by rw [rangeI_len]; omega)) (List.getElem?_eq_getElem (by rw [rangeI_len]; omega))
        rw [hi] at hy
        cases hy
        exact f
      refine run_asg (ev_call (ar_cons (ev_lcS (eb := eP D.int D.int) (st := fun (p : List Int) => lG A ns x b bk q1 q2 p k l k l NS [.fz (.int s), .fz (.str nm), .fz (.str ot), u15, u16, u17, .un]) e7 (it_r1 (ar_fr (ev_fcO (ar_cons (ev_own rfl) (ar_fr ev_c rfl ar_nil)) rfl rfl (C__law_dip e6) rfl) rfl ar_nil) (rngO_ok (by decide) (by omega))) rfl (by
        intro p x yy E
        obtain ⟨v, ev, E⟩ := bnd E
        obtain ⟨w, ew, E⟩ := bnd E
        obtain rfl := Option.some.inj E
        exact ⟨_, _, (tg_nm rfl), ev_fr (ev_op (ev_own rfl) (ev_fcO (ar_cons (ev_own rfl) (ar_fr (ev_call (ar_cons (ev_own rfl) ar_nil) rfl (d_lenL _)) rfl ar_nil)) rfl rfl (C__law_dip ev) rfl) rfl rfl (d_ixL ew)) rfl, rfl⟩) rfl) ar_nil) rfl rfl) rfl n15 ?_
      show Run _ (lG A ns x b bk q1 q2 p7 k l k l NS [.fz (.int s), .fz (.str nm), .fz (.str ot), .fz (eLg ds), u16, u17, .un]) _
      obtain ⟨st, g⟩ := Option.isSome_iff_exists.mp (by rw [has_get]; exact ox : (getK k ot).isSome = true)
      obtain ⟨lg, g1, g2, g3⟩ := y.ll ot ox
      obtain ⟨ks1, ks2⟩ : StOk st ∧ (st.length : Int) = b.cells := y.kk _ (get_mem g)
      have oN : ot ∈ NS := y.inN _ (get_mem g)
      have dn := done_ok hb hbk ks1 ks2 hd (by omega) false
      simp only [cond_false] at dn
      have ld := law_done_ok hb hbk ks2 hd (by omega)
      have nd : t_need_deeds b bk ds = some () := need_deeds_ok hb hbk hd (by omega)
      have ct_ : catL lg ds = some (lg ++ ds) := catL_ok (by omega)
      have gk : ∀ (k : Kept) (n : Str) z, getK (putK' k n z) n = some z := fun k n z => by rw [getK_put, if_pos rfl]
      refine run_dput (r := .fz (eSt (doAll b bk st ds))) (v := eSt (doAll b bk st ds)) (m := .k (mapKV kS eSt k)) (ev_fc (ar_fr (ev_var rfl) rfl (ar_fr (ev_var rfl) rfl (ar_fr (ev_getK (ev := eSt) kfS kS_inj g rfl (ev_var rfl) rfl rfl) rfl (ar_fr (ev_var rfl) rfl ar_nil)))) rfl (C__law_done ld) rfl) rfl rfl (ev_var rfl) rfl rfl (mput_k' (ev := eSt) kfS kS_inj kl) ?_
      refine run_dput (r := .fz (eLg (lg ++ ds))) (v := eLg (lg ++ ds)) (m := .k (mapKV kS eLg l)) (ev_op (ev_getK (ev := eLg) kfS kS_inj g1 rfl (ev_var rfl) rfl rfl) (ev_var rfl) rfl rfl (d_catV ct_)) rfl rfl (ev_var rfl) rfl rfl (mput_k' (ev := eLg) kfS kS_inj ll) ?_
      have y1 : YI b bk NS (6 * (s + 1)) (putK' k ot (doAll b bk st ds)) (putK' l ot (lg ++ ds)) := y.put oN (doAll_ok ks1) (by rw [doAll_len]; exact ks2) (fun d h => (List.mem_append.mp h).elim (g2 d) (hd d)) (by rw [List.length_append]; omega) (by omega)
      have kx1 : ∀ n, hasK k n = true → hasK (putK' k ot (doAll b bk st ds)) n = true := fun n h => by rw [hasK_put, h, Bool.or_true]
      have neq : ∀ {t : List (Str × Int)}, StOk t → (t.length : Int) = b.cells → gNe (eSt t) (eSt t) = some (.fz (.bl false)) := fun h1 h2 => d_ne (eqO_shw (things_shw h1 (by omega)) (by decide)) rfl
      have neq1 := neq (doAll_ok (b := b) (bk := bk) (ds := ds) ks1) (by rw [doAll_len]; exact ks2)
      have mdo := M_do (A := A) (q1 := q1) (q2 := q2) (busy := .non) (back := false) g g1 nd (by omega) ct_ dn kl ll (gk k ot _)
      have gk1 := gk k ot (doAll b bk st ds)
      revert y1 kx1 neq1 mdo gk1
      generalize putK' k ot (doAll b bk st ds) = k1
      generalize putK' l ot (lg ++ ds) = l1
      generalize doAll b bk st ds = st1
      intro y1 kx1 neq1 mdo gk1
      show Run _ (lG A ns x b bk q1 q2 p7 k1 l1 k l NS [.fz (.int s), .fz (.str nm), .fz (.str ot), .fz (eLg ds), u16, u17, .un]) _
      have n4 : hasK k1 "aaaa" = false := by
        cases h : hasK k1 "aaaa" with
        | false => rfl
        | true =>
          obtain ⟨p, hp', e⟩ := List.mem_map.mp (hasKeys.mp h)
          exact absurd e (NSg _ (y1.inN p hp')).2
      refine run_if0 (te_or0 (ρ1 := lG A ns x b bk q1 q2 p7 k1 l1 k1 l1 NS [.fz (.int s), .fz (.str nm), .fz (.str ot), .fz (eLg ds), u16, u17, .un]) (te_tst (ev_op (ev_methO rfl (ar_cat (ar_fr (ev_var rfl) rfl (ar_fr (ev_var rfl) rfl ar_nil)) ar_kon) (by show List.Nodup [8, 1, 2]; decide) rfl mdo rfl rfl) (ev_getK (ev := eSt) kfS kS_inj gk1 rfl (ev_var rfl) rfl rfl) rfl rfl neq1)) (te_not (b := true) (te_tst (ev_callM (ar_cons (ev_own rfl) (ar_fr ev_c rfl ar_nil)) (by show List.Nodup [8, 1, 2]; decide) rfl (none_there_ok n4 (by decide)) rfl rfl)))) (run_next ?_)
      show Run _ (lG A ns x b bk q1 q2 p7 k1 l1 k1 l1 NS [.fz (.int s), .fz (.str nm), .fz (.str ot), .fz (eLg ds), u16, u17, .un]) _
      clear mdo neq1 gk1 n4 nd dn ld ct_
      have few1 := y1.few
      have kl1 : k1.length ≤ lim := by unfold lim; omega
      have ll1 : l1.length ≤ lim := by unfold lim; omega
      have hx1 := kx1 nm hx
      obtain ⟨st2, h2⟩ := Option.isSome_iff_exists.mp (by rw [has_get]; exact hx1 : (getK k1 nm).isSome = true)
      obtain ⟨lg2, j1, j2, j3⟩ := y1.ll nm hx1
      obtain ⟨ms1, ms2⟩ : StOk st2 ∧ (st2.length : Int) = b.cells := y1.kk _ (get_mem h2)
      have getL : ∀ (p : List Int) (k' : Kept) (r : En), dDGet 10 (eVar 13) (lG A ns x b bk q1 q2 p k' l1 k1 l1 NS (.fz (.int s) :: .fz (.str nm) :: r)) = some (.fz (eLg lg2), lG A ns x b bk q1 q2 p k' l1 k1 l1 NS (.fz (.int s) :: .fz (.str nm) :: r)) := fun p k' r => ev_getK (ev := eLg) kfS kS_inj j1 rfl (ev_var rfl) rfl rfl
      obtain ⟨r8, p8, e8, a8, b8, k8⟩ := dip_ok (m := (lg2.length : Int) + 1) k7 (by omega) (by omega) (by omega)
      refine run_asg (ev_fcO (ar_cons (ev_own rfl) (ar_fr (ev_op (ev_call (ar_cons (getL _ _ _) ar_nil) rfl (d_lenV _)) ev_c rfl rfl rfl) rfl ar_nil)) rfl rfl (C__law_dip e8) rfl) rfl n16 ?_
      show Run _ (lG A ns x b bk q1 q2 p8 k1 l1 k1 l1 NS [.fz (.int s), .fz (.str nm), .fz (.str ot), .fz (eLg ds), .fz (.int r8), u17, .un]) _
      refine run_asg (r := .fz (eLg (cutD lg2 (some r8) none))) (ev_sl (getL _ _ _) (fo_some (ev_var rfl)) fo_no rfl (d_slV _ _ _)) rfl n17 ?_
      show Run _ (lG A ns x b bk q1 q2 p8 k1 l1 k1 l1 NS [.fz (.int s), .fz (.str nm), .fz (.str ot), .fz (eLg ds), .fz (.int r8), .fz (eLg (cutD lg2 (some r8) none)), .un]) _
      have gl : (cutD lg2 (some r8) none).length = lg2.length - r8.toNat := by rw [cutD_from a8 (by omega), List.length_drop]
      have e9 : (lg2.length : Int) - ((cutD lg2 (some r8) none).length : Int) = r8 := by rw [gl]; omega
      have hd2 : ∀ d ∈ (cutD lg2 (some r8) none).reverse, IsDeed b bk d := fun d h => j2 d (cut_sub (List.mem_reverse.mp h))
      have dl2 : (cutD lg2 (some r8) none).reverse.length ≤ 100000 := by rw [List.length_reverse, gl]; omega
      have dn2 := done_ok hb hbk ms1 ms2 hd2 dl2 false
      simp only [cond_false] at dn2
      have ld2 := law_done_ok hb hbk ms2 hd2 dl2
      refine run_dput (r := .fz (eSt (doAll b bk st2 (cutD lg2 (some r8) none).reverse))) (v := eSt (doAll b bk st2 (cutD lg2 (some r8) none).reverse)) (m := .k (mapKV kS eSt k1)) (ev_fc (ar_fr (ev_var rfl) rfl (ar_fr (ev_var rfl) rfl (ar_fr (ev_getK (ev := eSt) kfS kS_inj h2 rfl (ev_var rfl) rfl rfl) rfl (ar_fr (ev_back (ev_var rfl) rfl) rfl ar_nil)))) rfl (C__law_done ld2) rfl) rfl rfl (ev_var rfl) rfl rfl (mput_k' (ev := eSt) kfS kS_inj kl1) ?_
      refine run_dput (r := .fz (eLg (cutD lg2 none (some r8)))) (v := eLg (cutD lg2 none (some r8))) (m := .k (mapKV kS eLg l1)) (ev_sl (getL _ _ _) fo_no (fo_some (ev_var rfl)) rfl (d_slV _ _ _)) rfl rfl (ev_var rfl) rfl rfl (mput_k' (ev := eLg) kfS kS_inj ll1) ?_
      have mu := M_undo (A := A) (q1 := q1) (q2 := q2) (busy := .non) (m := ((cutD lg2 (some r8) none).length : Int)) h2 j1 (by rw [gl]; omega) (by rw [e9]; exact dn2) kl1 ll1 (gk k1 nm _)
      rw [e9] at mu
      have y2 : YI b bk NS (6 * (s + 1)) (putK' k1 nm (doAll b bk st2 (cutD lg2 (some r8) none).reverse)) (putK' l1 nm (cutD lg2 none (some r8))) := y1.put mn (doAll_ok ms1) (by rw [doAll_len]; exact ms2) (fun d h => j2 d (cut_sub h)) (by have := cut_len lg2 none (some r8); omega) (Nat.le_refl _)
      have neq2 := neq (doAll_ok (b := b) (bk := bk) (ds := (cutD lg2 (some r8) none).reverse) ms1) (by rw [doAll_len]; exact ms2)
      have gk2 := gk k1 nm (doAll b bk st2 (cutD lg2 (some r8) none).reverse)
      have kx2 : ∀ n, hasK k1 n = true → hasK (putK' k1 nm (doAll b bk st2 (cutD lg2 (some r8) none).reverse)) n = true := fun n h => by rw [hasK_put, h, Bool.or_true]
      revert y2 neq2 gk2 mu kx2
      generalize putK' k1 nm (doAll b bk st2 (cutD lg2 (some r8) none).reverse) = k2
      generalize putK' l1 nm (cutD lg2 none (some r8)) = l2
      generalize doAll b bk st2 (cutD lg2 (some r8) none).reverse = st3
      intro mu y2 neq2 gk2 kx2
      show Run _ (lG A ns x b bk q1 q2 p8 k2 l2 k1 l1 NS [.fz (.int s), .fz (.str nm), .fz (.str ot), .fz (eLg ds), .fz (.int r8), .fz (eLg (cutD lg2 (some r8) none)), .un]) _
      have gd : YGood k2 l2 := y2.good hb hbk (by omega) (by omega) fun s hs => (NSg s hs).1
      refine run_last ?_
      refine run_if0 (te_or0 (ρ1 := lG A ns x b bk q1 q2 p8 k2 l2 k2 l2 NS [.fz (.int s), .fz (.str nm), .fz (.str ot), .fz (eLg ds), .fz (.int r8), .fz (eLg (cutD lg2 (some r8) none)), .un]) (te_tst (ev_op (ev_methO rfl (ar_cat (ar_fr (ev_var rfl) rfl ar_nil) (ar_fr (ev_call (ar_cons (ev_var rfl) ar_nil) rfl (d_lenV _)) rfl ar_nil)) (by show List.Nodup [8, 1, 2]; decide) rfl mu rfl rfl) (ev_getK (ev := eSt) kfS kS_inj gk2 rfl (ev_var rfl) rfl rfl) rfl rfl neq2)) (te_not (b := true) (te_tst (right_ev (nk_int _) (nk_str _) (nk_str _) (nk_lg _) (nk_int _) (nk_lg _) gd)))) (run_next ?_)
      exact ⟨.nx, _, rfl, .inl rfl, p8, k2, l2, _, _, _, _, _, _, rfl, ⟨rfl, rfl, rfl, rfl, rfl, rfl⟩, by omega, k8.more (by omega), y2, fun j nm' hj ej => kx2 _ (kx1 _ (hk j nm' hj ej))⟩
    · rintro ρ ⟨pot, k, l, u12, u13, u14, u15, u16, u17, rfl, ⟨n12, n13, n14, n15, n16, n17⟩, _⟩
      refine ⟨.nx, _, rfl, rfl, ?_⟩
      unfold lettg
      rw [if_pos (fgOk_of fun i hi => ?_)]
      · rfl
      · simp only [List.mem_cons, List.not_mem_nil, or_false] at hi
        rcases hi with rfl | rfl | rfl | rfl | rfl | rfl | rfl | rfl | rfl | rfl | rfl | rfl | rfl | rfl | rfl | rfl | rfl | rfl <;> first | rfl | assumption
  · rintro ρ ⟨u, rfl, nu⟩
    refine run_last ?_
    exact run_ret (rfl : some true = some true) (ev_c) (rq rfl)
end G
namespace G
open PySem PySem.Spec L2 DL
theorem facts {P : Program} {w : World} {K : PySem.W.Frag} {h : Heap} {mg : Str → Option Value} {f : Addr} (X : K.In h) (Gh : h.Ns mainGlobals mg) (hfa : mg ("law" : Str) = some (.ref f)) (c : He.SaysD fa fn K) (hx : HX K)
    (pure_ : ∀ (A : Str → Addr) (ns : List Int), ns.length ≤ 63 → ∃ ρ', F_law A [.fz (.scr ns)] = some (.fz (.bl true), ρ')) :
    ∃ fd : FuncData, (∀ (s : Shared) (v : Value), BindsTo s fd ⟨[v], []⟩ [("script", v)]) ∧ ∀ base : Heap, K.In base → base.Ns mainGlobals mg → FnG P w K mg base 9 f fd ["script"] (DL.spLaw K) := by
  have T := txMk X Gh c
  obtain ⟨fd, F⟩ := c.def_ 36 (d := df_law) rfl
  have e := hfa.symm.trans (T.gl 38 (x := "law") rfl)
  cases e
  have b := FunD.bindsA (ps := ["script"]) F fun _ _ _ _ _ _ us hl => match us, hl with | [_], _ => rfl
  refine ⟨fd, fun s v => b s [v] rfl, fun base _ _ => ?_⟩
  have MK_Yard := mk_Yard (P := P) (w := w) (base := base) T hx
  have XC_NoName := xc_NoName (P := P) (w := w) (base := base) T hx
  have D_cells_many := ok_cells_many (P := P) (w := w) (base := base) T hx 
  have D_first_cells := ok_first_cells (P := P) (w := w) (base := base) T hx D_cells_many
  have D_is_deed := ok_is_deed (P := P) (w := w) (base := base) T hx D_first_cells
  have D_pairs_at := ok_pairs_at (P := P) (w := w) (base := base) T hx D_cells_many
  have D_is_bent := ok_is_bent (P := P) (w := w) (base := base) T hx 
  have D_exchange := ok_exchange (P := P) (w := w) (base := base) T hx 
  have D_need_deeds := ok_need_deeds (P := P) (w := w) (base := base) T hx D_is_deed
  have D_done := ok_done (P := P) (w := w) (base := base) T hx D_need_deeds D_exchange D_is_bent D_pairs_at
  have D__law_pot := ok__law_pot (P := P) (w := w) (base := base) T hx 
  have D__law_dip := ok__law_dip (P := P) (w := w) (base := base) T hx 
  have D__law_board := ok__law_board (P := P) (w := w) (base := base) T hx D__law_dip
  have D__law_rules := ok__law_rules (P := P) (w := w) (base := base) T hx 
  have D__law_book := ok__law_book (P := P) (w := w) (base := base) T hx D__law_rules D__law_dip
  have D__law_cells := ok__law_cells (P := P) (w := w) (base := base) T hx 
  have D__law_places := ok__law_places (P := P) (w := w) (base := base) T hx 
  have D__law_deeds := ok__law_deeds (P := P) (w := w) (base := base) T hx D__law_places
  have D__law_pairs := ok__law_pairs (P := P) (w := w) (base := base) T hx 
  have D__law_turned := ok__law_turned (P := P) (w := w) (base := base) T hx 
  have D__law_done := ok__law_done (P := P) (w := w) (base := base) T hx D__law_pairs D__law_turned
  have D__law_name := ok__law_name (P := P) (w := w) (base := base) T hx 
  have D__law_names := ok__law_names (P := P) (w := w) (base := base) T hx D__law_dip D__law_name
  have D__law_mixed := ok__law_mixed (P := P) (w := w) (base := base) T hx D__law_dip
  have D__law_standing := ok__law_standing (P := P) (w := w) (base := base) T hx D__law_mixed D__law_names D__law_dip
  have D__law_many_names := ok__law_many_names (P := P) (w := w) (base := base) T hx D__law_dip
  have D_Yard___len__ := ok_Yard___len__ (P := P) (w := w) (base := base) T hx 
  have D_Yard_stands := ok_Yard_stands (P := P) (w := w) (base := base) T hx 
  have D_Yard_names := ok_Yard_names (P := P) (w := w) (base := base) T hx 
  have D_Yard_standing := ok_Yard_standing (P := P) (w := w) (base := base) T hx XC_NoName
  have D_Yard_log := ok_Yard_log (P := P) (w := w) (base := base) T hx XC_NoName
  have D__law_all_right := ok__law_all_right (P := P) (w := w) (base := base) T hx D_Yard_names D_Yard___len__ D_Yard_stands D_Yard_standing D_Yard_log
  have D_Yard_worked := ok_Yard_worked (P := P) (w := w) (base := base) T hx D_done
  have D_Yard_undo := ok_Yard_undo (P := P) (w := w) (base := base) T hx D_Yard_log D_Yard_worked
  have D__law_none_there := ok__law_none_there (P := P) (w := w) (base := base) T hx D_Yard_undo
  have D_Yard_put := ok_Yard_put (P := P) (w := w) (base := base) T hx 
  have D_Yard_need_room := ok_Yard_need_room (P := P) (w := w) (base := base) T hx 
  have D_Yard_do := ok_Yard_do (P := P) (w := w) (base := base) T hx D_Yard_log D_need_deeds D_Yard_need_room D_Yard_worked
  exact lawG_of (okL_law (P := P) (w := w) (base := base) T F hx MK_Yard D__law_pot D__law_board D__law_book D__law_deeds D__law_many_names D__law_dip D__law_standing D__law_cells D_Yard_put D__law_done D_Yard_do D__law_none_there D_Yard_undo D__law_all_right) (pure_ (He.ga K))
end G
open PySem PySem.W PySem.Calls PyProof.Rows
set_option maxHeartbeats 0 in
theorem PySem.Challenge.cw_stridelots_k59_yards_of_many_names_holds : PySem.Challenge.rw_stridelots_k59_yards_of_many_names.Holds := by
  w_on; o_law
  refine HandSHeadRun.head_any (r := OpenLaw.row PySem.Challenge.rw_stridelots_k59_yards_of_many_names) (q := view (OpenLaw.row PySem.Challenge.rw_stridelots_k59_yards_of_many_names).prog [40]) (H := G.hk) (ob := G.ob) (M := 4000) (loose := G.loose) (d := HandSHeadRun.topDef (OpenLaw.row PySem.Challenge.rw_stridelots_k59_yards_of_many_names).prog 40) (kwd := []) G.ob_eq
    (by kernel_rfl) (fun s => by kernel_rfl) G.run (by kernel_rfl) (by kernel_rfl) (by kernel_rfl) (by rfl) (by first | assumption | decide +kernel) (by decide +kernel) ⟨rfl, rfl, rfl, rfl, rfl, by decide +kernel⟩ ?hw ?hc
  case hw => w_witness2
  case hc =>
    refine DL.walk_go (l := PySem.Challenge.rw_stridelots_k59_yards_of_many_names) (n := 63) (k := 9) (x := "script") rfl (by decide) (by kernel_rfl) ⟨rfl, by decide, by decide⟩ ?F
    intro w mg fa h Y Gns hmg0
    obtain ⟨K, KX, c⟩ := Y
    have hmg : mg ("law" : PySem.Str) = some (.ref fa) := by
      have e : (HandSHeadRun.topDef (OpenLaw.row PySem.Challenge.rw_stridelots_k59_yards_of_many_names).prog 40).name = ("law" : PySem.Str) := by kernel_rfl
      rw [← e]
      exact hmg0
    obtain ⟨fd, hb, hF⟩ := G.facts (P := (PySem.Challenge.rw_stridelots_k59_yards_of_many_names).prog) (w := w) KX Gns hmg c.1 (fun i _ e => DL.all_at c.2 i e) G.law_pure
    exact ⟨K, fd, DL.spLaw K, KX, hb, fun H a ns hl _ hS => ⟨a, ns, rfl, hS, hl, fun _ => rfl⟩, hF⟩

